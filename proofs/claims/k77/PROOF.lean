import PyProof.Rows.All
import Wide.All
import OpenK.AllK
import Wide.FinOn
import HandS.ForMost
import HandS.Exc
import HandS.WordsExc
import HandS.Defaults
import HandS.CallSlots
import HandS.Lambda
import HandS.More
import HandS.WrittenGet
import HandS.ExcOwn
import HandS.ExcInit
import PyProof.StrBlock2
import HandS.Zip
import HandS.SortInts
import HandS.RaiseMore
import Wide.Txt2
import HandS.Conv
import HandS.ExcField
import HandS.ForDict
import KE.GoesMore
import HandS.Small
import HandS.TryOnly
import HandS.Finally
import HandS.IsInst
import HandS.FStr
import HandS.HotCalls
import HandS.DictComp
import KE.KOpsOwn
import PyProof.InstNe
import HandS.OwnEq
import PyProof.EqKinds
import HandS.EndTab
import HandS.EndBits
import HandS.HeadHook4
import HandS.Head0
import HandS.Head1
import HandS.Head2
import HandS.HeadEnd
import HandS.Words
import PySem.Challenge.RW_threadmark_k77_strings_as_values
import Wide.Once
section
set_option Elab.async false
set_option linter.all false
set_option maxRecDepth 100000
set_option maxHeartbeats 1000000
/-! FW1: the data of the interpreter, how they stand in the abstract heap, the state. -/
namespace TM
open PySem PySem.Spec PyProof.Rows L2

/-- what a written dict or tuple holds, a dict's values -/
inductive Wv where
  | int (i : Int) | str (x : Str) | nums (is : List Int)
  deriving Inhabited
/-- an object of the program's written part that never changes: a tuple of numbers, a dict by texts, a dict by pairs of numbers -/
inductive Wd where
  | nums (is : List Int) | kd (l : List (Str × Wv)) | kt (l : List ((Int × Int) × Wv))
  deriving Inhabited
/-- a value of the interpreter: a tree; ref: a mutable object of the store; sl: the mutable object that a slot owns; nw: an object just made, that nobody holds -/
inductive D where
  | wd (x : Wd) | non | bl (b : Bool) | int (i : Int) | str (x : Str)
  | lst (xs : List D) | tup (xs : List D) | scr (is : List Int)
  | dct (kvs : List (Key × D)) | dctT (kvs : List (List Key × D))
  | ins (c : Str) (fs : List (Str × D))
  | ref (n : Nat) | fn (x : Str) | cls (x : Str) | ty (x : String)
  | sl (i : Nat) | nw (d : D)
  deriving Inhabited

inductive Sl where
  | no | v (d : D) | own (d : D)
  deriving Inhabited
abbrev Rho := List Sl
/-- a mutable object, and whether a loop walks it (a dict) -/
structure Cell where
  d : D
  lk : Bool := false
  deriving Inhabited
abbrev Sto := List Cell

inductive Rs (α : Type) where
  | ok (a : α) (ρ : Rho) (S : Sto)
  | ex (c : Str) (fs : List (Str × D)) (ρ : Rho) (S : Sto)
  | bad
abbrev Mo (α : Type) := Rho → Sto → Rs α
def Mo.pure {α : Type} (a : α) : Mo α := fun ρ S => .ok a ρ S
def Mo.bind {α β : Type} (x : Mo α) (f : α → Mo β) : Mo β := fun ρ S => match x ρ S with
  | .ok a ρ' S' => f a ρ' S'
  | .ex c fs ρ' S' => .ex c fs ρ' S'
  | .bad => .bad
instance : Monad Mo where
  pure := Mo.pure
  bind := Mo.bind
def fail {α : Type} : Mo α := fun _ _ => .bad
def ofO {α : Type} : Option α → Mo α
  | some a => pure a
  | none => fail
theorem pure_def {α : Type} (a : α) (ρ : Rho) (S : Sto) : (pure a : Mo α) ρ S = .ok a ρ S := rfl
theorem bind_def {α β : Type} (x : Mo α) (f : α → Mo β) (ρ : Rho) (S : Sto) : (x >>= f) ρ S = (match x ρ S with
  | .ok a ρ' S' => f a ρ' S'
  | .ex c fs ρ' S' => .ex c fs ρ' S'
  | .bad => .bad) := rfl

def WvOk (wd : Addr → Wd → Prop) : Wv → V → Prop
  | .int i, v => v = .int i
  | .str x, v => v = .str x
  | .nums is, v => ∃ b, v = .ref b ∧ wd b (.nums is)
/-- what stands at a -/
def WdOk (K : PySem.W.Frag) (w : World) (wd : Addr → Wd → Prop) (a : Addr) : Wd → Prop
  | .nums is => ∀ H, SqT K H a (is.map V.int)
  | .kd l => ∀ z, match l.lookup z with
    | some x => ∃ v, KDct K w a z v ∧ (a == sysModules) = false ∧ WvOk wd x v
    | none => KMiss K w a z
  | .kt l => ∃ xs, (∀ prog h, K.In h → h.DictOfH (tupleKind (mixKind prog w)) a xs) ∧ ∀ i j x, l.lookup (i, j) = some x → ∃ p v, atKey xs [.inl i, .inl j] = some p ∧ RelV v p.2 ∧ WvOk wd x v
/-- what the program's names stand for -/
structure Tab where
  K : PySem.W.Frag
  w : World
  fn : Str → Option Addr
  cls : Str → Option Addr
  /-- the script: where it stands, its numbers -/
  scr : Addr → List Int → Prop := fun _ _ => False
  /-- the code tables of the defs that make lambdas -/
  tabs : List (Addr × Str) := []
  /-- written objects -/
  wd : Addr → Wd → Prop := fun _ _ => False
  wo : ∀ a x, wd a x → WdOk K w wd a x := by exact fun _ _ h => h.elim

mutual
/-- v stands for the tree d, by the heap's part G that never changes any more; θ: where the store's objects stand -/
inductive Rep (T : Tab) (G : Hp) (θ : List Addr) : V → D → Prop
  | non : Rep T G θ .non .non
  | bl (b : Bool) : Rep T G θ (.bl b) (.bl b)
  | int (i : Int) : Rep T G θ (.int i) (.int i)
  | str (x : Str) : Rep T G θ (.str x) (.str x)
  | lst {a : Addr} {xs : List V} {ds : List D} : G a = some (.lst xs) → RepL T G θ xs ds → Rep T G θ (.ref a) (.lst ds)
  | tup {a : Addr} {xs : List V} {ds : List D} : G a = some (.tup xs) → RepL T G θ xs ds → Rep T G θ (.ref a) (.tup ds)
  | dct {a : Addr} {kvs : List (Key × V)} {kds : List (Key × D)} : G a = some (.dK kvs) → kvs.map (·.1) = kds.map (·.1) → RepL T G θ (kvs.map (·.2)) (kds.map (·.2)) → Rep T G θ (.ref a) (.dct kds)
  | dctT {a : Addr} {kvs : List (List Key × V)} {kds : List (List Key × D)} : G a = some (.dT kvs) → kvs.map (·.1) = kds.map (·.1) → RepL T G θ (kvs.map (·.2)) (kds.map (·.2)) → Rep T G θ (.ref a) (.dctT kds)
  | ins {a A dx : Addr} {c : Str} {fs : List (Str × V)} {fds : List (Str × D)} : G a = some (.ins A dx fs) → T.cls c = some A → fs.map (·.1) = fds.map (·.1) → RepL T G θ (fs.map (·.2)) (fds.map (·.2)) → Rep T G θ (.ref a) (.ins c fds)
  | ref {a : Addr} {n : Nat} : θ[n]? = some a → Rep T G θ (.ref a) (.ref n)
  | fn {a : Addr} {x : Str} : T.fn x = some a → Rep T G θ (.ref a) (.fn x)
  | cls {a : Addr} {x : Str} : T.cls x = some a → Rep T G θ (.ref a) (.cls x)
  | ty (x : String) : Rep T G θ (.ty x) (.ty x)
  | scr {a : Addr} {is : List Int} : T.scr a is → Rep T G θ (.ref a) (.scr is)
  | wd {a : Addr} {x : Wd} : T.wd a x → Rep T G θ (.ref a) (.wd x)
inductive RepL (T : Tab) (G : Hp) (θ : List Addr) : List V → List D → Prop
  | nil : RepL T G θ [] []
  | cons {v : V} {vs : List V} {d : D} {ds : List D} : Rep T G θ v d → RepL T G θ vs ds → RepL T G θ (v :: vs) (d :: ds)
end

/-- more objects are settled -/
def Le (G G' : Hp) : Prop := ∀ a u, G a = some u → G' a = some u
theorem Le.refl (G : Hp) : Le G G := fun _ _ h => h
theorem Le.trans {G G1 G2 : Hp} (a : Le G G1) (b : Le G1 G2) : Le G G2 := fun c u h => b c u (a c u h)
theorem Le.upd {G : Hp} {a : Addr} {o : HO} (h : G a = none) : Le G (upd G a o) := fun b u e => by
  rw [upd_ne (ne_of_none e h)]; exact e
/-- the store grows -/
def Lt (θ θ' : List Addr) : Prop := ∀ (n : Nat) (a : Addr), θ[n]? = some a → θ'[n]? = some a
theorem Lt.refl (θ : List Addr) : Lt θ θ := fun _ _ h => h
theorem Lt.trans {θ θ1 θ2 : List Addr} (a : Lt θ θ1) (b : Lt θ1 θ2) : Lt θ θ2 := fun n c h => b n c (a n c h)
theorem Lt.snoc (θ : List Addr) (a : Addr) : Lt θ (θ ++ [a]) := fun n c h => by
  have := (List.getElem?_eq_some_iff.mp h).1
  rw [List.getElem?_append_left this]; exact h
theorem Lt.mem {θ θ' : List Addr} (l : Lt θ θ') {a : Addr} (h : a ∈ θ) : a ∈ θ' := by
  obtain ⟨n, hn⟩ := List.mem_iff_getElem?.mp h
  exact List.mem_of_getElem? (l n a hn)

section
variable {T : Tab} {G G' : Hp} {θ θ' : List Addr}
theorem Rep.mono (l : Le G G') (t : Lt θ θ') {v : V} {d : D} (h : Rep T G θ v d) : Rep T G' θ' v d := by
  refine Rep.rec (motive_1 := fun v d _ => Rep T G' θ' v d) (motive_2 := fun vs ds _ => RepL T G' θ' vs ds) ?_ ?_ ?_ ?_ ?_ ?_ ?_ ?_ ?_ ?_ ?_ ?_ ?_ ?_ ?_ ?_ ?_ h
  · exact .non
  · exact fun b => .bl b
  · exact fun i => .int i
  · exact fun x => .str x
  · exact fun h _ r => .lst (l _ _ h) r
  · exact fun h _ r => .tup (l _ _ h) r
  · exact fun h e _ r => .dct (l _ _ h) e r
  · exact fun h e _ r => .dctT (l _ _ h) e r
  · exact fun h c e _ r => .ins (l _ _ h) c e r
  · exact fun h => .ref (t _ _ h)
  · exact fun h => .fn h
  · exact fun h => .cls h
  · exact fun x => .ty x
  · exact fun h => .scr h
  · exact fun h => .wd h
  · exact .nil
  · exact fun _ _ a b => .cons a b
theorem RepL.mono (l : Le G G') (t : Lt θ θ') : ∀ {vs : List V} {ds : List D}, RepL T G θ vs ds → RepL T G' θ' vs ds
  | _, _, .nil => .nil
  | _, _, .cons a b => .cons (a.mono l t) (b.mono l t)
theorem RepL.length : ∀ {vs : List V} {ds : List D}, RepL T G θ vs ds → vs.length = ds.length
  | _, _, .nil => rfl
  | _, _, .cons _ b => congrArg Nat.succ b.length
theorem RepL.get : ∀ {vs : List V} {ds : List D} {i : Nat} {d : D}, RepL T G θ vs ds → ds[i]? = some d → ∃ v, vs[i]? = some v ∧ Rep T G θ v d
  | _, _, _, _, .nil, e => by simp at e
  | _, _, 0, _, .cons a _, e => by simp at e; subst e; exact ⟨_, rfl, a⟩
  | _, _, i + 1, d, .cons _ b, e => by
    obtain ⟨v, h1, h2⟩ := b.get (i := i) (d := d) (by simpa using e)
    exact ⟨v, by simpa using h1, h2⟩
theorem RepL.getV : ∀ {vs : List V} {ds : List D} {i : Nat} {v : V}, RepL T G θ vs ds → vs[i]? = some v → ∃ d, ds[i]? = some d ∧ Rep T G θ v d
  | _, _, _, _, .nil, e => by simp at e
  | _, _, 0, _, .cons a _, e => by simp at e; subst e; exact ⟨_, rfl, a⟩
  | _, _, i + 1, d, .cons _ b, e => by
    obtain ⟨v, h1, h2⟩ := b.getV (i := i) (v := d) (by simpa using e)
    exact ⟨v, by simpa using h1, h2⟩
theorem RepL.append : ∀ {vs ws : List V} {ds es : List D}, RepL T G θ vs ds → RepL T G θ ws es → RepL T G θ (vs ++ ws) (ds ++ es)
  | _, _, _, _, .nil, s => s
  | _, _, _, _, .cons a b, s => .cons a (b.append s)
theorem RepL.take : ∀ {vs : List V} {ds : List D} (n : Nat), RepL T G θ vs ds → RepL T G θ (vs.take n) (ds.take n)
  | _, _, 0, _ => .nil
  | _, _, _ + 1, .nil => .nil
  | _, _, n + 1, .cons a b => .cons a (b.take n)
theorem RepL.drop : ∀ {vs : List V} {ds : List D} (n : Nat), RepL T G θ vs ds → RepL T G θ (vs.drop n) (ds.drop n)
  | _, _, 0, r => r
  | _, _, _ + 1, .nil => .nil
  | _, _, n + 1, .cons _ b => b.drop n
theorem RepL.set : ∀ {vs : List V} {ds : List D} {v : V} {d : D} (n : Nat), Rep T G θ v d → RepL T G θ vs ds → RepL T G θ (vs.set n v) (ds.set n d)
  | _, _, _, _, _, _, .nil => .nil
  | _, _, _, _, 0, r, .cons _ b => .cons r b
  | _, _, _, _, n + 1, r, .cons a b => .cons a (b.set n r)
theorem RepL.reverse : ∀ {vs : List V} {ds : List D}, RepL T G θ vs ds → RepL T G θ vs.reverse ds.reverse
  | _, _, .nil => .nil
  | _, _, .cons a b => by
    rw [List.reverse_cons, List.reverse_cons]
    exact b.reverse.append (.cons a .nil)
theorem RepL.snoc {vs : List V} {ds : List D} {v : V} {d : D} (r : RepL T G θ vs ds) (a : Rep T G θ v d) : RepL T G θ (vs ++ [v]) (ds ++ [d]) := r.append (.cons a .nil)
end

/-- what a loop may lock -/
def Lk : HO → Prop
  | .dK _ => True
  | .dT _ => True
  | _ => False
def Rl (H : Hp) (a : Addr) (u : HO) : Prop := H a = some u ∨ (Lk u ∧ ∃ o, H a = some (.frz o u))
theorem Rl.rd {H : Hp} {a : Addr} {u : HO} (h : Rl H a u) : Rd H a u := h.imp id fun ⟨_, o, e⟩ => ⟨o, e⟩
theorem Rl.plain {H : Hp} {a : Addr} {u : HO} (h : Rl H a u) (n : ¬ Lk u) : H a = some u := h.elim id fun z => absurd z.1 n
/-- the settled part is to be read in the heap -/
def Sub (G H : Hp) : Prop := ∀ a u, G a = some u → Rl H a u
theorem Sub.free {G H : Hp} (s : Sub G H) {a : Addr} (h : H a = none) : G a = none := by
  cases e : G a with
  | none => rfl
  | some u =>
    rcases s a u e with z | ⟨_, o, z⟩ <;> (rw [h] at z; cases z)
theorem Sub.new {G H : Hp} (s : Sub G H) {a : Addr} {o : HO} (h : H a = none) : Sub (upd G a o) (upd H a o) := fun b u e => by
  by_cases hb : b = a
  · subst hb; rw [upd_same] at e; cases e; exact .inl upd_same
  · rw [upd_ne hb] at e
    rcases s b u e with z | ⟨lk, o', z⟩
    · exact .inl (by rw [upd_ne hb]; exact z)
    · exact .inr ⟨lk, o', by rw [upd_ne hb]; exact z⟩
/-- an object out of the settled part is written -/
theorem Sub.write {G H : Hp} (s : Sub G H) {a : Addr} {o : HO} (h : G a = none) : Sub G (upd H a o) := fun b u e => by
  have hb : b ≠ a := ne_of_none e h
  rcases s b u e with z | ⟨lk, o', z⟩
  · exact .inl (by rw [upd_ne hb]; exact z)
  · exact .inr ⟨lk, o', by rw [upd_ne hb]; exact z⟩
/-- an owned object is settled -/
theorem Sub.settle {G H : Hp} (s : Sub G H) {a : Addr} {o : HO} (h : H a = some o) : Sub (upd G a o) H := fun b u e => by
  by_cases hb : b = a
  · subst hb; rw [upd_same] at e; cases e; exact .inl h
  · rw [upd_ne hb] at e; exact s b u e
/-- a mutable object's record, by its tree -/
inductive Ob (T : Tab) (G : Hp) (θ : List Addr) : HO → D → Prop
  | lst {xs : List V} {ds : List D} : RepL T G θ xs ds → Ob T G θ (.lst xs) (.lst ds)
  | dct {kvs : List (Key × V)} {kds : List (Key × D)} : kvs.map (·.1) = kds.map (·.1) → RepL T G θ (kvs.map (·.2)) (kds.map (·.2)) → Ob T G θ (.dK kvs) (.dct kds)
  | dctT {kvs : List (List Key × V)} {kds : List (List Key × D)} : kvs.map (·.1) = kds.map (·.1) → RepL T G θ (kvs.map (·.2)) (kds.map (·.2)) → Ob T G θ (.dT kvs) (.dctT kds)
  | ins {A dx : Addr} {c : Str} {fs : List (Str × V)} {fds : List (Str × D)} : T.cls c = some A → fs.map (·.1) = fds.map (·.1) → RepL T G θ (fs.map (·.2)) (fds.map (·.2)) → Ob T G θ (.ins A dx fs) (.ins c fds)
theorem Ob.mono {T : Tab} {G G' : Hp} {θ θ' : List Addr} (l : Le G G') (t : Lt θ θ') {o : HO} {d : D} (h : Ob T G θ o d) : Ob T G' θ' o d := by
  cases h with
  | lst r => exact .lst (r.mono l t)
  | dct e r => exact .dct e (r.mono l t)
  | dctT e r => exact .dctT e (r.mono l t)
  | ins c e r => exact .ins c e (r.mono l t)
theorem Ob.rep {T : Tab} {G : Hp} {θ : List Addr} {a : Addr} {o : HO} {d : D} (h : Ob T G θ o d) (e : G a = some o) : Rep T G θ (.ref a) d := by
  cases h with
  | lst r => exact .lst e r
  | dct k r => exact .dct e k r
  | dctT k r => exact .dctT e k r
  | ins c k r => exact .ins e c k r

/-- the entry of the code that runs: the heap there, where the store's objects stood -/
structure Base where
  H : Hp
  θ : List Addr
  /-- objects in the hand of the code around: nobody settles them -/
  pr : Addr → Prop := fun _ => False
  /-- the instance that this code (an __init__) makes: its first slot -/
  me : Option Addr := none

/-- no table, no code object -/
def NT : HO → Prop
  | .tbl _ => False
  | .ext _ => False
  | _ => True
theorem Ob.nt {T : Tab} {G : Hp} {θ : List Addr} {o : HO} {d : D} (h : Ob T G θ o d) : NT o := by cases h <;> exact True.intro
/-- what stood stands: a table may grow -/
def Stay (o : HO) (x : Option HO) : Prop := x = some o ∨ ∃ ps ps', o = .tbl ps ∧ x = some (.tbl ps')
theorem Stay.nt {o : HO} {x : Option HO} (h : Stay o x) (n : NT o) : x = some o := by
  rcases h with h | ⟨ps, ps', rfl, _⟩
  · exact h
  · exact n.elim
theorem Stay.some {o : HO} {x : Option HO} (h : Stay o x) : x ≠ none := by
  rcases h with h | ⟨ps, ps', _, h⟩ <;> (rw [h]; exact fun z => nomatch z)
theorem Stay.keep {H : Hp} {o : HO} {a : Addr} {x : Option HO} (h : Stay o (H a)) (k : ∀ u, H a = Option.some u → x = Option.some u) : Stay o x := by
  rcases h with h | ⟨ps, ps', e, h⟩
  · exact .inl (k _ h)
  · exact .inr ⟨ps, ps', e, k _ h⟩
/-- further clauses of the state: what the settled part holds, the code tables, the instance that is made -/
structure SimX (T : Tab) (B : Base) (G : Hp) (σ : L2.St) (H : Hp) (ρ : Rho) : Prop where
  gt : ∀ a o, G a = some o → NT o
  tabs : LamX.Tabs T.tabs H
  me : ∀ a, B.me = some a → ∀ d, ρ[0]? = some (.own d) → σ[0]? = some (some (.ref a))
theorem tabs_upd {H : Hp} {a : Addr} {o : HO} {l : List (Addr × Str)} (t : LamX.Tabs l H) (h : ∀ u, H a = some u → NT u) : LamX.Tabs l (upd H a o) := fun p hp => by
  obtain ⟨ps, e1, e2, e3⟩ := t p hp
  refine ⟨ps, by rw [upd_ne (fun z => (h (.tbl ps) (by rw [← z]; exact e1)).elim)]; exact e1, e2, fun pos cv hc => ?_⟩
  obtain ⟨c, h1, h2⟩ := e3 pos cv hc
  exact ⟨c, h1, by rw [upd_ne (fun z => (show False from h (LamX.CodeO c p.2) (by rw [← z]; exact h2)))]; exact h2⟩
section
variable {T : Tab} {B : Base} {G : Hp} {σ : L2.St} {H : Hp} {ρ : Rho}
theorem SimX.write (x : SimX T B G σ H ρ) {a : Addr} {o : HO} (h : ∀ u, H a = some u → NT u) : SimX T B G σ (upd H a o) ρ := ⟨x.gt, tabs_upd x.tabs h, x.me⟩
theorem SimX.lay (x : SimX T B G σ H ρ) {a : Addr} {o : HO} (h : H a = none) : SimX T B G σ (upd H a o) ρ := x.write fun u e => by rw [h] at e; cases e
theorem SimX.grow (x : SimX T B G σ H ρ) {a : Addr} {o : HO} (h : NT o) : SimX T B (upd G a o) σ H ρ := ⟨fun b u e => by
  by_cases hb : b = a
  · subst hb; rw [upd_same] at e; cases e; exact h
  · rw [upd_ne hb] at e; exact x.gt b u e, x.tabs, x.me⟩
end

/-- the script is to be read -/
def ScrOk (T : Tab) (H : Hp) (θ : List Addr) : Prop := ∀ a is, T.scr a is → (Rd H a (.lst (is.map V.int)) ∧ a ∉ θ) ∨ ∀ H', SqL T.K H' a (is.map V.int)
/-- the state: slots, heap; environment, store -/
structure Sim (T : Tab) (B : Base) (G : Hp) (θ : List Addr) (σ : L2.St) (H : Hp) (ρ : Rho) (S : Sto) : Prop where
  scr : ScrOk T B.H B.θ
  sub : Sub G H
  frame : ∀ a o, B.H a = some o → a ∉ B.θ → Stay o (H a)
  le : Lt B.θ θ
  nd : θ.Nodup
  len : S.length = θ.length
  sto : ∀ (n : Nat) (a : Addr) (c : Cell), θ[n]? = some a → S[n]? = some c → G a = none ∧ ∃ o, Ob T G θ o c.d ∧ (if c.lk = true then Lk o ∧ ∃ ob, H a = some (.frz ob o) else H a = some o)
  fresh : ∀ a, a ∈ θ → a ∉ B.θ → B.H a = none
  slen : σ.length = ρ.length
  val : ∀ (i : Nat) (d : D), ρ[i]? = some (.v d) → ∃ v, σ[i]? = some (some v) ∧ Rep T G θ v d
  own : ∀ (i : Nat) (d : D), ρ[i]? = some (.own d) → ∃ a o, σ[i]? = some (some (.ref a)) ∧ H a = some o ∧ Ob T G θ o d ∧ G a = none ∧ a ∉ θ ∧ B.H a = none
  prot : ∀ a, B.pr a → G a = none ∧ (∃ o, B.H a = some o) ∧ a ∉ B.θ
  apart : ∀ (i j : Nat) (d e : D) (a : Addr), ρ[i]? = some (.own d) → ρ[j]? = some (.own e) → σ[i]? = some (some (.ref a)) → σ[j]? = some (some (.ref a)) → i = j
  x : SimX T B G σ H ρ

/-- what an operand stands for: a settled tree, or what a slot holds -/
inductive ORep (T : Tab) (G : Hp) (θ : List Addr) (σ : L2.St) : V → D → Prop
  | of {v : V} {d : D} : Rep T G θ v d → ORep T G θ σ v d
  | sl {i : Nat} {v : V} : σ[i]? = some (some v) → ORep T G θ σ v (.sl i)
/-- what an expression's value stands for: an operand, or an object just made -/
inductive TRep (T : Tab) (B : Base) (G : Hp) (θ : List Addr) (σ : L2.St) (H : Hp) (ρ : Rho) : V → D → Prop
  | of {v : V} {d : D} : ORep T G θ σ v d → TRep T B G θ σ H ρ v d
  | nw {a : Addr} {o : HO} {d : D} : H a = some o → Ob T G θ o d → G a = none → a ∉ θ → B.H a = none → (∀ (i : Nat) (e : D), ρ[i]? = some (.own e) → σ[i]? ≠ some (some (.ref a))) → TRep T B G θ σ H ρ (.ref a) (.nw d)
theorem ORep.mono {T : Tab} {G G' : Hp} {θ θ' : List Addr} {σ : L2.St} (l : Le G G') (t : Lt θ θ') {v : V} {d : D} (h : ORep T G θ σ v d) : ORep T G' θ' σ v d := by
  cases h with
  | of r => exact .of (r.mono l t)
  | sl e => exact .sl e

/-! ### the tree behind an operand -/
def derefS (S : Sto) : D → Option D
  | .ref n => (S[n]?).map (·.d)
  | d => some d
def deref (ρ : Rho) (S : Sto) : D → Option D
  | .sl i => match ρ[i]? with
    | some (.own o) => some o
    | some (.v d) => derefS S d
    | _ => none
  | d => derefS S d
/-- v is to be read as c now -/
inductive View (T : Tab) (G : Hp) (θ : List Addr) (H : Hp) : V → D → Prop
  | of {v : V} {c : D} : Rep T G θ v c → (∀ n, c ≠ .ref n) → View T G θ H v c
  | ob {a : Addr} {o : HO} {c : D} : Rl H a o → Ob T G θ o c → View T G θ H (.ref a) c
section
variable {T : Tab} {B : Base} {G G' : Hp} {θ θ' : List Addr} {σ : L2.St} {H H' : Hp} {ρ : Rho} {S : Sto} {v : V} {d c : D}
theorem Sim.viewS (s : Sim T B G θ σ H ρ S) (r : Rep T G θ v d) (e : derefS S d = some c) : View T G θ H v c := by
  cases r with
  | @ref a n h =>
    have e' : (S[n]?).map (·.d) = some c := e
    cases q : S[n]? with
    | none => rw [q] at e'; cases e'
    | some cl =>
      rw [q] at e'
      cases e'
      obtain ⟨_, o, ob, hh⟩ := s.sto n a cl h q
      refine .ob (o := o) ?_ ob
      split at hh
      · exact .inr hh
      · exact .inl hh
  | non => cases e; exact .of .non (fun _ z => nomatch z)
  | bl b => cases e; exact .of (.bl b) (fun _ z => nomatch z)
  | int b => cases e; exact .of (.int b) (fun _ z => nomatch z)
  | str b => cases e; exact .of (.str b) (fun _ z => nomatch z)
  | lst a b => cases e; exact .of (.lst a b) (fun _ z => nomatch z)
  | tup a b => cases e; exact .of (.tup a b) (fun _ z => nomatch z)
  | dct a b c => cases e; exact .of (.dct a b c) (fun _ z => nomatch z)
  | dctT a b c => cases e; exact .of (.dctT a b c) (fun _ z => nomatch z)
  | ins a b c d => cases e; exact .of (.ins a b c d) (fun _ z => nomatch z)
  | fn a => cases e; exact .of (.fn a) (fun _ z => nomatch z)
  | scr a => cases e; exact .of (.scr a) (fun _ z => nomatch z)
  | wd a => cases e; exact .of (.wd a) (fun _ z => nomatch z)
  | cls a => cases e; exact .of (.cls a) (fun _ z => nomatch z)
  | ty a => cases e; exact .of (.ty a) (fun _ z => nomatch z)
theorem Sim.view (s : Sim T B G θ σ H ρ S) (r : ORep T G θ σ v d) (e : deref ρ S d = some c) : View T G θ H v c := by
  cases r with
  | of r =>
    refine s.viewS r ?_
    cases r <;> exact e
  | @sl i v h =>
    unfold deref at e
    simp only at e
    split at e
    · rename_i o q
      cases e
      obtain ⟨a, o', h1, h2, h3, _⟩ := s.own i _ q
      rw [h] at h1
      cases h1
      exact .ob (.inl h2) h3
    · rename_i dd q
      obtain ⟨w, h1, h2⟩ := s.val i dd q
      rw [h] at h1
      cases h1
      exact s.viewS h2 e
    · cases e
theorem View.lst {ds : List D} (s : Sub G H) (h : View T G θ H v (.lst ds)) : ∃ a xs, v = .ref a ∧ Rl H a (.lst xs) ∧ RepL T G θ xs ds := by
  cases h with
  | of r _ =>
    cases r with
    | lst a r => exact ⟨_, _, rfl, s _ _ a, r⟩
  | ob e r =>
    cases r with
    | lst r => exact ⟨_, _, rfl, e, r⟩
theorem View.tup {ds : List D} (s : Sub G H) (h : View T G θ H v (.tup ds)) : ∃ a xs, v = .ref a ∧ H a = some (.tup xs) ∧ RepL T G θ xs ds := by
  cases h with
  | of r _ =>
    cases r with
    | tup a r => exact ⟨_, _, rfl, (s _ _ a).plain (fun z => z), r⟩
  | ob e r => cases r
theorem View.dct {kds : List (Key × D)} (s : Sub G H) (h : View T G θ H v (.dct kds)) : ∃ a kvs, v = .ref a ∧ Rl H a (.dK kvs) ∧ kvs.map (·.1) = kds.map (·.1) ∧ RepL T G θ (kvs.map (·.2)) (kds.map (·.2)) := by
  cases h with
  | of r _ =>
    cases r with
    | dct a k r => exact ⟨_, _, rfl, s _ _ a, k, r⟩
  | ob e r =>
    cases r with
    | dct k r => exact ⟨_, _, rfl, e, k, r⟩
theorem View.dctT {kds : List (List Key × D)} (s : Sub G H) (h : View T G θ H v (.dctT kds)) : ∃ a kvs, v = .ref a ∧ Rl H a (.dT kvs) ∧ kvs.map (·.1) = kds.map (·.1) ∧ RepL T G θ (kvs.map (·.2)) (kds.map (·.2)) := by
  cases h with
  | of r _ =>
    cases r with
    | dctT a k r => exact ⟨_, _, rfl, s _ _ a, k, r⟩
  | ob e r =>
    cases r with
    | dctT k r => exact ⟨_, _, rfl, e, k, r⟩
theorem View.ins {n : Str} {fds : List (Str × D)} (s : Sub G H) (h : View T G θ H v (.ins n fds)) : ∃ a A dx fs, v = .ref a ∧ H a = some (.ins A dx fs) ∧ T.cls n = some A ∧ fs.map (·.1) = fds.map (·.1) ∧ RepL T G θ (fs.map (·.2)) (fds.map (·.2)) := by
  cases h with
  | of r _ =>
    cases r with
    | ins a c k r => exact ⟨_, _, _, _, rfl, (s _ _ a).plain (fun z => z), c, k, r⟩
  | ob e r =>
    cases r with
    | ins c k r => exact ⟨_, _, _, _, rfl, e.plain (fun z => z), c, k, r⟩
theorem View.int {i : Int} (h : View T G θ H v (.int i)) : v = .int i := by
  cases h with
  | of r _ => cases r; rfl
  | ob e r => cases r
theorem View.str {x : Str} (h : View T G θ H v (.str x)) : v = .str x := by
  cases h with
  | of r _ => cases r; rfl
  | ob e r => cases r
theorem View.bl {b : Bool} (h : View T G θ H v (.bl b)) : v = .bl b := by
  cases h with
  | of r _ => cases r; rfl
  | ob e r => cases r
theorem View.non (h : View T G θ H v .non) : v = .non := by
  cases h with
  | of r _ => cases r; rfl
  | ob e r => cases r
theorem View.ty {x : String} (h : View T G θ H v (.ty x)) : v = .ty x := by
  cases h with
  | of r _ => cases r; rfl
  | ob e r => cases r
theorem View.mono (l : Le G G') (t : Lt θ θ') (k : ∀ a o, Rl H a o → Rl H' a o) (h : View T G θ H v c) : View T G' θ' H' v c := by
  cases h with
  | of r n => exact .of (r.mono l t) n
  | ob e r => exact .ob (k _ _ e) (r.mono l t)
end

/-! ### moves of the state -/
section
variable {T : Tab} {B : Base} {G : Hp} {θ : List Addr} {σ : L2.St} {H : Hp} {ρ : Rho} {S : Sto}
theorem Sim.newFree (s : Sim T B G θ σ H ρ S) {p : Addr} (hp : H p = none) : G p = none ∧ p ∉ θ ∧ B.H p = none ∧ ∀ (i : Nat) (e : D), ρ[i]? = some (.own e) → σ[i]? ≠ some (some (.ref p)) := by
  have hθ : p ∉ θ := fun hm => by
    obtain ⟨n, hn⟩ := List.mem_iff_getElem?.mp hm
    have hl := (List.getElem?_eq_some_iff.mp hn).1
    rw [← s.len] at hl
    obtain ⟨_, o, _, hh⟩ := s.sto n p _ hn (List.getElem?_eq_getElem hl)
    split at hh
    · obtain ⟨_, ob, z⟩ := hh; rw [hp] at z; cases z
    · rw [hp] at hh; cases hh
  refine ⟨s.sub.free hp, hθ, ?_, fun i e h1 h2 => ?_⟩
  · cases q : B.H p with
    | none => rfl
    | some o =>
      by_cases hm : p ∈ B.θ
      · exact absurd (s.le.mem hm) hθ
      · exact absurd hp (s.frame p o q hm).some
  · obtain ⟨a, o, h3, h4, _⟩ := s.own i e h1
    rw [h2] at h3; cases h3
    rw [hp] at h4; cases h4
/-- the settled part grows by what nobody owns -/
theorem Sim.grow (s : Sim T B G θ σ H ρ S) {p : Addr} {o : HO} (nt : NT o) (hp : H p = some o) (hG : G p = none) (hθ : p ∉ θ) (hB : B.H p = none) (ho : ∀ (i : Nat) (e : D), ρ[i]? = some (.own e) → σ[i]? ≠ some (some (.ref p))) : Sim T B (upd G p o) θ σ H ρ S := by
  have l : Le G (upd G p o) := Le.upd hG
  refine ⟨s.scr, s.sub.settle hp, s.frame, s.le, s.nd, s.len, fun n a c h1 h2 => ?_, s.fresh, s.slen, fun i d h => ?_, fun i d h => ?_, fun a ha => ?_, s.apart, s.x.grow nt⟩
  · obtain ⟨g, o', ob, hh⟩ := s.sto n a c h1 h2
    refine ⟨?_, o', ob.mono l (Lt.refl _), hh⟩
    rw [upd_ne (show a ≠ p from fun e => hθ (by rw [← e]; exact List.mem_of_getElem? h1))]; exact g
  · obtain ⟨v, h1, h2⟩ := s.val i d h
    exact ⟨v, h1, h2.mono l (Lt.refl _)⟩
  · obtain ⟨a, o', h1, h2, h3, h4, h5, h6⟩ := s.own i d h
    refine ⟨a, o', h1, h2, h3.mono l (Lt.refl _), ?_, h5, h6⟩
    have ne : a ≠ p := fun e => ho i d h (by rw [h1, e])
    rw [upd_ne ne]; exact h4
  · obtain ⟨g, ⟨o', b⟩, t⟩ := s.prot a ha
    refine ⟨?_, ⟨o', b⟩, t⟩
    rw [upd_ne (show a ≠ p from fun e => by rw [e, hB] at b; cases b)]; exact g
/-- a new object is laid, nobody's -/
theorem Sim.laid (s : Sim T B G θ σ H ρ S) {p : Addr} {o : HO} (hp : H p = none) : Sim T B G θ σ (upd H p o) ρ S := by
  obtain ⟨g, hθ, hB, ho⟩ := s.newFree hp
  have keep : ∀ b u, H b = some u → upd H p o b = some u := fun b u e => by rw [upd_ne (ne_of_none e hp)]; exact e
  refine ⟨s.scr, s.sub.write g, fun a u h1 h2 => (s.frame a u h1 h2).keep (keep a), s.le, s.nd, s.len, fun n a c h1 h2 => ?_, s.fresh, s.slen, s.val, fun i d h => ?_, s.prot, s.apart, s.x.lay hp⟩
  · obtain ⟨g', o', ob, hh⟩ := s.sto n a c h1 h2
    refine ⟨g', o', ob, ?_⟩
    split at hh
    · rename_i z; rw [if_pos z]; obtain ⟨lk, x, y⟩ := hh; exact ⟨lk, x, keep _ _ y⟩
    · rename_i z; rw [if_neg z]; exact keep _ _ hh
  · obtain ⟨a, o', h1, h2, r⟩ := s.own i d h
    exact ⟨a, o', h1, keep _ _ h2, r⟩
/-- .. and settled at once -/
theorem Sim.alloc (s : Sim T B G θ σ H ρ S) {p : Addr} {o : HO} (nt : NT o) (hp : H p = none) : Le G (upd G p o) ∧ Sim T B (upd G p o) θ σ (upd H p o) ρ S := by
  obtain ⟨g, hθ, hB, ho⟩ := s.newFree hp
  exact ⟨Le.upd g, (s.laid hp).grow nt upd_same g hθ hB ho⟩
/-- .. and in nobody's hand yet -/
theorem Sim.fresh_nw (s : Sim T B G θ σ H ρ S) {p : Addr} {o : HO} {d : D} (hp : H p = none) (ob : Ob T G θ o d) : Sim T B G θ σ (upd H p o) ρ S ∧ TRep T B G θ σ (upd H p o) ρ (.ref p) (.nw d) := by
  obtain ⟨g, hθ, hB, ho⟩ := s.newFree hp
  exact ⟨s.laid hp, .nw upd_same ob g hθ hB ho⟩
/-- a slot's own object is settled -/
theorem Sim.freeze (s : Sim T B G θ σ H ρ S) {i : Nat} {d : D} (h : ρ[i]? = some (.own d)) : ∃ a o, σ[i]? = some (some (.ref a)) ∧ Le G (upd G a o) ∧ Rep T (upd G a o) θ (.ref a) d ∧ Sim T B (upd G a o) θ σ H (ρ.set i (.v d)) S := by
  obtain ⟨a, o, h1, h2, h3, h4, h5, h6⟩ := s.own i d h
  have l : Le G (upd G a o) := Le.upd h4
  have rp : Rep T (upd G a o) θ (.ref a) d := (h3.mono l (Lt.refl _)).rep upd_same
  have hi : i < ρ.length := (List.getElem?_eq_some_iff.mp h).1
  refine ⟨a, o, h1, l, rp, s.scr, s.sub.settle h2, s.frame, s.le, s.nd, s.len, fun n b c e1 e2 => ?_, s.fresh, by simpa using s.slen, fun j e hj => ?_, fun j e hj => ?_, fun b hb => ?_, fun j k e f b e1 e2 => ?_, ⟨(s.x.grow (a := a) h3.nt).gt, s.x.tabs, fun m hm e he => ?_⟩⟩
  · obtain ⟨g, o', ob, hh⟩ := s.sto n b c e1 e2
    refine ⟨?_, o', ob.mono l (Lt.refl _), hh⟩
    rw [upd_ne (show b ≠ a from fun e => h5 (by rw [← e]; exact List.mem_of_getElem? e1))]; exact g
  · by_cases hji : j = i
    · subst hji
      rw [List.getElem?_set_self hi] at hj
      cases hj
      exact ⟨_, h1, rp⟩
    · rw [List.getElem?_set_ne (Ne.symm hji)] at hj
      obtain ⟨v, e1, e2⟩ := s.val j e hj
      exact ⟨v, e1, e2.mono l (Lt.refl _)⟩
  · by_cases hji : j = i
    · subst hji
      rw [List.getElem?_set_self hi] at hj
      cases hj
    · rw [List.getElem?_set_ne (Ne.symm hji)] at hj
      obtain ⟨b, o', e1, e2, e3, e4, e5, e6⟩ := s.own j e hj
      refine ⟨b, o', e1, e2, e3.mono l (Lt.refl _), ?_, e5, e6⟩
      have ne : b ≠ a := fun z => hji (s.apart j i e d a hj h (by rw [e1, z]) h1)
      rw [upd_ne ne]; exact e4
  · obtain ⟨g, ⟨o', q⟩, t⟩ := s.prot b hb
    refine ⟨?_, ⟨o', q⟩, t⟩
    rw [upd_ne (show b ≠ a from fun e => by rw [e, h6] at q; cases q)]; exact g
  · have o1 : ∀ {j : Nat} {e : D}, (ρ.set i (.v d))[j]? = some (.own e) → ρ[j]? = some (.own e) := fun {j e} hj => by
      by_cases hji : j = i
      · subst hji
        rw [List.getElem?_set_self hi] at hj
        cases hj
      · rwa [List.getElem?_set_ne (Ne.symm hji)] at hj
    exact s.apart j k e f b (o1 e1) (o1 e2)
  · refine s.x.me m hm e ?_
    by_cases hi0 : (0 : Nat) = i
    · rw [hi0, List.getElem?_set_self hi] at he
      cases he
    · rwa [List.getElem?_set_ne (Ne.symm hi0)] at he
end
end TM
end
section
set_option Elab.async false
set_option linter.all false
set_option maxRecDepth 100000
set_option maxHeartbeats 1000000
/-! FW2: what a run of the interpreter says, readings by it, stores to slots. -/
namespace TM
open PySem PySem.Spec PyProof.Rows L2

/-- an exception of the program's own, by its class's name and its fields -/
def XRep (T : Tab) (G : Hp) (θ : List Addr) (H : Hp) (c : Str) (fs : List (Str × D)) (cls : Value) (dx : Option Addr) : Prop :=
  ∃ C d vfs, cls = .ref C ∧ T.cls c = some C ∧ dx = some d ∧ H d = some (.xd vfs) ∧ vfs.map (·.1) = fs.map (·.1) ∧ RepL T G θ (vfs.map (·.2)) (fs.map (·.2))

section
variable (T : Tab) (B : Base) (W : L2.WX)
def Run {α : Type} (m : Mo α) (G : Hp) (θ : List Addr) (σ : L2.St) (ρ : Rho) (S : Sto) (P : α → Hp → List Addr → Hp → Rho → Sto → Prop) : Prop :=
  match m ρ S with
  | .ok a ρ' S' => ∀ G' θ' H', Le G G' → Lt θ θ' → Sim T B G' θ' σ H' ρ' S' → P a G' θ' H' ρ' S'
  | .ex c fs ρ' S' => ∀ G' θ' H' cls dx, Le G G' → Lt θ θ' → Sim T B G' θ' σ H' ρ' S' → XRep T G' θ' H' c fs cls dx → W cls dx σ H'
  | .bad => False
end
section
variable {T : Tab} {B : Base} {W : L2.WX} {α β : Type} {m : Mo α} {f : α → Mo β} {G G' : Hp} {θ θ' : List Addr} {σ : L2.St} {H : Hp} {ρ : Rho} {S : Sto}
theorem Run.bind {P : β → Hp → List Addr → Hp → Rho → Sto → Prop} (h : Run T B W (m >>= f) G θ σ ρ S P) : Run T B W m G θ σ ρ S fun a G' θ' _ ρ' S' => Run T B W (f a) G' θ' σ ρ' S' P := by
  unfold Run at h ⊢
  rw [bind_def] at h
  cases e : m ρ S with
  | ok a ρ' S' =>
    rw [e] at h
    intro G' θ' H' l t s
    show Run T B W (f a) G' θ' σ ρ' S' P
    unfold Run
    simp only at h
    cases e2 : f a ρ' S' with
    | ok b ρ2 S2 =>
      rw [e2] at h
      exact fun G2 θ2 H2 l2 t2 s2 => h G2 θ2 H2 (l.trans l2) (t.trans t2) s2
    | ex c fs ρ2 S2 =>
      rw [e2] at h
      exact fun G2 θ2 H2 cls dx l2 t2 s2 x => h G2 θ2 H2 cls dx (l.trans l2) (t.trans t2) s2 x
    | bad => rw [e2] at h; exact h
  | ex c fs ρ' S' => rw [e] at h; exact h
  | bad => rw [e] at h; exact h
theorem Run.imp {P P' : α → Hp → List Addr → Hp → Rho → Sto → Prop} (h : Run T B W m G θ σ ρ S P) (k : ∀ a G' θ' H' ρ' S', Le G G' → Lt θ θ' → Sim T B G' θ' σ H' ρ' S' → P a G' θ' H' ρ' S' → P' a G' θ' H' ρ' S') : Run T B W m G θ σ ρ S P' := by
  unfold Run at h ⊢
  cases e : m ρ S with
  | ok a ρ' S' => rw [e] at h; exact fun G' θ' H' l t s => k a G' θ' H' ρ' S' l t s (h G' θ' H' l t s)
  | ex c fs ρ' S' => rw [e] at h; exact h
  | bad => rw [e] at h; exact h
theorem Run.pure {a : α} {P : α → Hp → List Addr → Hp → Rho → Sto → Prop} (h : Run T B W (Pure.pure a : Mo α) G θ σ ρ S P) (l : Le G G') (t : Lt θ θ') (s : Sim T B G' θ' σ H ρ S) : P a G' θ' H ρ S := h G' θ' H l t s
theorem Run.pure' {a : α} {P : α → Hp → List Addr → Hp → Rho → Sto → Prop} (h : Run T B W (Pure.pure a : Mo α) G θ σ ρ S P) (s : Sim T B G θ σ H ρ S) : P a G θ H ρ S := h G θ H (Le.refl _) (Lt.refl _) s
theorem Run.ofO {o : Option α} {P : β → Hp → List Addr → Hp → Rho → Sto → Prop} (h : Run T B W (ofO o >>= f) G θ σ ρ S P) : ∃ a, o = some a ∧ Run T B W (f a) G θ σ ρ S P := by
  cases o with
  | none => exact False.elim h
  | some a => exact ⟨a, rfl, h⟩
theorem Run.ofO' {o : Option α} {P : α → Hp → List Addr → Hp → Rho → Sto → Prop} (h : Run T B W (TM.ofO o) G θ σ ρ S P) : ∃ a, o = some a ∧ Run T B W (Pure.pure a : Mo α) G θ σ ρ S P := by
  cases o with
  | none => exact False.elim h
  | some a => exact ⟨a, rfl, h⟩
end
/-- what an operand is now -/
def look (d : D) : Mo D := fun ρ S => match deref ρ S d with
  | some c => .ok c ρ S
  | none => .bad
def frz (i : Nat) : Mo D := fun ρ S => match ρ[i]? with
  | some (.own d) => .ok d (ρ.set i (.v d)) S
  | some (.v d) => .ok d ρ S
  | _ => .bad
/-- an operand: an object just made is settled -/
def settle : D → Mo D
  | .nw d => pure d
  | d => pure d
/-- a value that is kept: settled, a slot's own object too -/
def persist : D → Mo D
  | .nw d => pure d
  | .sl i => frz i
  | d => pure d
section
variable {T : Tab} {B : Base} {W : L2.WX} {α β : Type} {G G' : Hp} {θ θ' : List Addr} {σ : L2.St} {H : Hp} {ρ : Rho} {S : Sto}
theorem Run.look {d : D} {f : D → Mo β} {P : β → Hp → List Addr → Hp → Rho → Sto → Prop} (h : Run T B W (TM.look d >>= f) G θ σ ρ S P) : ∃ c, deref ρ S d = some c ∧ Run T B W (f c) G θ σ ρ S P := by
  unfold Run at h
  rw [bind_def] at h
  unfold TM.look at h
  cases e : deref ρ S d with
  | none => rw [e] at h; exact h.elim
  | some c => rw [e] at h; exact ⟨c, rfl, h⟩
end

section
variable (T : Tab) (B : Base) (W : L2.WX)
/-- readings: an expression; an operand; a value that is kept; a test; arguments that are kept -/
def liftE (m : Mo D) : TE := fun σ H Q => ∃ G θ ρ S, Sim T B G θ σ H ρ S ∧ Run T B W m G θ σ ρ S fun d G' θ' H' ρ' _ => ∀ v, TRep T B G' θ' σ H' ρ' v d → Q v H'
def liftO (m : Mo D) : TE := fun σ H Q => ∃ G θ ρ S, Sim T B G θ σ H ρ S ∧ Run T B W m G θ σ ρ S fun d G' θ' H' _ _ => ∀ v, ORep T G' θ' σ v d → Q v H'
def liftP (m : Mo D) : TE := fun σ H Q => ∃ G θ ρ S, Sim T B G θ σ H ρ S ∧ Run T B W m G θ σ ρ S fun d G' θ' H' _ _ => ∀ v, Rep T G' θ' v d → Q v H'
def liftT (m : Mo Bool) : TT := fun σ H Q => ∃ G θ ρ S, Sim T B G θ σ H ρ S ∧ Run T B W m G θ σ ρ S fun b _ _ H' _ _ => Q b H'
def liftA (m : Mo (List D)) : TA := fun σ H Q => ∃ G θ ρ S, Sim T B G θ σ H ρ S ∧ Run T B W m G θ σ ρ S fun ds G' θ' H' _ _ => ∀ vs, RepL T G' θ' vs ds → Q vs H'
end
section
variable {T : Tab} {B : Base} {W : L2.WX} {X : Cx} {e : Expr}
theorem PE.imp {t t' : TE} (h : PE X e t) (k : ∀ σ H Q, t' σ H Q → t σ H Q) : PE X e t' := ⟨fun pins s σ H Q I q => h.run pins s σ H Q I (k σ H Q q)⟩
theorem PT.imp {t t' : TT} (h : PT X e t) (k : ∀ σ H Q, t' σ H Q → t σ H Q) : PT X e t' := ⟨fun pins s σ H Q I q => h.run pins s σ H Q I (k σ H Q q)⟩
theorem PW.imp {t t' : TT} (h : PW X e t) (k : ∀ σ H Q, t' σ H Q → t σ H Q) : PW X e t' := ⟨fun wh pins s σ H Q I q => h.run wh pins s σ H Q I (k σ H Q q)⟩
theorem PA.imp {es : List Expr} {t t' : TA} (h : PA X es t) (k : ∀ σ H Q, t' σ H Q → t σ H Q) : PA X es t' := ⟨fun pos pins s σ H Q I q => h.run pos pins s σ H Q I (k σ H Q q)⟩
theorem PS.imp {st : Stmt} {t t' : TS} (h : PS X st t) (k : ∀ D σ H, t' D σ H → t D σ H) : PS X st t' := ⟨fun pins s σ H D I q => h.run pins s σ H D I (k D σ H q)⟩
theorem PSs.imp {st : List Stmt} {t t' : TS} (h : PSs X st t) (k : ∀ D σ H, t' D σ H → t D σ H) : PSs X st t' := ⟨fun pins s σ H D I q => h.run pins s σ H D I (k D σ H q)⟩
theorem settle_of {T : Tab} {G : Hp} {θ : List Addr} {σ : L2.St} {v : V} {d : D} (r : ORep T G θ σ v d) : settle d = pure d := by
  cases r with
  | of r => cases r <;> rfl
  | sl _ => rfl
theorem persist_of {T : Tab} {G : Hp} {θ : List Addr} {v : V} {d : D} (r : Rep T G θ v d) : persist d = pure d := by
  cases r <;> rfl
theorem pe_O {m : Mo D} (h : PE X e (liftE T B W m)) : PE X e (liftO T B W (m >>= settle)) := by
  refine PE.imp h fun σ H Q ⟨G, θ, ρ, S, s, r⟩ => ⟨G, θ, ρ, S, s, r.bind.imp fun d G' θ' H' ρ' S' l t s' r' v tr => ?_⟩
  cases tr with
  | of o =>
    rw [settle_of o] at r'
    have q := r'.pure' s'
    exact q v o
  | nw h1 ob h2 h3 h4 h5 =>
    have r2 : Run T B W (pure _ : Mo D) G' θ' σ ρ' S' _ := r'
    exact r2.pure (Le.upd h2) (Lt.refl _) (s'.grow ob.nt h1 h2 h3 h4 h5) _ (.of ((ob.mono (Le.upd h2) (Lt.refl _)).rep upd_same))
theorem pe_P {m : Mo D} (h : PE X e (liftE T B W m)) : PE X e (liftP T B W (m >>= persist)) := by
  refine PE.imp h fun σ H Q ⟨G, θ, ρ, S, s, r⟩ => ⟨G, θ, ρ, S, s, r.bind.imp fun d G' θ' H' ρ' S' l t s' r' v tr => ?_⟩
  cases tr with
  | of o =>
    cases o with
    | of o =>
      rw [persist_of o] at r'
      have q := r'.pure' s'
      exact q v o
    | @sl i v h =>
      have r2 : Run T B W (frz i) G' θ' σ ρ' S' _ := r'
      unfold Run frz at r2
      cases e : ρ'[i]? with
      | none => rw [e] at r2; exact r2.elim
      | some x =>
        cases x with
        | no => rw [e] at r2; exact r2.elim
        | v d =>
          rw [e] at r2
          obtain ⟨w, h1, h2⟩ := s'.val i d e
          rw [h] at h1
          cases h1
          exact r2 G' θ' H' (Le.refl _) (Lt.refl _) s' _ h2
        | own d =>
          rw [e] at r2
          obtain ⟨a, o, h1, l2, h2, s2⟩ := s'.freeze e
          rw [h] at h1
          cases h1
          exact r2 _ θ' H' l2 (Lt.refl _) s2 _ h2
  | nw h1 ob h2 h3 h4 h5 =>
    have r2 : Run T B W (pure _ : Mo D) G' θ' σ ρ' S' _ := r'
    exact r2.pure (Le.upd h2) (Lt.refl _) (s'.grow ob.nt h1 h2 h3 h4 h5) _ ((ob.mono (Le.upd h2) (Lt.refl _)).rep upd_same)
/-- a value that is kept is an expression's value -/
theorem liftE_of_P {m : Mo D} {σ : L2.St} {H : Hp} {Q : VK} (h : liftE T B W m σ H Q) : liftP T B W m σ H Q :=
  let ⟨G, θ, ρ, S, s, r⟩ := h
  ⟨G, θ, ρ, S, s, r.imp fun d G' θ' H' ρ' S' l t s' q v rp => q v (.of (.of rp))⟩
theorem liftE_of_O {m : Mo D} {σ : L2.St} {H : Hp} {Q : VK} (h : liftE T B W m σ H Q) : liftO T B W m σ H Q :=
  let ⟨G, θ, ρ, S, s, r⟩ := h
  ⟨G, θ, ρ, S, s, r.imp fun d G' θ' H' ρ' S' l t s' q v rp => q v (.of rp)⟩
end

/-! ### stores to slots -/
section
variable {T : Tab} {B : Base} {G : Hp} {θ : List Addr} {σ : L2.St} {H : Hp} {ρ : Rho} {S : Sto}
theorem Sim.setV (s : Sim T B G θ σ H ρ S) {i : Nat} {v : V} {d : D} (hi : i < ρ.length) (r : Rep T G θ v d) : Sim T B G θ (σ.set i (some v)) H (ρ.set i (.v d)) S := by
  have hs : i < σ.length := by rw [s.slen]; exact hi
  have o1 : ∀ {j : Nat} {e : D}, (ρ.set i (.v d))[j]? = some (.own e) → ρ[j]? = some (.own e) ∧ j ≠ i := fun {j e} hj => by
    by_cases hji : j = i
    · subst hji
      rw [List.getElem?_set_self hi] at hj
      cases hj
    · rw [List.getElem?_set_ne (Ne.symm hji)] at hj
      exact ⟨hj, hji⟩
  refine ⟨s.scr, s.sub, s.frame, s.le, s.nd, s.len, s.sto, s.fresh, by simpa using s.slen, fun j e hj => ?_, fun j e hj => ?_, s.prot, fun j k e f b e1 e2 h1 h2 => ?_, ⟨s.x.gt, s.x.tabs, fun m hm e he => ?_⟩⟩
  · by_cases hji : j = i
    · subst hji
      rw [List.getElem?_set_self hi] at hj
      cases hj
      exact ⟨v, List.getElem?_set_self hs, r⟩
    · rw [List.getElem?_set_ne (Ne.symm hji)] at hj ⊢
      exact s.val j e hj
  · obtain ⟨hj, hji⟩ := o1 hj
    rw [List.getElem?_set_ne (Ne.symm hji)]
    exact s.own j e hj
  · obtain ⟨q1, n1⟩ := o1 e1
    obtain ⟨q2, n2⟩ := o1 e2
    rw [List.getElem?_set_ne (Ne.symm n1)] at h1
    rw [List.getElem?_set_ne (Ne.symm n2)] at h2
    exact s.apart j k e f b q1 q2 h1 h2
  · obtain ⟨q1, n1⟩ := o1 he
    rw [List.getElem?_set_ne (Ne.symm n1)]
    exact s.x.me m hm e q1
theorem Sim.setOwn (s : Sim T B G θ σ H ρ S) {i : Nat} {a : Addr} {o : HO} {d : D} (h0 : i ≠ 0) (hi : i < ρ.length) (h1 : H a = some o) (ob : Ob T G θ o d) (h2 : G a = none) (h3 : a ∉ θ) (h4 : B.H a = none)
    (h5 : ∀ (j : Nat) (e : D), ρ[j]? = some (.own e) → σ[j]? ≠ some (some (.ref a))) : Sim T B G θ (σ.set i (some (.ref a))) H (ρ.set i (.own d)) S := by
  have hs : i < σ.length := by rw [s.slen]; exact hi
  refine ⟨s.scr, s.sub, s.frame, s.le, s.nd, s.len, s.sto, s.fresh, by simpa using s.slen, fun j e hj => ?_, fun j e hj => ?_, s.prot, fun j k e f b e1 e2 q1 q2 => ?_, ⟨s.x.gt, s.x.tabs, fun m hm e he => ?_⟩⟩
  · by_cases hji : j = i
    · subst hji
      rw [List.getElem?_set_self hi] at hj
      cases hj
    · rw [List.getElem?_set_ne (Ne.symm hji)] at hj ⊢
      exact s.val j e hj
  · by_cases hji : j = i
    · subst hji
      rw [List.getElem?_set_self hi] at hj
      cases hj
      exact ⟨a, o, List.getElem?_set_self hs, h1, ob, h2, h3, h4⟩
    · rw [List.getElem?_set_ne (Ne.symm hji)] at hj ⊢
      exact s.own j e hj
  · by_cases hj : j = i
    · by_cases hk : k = i
      · rw [hj, hk]
      · subst hj
        rw [List.getElem?_set_self hs] at q1
        cases q1
        rw [List.getElem?_set_ne (Ne.symm hk)] at e2 q2
        exact absurd q2 (h5 k f e2)
    · rw [List.getElem?_set_ne (Ne.symm hj)] at e1 q1
      by_cases hk : k = i
      · subst hk
        rw [List.getElem?_set_self hs] at q2
        cases q2
        exact absurd q1 (h5 j e e1)
      · rw [List.getElem?_set_ne (Ne.symm hk)] at e2 q2
        exact s.apart j k e f b e1 e2 q1 q2
  · rw [List.getElem?_set_ne h0] at he ⊢
    exact s.x.me m hm e he
end
/-- a slot takes an expression's value (the first slot owns nothing but the instance that an __init__ makes) -/
def setSlot (i : Nat) (d : D) : Mo Unit := fun ρ S => if i < ρ.length then (match d with
  | .nw c => if i = 0 then .bad else .ok () (ρ.set i (.own c)) S
  | .sl j => (match frz j ρ S with
    | .ok c ρ' S' => .ok () (ρ'.set i (.v c)) S'
    | .ex c fs ρ' S' => .ex c fs ρ' S'
    | .bad => .bad)
  | d => .ok () (ρ.set i (.v d)) S) else .bad
theorem frz_len {i : Nat} {ρ ρ' : Rho} {S S' : Sto} {c : D} (h : frz i ρ S = .ok c ρ' S') : ρ'.length = ρ.length := by
  unfold frz at h
  split at h
  · cases h; simp
  · cases h; rfl
  · cases h

/-! ### statements -/
inductive Fl where
  | nx | bk | ct
  | ret (d : D)
section
variable (T : Tab) (B : Base) (W : L2.WX)
def EndOk (Dn : Ends) (f : Fl) (G : Hp) (θ : List Addr) (σ : L2.St) (H : Hp) : Prop := match f with
  | .nx => Dn.nx σ H
  | .bk => Dn.bk σ H
  | .ct => Dn.ct σ H
  | .ret d => ∀ v, Rep T G θ v d → Dn.rt v H
def RunS {α : Type} (m : Mo α) (G : Hp) (θ : List Addr) (ρ : Rho) (S : Sto) (P : α → Hp → List Addr → L2.St → Hp → Rho → Sto → Prop) : Prop :=
  match m ρ S with
  | .ok a ρ' S' => ∀ G' θ' σ' H', Le G G' → Lt θ θ' → Sim T B G' θ' σ' H' ρ' S' → P a G' θ' σ' H' ρ' S'
  | .ex c fs ρ' S' => ∀ G' θ' σ' H' cls dx, Le G G' → Lt θ θ' → Sim T B G' θ' σ' H' ρ' S' → XRep T G' θ' H' c fs cls dx → W cls dx σ' H'
  | .bad => False
def liftS (m : Mo Fl) : TS := fun Dn σ H => ∃ G θ ρ S, Sim T B G θ σ H ρ S ∧ RunS T B W m G θ ρ S fun f G' θ' σ' H' _ _ => EndOk T Dn f G' θ' σ' H'
end
section
variable {T : Tab} {B : Base} {W : L2.WX} {α β : Type} {m : Mo α} {f : α → Mo β} {G G' : Hp} {θ θ' : List Addr} {σ : L2.St} {H : Hp} {ρ : Rho} {S : Sto}
theorem RunS.bind {P : β → Hp → List Addr → L2.St → Hp → Rho → Sto → Prop} (h : RunS T B W (m >>= f) G θ ρ S P) : RunS T B W m G θ ρ S fun a G' θ' _ _ ρ' S' => RunS T B W (f a) G' θ' ρ' S' P := by
  unfold RunS at h ⊢
  rw [bind_def] at h
  cases e : m ρ S with
  | ok a ρ' S' =>
    rw [e] at h
    intro G' θ' σ' H' l t s
    show RunS T B W (f a) G' θ' ρ' S' P
    unfold RunS
    simp only at h
    cases e2 : f a ρ' S' with
    | ok b ρ2 S2 =>
      rw [e2] at h
      exact fun G2 θ2 σ2 H2 l2 t2 s2 => h G2 θ2 σ2 H2 (l.trans l2) (t.trans t2) s2
    | ex c fs ρ2 S2 =>
      rw [e2] at h
      exact fun G2 θ2 σ2 H2 cls dx l2 t2 s2 x => h G2 θ2 σ2 H2 cls dx (l.trans l2) (t.trans t2) s2 x
    | bad => rw [e2] at h; exact h
  | ex c fs ρ' S' => rw [e] at h; exact h
  | bad => rw [e] at h; exact h
theorem RunS.imp {P P' : α → Hp → List Addr → L2.St → Hp → Rho → Sto → Prop} (h : RunS T B W m G θ ρ S P) (k : ∀ a G' θ' σ' H' ρ' S', Le G G' → Lt θ θ' → Sim T B G' θ' σ' H' ρ' S' → P a G' θ' σ' H' ρ' S' → P' a G' θ' σ' H' ρ' S') : RunS T B W m G θ ρ S P' := by
  unfold RunS at h ⊢
  cases e : m ρ S with
  | ok a ρ' S' => rw [e] at h; exact fun G' θ' σ' H' l t s => k a G' θ' σ' H' ρ' S' l t s (h G' θ' σ' H' l t s)
  | ex c fs ρ' S' => rw [e] at h; exact h
  | bad => rw [e] at h; exact h
/-- an expression within a statement -/
theorem RunS.run {P : α → Hp → List Addr → L2.St → Hp → Rho → Sto → Prop} (h : RunS T B W m G θ ρ S P) : Run T B W m G θ σ ρ S fun a G' θ' H' ρ' S' => P a G' θ' σ H' ρ' S' := by
  unfold RunS at h
  unfold Run
  cases e : m ρ S with
  | ok a ρ' S' => rw [e] at h; exact fun G' θ' H' l t s => h G' θ' σ H' l t s
  | ex c fs ρ' S' => rw [e] at h; exact fun G' θ' H' cls dx l t s x => h G' θ' σ H' cls dx l t s x
  | bad => rw [e] at h; exact h
theorem RunS.pure' {a : α} {P : α → Hp → List Addr → L2.St → Hp → Rho → Sto → Prop} (h : RunS T B W (Pure.pure a : Mo α) G θ ρ S P) (s : Sim T B G θ σ H ρ S) : P a G θ σ H ρ S := h G θ σ H (Le.refl _) (Lt.refl _) s
/-- .. behind an expression -/
theorem RunS.runBind {P : β → Hp → List Addr → L2.St → Hp → Rho → Sto → Prop} (h : RunS T B W (m >>= f) G θ ρ S P) : Run T B W m G θ σ ρ S fun a G' θ' _ ρ' S' => RunS T B W (f a) G' θ' ρ' S' P := h.bind.run
/-- the slot's store -/
theorem RunS.setSlot {i : Nat} {d : D} {v : V} {P : Unit → Hp → List Addr → L2.St → Hp → Rho → Sto → Prop} (h : RunS T B W (TM.setSlot i d) G θ ρ S P) (s : Sim T B G θ σ H ρ S) (tr : TRep T B G θ σ H ρ v d) :
    ∃ G' ρ' S', Le G G' ∧ Sim T B G' θ (σ.set i (some v)) H ρ' S' ∧ P () G' θ (σ.set i (some v)) H ρ' S' := by
  unfold RunS TM.setSlot at h
  by_cases hi : i < ρ.length
  · rw [if_pos hi] at h
    cases tr with
    | nw h1 ob h2 h3 h4 h5 =>
      simp only at h
      by_cases hz : i = 0
      · rw [if_pos hz] at h
        exact h.elim
      · rw [if_neg hz] at h
        have s2 := s.setOwn hz hi h1 ob h2 h3 h4 h5
        exact ⟨G, _, _, Le.refl _, s2, h G θ _ H (Le.refl _) (Lt.refl _) s2⟩
    | of o =>
      cases o with
      | of r =>
        have s2 := s.setV hi r
        refine ⟨G, _, _, Le.refl _, s2, ?_⟩
        cases r <;> exact h G θ _ H (Le.refl _) (Lt.refl _) s2
      | @sl j v hj =>
        simp only at h
        unfold frz at h
        cases e : ρ[j]? with
        | none => rw [e] at h; exact h.elim
        | some x =>
          cases x with
          | no => rw [e] at h; exact h.elim
          | v d =>
            rw [e] at h
            obtain ⟨w, h1, h2⟩ := s.val j d e
            rw [hj] at h1
            cases h1
            have s2 := s.setV hi h2
            exact ⟨G, _, _, Le.refl _, s2, h G θ _ H (Le.refl _) (Lt.refl _) s2⟩
          | own d =>
            rw [e] at h
            obtain ⟨a, o, h1, l2, h2, s2⟩ := s.freeze e
            rw [hj] at h1
            cases h1
            have s3 := s2.setV (i := i) (by simpa using hi) h2
            exact ⟨_, _, _, l2, s3, h _ θ _ H l2 (Lt.refl _) s3⟩
  · rw [if_neg hi] at h
    exact h.elim
end
end TM
end
section
set_option Elab.async false
set_option linter.all false
set_option maxRecDepth 100000
set_option maxHeartbeats 1000000
/-! FW3: the language: its forms, what they do, which text they stand for. -/
namespace TM
open PySem PySem.Spec PyProof.Rows L2

/-! ### what defs and classes do -/
/-- what an exception's __init__ keeps: an argument, a text -/
inductive XA where
  | par (j : Nat) | txt (x : Str)
def xaD (ds : List D) : XA → Option D
  | .par j => ds[j]?
  | .txt x => some (.str x)
/-- an exception's fields, the last one first -/
def xaFs : List (Str × XA) → List D → List (Str × D) → Option (List (Str × D))
  | [], _, fs => some fs
  | (f, x) :: r, ds, fs => (xaD ds x).bind fun d => xaFs r ds ((f, d) :: fs)
inductive Rc where
  | ok (d : D) (S : Sto)
  | ex (c : Str) (fs : List (Str × D)) (S : Sto)
  | bad
/-! ### forms -/
inductive P1 where
  | neg | len | intOf | strOf | listOf | tupleOf | sortedOf | allOf | anyOf | sumOf | dictOf | sliceAll
  | attr (f : Str)
inductive P2 where
  | op (o : Operator) | cmp (o : CmpOp) | idx | sliceFrom | sliceTo | min2 | max2 | join | split
/-- one's own operators -/
inductive O1 where
  | neg | len | repr
inductive O2 where
  | mul | eq | ne | isin | notin
inductive P3 where
  | get2

inductive Mu where
  | append | pop | popAt | clear | dclear | dpop
/-- a built-in type, a class -/
inductive TyN where
  | ty (x : String) | cls (x : Str)
/-- where a dict that is walked stands: a name; a name's attribute -/
inductive Pa where
  | v (i : Nat) | f (i : Nat) (x : Str)
inductive DK where
  | keys | items
mutual
inductive G where
  | nm (i : Nat)
  | tup (gs : Gs)
inductive Gs where
  | nil | cons (g : G) (gs : Gs)
end
inductive I1 where
  | seq | rng | enum
inductive I2 where
  | rng | zip
mutual
inductive E where
  | var (i : Nat) | cst (d : D) | glo (x : Str)
  | p1 (o : P1) (a : E) | p2 (o : P2) (a b : E) | p3 (o : P3) (a b c : E) | sli (a b c : E) | dct0 | join (a b : E) | get2 (a b c : E)
  | chain (o o' : CmpOp) (a b c : E)
  | ife (t : T) (a b : E) | bop (o : BoolOp) (es : Es) | not (a : E)
  | tup (es : Es) | lst (es : Es)
  | call (x : Str) (es : Es) | mk (x : Str) (es : Es) | meth (m : Str) (o : E) (es : Es)
  | tried (a : E) | isi (ts : List TyN) (tp : Bool) (a : E) | fst (a b : E) (es : Es)
  | newm (a : E) | mu (m : Mu) (o : E) (es : Es)
  | lc (own : List Nat) (tg : G) (it : I) (cs : Ts) (e : E) | lcd (own : List Nat) (tg : G) (k : DK) (p : Pa) (cs : Ts) (e : E)
  | disp (ps : Ps) | ow1 (o : O1) (a : E) | ow2 (o : O2) (a b : E) | inl (a b : E)
  | dc (own : List Nat) (tg : G) (it : I) (cs : Ts) (kx vx : E) | dcd (own : List Nat) (tg : G) (k : DK) (p : Pa) (cs : Ts) (kx vx : E)
/-- a test -/
inductive T where
  | e (a : E) | cmp (o : CmpOp) (a b : E) | chain (o o' : CmpOp) (a b c : E) | not (t : T) | bop (o : BoolOp) (ts : Ts) | ow (o : O2) (a b : E) | inl (a b : E)
inductive Ts where
  | nil | cons (t : T) (r : Ts)
inductive Es where
  | nil | cons (a : E) (r : Es)
inductive Ps where
  | nil | cons (k v : E) (r : Ps)
inductive I where
  | p1 (o : I1) (a : E) | p2 (o : I2) (a b : E)
end

structure Prov where
  /-- a def by its key (a name; a class, a point and a method's name) -/
  fn : Str → List D → Sto → Rc
  /-- an instance made -/
  make : Str → List D → Sto → Rc
  /-- the def behind a method of a class -/
  meth : Str → Str → Option Str
  /-- a class's constant -/
  con : Str → Str → Option D
  /-- a module's name that is no def -/
  glob : Str → Option D
  /-- a def's parameters that are not given -/
  dflt : Str → Nat → List D
  /-- the class keeps the name as a field -/
  fld : Str → Str → Bool
  /-- classes whose instances are made by their own __init__ -/
  mks : Str → Bool
  /-- classes that isinstance may ask for -/
  isc : Str → Bool
  /-- whether lambdas may be made here, and what they do -/
  lam : Bool
  lamv : E → Mo D
  /-- what an exception's __init__ keeps -/
  xas : Str → Option (Nat × List (Str × XA))
  /-- a class's own operators -/
  own : Str → Str → Option (List D → Sto → Rc)
def callM (r : Sto → Rc) : Mo D := fun ρ S => match r S with
  | .ok d S' => .ok d ρ S'
  | .ex c fs S' => .ex c fs ρ S'
  | .bad => .bad
def fits (n : Nat) : Bool := decide (n ≤ 16777216)
def isOp : D → Bool
  | .sl _ => true
  | .nw _ => true
  | _ => false

/-! ### by values -/

def mulOk (i j : Int) : Bool := decide (-(2 ^ 64) < i ∧ i < 2 ^ 64) || decide (-(2 ^ 64) < j ∧ j < 2 ^ 64)
def rep {α : Type} (n : Int) (xs : List α) : List α := (List.replicate n.toNat xs).flatten
def opD : Operator → D → D → Option D
  | .Add, .int i, .int j => some (.int (i + j))
  | .Add, .str x, .str y => if fits (x.length + y.length) then some (.str (x ++ y)) else none
  | .Add, .lst xs, .lst ys => if fits (xs.length + ys.length) then some (.nw (.lst (xs ++ ys))) else none
  | .Sub, .int i, .int j => some (.int (i - j))
  | .Mult, .lst xs, .int j => if -(2 ^ 63) ≤ j ∧ j < 2 ^ 63 ∧ fits (xs.length * j.toNat) = true then some (.nw (.lst (rep j xs))) else none
  | .Mult, .str x, .int j => if 0 ≤ j ∧ j < 1000000 ∧ fits (x.length * j.toNat) = true then some (.str ⟨(rep j x.cps.toList).toArray⟩) else none
  | .Mult, .int i, .int j => if mulOk i j then some (.int (i * j)) else none
  | .Mod, .int i, .int j => if j = 0 then none else some (.int (i.fmod j))
  | .FloorDiv, .int i, .int j => if j ≠ 0 ∧ j.natAbs < 1073741824 then some (.int (i.fdiv j)) else none
  | .Pow, .int i, .int j => if 0 ≤ j ∧ j ≤ 1000000 ∧ i.natAbs < 2 ^ 64 then some (.int (i ^ j.toNat)) else none
  | _, _, _ => none
/-- equality of trees without instances -/
def scalD : D → D → Option Bool
  | .int i, .int j => some (decide (i = j))
  | .str x, .str y => some (decide (x = y))
  | .bl b, .bl c => some (decide (b = c))
  | .non, .non => some true
  | _, _ => none
mutual
/-- data without objects -/
def toPy : D → Option PyData
  | .non => some .none
  | .bl b => some (.bool b)
  | .int i => some (.int i)
  | .str x => some (.str x)
  | .lst ds => (toPys ds).map .list
  | .tup ds => (toPys ds).map .tuple
  | _ => none
def toPys : List D → Option (List PyData)
  | [] => some []
  | d :: ds => (toPy d).bind fun p => (toPys ds).map fun ps => p :: ps
end
def eqD (x y : D) : Option Bool := match scalD x y with
  | some b => some b
  | none => (toPy x).bind fun p => (toPy y).bind fun q => if SeqAt.shaped p && SeqAt.shaped q then some (PyData.eqv p q) else none
def flatD : D → Bool
  | .non => true
  | .bl _ => true
  | .int _ => true
  | .str _ => true
  | _ => false
def eqFD : D → D → Bool
  | .non, .non => true
  | .bl a, .bl b => a == b
  | .bl a, .int b => (if a then 1 else 0) == b
  | .int a, .bl b => a == (if b then 1 else 0)
  | .int a, .int b => a == b
  | .str a, .str b => a == b
  | _, _ => false
def asKey : D → Option Key
  | .int i => some (.inl i)
  | .str x => some (.inr x)
  | _ => none
def getKD (kvs : List (Key × D)) (k : Key) : Option D := (kvs.find? fun kv => decide (kv.1 = k)).map (·.2)
def inD : D → D → Option Bool
  | .str ⟨⟨[c]⟩⟩, .str z => some (decide (c ∈ z.cps.toList))
  | x, .lst xs => if flatD x && xs.all flatD then some (xs.any fun y => eqFD y x) else none
  | x, .tup xs => if flatD x && xs.all flatD then some (xs.any fun y => eqFD y x) else none
  | x, .dct kvs => (asKey x).map fun k => (getKD kvs k).isSome
  | .str z, .wd (.kd l) => some (l.lookup z).isSome
  | _, _ => none
def cmpD0 : CmpOp → D → D → Option D
  | .Lt, .int i, .int j => some (.bl (decide (i < j)))
  | .LtE, .int i, .int j => some (.bl (decide (i ≤ j)))
  | .Gt, .int i, .int j => some (.bl (decide (j < i)))
  | .GtE, .int i, .int j => some (.bl (decide (j ≤ i)))
  | .Eq, x, y => (scalD x y).map fun b => .bl b
  | .NotEq, x, y => (scalD x y).map fun b => .bl (!b)
  | .Is, .non, .non => some (.bl true)
  | .Is, _, .non => some (.bl false)
  | .IsNot, .non, .non => some (.bl false)
  | .IsNot, _, .non => some (.bl true)
  | _, _, _ => none
def cmpD : CmpOp → D → D → Option D
  | .Eq, x, y => (eqD x y).map fun b => .bl b
  | .NotEq, x, y => (eqD x y).map fun b => .bl (!b)
  | .In, x, y => (inD x y).map fun b => .bl b
  | .NotIn, x, y => (inD x y).map fun b => .bl (!b)
  | o, x, y => cmpD0 o x y
def cutD {α : Type} (xs : List α) (lo hi : Option Int) : List α := (xs.drop (HT.sIx xs.length 0 lo)).take (HT.sIx xs.length xs.length hi - HT.sIx xs.length 0 lo)
def sliceD (c : D) (lo hi : Option Int) : Option D := match c with
  | .scr is => some (.nw (.lst (cutD (is.map D.int) lo hi)))
  | .lst xs => some (.nw (.lst (cutD xs lo hi)))
  | .tup xs => if HT.sIx xs.length 0 lo = 0 ∧ HT.sIx xs.length xs.length hi = xs.length then none else some (.tup (cutD xs lo hi))
  | .str z => if fits z.length then some (.str ⟨(cutD z.cps.toList lo hi).toArray⟩) else none
  | _ => none
def putKD (kvs : List (Key × D)) (k : Key) (d : D) : List (Key × D) := if (kvs.any fun kv => decide (kv.1 = k)) = true then kvs.map (fun kv => if kv.1 = k then (kv.1, d) else kv) else kvs ++ [(k, d)]
def dropKD (kvs : List (Key × D)) (k : Key) : List (Key × D) := kvs.filter fun kv => decide (kv.1 ≠ k)
def wvD : Wv → D
  | .int i => .int i
  | .str x => .str x
  | .nums is => .wd (.nums is)
def idxD : D → D → Option D
  | .wd (.kd l), .str z => (l.lookup z).map wvD
  | .wd (.kt l), .tup [.int i, .int j] => (l.lookup (i, j)).map wvD
  | .lst xs, .int i => atI xs i
  | .tup xs, .int i => atI xs i
  | .str z, .int i => if fits z.length then (atI z.cps.toList i).map fun c => .str ⟨#[c]⟩ else none
  | .dct kvs, y => (asKey y).bind fun k => getKD kvs k
  | _, _ => none
def keyD : Key → D
  | .inl i => .int i
  | .inr x => .str x
def negD : D → Option D
  | .int i => some (.int (-i))
  | _ => none
def lenD : D → Option D
  | .dct kvs => some (.int kvs.length)
  | .lst xs => some (.int xs.length)
  | .tup xs => some (.int xs.length)
  | .str z => if fits z.length then some (.int z.length) else none
  | _ => none
def intD : D → Option D
  | .bl b => some (.int (if b then 1 else 0))
  | .int i => some (.int i)
  | _ => none
def signsD (x : Str) : List D := x.cps.toList.map fun c => .str ⟨#[c]⟩
def listD : D → Option D
  | .str z => if fits z.length then some (.nw (.lst (signsD z))) else none
  | .lst xs => some (.nw (.lst xs))
  | .tup xs => some (.nw (.lst xs))
  | .dct kvs => some (.nw (.lst (kvs.map fun kv => keyD kv.1)))
  | _ => none
def tupD : D → Option D
  | .lst xs => some (.tup xs)
  | .tup xs => some (.tup xs)
  | _ => none
def intsD : List D → Option (List Int)
  | [] => some []
  | .int i :: r => (intsD r).map fun is => i :: is
  | _ => none
def strsD : List D → Option (List Str)
  | [] => some []
  | .str i :: r => (strsD r).map fun is => i :: is
  | _ => none
def blsD : List D → Option (List Bool)
  | [] => some []
  | .bl i :: r => (blsD r).map fun is => i :: is
  | _ => none
def dctD : D → Option D
  | .dct kvs => some (.nw (.dct kvs))
  | _ => none
def allD : D → Option D
  | .lst xs => (blsD xs).map fun bs => .bl (bs.all id)
  | _ => none
def anyD : D → Option D
  | .lst xs => (blsD xs).map fun bs => .bl (bs.any id)
  | _ => none
def sumD : D → Option D
  | .lst xs => (intsD xs).map fun is => .int is.sum
  | _ => none
def leS (x y : Str) : Bool := decide (x.cps.toList ≤ y.cps.toList)
def sortS (xs : List Str) : List Str := xs.mergeSort leS
def keysI : List (Key × D) → Option (List Int)
  | [] => some []
  | (.inl i, _) :: r => (keysI r).map fun is => i :: is
  | _ => none
def keysS : List (Key × D) → Option (List Str)
  | [] => some []
  | (.inr i, _) :: r => (keysS r).map fun is => i :: is
  | _ => none
def sortI (is : List Int) : D := .nw (.lst ((PySem.W.sortI is).map .int))
def sortStr (is : List Str) : D := .nw (.lst ((sortS is).map .str))
def sortedD : D → Option D
  | .lst xs => match intsD xs with
    | some is => some (sortI is)
    | none => (match strsD xs with
      | some ss => if ss.length < 64 then some (sortStr ss) else none
      | none => none)
  | .dct kvs => match keysI kvs with
    | some is => if is.length < 64 then some (sortI is) else none
    | none => (match keysS kvs with
      | some ss => if ss.length < 64 then some (sortStr ss) else none
      | none => none)
  | _ => none
def strD : D → Option D
  | .int i => if i.natAbs < 10 ^ 100 then some (.str (toString i)) else none
  | .str x => some (.str x)
  | _ => none
def attrD (P : Prov) (f : Str) : D → Option D
  | .ins c fs => if P.fld c f then fs.lookup f else none
  | _ => none
def d1 (P : Prov) : P1 → D → Option D
  | .neg => negD
  | .len => lenD
  | .intOf => intD
  | .listOf => listD
  | .tupleOf => tupD
  | .allOf => allD
  | .sortedOf => sortedD
  | .strOf => strD
  | .anyOf => anyD
  | .sumOf => sumD
  | .dictOf => dctD
  | .sliceAll => fun c => sliceD c none none
  | .attr f => attrD P f
def fromD (c : D) : D → Option D
  | .int i => sliceD c (some i) none
  | _ => none
def toD (c : D) : D → Option D
  | .int i => sliceD c none (some i)
  | _ => none
def min2D : D → D → Option D
  | .int i, .int j => some (.int (if j < i then j else i))
  | _, _ => none
def max2D : D → D → Option D
  | .int i, .int j => some (.int (if j > i then j else i))
  | _, _ => none
def d2 : P2 → D → D → Option D
  | .op o => opD o
  | .cmp o => cmpD o
  | .idx => idxD
  | .sliceFrom => fromD
  | .sliceTo => toD
  | .min2 => min2D
  | .max2 => max2D
  | _ => fun _ _ => none
def d3 : P3 → D → D → D → Option D
  | _ => fun _ _ _ => none
/-- truth -/
def truD : D → Option Bool
  | .bl b => some b
  | .non => some false
  | .int i => some (i != 0)
  | .str z => if fits z.length then some (z.length != 0) else none
  | .lst xs => some (!xs.isEmpty)
  | .tup xs => some (!xs.isEmpty)
  | _ => none

def muK : Mu → D → Bool
  | .append, .lst _ => true
  | .pop, .lst _ => true
  | .popAt, .lst _ => true
  | .clear, .lst _ => true
  | .dclear, .dct _ => true
  | .dpop, .dct _ => true
  | _, _ => false
def muN : Mu → Str
  | .append => "append"
  | .pop => "pop"
  | .popAt => "pop"
  | .clear => "clear"
  | .dclear => "clear"
  | .dpop => "pop"
def muL : Mu → Bool
  | .dclear => false
  | .dpop => false
  | _ => true
def muP : Mu → Bool
  | .dpop => true
  | _ => false
def muD : Mu → D → List D → Option (D × D)
  | .append, .lst xs, [d] => if xs.length < 16777216 then some (.lst (xs ++ [d]), .non) else none
  | .pop, .lst xs, [] => (xs[xs.length - 1]?).map fun y => (.lst xs.dropLast, y)
  | .popAt, .lst xs, [.int i] => if -(2 ^ 63) ≤ i ∧ i < 2 ^ 63 then (seqIndex? i xs.length).bind fun k => (xs[k]?).map fun y => (.lst (xs.eraseIdx k), y) else none
  | .clear, .lst _, [] => some (.lst [], .non)
  | .dclear, .dct _, [] => some (.dct [], .non)
  | .dpop, .dct kvs, [y] => (asKey y).bind fun k => (getKD kvs k).map fun d => (.dct (dropKD kvs k), d)
  | _, _, _ => none
/-- a mutable object is changed -/
def modC {α : Type} (x : D) (f : D → Option (D × α)) : Mo α := fun ρ S => match x with
  | .sl i => (match ρ[i]? with
    | some (.own c) => (match f c with
      | some (c', r) => .ok r (ρ.set i (.own c')) S
      | none => .bad)
    | _ => .bad)
  | .ref n => (match S[n]? with
    | some ⟨c, false⟩ => (match f c with
      | some (c', r) => .ok r ρ (S.set n ⟨c', false⟩)
      | none => .bad)
    | _ => .bad)
  | _ => .bad
/-- o[i] = d, o.f = d -/
def putIx : D → D → D → Option (D × Unit)
  | .lst xs, .int i, d => (ixN xs.length i).map fun j => (.lst (xs.set j d), ())
  | .dct kvs, y, d => if kvs.length < 16777216 then (asKey y).map fun k => (.dct (putKD kvs k d), ()) else none
  | _, _, _ => none
def putFD (f : Str) (d : D) : List (Str × D) → List (Str × D)
  | [] => [(f, d)]
  | (g, e) :: r => if g = f then (f, d) :: r else (g, e) :: putFD f d r
def putAt (P : Prov) (f : Str) : D → D → Option (D × Unit)
  | .ins c fs, d => if P.fld c f = true ∧ fs.length < 1000 then some (.ins c (putFD f d fs), ()) else none
  | _, _ => none

/-! ### isinstance -/
def kindD : D → Option String
  | .non => some "NoneType"
  | .bl _ => some "bool"
  | .int _ => some "int"
  | .str _ => some "str"
  | .lst _ => some "list"
  | .tup _ => some "tuple"
  | .dct _ => some "dict"
  | _ => none
def askedTy : List String := ["bool", "int", "str", "list", "tuple", "dict"]
def kindIs (k t : String) : Bool := decide (k = t) || (decide (k = "bool") && decide (t = "int"))
def isD (P : Prov) (c : D) : TyN → Option Bool
  | .ty t => if t ∈ askedTy then (kindD c).map fun k => kindIs k t else none
  | .cls n => if P.isc n = true then (match c with
    | .ins m _ => if P.isc m = true then some (decide (m = n)) else none
    | c => (kindD c).map fun _ => false) else none
def isAnyD (P : Prov) (c : D) : List TyN → Option Bool
  | [] => some false
  | t :: ts => (isD P c t).bind fun b => (isAnyD P c ts).map fun r => b || r
/-- every class that is asked for is known -/
def clsKn (P : Prov) (ts : List TyN) : Bool := ts.all fun t => match t with
  | .cls c => P.isc c
  | .ty _ => true
/-- {x} in a text -/
def fmtD : D → Option Str
  | .str x => if fits x.length then some x else none
  | .int i => if i.natAbs < 10 ^ 100 then some (toString i) else none
  | _ => none
/-! ### forms -/
def esN : Es → Nat
  | .nil => 0
  | .cons _ r => esN r + 1
def gsN : Gs → Nat
  | .nil => 0
  | .cons _ r => gsN r + 1
mutual
/-- the slots of a target lie within vs -/
def gIn (vs : List Nat) : G → Bool
  | .nm i => decide (i ∈ vs)
  | .tup gs => gsIn vs gs
def gsIn (vs : List Nat) : Gs → Bool
  | .nil => true
  | .cons g gs => gIn vs g && gsIn vs gs
end
/-! ### what they do -/
/-- a value as a test -/
def tst (d : D) : Mo Bool := do
  let x ← settle d
  let c ← look x
  ofO (truD c)
def m1 (a : Mo D) (sem : D → Mo D) : Mo D := do
  let x ← a >>= settle
  let c ← look x
  sem c
def m2 (a b : Mo D) (sem : D → D → Mo D) : Mo D := do
  let x ← a >>= settle
  let y ← b >>= settle
  let c ← look x
  let c' ← look y
  sem c c'
def m3 (a b c : Mo D) (sem : D → D → D → Mo D) : Mo D := do
  let x ← a >>= settle
  let y ← b >>= settle
  let z ← c >>= settle
  let c1 ← look x
  let c2 ← look y
  let c3 ← look z
  sem c1 c2 c3
def asS : D → Option Str
  | .str x => some x
  | _ => none
def joinD (a : Str) : D → Option D
  | .lst xs => (strsD xs).bind fun ss => if (ss.map (·.length)).sum + ss.length * a.length ≤ 16777216 then some (.str (PySem.Txt.join a ss)) else none
  | .tup xs => (strsD xs).bind fun ss => if (ss.map (·.length)).sum + ss.length * a.length ≤ 16777216 then some (.str (PySem.Txt.join a ss)) else none
  | _ => none
/-- a.join(b) -/
def mJoin (a b : Mo D) : Mo D := do
  let x ← a >>= settle
  let s ← ofO (asS x)
  let y ← b >>= settle
  let c ← look y
  ofO (joinD s c)
def isDct : D → Bool
  | .dct _ => true
  | _ => false
/-- a.get(b, c) -/
def mGet2 (a b c : Mo D) : Mo D := do
  let x ← a >>= settle
  let d ← look x
  if isDct d = true then do
    let y ← b >>= settle
    let z ← c >>= persist
    let d' ← look x
    let k ← ofO (asKey y)
    match d' with
    | .dct kvs => pure ((getKD kvs k).getD z)
    | _ => fail
  else fail
def asI : D → Option Int
  | .int i => some i
  | _ => none
/-- a[b:c] -/
def msl (a b c : Mo D) : Mo D := do
  let x ← a >>= settle
  let y ← b >>= settle
  let i ← ofO (asI y)
  let z ← c >>= settle
  let j ← ofO (asI z)
  let c ← look x
  ofO (sliceD c (some i) (some j))
/-- as a test's outcome -/
def asB : D → Mo Bool
  | .bl b => pure b
  | _ => fail
/-- a o b o' c -/
def mch (o o' : CmpOp) (a b c : Mo D) : Mo D := do
  let x ← a >>= settle
  let y ← b >>= settle
  let c1 ← look x
  let c2 ← look y
  let r ← ofO (cmpD o c1 c2)
  let k ← asB r
  if k = true then do
    let z ← c >>= settle
    let c2' ← look y
    let c3 ← look z
    ofO (cmpD o' c2' c3)
  else pure (.bl false)
/-- a target takes a settled value -/
def itemsM (d : D) : Mo (List D) := do
  let c ← look d
  match c with
  | .tup ds => pure ds
  | .lst ds => pure ds
  | .wd (.nums is) => pure (is.map .int)
  | _ => fail
mutual
def gSet : G → D → Mo Unit
  | .nm i, d => setSlot i d
  | .tup gs, d => do
    let ds ← itemsM d
    if ds.length = gsN gs then gSets gs ds else fail
def gSets : Gs → List D → Mo Unit
  | .nil, [] => pure ()
  | .nil, _ :: _ => fail
  | .cons _ _, [] => fail
  | .cons g gs, d :: ds => do
    gSet g d
    gSets gs ds
end
inductive Src where
  | fix (ds : List D) | dyn (n : Nat)
def noex {α : Type} (m : Mo α) : Mo α := fun ρ S => match m ρ S with
  | .ex _ _ _ _ => .bad
  | r => r
/-- what a for walks -/
def srcV : D → Mo Src
  | .lst ds => pure (.fix ds)
  | .tup ds => pure (.fix ds)
  | .str z => pure (.fix (z.cps.toList.map fun c => .str ⟨#[c]⟩))
  | _ => fail
def srcD : D → Mo Src
  | .sl i => frz i >>= srcV
  | .ref n => do
    let c ← look (.ref n)
    match c with
    | .lst _ => pure (.dyn n)
    | _ => fail
  | d => srcV d
def rngD (i : Int) (n : Nat) : List D := (List.range n).map fun k => .int (i + (k : Nat))
def okRng (i : Int) : Bool := decide (-(2 ^ 62) ≤ i ∧ i < 2 ^ 62)
def mSeq (a : Mo D) : Mo Src := do
  let x ← a >>= settle
  srcD x
def mR1 (a : Mo D) : Mo Src := do
  let x ← a >>= settle
  let i ← ofO (asI x)
  if okRng i then pure (.fix (rngD 0 i.toNat)) else fail
def mR2 (a b : Mo D) : Mo Src := do
  let x ← a >>= settle
  let y ← b >>= settle
  let i ← ofO (asI x)
  let j ← ofO (asI y)
  if okRng i && okRng j then pure (.fix (rngD i (j - i).toNat)) else fail
/-- enumerate(a) -/
def enumD (ds : List D) : List D := (List.range ds.length).zipWith (fun k d => .tup [.int (k : Nat), d]) ds
def mEnum (a : Mo D) : Mo Src := do
  let x ← a >>= persist
  match x with
  | .lst ds => pure (.fix (enumD ds))
  | _ => fail
/-- zip(a, b) -/
def zipD (xs ys : List D) : List D := List.zipWith (fun x y => .tup [x, y]) xs ys
def zipQ : D → D → Mo Src
  | .lst xs, .lst ys => pure (.fix (zipD xs ys))
  | .tup xs, .tup ys => pure (.fix (zipD xs ys))
  | _, _ => fail
def zipS : D → D → Mo Src
  | .str x, .str y => pure (.fix (zipD (signsD x) (signsD y)))
  | x, y => zipQ x y
def mZip (a b : Mo D) : Mo Src := do
  let x ← a >>= persist
  let y ← b >>= persist
  zipS x y
def wipeR (ρ : Rho) : List Nat → Rho
  | [] => ρ
  | v :: vs => (wipeR ρ vs).set v .no
def keepSl : Sl → Sl
  | .v d => .v d
  | _ => .no
def backR (ρ ρ0 : Rho) : List Nat → Rho
  | [] => ρ
  | v :: vs => (backR ρ ρ0 vs).set v (keepSl (ρ0.getD v .no))
/-- the walk of a comprehension: f says what a turn adds -/
def lcFix (f : D → Mo (List D)) : List D → List D → Mo (List D)
  | [], acc => pure acc
  | d :: ds, acc => do
    let r ← f d
    lcFix f ds (acc ++ r)
def lcDyn (f : D → Mo (List D)) (x : Nat) : Nat → Nat → List D → Mo (List D)
  | 0, _, _ => fail
  | n + 1, i, acc => do
    let c ← look (.ref x)
    match c with
    | .lst ds => (match ds[i]? with
      | none => pure acc
      | some d => do
        let r ← f d
        lcDyn f x n (i + 1) (acc ++ r))
    | _ => fail
def FUEL : Nat := 1000000
def lcRun (f : D → Mo (List D)) : Src → Mo (List D)
  | .fix ds => lcFix f ds []
  | .dyn x => lcDyn f x FUEL 0 []
/-- within a comprehension's block -/
def inBlk {α : Type} (vs : List Nat) (m : Mo (List α)) : Mo (List α) := fun ρ S => match m (wipeR ρ vs) S with
  | .ok r ρ' S' => if fits r.length then .ok r (backR ρ' ρ vs) S' else .bad
  | _ => .bad
/-- a turn: its own names are forgotten behind it -/
def turnB {α : Type} (vs : List Nat) (m : Mo α) : Mo α := fun ρ S => match m ρ S with
  | .ok r ρ' S' => .ok r (wipeR ρ' vs) S'
  | _ => .bad
/-- o.m(..), a method of o's class -/
def mMeth (P : Prov) (m : Str) (o : Mo D) (as : Mo (List D)) (n : Nat) : Mo D := do
  let x ← o >>= persist
  let c ← look x
  match c with
  | .ins cn fs => if (fs.lookup m).isNone = true then (match P.meth cn m with
    | some k => do
      let ds ← as
      callM (P.fn k (x :: (ds ++ P.dflt k (n + 1))))
    | none => fail) else fail
  | _ => fail
def mMu (m : Mu) (o : Mo D) (as : Mo (List D)) : Mo D := do
  let x ← o >>= settle
  let c ← look x
  if muK m c = true then do
    let ds ← as
    modC x fun z => muD m z ds
  else fail
/-- what a turn of a comprehension adds -/
def lcTurn (g : D → Mo Unit) (t : Mo Bool) (e : Mo D) (d : D) : Mo (List D) := do
  g d
  let k ← t
  if k = true then do
    let y ← e >>= persist
    pure [y]
  else pure []
/-- the comprehension -/
def mLc (own : List Nat) (tg : G) (mi : Mo Src) (t : Mo Bool) (m : Mo D) : Mo D := do
  let s ← mi
  let r ← inBlk own (lcRun (fun d => turnB own (lcTurn (gSet tg) t m d)) s)
  pure (.nw (.lst r))
/-- a further part of a text -/
def evF (m : Mo D) (acc : Str) : Mo Str := do
  let x ← m >>= settle
  let c ← look x
  let y ← ofO (fmtD c)
  if fits (acc ++ y).length then pure (acc ++ y) else fail
/-! ### what a law's own def tells of an exception -/
/-- whether it asks by ==, the codes, the field that is told -/
def tellRows : List (Bool × List Str × Str) := [(false, ["invalidnode", "invalidmark", "nodetaken", "notbare", "invaliddrawing", "unknownnode"], "node"), (false, ["invalidname", "invalidedge", "edgetaken", "invalidwebname", "nametaken", "unknownedge", "unknownweb"], "name"),
  (false, ["invalidstep", "invalidcommand"], "index"), (false, ["limitexceeded", "invalidlimit"], "limit"), (true, ["invalidword"], "position"), (true, ["invalidstring"], "value")]
def rowsD (fs : List (Str × D)) (code : Str) : List (Bool × List Str × Str) → Option D
  | [] => if code = ("invaliddocument" : Str) then fs.lookup ("line" : Str) else some .non
  | (_, cs, f) :: r => if code ∈ cs then fs.lookup f else rowsD fs code r
def tellD (P : Prov) (c : Str) (fs : List (Str × D)) : Option (Str × D) := if (P.xas c).isSome = true then (match fs.lookup ("code" : Str) with
    | some (.str code) => (rowsD fs code tellRows).map fun d => (code, d)
    | _ => none) else none
/-- the law's own trial: a pair of the code and the value -/
def mTried (P : Prov) (m : Mo D) : Mo D := fun ρ S => match (m >>= persist) ρ S with
  | .ok d ρ' S' => .ok (.tup [.str Str.empty, d]) ρ' S'
  | .ex c fs ρ' S' => (match tellD P c fs with
    | some (code, d) => .ok (.tup [.str code, d]) ρ' S'
    | none => .bad)
  | .bad => .bad
/-- C(..): a new instance -/
def mMake (P : Prov) (c : Str) (as : Mo (List D)) (i : Nat) : Mo D :=
  if P.mks c = true then do
    let ds ← as
    let d ← callM (P.make c (ds ++ P.dflt c i))
    pure (.nw d)
  else fail
/-! ### walks over dicts -/
def dctOf : D → Option (List (Key × D))
  | .dct kvs => some kvs
  | _ => none
def paD (P : Prov) (ρ : Rho) (S : Sto) : Pa → Option (List (Key × D))
  | .v i => (match ρ[i]? with
    | some (.v d) => dctOf d
    | _ => none)
  | .f i x => (match ρ[i]? with
    | some (.v d) => (derefS S d).bind fun c => (attrD P x c).bind dctOf
    | _ => none)
def paM (P : Prov) (p : Pa) : Mo (List (Key × D)) := fun ρ S => match paD P ρ S p with
  | some kvs => .ok kvs ρ S
  | none => .bad
def dsrc : DK → List (Key × D) → List D
  | .keys, kvs => kvs.map fun kv => keyD kv.1
  | .items, kvs => kvs.map fun kv => .tup [keyD kv.1, kv.2]
def mLcD (P : Prov) (own : List Nat) (tg : G) (k : DK) (p : Pa) (t : Mo Bool) (m : Mo D) : Mo D := do
  let kvs ← paM P p
  let r ← inBlk own (lcRun (fun d => turnB own (lcTurn (gSet tg) t m d)) (.fix (dsrc k kvs)))
  pure (.nw (.lst r))
/-- what a turn of a dict's comprehension puts -/
def dcTurn (g : D → Mo Unit) (t : Mo Bool) (mk mv : Mo D) (d : D) : Mo (Option (Key × D)) := do
  g d
  let b ← t
  if b = true then do
    let y ← mk >>= persist
    let k ← ofO (asKey y)
    let z ← mv >>= persist
    pure (some (k, z))
  else pure none
def putO (acc : List (Key × D)) : Option (Key × D) → List (Key × D)
  | some (k, z) => putKD acc k z
  | none => acc
def dcFix (f : D → Mo (Option (Key × D))) : List D → List (Key × D) → Mo (List (Key × D))
  | [], acc => if fits acc.length then pure acc else fail
  | d :: ds, acc => if acc.length < 16777216 then do
    let r ← f d
    dcFix f ds (putO acc r)
  else fail
def dcRun (own : List Nat) (tg : G) (t : Mo Bool) (mk mv : Mo D) (ds : List D) : Mo D := do
  let r ← inBlk own (dcFix (fun d => turnB own (dcTurn (gSet tg) t mk mv d)) ds [])
  pure (.nw (.dct r))
def mDc (own : List Nat) (tg : G) (mi : Mo Src) (t : Mo Bool) (mk mv : Mo D) : Mo D := do
  let s ← mi
  match s with
  | .fix ds => dcRun own tg t mk mv ds
  | .dyn _ => fail
def mDcD (P : Prov) (own : List Nat) (tg : G) (k : DK) (p : Pa) (t : Mo Bool) (mk mv : Mo D) : Mo D := do
  let kvs ← paM P p
  dcRun own tg t mk mv (dsrc k kvs)
/-! ### own operators -/
def o1N : O1 → Str
  | .neg => "__neg__"
  | .len => "__len__"
  | .repr => "__repr__"
def o2N : O2 → Str
  | .mul => "__mul__"
  | .eq => "__eq__"
  | .ne => "__eq__"
  | .isin => "__contains__"
  | .notin => "__contains__"
def ownF (P : Prov) (n : Str) : D → Option (List D → Sto → Rc)
  | .ins c _ => P.own c n
  | _ => none
def fix1 : O1 → D → Option D
  | .neg, d => some d
  | .len, .int i => if 0 ≤ i ∧ i < 2 ^ 63 then some (.int i) else none
  | .repr, .str x => some (.str x)
  | _, _ => none
def fix2 : O2 → D → Option D
  | .mul, d => some d
  | .eq, d => some d
  | .ne, .bl b => some (.bl (!b))
  | .isin, .bl b => some (.bl b)
  | .notin, .bl b => some (.bl (!b))
  | _, _ => none
/-- whose operator it is -/
def slf {α : Type} : O2 → α → α → α
  | .isin, _, y => y
  | .notin, _, y => y
  | _, x, _ => x
def oth {α : Type} : O2 → α → α → α
  | .isin, x, _ => x
  | .notin, x, _ => x
  | _, _, y => y
def sameC : O2 → D → D → Bool
  | .isin, _, _ => true
  | .notin, _, _ => true
  | _, .ins c _, .ins c' _ => decide (c = c')
  | _, _, _ => false
def mOw1 (P : Prov) (o : O1) (a : Mo D) : Mo D := do
  let x ← a >>= persist
  let c ← look x
  let f ← ofO (ownF P (o1N o) c)
  let r ← callM (f [x])
  ofO (fix1 o r)
def mOw2 (P : Prov) (o : O2) (a b : Mo D) : Mo D := do
  let x ← a >>= persist
  let y ← b >>= persist
  let c ← look (slf o x y)
  let c' ← look (oth o x y)
  let f ← ofO (ownF P (o2N o) c)
  if sameC o c c' = true then do
    let r ← callM (f [slf o x y, oth o x y])
    ofO (fix2 o r)
  else fail
def noEqD : D → Bool
  | .str _ => true
  | .int _ => true
  | .non => true
  | _ => false
/-- x in [d, ..]: by x's own ==, asked behind that of the items -/
def inlL (f : List D → Sto → Rc) (x : D) : List D → Mo Bool
  | [] => pure false
  | d :: ds => if noEqD d = true then do
    let r ← callM (f [x, d])
    let b ← asB r
    if b = true then pure true else inlL f x ds
  else fail
def mInl (P : Prov) (a b : Mo D) : Mo Bool := do
  let x ← a >>= persist
  let y ← b >>= persist
  match y with
  | .lst ds => do
    let f ← ofO (ownF P "__eq__" x)
    inlL f x ds
  | _ => fail
/-- a dict displayed -/
def dispD (l : List (Key × D)) : D := .dct (l.foldl (fun acc kv => putKD acc kv.1 kv.2) [])
section
variable (P : Prov)
mutual
def ev : E → Mo D
  | .var i => fun ρ S => match ρ[i]? with
    | some (.v d) => .ok d ρ S
    | some (.own _) => .ok (.sl i) ρ S
    | _ => .bad
  | .cst d => pure d
  | .glo x => ofO (P.glob x)
  | .p1 o a => m1 (ev a) fun c => ofO (d1 P o c)
  | .p2 o a b => m2 (ev a) (ev b) fun c c' => ofO (d2 o c c')
  | .p3 o a b c => m3 (ev a) (ev b) (ev c) fun c1 c2 c3 => ofO (d3 o c1 c2 c3)
  | .sli a b c => msl (ev a) (ev b) (ev c)
  | .dct0 => pure (.nw (.dct []))
  | .join a b => mJoin (ev a) (ev b)
  | .get2 a b c => mGet2 (ev a) (ev b) (ev c)
  | .chain o o' a b c => mch o o' (ev a) (ev b) (ev c)
  | .ife t a b => do
    let k ← evT t
    if k = true then ev a else ev b
  | .bop o es => do
    let b ← evB o es
    pure (.bl b)
  | .not a => do
    let d ← ev a
    let b ← asB d
    pure (.bl (!b))
  | .tup es => do
    let ds ← evs es
    if fits ds.length then pure (.tup ds) else fail
  | .lst es => do
    let ds ← evs es
    if fits ds.length then pure (.nw (.lst ds)) else fail
  | .call x es => do
    let ds ← evs es
    callM (P.fn x (ds ++ P.dflt x (esN es)))
  | .mk x es => mMake P x (evs es) (esN es)
  | .meth m o es => mMeth P m (ev o) (evs es) (esN es)
  | .tried a => if P.lam = true then mTried P (P.lamv a) else fail
  | .isi ts _ a => if clsKn P ts = true then m1 (ev a) fun c => ofO ((isAnyD P c ts).map D.bl) else fail
  | .fst a b es => do
    let x ← evF (ev a) Str.empty
    let y ← evF (ev b) x
    let z ← evFs es y
    pure (.str z)
  | .newm a => do
    let d ← ev a
    match d with
    | .nw c => fun ρ S => .ok (.ref S.length) ρ (S ++ [⟨c, false⟩])
    | _ => fail
  | .mu m o es => mMu m (ev o) (evs es)
  | .lc own tg it cs e => mLc own tg (evI it) (evTs cs) (ev e)
  | .lcd own tg k p cs e => mLcD P own tg k p (evTs cs) (ev e)
  | .disp ps => do
    let l ← evPs ps
    pure (.nw (dispD l))
  | .ow1 o a => mOw1 P o (ev a)
  | .ow2 o a b => mOw2 P o (ev a) (ev b)
  | .inl a b => do
    let k ← mInl P (ev a) (ev b)
    pure (.bl k)
  | .dc own tg it cs kx vx => mDc own tg (evI it) (evTs cs) (ev kx) (ev vx)
  | .dcd own tg k p cs kx vx => mDcD P own tg k p (evTs cs) (ev kx) (ev vx)
def evT : T → Mo Bool
  | .e a => do
    let d ← ev a
    tst d
  | .cmp o a b => m2 (ev a) (ev b) (fun c c' => ofO (cmpD o c c')) >>= asB
  | .chain o o' a b c => mch o o' (ev a) (ev b) (ev c) >>= asB
  | .not t => do
    let k ← evT t
    pure (!k)
  | .bop o ts => evTB o ts
  | .ow o a b => mOw2 P o (ev a) (ev b) >>= asB
  | .inl a b => mInl P (ev a) (ev b)
def evPs : Ps → Mo (List (Key × D))
  | .nil => pure []
  | .cons a b ps => do
    let x ← ev a >>= persist
    let k ← ofO (asKey x)
    let y ← ev b >>= persist
    let r ← evPs ps
    pure ((k, y) :: r)
def evs : Es → Mo (List D)
  | .nil => pure []
  | .cons a r => do
    let x ← ev a >>= persist
    let xs ← evs r
    pure (x :: xs)
/-- the further parts of a text -/
def evFs : Es → Str → Mo Str
  | .nil, acc => pure acc
  | .cons a r, acc => do
    let x ← evF (ev a) acc
    evFs r x
/-- and, or as values: of truth values -/
def evB : BoolOp → Es → Mo Bool
  | _, .nil => fail
  | _, .cons a .nil => do
    let d ← ev a
    asB d
  | .And, .cons a r => do
    let d ← ev a
    let k ← asB d
    if k = true then evB .And r else pure false
  | .Or, .cons a r => do
    let d ← ev a
    let k ← asB d
    if k = true then pure true else evB .Or r
def evTB : BoolOp → Ts → Mo Bool
  | _, .nil => fail
  | _, .cons a .nil => evT a
  | .And, .cons a r => do
    let k ← evT a
    if k = true then evTB .And r else pure false
  | .Or, .cons a r => do
    let k ← evT a
    if k = true then pure true else evTB .Or r
/-- the ifs of a comprehension -/
def evTs : Ts → Mo Bool
  | .nil => pure true
  | .cons a .nil => evT a
  | _ => fail
def evI : I → Mo Src
  | .p1 .seq a => mSeq (ev a)
  | .p1 .rng a => mR1 (ev a)
  | .p1 .enum a => mEnum (ev a)
  | .p2 .zip a b => mZip (ev a) (ev b)
  | .p2 .rng a b => mR2 (ev a) (ev b)
end

/-! ### statements -/
def raiseM {α : Type} (c : Str) (fs : List (Str × D)) : Mo α := fun ρ S => .ex c fs ρ S
/-- raise C(..) -/
def mRaise {α : Type} (P : Prov) (c : Str) (as : Mo (List D)) : Mo α := match P.xas c with
  | some (n, xs) => do
    let ds ← as
    if ds.length = n then do
      let fs ← ofO (xaFs xs ds [])
      raiseM c fs
    else fail
  | none => fail
def forL (f : D → Mo Fl) : List D → Mo Fl
  | [] => pure .nx
  | d :: ds => do
    let r ← f d
    match r with
    | .nx => forL f ds
    | .ct => forL f ds
    | .bk => pure .nx
    | .ret v => pure (.ret v)
def forX (f : D → Mo Fl) (x : Nat) : Nat → Nat → Mo Fl
  | 0, _ => fail
  | n + 1, i => do
    let c ← look (.ref x)
    match c with
    | .lst ds => (match ds[i]? with
      | none => pure .nx
      | some d => do
        let r ← f d
        match r with
        | .nx => forX f x n (i + 1)
        | .ct => forX f x n (i + 1)
        | .bk => pure .nx
        | .ret v => pure (.ret v))
    | _ => fail
def forRun (f : D → Mo Fl) : Src → Mo Fl
  | .fix ds => forL f ds
  | .dyn x => forX f x FUEL 0
def whlN (t : Mo Bool) (b : Mo Fl) : Nat → Mo Fl
  | 0 => fail
  | n + 1 => do
    let k ← t
    if k = true then do
      let r ← b
      match r with
      | .nx => whlN t b n
      | .ct => whlN t b n
      | .bk => pure .nx
      | .ret v => pure (.ret v)
    else pure .nx
def slotI (i : Nat) : Mo Int := fun ρ S => match ρ[i]? with
  | some (.v (.int p)) => .ok p ρ S
  | _ => .bad
def mAug (i : Nat) (b : Mo D) : Mo Fl := do
  let p ← slotI i
  let y ← b >>= settle
  let q ← ofO (asI y)
  setSlot i (.int (p + q))
  pure .nx
/-- an operand that is kept: an object just made stays so -/
def keep : D → Mo D
  | .sl i => frz i
  | d => pure d
def mPar (i j : Nat) (a b : Mo D) : Mo Fl := do
  let x ← a >>= keep
  let y ← b >>= keep
  setSlot i x
  setSlot j y
  pure .nx
mutual
inductive S where
  | pass | expr (e : E) | ret (e : E) | retN | set (i : Nat) (e : E) | setC (i : Nat) (own : List Nat) (tg : G) (it : I) (cs : Ts) (e : E) | par (i j : Nat) (a b : E)
  | setDcd (i : Nat) (own : List Nat) (tg : G) (k : DK) (p : Pa) (cs : Ts) (kx vx : E) | ford (g : G) (k : DK) (p : Pa) (b : Ss)
  | asgAt (i : Nat) (f g : Str) (e : E) | asg (g : G) (e : E) | setIx (o i e : E) | setAt (f : Str) (o e : E) | aug (i : Nat) (e : E)
  | ite (t : T) (a b : Ss) | forr (g : G) (it : I) (b : Ss) | whl (t : T) (b : Ss) | brk | cont
  | raise (c : Str) (es : Es) | never
inductive Ss where
  | nil | cons (a : S) (r : Ss)
end
mutual
def exS : S → Mo Fl
  | .pass => pure .nx
  | .expr e => do
    let _ ← ev P e
    pure .nx
  | .ret e => do
    let d ← ev P e >>= persist
    pure (.ret d)
  | .retN => pure (.ret .non)
  | .set i e => do
    let d ← ev P e
    setSlot i d
    pure .nx
  | .setC i own tg it cs e => do
    let d ← mLc own tg (evI P it) (evTs P cs) (ev P e)
    setSlot i d
    pure .nx
  | .par i j a b => mPar i j (ev P a) (ev P b)
  | .setDcd i own tg k p cs kx vx => do
    let d ← mDcD P own tg k p (evTs P cs) (ev P kx) (ev P vx)
    setSlot i d
    pure .nx
  | .ford g k p b => do
    let kvs ← paM P p
    noex (forL (fun d => do
      gSet g d
      exSs b) (dsrc k kvs))
  | .asg g e => do
    let d ← ev P e >>= persist
    gSet g d
    pure .nx
  | .asgAt i f g e => do
    let d ← ev P e >>= persist
    let ds ← itemsM d
    match ds with
    | [a, b] => do
      let x ← ev P (.var i) >>= settle
      modC x fun z => putAt P f z a
      let y ← ev P (.var i) >>= settle
      modC y fun z => putAt P g z b
      pure .nx
    | _ => fail
  | .setIx o i e => do
    let d ← ev P e >>= persist
    let x ← ev P o >>= settle
    let y ← ev P i >>= settle
    let c ← look y
    modC x fun z => putIx z c d
    pure .nx
  | .setAt f o e => do
    let d ← ev P e >>= persist
    let x ← ev P o >>= settle
    modC x fun z => putAt P f z d
    pure .nx
  | .aug i e => mAug i (ev P e)
  | .ite t a b => do
    let k ← evT P t
    if k = true then exSs a else exSs b
  | .forr g it b => do
    let s ← evI P it
    forRun (fun d => do
      gSet g d
      exSs b) s
  | .whl t b => whlN (evT P t) (exSs b) FUEL
  | .brk => pure .bk
  | .cont => pure .ct
  | .raise c es => mRaise P c (evs P es)
  | .never => fail
def exSs : Ss → Mo Fl
  | .nil => pure .nx
  | .cons a r => do
    let f ← exS a
    match f with
    | .nx => exSs r
    | f => pure f
end
end
end TM
end
section
set_option Elab.async false
set_option linter.all false
set_option maxRecDepth 100000
set_option maxHeartbeats 1000000
/-! FW4: an object held; defs' promises; the context. -/
namespace TM
open PySem PySem.Spec PyProof.Rows L2

/-! ### an object in the hand -/
theorem ScrOk.upd {T : Tab} {H : Hp} {θ : List Addr} {a : Addr} {o : HO} (s : ScrOk T H θ) (h : H a = none) : ScrOk T (L2.upd H a o) θ := fun b is hb => (s b is hb).imp (fun ⟨q, n⟩ => ⟨by
  rcases q with q | ⟨u, q⟩
  · exact .inl (by rw [upd_ne (ne_of_none q h)]; exact q)
  · exact .inr ⟨u, by rw [upd_ne (ne_of_none q h)]; exact q⟩, n⟩) id
def Base.hold (B : Base) (a : Addr) (o : HO) : Base := ⟨upd B.H a o, B.θ, fun b => b = a ∨ B.pr b, B.me⟩
section
variable {T : Tab} {B : Base} {G G' : Hp} {θ θ' : List Addr} {σ : L2.St} {H H' : Hp} {ρ ρ' : Rho} {S S' : Sto} {a : Addr} {o : HO}
theorem Sim.hold (s : Sim T B G θ σ H ρ S) (h1 : H a = some o) (h2 : G a = none) (h3 : a ∉ θ) (h4 : B.H a = none) (h5 : ∀ (i : Nat) (e : D), ρ[i]? = some (.own e) → σ[i]? ≠ some (some (.ref a))) : Sim T (B.hold a o) G θ σ H ρ S := by
  refine ⟨s.scr.upd h4, s.sub, fun b u e n => ?_, s.le, s.nd, s.len, s.sto, fun b hb n => ?_, s.slen, s.val, fun i d h => ?_, fun b hb => ?_, s.apart, ⟨s.x.gt, s.x.tabs, s.x.me⟩⟩
  · have e' : upd B.H a o b = some u := e
    by_cases hb : b = a
    · rw [hb, upd_same] at e'; cases e'; rw [hb]; exact .inl h1
    · rw [upd_ne hb] at e'; exact s.frame b u e' n
  · show upd B.H a o b = none
    rw [upd_ne (show b ≠ a from fun e => h3 (by rw [← e]; exact hb))]
    exact s.fresh b hb n
  · obtain ⟨b, u, e1, e2, e3, e4, e5, e6⟩ := s.own i d h
    refine ⟨b, u, e1, e2, e3, e4, e5, ?_⟩
    show upd B.H a o b = none
    rw [upd_ne (show b ≠ a from fun e => h5 i d h (by rw [e1, e]))]
    exact e6
  · have l : a ∉ B.θ := fun z => h3 (s.le.mem z)
    rcases hb with hb | hb
    · rw [hb]; exact ⟨h2, ⟨o, upd_same⟩, l⟩
    · obtain ⟨g, ⟨u, q⟩, t⟩ := s.prot b hb
      refine ⟨g, ⟨u, ?_⟩, t⟩
      show upd B.H a o b = some u
      rw [upd_ne (show b ≠ a from fun e => by rw [e, h4] at q; cases q)]; exact q
theorem Sim.unhold (s : Sim T (B.hold a o) G θ σ H ρ S) (nt : NT o) (h4 : B.H a = none) (np : ¬ B.pr a) (hs : ScrOk T B.H B.θ) : Sim T B G θ σ H ρ S ∧ H a = some o ∧ G a = none ∧ a ∉ θ ∧ ∀ (i : Nat) (e : D), ρ[i]? = some (.own e) → σ[i]? ≠ some (some (.ref a)) := by
  obtain ⟨g, _, t⟩ := s.prot a (.inl rfl)
  have at_ : upd B.H a o a = some o := upd_same
  have nθ : a ∉ θ := fun z => by
    have q : upd B.H a o a = none := s.fresh a z t
    rw [at_] at q; cases q
  have ne : ∀ {b : Addr}, upd B.H a o b = none → b ≠ a ∧ B.H b = none := fun {b} q => by
    have hb : b ≠ a := fun e => by rw [e, at_] at q; cases q
    rw [upd_ne hb] at q; exact ⟨hb, q⟩
  refine ⟨⟨hs, s.sub, fun b u e n => ?_, s.le, s.nd, s.len, s.sto, fun b hb n => (ne (s.fresh b hb n)).2, s.slen, s.val, fun i d h => ?_, fun b hb => ?_, s.apart, ⟨s.x.gt, s.x.tabs, s.x.me⟩⟩, (s.frame a o at_ t).nt nt, g, nθ, fun i e h z => ?_⟩
  · refine s.frame b u ?_ n
    show upd B.H a o b = some u
    rw [upd_ne (show b ≠ a from fun q => by rw [q, h4] at e; cases e)]; exact e
  · obtain ⟨b, u, e1, e2, e3, e4, e5, e6⟩ := s.own i d h
    exact ⟨b, u, e1, e2, e3, e4, e5, (ne e6).2⟩
  · obtain ⟨g', ⟨u, q⟩, t'⟩ := s.prot b (.inr hb)
    refine ⟨g', ?_, t'⟩
    by_cases hba : b = a
    · exact absurd (hba ▸ hb) np
    · have q' : upd B.H a o b = some u := q
      rw [upd_ne hba] at q'
      exact ⟨u, q'⟩
  · obtain ⟨b, u, e1, e2, e3, e4, e5, e6⟩ := s.own i e h
    rw [z] at e1
    cases e1
    exact (ne e6).1 rfl
theorem Run.hold {W : L2.WX} {α : Type} {m : Mo α} {P : α → Hp → List Addr → Hp → Rho → Sto → Prop} (h : Run T B W m G θ σ ρ S P) (nt : NT o) (h4 : B.H a = none) (np : ¬ B.pr a) (hs : ScrOk T B.H B.θ) :
    Run T (B.hold a o) W m G θ σ ρ S fun x G' θ' H' ρ' S' => (H' a = some o ∧ G' a = none ∧ a ∉ θ' ∧ ∀ (i : Nat) (e : D), ρ'[i]? = some (.own e) → σ[i]? ≠ some (some (.ref a))) ∧ Sim T B G' θ' σ H' ρ' S' ∧ P x G' θ' H' ρ' S' := by
  unfold Run at h ⊢
  cases e : m ρ S with
  | ok x ρ' S' =>
    rw [e] at h
    intro G' θ' H' l t s
    obtain ⟨s1, s2⟩ := s.unhold nt h4 np hs
    exact ⟨s2, s1, h G' θ' H' l t s1⟩
  | ex c fs ρ' S' =>
    rw [e] at h
    exact fun G' θ' H' cls dx l t s x => h G' θ' H' cls dx l t (s.unhold nt h4 np hs).1 x
  | bad => rw [e] at h; exact h
theorem Sim.notPr (s : Sim T B G θ σ H ρ S) (h4 : B.H a = none) : ¬ B.pr a := fun h => by
  obtain ⟨_, ⟨o, e⟩, _⟩ := s.prot a h
  rw [h4] at e; cases e
end

/-! ### what a def promises -/
def StoOk (T : Tab) (G : Hp) (θ : List Addr) (H : Hp) (S : Sto) : Prop :=
  θ.Nodup ∧ S.length = θ.length ∧ (∀ (n : Nat) (a : Addr) (c : Cell), θ[n]? = some a → S[n]? = some c → G a = none ∧ ∃ o, Ob T G θ o c.d ∧ (if c.lk = true then Lk o ∧ ∃ ob, H a = some (.frz ob o) else H a = some o)) ∧ ScrOk T H θ ∧ (∀ a o, G a = some o → NT o) ∧ LamX.Tabs T.tabs H
structure Kept (G : Hp) (θ : List Addr) (H : Hp) (G' : Hp) (θ' : List Addr) (H' : Hp) : Prop where
  le : Le G G'
  lt : Lt θ θ'
  heap : ∀ a o, H a = some o → a ∉ θ → Stay o (H' a)
  new : ∀ a, a ∈ θ' → a ∉ θ → H a = none
  out : ∀ a o, H a = some o → G a = none → a ∉ θ → G' a = none
def spOf (T : Tab) (f : List D → Sto → Rc) : Sp := fun vs H Q E => ∃ G θ S ds, Sub G H ∧ StoOk T G θ H S ∧ RepL T G θ vs ds ∧ (match f ds S with
  | .ok d S' => ∀ v H' G' θ', Kept G θ H G' θ' H' → Sub G' H' → StoOk T G' θ' H' S' → Rep T G' θ' v d → Q v H'
  | .ex c fs S' => ∀ cls dx H' G' θ', Kept G θ H G' θ' H' → Sub G' H' → StoOk T G' θ' H' S' → XRep T G' θ' H' c fs cls dx → E cls dx H'
  | .bad => False)
def xaV (ws : List V) : XA → Option V
  | .par j => ws[j]?
  | .txt x => some (.str x)
def xaVs : List (Str × XA) → List V → List (Str × V) → Option (List (Str × V))
  | [], _, fs => some fs
  | (f, x) :: r, ws, fs => (xaV ws x).bind fun v => xaVs r ws ((f, v) :: fs)
/-- the exception at a as far as it is made -/
def XMade (C a : Addr) (H1 : Hp) (fs : List (Str × V)) (H : Hp) : Prop :=
  (fs = [] ∧ H a = some (exo a C none) ∧ ∀ b, b ≠ a → H b = H1 b) ∨ ∃ d, H a = some (exo a C (some d)) ∧ H d = some (exd d fs) ∧ H1 d = none ∧ d ≠ a ∧ ∀ b, b ≠ a → b ≠ d → H b = H1 b
/-- what an exception's __init__ promises -/
def spX (C : Addr) (xs : List (Str × XA)) (np : Nat) : Sp := fun vs H Q _ => ∃ a ws H1 vfs, vs = V.ref a :: ws ∧ ws.length + 1 = np ∧ H = upd H1 a (exo a C none) ∧ H1 a = none ∧ xaVs xs ws [] = some vfs ∧ ∀ H', XMade C a H1 vfs H' → Q .non H'
/-- what an __init__ promises, called with the new instance at x, whose dict is at dx -/
def spInit (T : Tab) (c : Str) (f : List D → Sto → Rc) : Sp := fun vs H Q E => ∃ x dx A ws H1 G θ S ds, vs = V.ref x :: ws ∧ T.cls c = some A ∧ H1 x = none ∧ H1 dx = none ∧ dx ≠ x ∧ H = upd (upd H1 dx (.own x)) x (.ins A dx []) ∧ Sub G H1 ∧ StoOk T G θ H1 S ∧ RepL T G θ ws ds ∧
  (match f ds S with
  | .ok d S' => ∀ H' G' θ' o, Kept G θ H1 G' θ' H' → Sub G' H' → StoOk T G' θ' H' S' → H' x = some o → Ob T G' θ' o d → G' x = none → x ∉ θ' → Q .non H'
  | .ex c fs S' => ∀ cls dx H' G' θ', Kept G θ H1 G' θ' H' → Sub G' H' → StoOk T G' θ' H' S' → XRep T G' θ' H' c fs cls dx → E cls dx H'
  | .bad => False)
section
variable {T : Tab} {B : Base} {G G' : Hp} {θ θ' : List Addr} {σ : L2.St} {H H' : Hp} {ρ ρ' : Rho} {S S' : Sto} {W : L2.WX}
theorem Sim.stoOk (s : Sim T B G θ σ H ρ S) : StoOk T G θ H S := ⟨s.nd, s.len, s.sto, fun a is h => (s.scr a is h).imp (fun ⟨q, n⟩ => ⟨q.imp (fun q => (s.frame _ _ q n).nt True.intro) (fun ⟨o, q⟩ => ⟨o, (s.frame _ _ q n).nt True.intro⟩), fun z => by
  have f := s.fresh a z n
  rcases q with q | ⟨o, q⟩ <;> (rw [f] at q; cases q)⟩) id, s.x.gt, s.x.tabs⟩
theorem Sim.notin (s : Sim T B G θ σ H ρ S) {a : Addr} {o : HO} (h : B.H a = some o) (n : a ∉ B.θ) : a ∉ θ := fun z => by
  rw [s.fresh a z n] at h; cases h
/-- behind a call -/
theorem Sim.after (s : Sim T B G θ σ H ρ S) (k : Kept G θ H G' θ' H') (sb : Sub G' H') (st : StoOk T G' θ' H' S') : Sim T B G' θ' σ H' ρ S' := by
  have stay : ∀ {a : Addr} {o : HO}, Stay o (H a) → a ∉ θ → Stay o (H' a) := fun {a o} h n => by
    rcases h with h | ⟨ps, ps', rfl, h⟩
    · exact k.heap a o h n
    · rcases k.heap a _ h n with q | ⟨p1, p2, e1, q⟩
      · exact .inr ⟨ps, ps', rfl, q⟩
      · exact .inr ⟨ps, p2, rfl, q⟩
  refine ⟨s.scr, sb, fun a o e n => stay (s.frame a o e n) (s.notin e n), s.le.trans k.lt, st.1, st.2.1, st.2.2.1, fun a ha n => ?_, s.slen, fun i d h => ?_, fun i d h => ?_, fun a ha => ?_, s.apart, ⟨st.2.2.2.2.1, st.2.2.2.2.2, s.x.me⟩⟩
  · by_cases hm : a ∈ θ
    · exact s.fresh a hm n
    · cases q : B.H a with
      | none => rfl
      | some o =>
        exact absurd (k.new a ha hm) (s.frame a o q n).some
  · obtain ⟨v, h1, h2⟩ := s.val i d h
    exact ⟨v, h1, h2.mono k.le k.lt⟩
  · obtain ⟨a, o, h1, h2, h3, h4, h5, h6⟩ := s.own i d h
    refine ⟨a, o, h1, (k.heap a o h2 h5).nt h3.nt, h3.mono k.le k.lt, k.out a o h2 h4 h5, fun z => ?_, h6⟩
    have z := k.new a z h5
    rw [h2] at z; cases z
  · obtain ⟨g, ⟨o, q⟩, t⟩ := s.prot a ha
    rcases s.frame a o q t with z | ⟨ps, ps', _, z⟩
    · exact ⟨k.out a o z g (s.notin q t), ⟨o, q⟩, t⟩
    · exact ⟨k.out a _ z g (s.notin q t), ⟨o, q⟩, t⟩
/-- the call, from the caller's run -/
theorem Run.call {f : List D → Sto → Rc} {ds : List D} {vs : List V} {P : D → Hp → List Addr → Hp → Rho → Sto → Prop} (h : Run T B W (callM (f ds)) G θ σ ρ S P) (s : Sim T B G θ σ H ρ S) (r : RepL T G θ vs ds) {Q : VK}
    (q : ∀ d G' θ' H' S', Le G G' → Lt θ θ' → Sim T B G' θ' σ H' ρ S' → P d G' θ' H' ρ S' → ∀ v, Rep T G' θ' v d → Q v H') : spOf T f vs H Q (WE W σ) := by
  refine ⟨G, θ, S, ds, s.sub, s.stoOk, r, ?_⟩
  unfold Run callM at h
  cases e : f ds S with
  | ok d S' =>
    rw [e] at h
    intro v H' G' θ' k sb st rv
    have s2 := s.after k sb st
    exact q d G' θ' H' S' k.le k.lt s2 (h G' θ' H' k.le k.lt s2) v rv
  | ex c fs S' =>
    rw [e] at h
    intro cls dx H' G' θ' k sb st x
    exact h G' θ' H' cls dx k.le k.lt (s.after k sb st) x
  | bad => rw [e] at h; exact h
/-- the entry of a def's body -/
def entry (G : Hp) (θ : List Addr) (H : Hp) : Base := ⟨H, θ, fun a => (∃ o, H a = some o) ∧ G a = none ∧ a ∉ θ, none⟩
def startR (n : Nat) (ds : List D) : Rho := ds.map Sl.v ++ List.replicate (n - ds.length) .no
theorem startR_get {n : Nat} {ds : List D} {i : Nat} {x : Sl} (h : (startR n ds)[i]? = some x) : (∃ d, ds[i]? = some d ∧ x = .v d) ∨ x = .no := by
  unfold startR at h
  by_cases hi : i < ds.length
  · rw [List.getElem?_append_left (by simpa using hi), List.getElem?_map] at h
    cases e : ds[i]? with
    | none => rw [e] at h; cases h
    | some d => rw [e] at h; cases h; exact .inl ⟨d, rfl, rfl⟩
  · rw [List.getElem?_append_right (by simpa using hi), List.getElem?_replicate] at h
    split at h
    · cases h; exact .inr rfl
    · cases h
theorem Sim.start {N : List Str} {vs : List V} {ds : List D} (sb : Sub G H) (st : StoOk T G θ H S) (r : RepL T G θ vs ds) : Sim T (entry G θ H) G θ (L2.start N vs) H (startR N.length ds) S := by
  have hl := r.length
  refine ⟨st.2.2.2.1, sb, fun a o e _ => .inl e, Lt.refl _, st.1, st.2.1, st.2.2.1, fun a h n => absurd h n, ?_, fun i d h => ?_, fun i d h => ?_, fun a h => ⟨h.2.1, h.1, h.2.2⟩, fun i j d e a h _ _ _ => ?_, ⟨st.2.2.2.2.1, st.2.2.2.2.2, fun m hm => nomatch hm⟩⟩
  · unfold L2.start startR
    simp only [List.length_append, List.length_map, List.length_replicate, hl]
  · rcases startR_get h with ⟨d', e, q⟩ | q
    · cases q
      obtain ⟨v, h1, h2⟩ := r.get e
      refine ⟨v, ?_, h2⟩
      unfold L2.start
      rw [List.getElem?_append_left (by simpa using (List.getElem?_eq_some_iff.mp h1).1), List.getElem?_map, h1]
      rfl
    · cases q
  · rcases startR_get h with ⟨d', e, q⟩ | q <;> cases q
  · rcases startR_get h with ⟨d', e, q⟩ | q <;> cases q
/-- the end of a def's body -/
theorem Sim.kept (s : Sim T (entry G θ H) G' θ' σ H' ρ S') (l : Le G G') (t : Lt θ θ') : Kept G θ H G' θ' H' where
  le := l
  lt := t
  heap := fun a o e n => s.frame a o e n
  new := fun a h n => s.fresh a h n
  out := fun a o e g n => (s.prot a ⟨⟨o, e⟩, g, n⟩).1
end
/-- a def, run -/
def runDef (P : Prov) (n np : Nat) (b : Ss) (ds : List D) (S : Sto) : Rc :=
  if ds.length = np then (match exSs P b (startR n ds) S with
    | .ok .nx _ S' => .ok .non S'
    | .ok (.ret d) _ S' => .ok d S'
    | .ex c fs _ S' => .ex c fs S'
    | _ => .bad) else .bad

section
variable {prog : Program} {w : World} {K : PySem.W.Frag} {mg : Str → Option Value} {base : Heap}
/-- THE RULE for a def: its body by the interpreter -/
theorem def_ok {T : Tab} {P : Prov} {x qual : Str} {params : Arguments} {body : List Stmt} {scope : Scope} {dvs : List V} {kws : List (Str × V)} {f : Addr} {fd : FuncData} {N ps : List Str} {k : Nat} {b : Ss}
    (F : FunD K x qual params body scope dvs kws f fd) (Sc : FnScope N ps scope)
    (hbody : ∀ (X : Cx) (W : L2.WX) (B : Base), X.calm = true → X.K = K → X.mg = mg → X.base = base → X.prog = prog → X.w = w → X.N = N → X.env.scope = scope → X.stack = X.env :: X.outer → X.env.frame = some X.env.locals → (∀ y, X.fn y = true) → Room k X.A → Takes X W → PassesOwn (model X.prog X.w) X.A X.env X.xe → PSs X body (liftS T B W (exSs P b))) :
    FnOk prog w K mg base (L2.CX prog w) (k + 1) f fd ps (spOf T (runDef P N.length ps.length b)) := by
  refine F.ok Sc (fun vs H Q E h => ?_) (fun cdv A outer s H vs Q E hr h => ?_)
  · obtain ⟨G, θ, S, ds, _, _, r, h⟩ := h
    by_cases hl : ds.length = ps.length
    · rw [r.length, hl]
    · unfold runDef at h
      rw [if_neg hl] at h
      exact h.elim
  · obtain ⟨G, θ, S, ds, sb, st, r, h⟩ := h
    have tk : Takes (cxOf (L2.CX prog w) prog w K mg base N qual scope f cdv A outer s H E) (fun cls d _ H => E cls d H) := takes_of rfl rfl rfl rfl
    have pw := passes_of (X := cxOf (L2.CX prog w) prog w K mg base N qual scope f cdv A outer s H E) rfl
    refine ⟨_, hbody (cxOf (L2.CX prog w) prog w K mg base N qual scope f cdv A outer s H E) (fun cls d _ H => E cls d H) (entry G θ H) rfl rfl rfl rfl rfl rfl rfl rfl rfl rfl (fun _ => rfl) hr tk pw, ?_⟩
    refine ⟨G, θ, startR N.length ds, S, Sim.start sb st r, ?_⟩
    have hl : ds.length = ps.length := by
      by_cases hl : ds.length = ps.length
      · exact hl
      · unfold runDef at h
        rw [if_neg hl] at h
        exact h.elim
    unfold runDef at h
    rw [if_pos hl] at h
    unfold RunS
    cases e : exSs P b (startR N.length ds) S with
    | ok fl ρ' S' =>
      rw [e] at h
      cases fl with
      | nx => exact fun G' θ' σ' H' l t s' => h .non H' G' θ' (s'.kept l t) s'.sub s'.stoOk .non
      | ret d => exact fun G' θ' σ' H' l t s' v rv => h v H' G' θ' (s'.kept l t) s'.sub s'.stoOk rv
      | bk => exact h.elim
      | ct => exact h.elim
    | ex c fs ρ' S' =>
      rw [e] at h
      exact fun G' θ' σ' H' cls dx l t s' x => h cls dx H' G' θ' (s'.kept l t) s'.sub s'.stoOk x
    | bad => rw [e] at h; exact h
end
end TM
end
section
set_option Elab.async false
set_option linter.all false
set_option maxRecDepth 100000
set_option maxHeartbeats 2000000
/-! FW5: operators, comparisons, subscripts, built-in calls by values. -/
namespace TM
open PySem PySem.Spec PyProof.Rows L2

section
variable (T : Tab) (B : Base) (W : L2.WX)
/-- what is wanted behind an expression's value -/
def PV (σ : L2.St) (Q : VK) : D → Hp → List Addr → Hp → Rho → Sto → Prop := fun d G' θ' H' ρ' _ => ∀ v, TRep T B G' θ' σ H' ρ' v d → Q v H'
def r1P (sem : D → Mo D) : V → Hp → VK → Prop := fun x H Q => ∃ σ G θ ρ S c, Sim T B G θ σ H ρ S ∧ View T G θ H x c ∧ Run T B W (sem c) G θ σ ρ S (PV T B σ Q)
def r2P (sem : D → D → Mo D) : R2 := fun x y H Q => ∃ σ G θ ρ S c c', Sim T B G θ σ H ρ S ∧ View T G θ H x c ∧ View T G θ H y c' ∧ Run T B W (sem c c') G θ σ ρ S (PV T B σ Q)
def rC1 (sem : D → Mo D) : List V → Hp → VK → Prop := fun xs H Q => ∃ x, xs = [x] ∧ r1P T B W sem x H Q
def rC2 (sem : D → D → Mo D) : List V → Hp → VK → Prop := fun xs H Q => ∃ x y, xs = [x, y] ∧ r2P T B W sem x y H Q
end
section
variable {T : Tab} {B : Base} {W : L2.WX} {X : Cx} {G G' : Hp} {θ θ' : List Addr} {σ : L2.St} {H H' : Hp} {ρ : Rho} {S : Sto} {Q : VK}
theorem fin {d : D} {v : V} (r : Run T B W (pure d) G θ σ ρ S (PV T B σ Q)) (s : Sim T B G θ σ H ρ S) (t : Rep T G θ v d) : Q v H := r.pure' s v (.of (.of t))
theorem finNew {c : D} {o : HO} (r : Run T B W (pure (.nw c)) G θ σ ρ S (PV T B σ Q)) (s : Sim T B G θ σ H ρ S) (t : Ob T G θ o c) : ∀ p, H p = none → Q (.ref p) (upd H p o) := fun p hp => by
  obtain ⟨s2, t2⟩ := s.fresh_nw hp t
  exact r.pure' s2 _ t2
theorem finTup {ds : List D} {xs : List V} (r : Run T B W (pure (.tup ds)) G θ σ ρ S (PV T B σ Q)) (s : Sim T B G θ σ H ρ S) (t : RepL T G θ xs ds) : ∀ p, H p = none → Q (.ref p) (upd H p (.tup xs)) := fun p hp => by
  obtain ⟨l, s2⟩ := s.alloc (o := .tup xs) True.intro hp
  exact r.pure l (Lt.refl _) s2 _ (.of (.of (.tup upd_same (t.mono l (Lt.refl _)))))
/-- from a reading of an expression with two operands -/
theorem w2 {ma mb : Mo D} {sem : D → D → Mo D} (h : liftE T B W (do
    let x ← ma
    let y ← mb
    let c ← look x
    let c' ← look y
    sem c c') σ H Q) : tOp (r2P T B W sem) (liftO T B W ma) (liftO T B W mb) σ H Q := by
  obtain ⟨G, θ, ρ, S, s, r⟩ := h
  refine ⟨G, θ, ρ, S, s, r.bind.imp fun x G1 θ1 H1 ρ1 S1 l1 t1 s1 r1 v1 o1 => ⟨G1, θ1, ρ1, S1, s1, r1.bind.imp fun y G2 θ2 H2 ρ2 S2 l2 t2 s2 r2 v2 o2 => ?_⟩⟩
  obtain ⟨c, hc, r3⟩ := r2.look
  obtain ⟨c', hc', r4⟩ := r3.look
  exact ⟨σ, G2, θ2, ρ2, S2, c, c', s2, s2.view (o1.mono l2 t2) hc, s2.view o2 hc', r4⟩
theorem w1 {ma : Mo D} {sem : D → Mo D} {K : V → Hp → VK → Prop} (k : ∀ x H Q, r1P T B W sem x H Q → K x H Q) (h : liftE T B W (do
    let x ← ma
    let c ← look x
    sem c) σ H Q) : liftO T B W ma σ H fun x H1 => K x H1 Q := by
  obtain ⟨G, θ, ρ, S, s, r⟩ := h
  refine ⟨G, θ, ρ, S, s, r.bind.imp fun x G1 θ1 H1 ρ1 S1 l1 t1 s1 r1 v1 o1 => k _ _ _ ?_⟩
  obtain ⟨c, hc, r3⟩ := r1.look
  exact ⟨σ, G1, θ1, ρ1, S1, c, s1, s1.view o1 hc, r3⟩
theorem OpR.imp {f : Value → Value → Sem Value} {r r' : R2} (h : OpR X f r) (k : ∀ x y H Q, r' x y H Q → r x y H Q) : OpR X f r' := fun pins s σ H x y v u Q I rx ry q => h pins s σ H x y v u Q I rx ry (k x y H Q q)
theorem UnR.imp {f : Value → Sem Value} {r r' : V → Hp → VK → Prop} (h : UnR X f r) (k : ∀ x H Q, r' x H Q → r x H Q) : UnR X f r' := fun pins s σ H x v Q I rx q => h pins s σ H x v Q I rx (k x H Q q)
theorem CallR.imp {f : Value} {r r' : List V → Hp → VK → Prop} (h : CallR X f r) (k : ∀ x H Q, r' x H Q → r x H Q) : CallR X f r' := fun pins s σ H x us Q I rx q => h pins s σ H x us Q I rx (k x H Q q)
theorem fits_iff {n : Nat} (h : fits n = true) : n ≤ sizeLine := by
  have := of_decide_eq_true h
  rw [sizeLine_eq]; exact this

theorem rep_rep {vs : List V} {ds : List D} (r : RepL T G θ vs ds) : ∀ n : Nat, RepL T G θ (List.replicate n vs).flatten (List.replicate n ds).flatten
  | 0 => .nil
  | n + 1 => by
    rw [List.replicate_succ, List.replicate_succ, List.flatten_cons, List.flatten_cons]
    exact r.append (rep_rep r n)
theorem flat_len {α : Type} (xs : List α) : ∀ n : Nat, (List.replicate n xs).flatten.length = xs.length * n
  | 0 => rfl
  | n + 1 => by
    rw [List.replicate_succ, List.flatten_cons, List.length_append, flat_len xs n, Nat.mul_succ, Nat.add_comm]
theorem fold_app (c : Array Nat) : ∀ (n : Nat) (acc : Array Nat), List.foldl (· ++ ·) acc (List.replicate n c) = (acc.toList ++ (List.replicate n c.toList).flatten).toArray
  | 0, acc => by simp
  | n + 1, acc => by
    rw [List.replicate_succ, List.foldl_cons, fold_app c n, List.replicate_succ, List.flatten_cons]
    simp
theorem mul_txt (x : Str) (n : Int) : PySem.Txt.mul x n = ⟨(rep n x.cps.toList).toArray⟩ := by
  unfold PySem.Txt.mul rep
  by_cases h1 : n < 1
  · rw [if_pos h1, show n.toNat = 0 by omega]; rfl
  · rw [if_neg h1]
    by_cases h2 : (n == 1 || x.length == 0) = true
    · rw [if_pos h2]
      rcases Bool.or_eq_true_iff.mp h2 with h | h
      · rw [show n = 1 by simpa using h]
        show x = ⟨(List.replicate 1 x.cps.toList).flatten.toArray⟩
        simp
      · have hx : x.cps = #[] := by
          have : x.cps.size = 0 := by
            have h : x.length = 0 := by simpa using h
            exact h
          exact Array.eq_empty_of_size_eq_zero this
        cases x with
        | mk cps =>
          simp only at hx
          subst hx
          simp
    · rw [if_neg h2, fold_app]
      simp
theorem op_mulS : OpR X (binaryOp .Mult) (fun x y H Q => ∃ z n, x = .str z ∧ y = .int n ∧ 0 ≤ n ∧ n < 1000000 ∧ z.length * n.toNat ≤ 16777216 ∧ Q (.str ⟨(rep n z.cps.toList).toArray⟩) H) := by
  intro pins s σ H x y v u Q I rx ry h
  obtain ⟨z, n, rfl, rfl, h0, h1, h2, q⟩ := h
  obtain ⟨t, rfl⟩ := rx
  obtain ⟨t', rfl⟩ := ry
  refine PySem.SB.mul ⟨?_, fun g1 g2 => ?_, fun g1 g2 => ?_⟩ fun t2 k => ⟨.str _, H, I.tok k, ⟨t2, by rw [mul_txt]⟩, q⟩
  · simp only [Bool.or_eq_false_iff, decide_eq_false_iff_not]
    omega
  · have e : n = (n.toNat : Int) := by omega
    have hp : 0 < n.toNat := by omega
    have g : z.length ≤ 16777216 := by
      have := Nat.le_mul_of_pos_right z.length hp
      omega
    have h3 : (z.length : Int) ≤ (2 ^ 63 - 1) / n := by
      rw [Int.le_ediv_iff_mul_le (by omega)]
      have h4 : ((z.length * n.toNat : Nat) : Int) ≤ 16777216 := Int.ofNat_le.mpr h2
      rw [Int.natCast_mul, ← e] at h4
      omega
    omega
  · show decide (z.length * n.toNat > sizeLine) = false
    rw [sizeLine_eq]
    exact decide_eq_false (by omega)
theorem opP (o : Operator) : OpR X (binaryOp o) (r2P T B W fun c c' => ofO (opD o c c')) := by
  intro pins s σ H x y v u Q I rx ry ⟨σ', G, θ, ρ, S, c, c', sm, vx, vy, r⟩
  obtain ⟨d, hd, r2⟩ := r.ofO'
  unfold opD at hd
  split at hd
  · cases hd
    cases vx.int; cases vy.int
    exact op_add pins s σ H _ _ v u Q I rx ry ⟨_, _, rfl, rfl, fin r2 sm (.int _)⟩
  · split at hd
    · rename_i hf
      cases hd
      cases vx.str; cases vy.str
      exact op_add_str pins s σ H _ _ v u Q I rx ry ⟨_, _, rfl, rfl, fits_iff hf, fin r2 sm (.str _)⟩
    · cases hd
  · split at hd
    · rename_i hf
      cases hd
      obtain ⟨a, xs, rfl, ha, ra⟩ := vx.lst sm.sub
      obtain ⟨b, ys, rfl, hb, rb⟩ := vy.lst sm.sub
      refine op_cat pins s σ H _ _ v u Q I rx ry ⟨a, b, xs, ys, rfl, rfl, ha.plain (fun z => z), hb.plain (fun z => z), ?_, finNew r2 sm (.lst (ra.append rb))⟩
      rw [ra.length, rb.length]; exact fits_iff hf
    · cases hd
  · cases hd
    cases vx.int; cases vy.int
    exact op_sub pins s σ H _ _ v u Q I rx ry ⟨_, _, rfl, rfl, fin r2 sm (.int _)⟩
  · split at hd
    · rename_i hf
      cases hd
      cases vy.int
      obtain ⟨a, xs, rfl, ha, ra⟩ := vx.lst sm.sub
      exact op_rep pins s σ H _ _ v u Q I rx ry ⟨a, _, xs, rfl, rfl, ha.plain (fun z => z), hf.1, hf.2.1, by rw [ra.length]; exact fits_iff hf.2.2, finNew r2 sm (.lst (rep_rep ra _))⟩
    · cases hd
  · split at hd
    · rename_i hf
      cases hd
      cases vx.str; cases vy.int
      exact op_mulS pins s σ H _ _ v u Q I rx ry ⟨_, _, rfl, rfl, hf.1, hf.2.1, of_decide_eq_true hf.2.2, fin r2 sm (.str _)⟩
    · cases hd
  · split at hd
    · rename_i hf
      cases hd
      cases vx.int; cases vy.int
      refine op_mul pins s σ H _ _ v u Q I rx ry ⟨_, _, rfl, rfl, ?_, fin r2 sm (.int _)⟩
      unfold mulOk at hf
      rcases Bool.or_eq_true_iff.mp hf with z | z
      · exact .inl (of_decide_eq_true z)
      · exact .inr (of_decide_eq_true z)
    · cases hd
  · split at hd
    · cases hd
    · rename_i hf
      cases hd
      cases vx.int; cases vy.int
      exact op_modN pins s σ H _ _ v u Q I rx ry ⟨_, _, rfl, rfl, hf, fin r2 sm (.int _)⟩
  · split at hd
    · rename_i hf
      cases hd
      cases vx.int; cases vy.int
      exact op_fdivN pins s σ H _ _ v u Q I rx ry ⟨_, _, rfl, rfl, hf, fin r2 sm (.int _)⟩
    · cases hd
  · split at hd
    · rename_i hf
      cases hd
      cases vx.int; cases vy.int
      exact op_pow pins s σ H _ _ v u Q I rx ry ⟨_, _, rfl, rfl, hf, fin r2 sm (.int _)⟩
    · cases hd
  · cases hd

/-! ### comparisons -/
theorem cmpP0 (o : CmpOp) : OpR X (compareOp o) (r2P T B W fun c c' => ofO (cmpD0 o c c')) := by
  intro pins s σ H x y v u Q I rx ry ⟨σ', G, θ, ρ, S, c, c', sm, vx, vy, r⟩
  obtain ⟨d, hd, r2⟩ := r.ofO'
  unfold cmpD0 at hd
  split at hd
  · cases hd
    cases vx.int; cases vy.int
    exact op_lt pins s σ H _ _ v u Q I rx ry ⟨_, _, rfl, rfl, fin r2 sm (.bl _)⟩
  · cases hd
    cases vx.int; cases vy.int
    exact op_le pins s σ H _ _ v u Q I rx ry ⟨_, _, rfl, rfl, fin r2 sm (.bl _)⟩
  · cases hd
    cases vx.int; cases vy.int
    exact op_gt pins s σ H _ _ v u Q I rx ry ⟨_, _, rfl, rfl, fin r2 sm (.bl _)⟩
  · cases hd
    cases vx.int; cases vy.int
    exact op_ge pins s σ H _ _ v u Q I rx ry ⟨_, _, rfl, rfl, fin r2 sm (.bl _)⟩
  · obtain ⟨b, hb, rfl⟩ := Option.map_eq_some_iff.mp hd
    unfold scalD at hb
    split at hb
    · cases hb
      cases vx.int; cases vy.int
      refine op_eq pins s σ H _ _ v u Q I rx ry ⟨rfl, ?_⟩
      rw [dec_int, ← Bool.beq_eq_decide_eq] at *
      exact fin r2 sm (.bl _)
    · cases hb
      cases vx.str; cases vy.str
      refine op_eq pins s σ H _ _ v u Q I rx ry ⟨rfl, ?_⟩
      rw [dec_str, ← Bool.beq_eq_decide_eq] at *
      exact fin r2 sm (.bl _)
    · cases hb
      cases vx.bl; cases vy.bl
      refine op_eq pins s σ H _ _ v u Q I rx ry ⟨rfl, ?_⟩
      rw [dec_bl, ← Bool.beq_eq_decide_eq] at *
      exact fin r2 sm (.bl _)
    · cases hb
      cases vx.non; cases vy.non
      refine op_eq pins s σ H _ _ v u Q I rx ry ⟨rfl, ?_⟩
      exact fin r2 sm (.bl _)
    · cases hb
  · obtain ⟨b, hb, rfl⟩ := Option.map_eq_some_iff.mp hd
    unfold scalD at hb
    split at hb
    · cases hb
      cases vx.int; cases vy.int
      refine op_ne pins s σ H _ _ v u Q I rx ry ⟨rfl, ?_⟩
      rw [dec_int, ← Bool.beq_eq_decide_eq] at *
      exact fin r2 sm (.bl _)
    · cases hb
      cases vx.str; cases vy.str
      refine op_ne pins s σ H _ _ v u Q I rx ry ⟨rfl, ?_⟩
      rw [dec_str, ← Bool.beq_eq_decide_eq] at *
      exact fin r2 sm (.bl _)
    · cases hb
      cases vx.bl; cases vy.bl
      refine op_ne pins s σ H _ _ v u Q I rx ry ⟨rfl, ?_⟩
      rw [dec_bl, ← Bool.beq_eq_decide_eq] at *
      exact fin r2 sm (.bl _)
    · cases hb
      cases vx.non; cases vy.non
      refine op_ne pins s σ H _ _ v u Q I rx ry ⟨rfl, ?_⟩
      exact fin r2 sm (.bl _)
    · cases hb
  · cases hd
    cases vx.non; cases vy.non
    exact op_isN pins s σ H _ _ v u Q I rx ry ⟨rfl, fin r2 sm (.bl _)⟩
  · cases hd
    cases vy.non
    refine op_isN pins s σ H _ _ v u Q I rx ry ⟨rfl, ?_⟩
    rename_i hn
    rw [decide_eq_false (fun e => ?_)]
    · exact fin r2 sm (.bl _)
    · subst e
      cases vx with
      | of r _ => cases r; exact hn rfl
  · cases hd
    cases vx.non; cases vy.non
    exact op_notN pins s σ H _ _ v u Q I rx ry ⟨rfl, fin r2 sm (.bl _)⟩
  · cases hd
    cases vy.non
    refine op_notN pins s σ H _ _ v u Q I rx ry ⟨rfl, ?_⟩
    rename_i hn
    rw [decide_eq_false (fun e => ?_)]
    · exact fin r2 sm (.bl _)
    · subst e
      cases vx with
      | of r _ => cases r; exact hn rfl
  · cases hd

/-! ### subscripts, slices -/
theorem SqL.ofRl {K : PySem.W.Frag} {a : Addr} {xs : List V} (h : Rl H a (.lst xs)) : SqL K H a xs := .inl h.rd
theorem atI_rep {vs : List V} {ds : List D} (r : RepL T G θ vs ds) {i : Int} {d : D} (h : atI ds i = some d) : ∃ v, atI vs i = some v ∧ Rep T G θ v d := by
  unfold atI at h ⊢
  rw [r.length]
  cases e : ixN ds.length i with
  | none => rw [e] at h; cases h
  | some j =>
    rw [e] at h
    obtain ⟨v, h1, h2⟩ := r.get (show ds[j]? = some d from h)
    exact ⟨v, h1, h2⟩
theorem cut_rep {vs : List V} {ds : List D} (r : RepL T G θ vs ds) (lo hi : Option Int) : RepL T G θ (cutV vs lo hi) (cutD ds lo hi) := by
  unfold cutV cutD
  rw [r.length]
  exact (r.drop _).take _
theorem find_rep {κ : Type} [DecidableEq κ] : ∀ {kvs : List (κ × V)} {kds : List (κ × D)} {k : κ} {d : D}, kvs.map (·.1) = kds.map (·.1) → RepL T G θ (kvs.map (·.2)) (kds.map (·.2)) → (kds.find? fun kv => decide (kv.1 = k)).map (·.2) = some d →
    ∃ v, valV kvs k = some v ∧ Rep T G θ v d
  | [], [], k, d, _, _, h => by cases h
  | [], _ :: _, _, _, e, _, _ => by cases e
  | _ :: _, [], _, _, e, _, _ => by cases e
  | (k1, v1) :: kvs, (k2, d2) :: kds, k, d, e, r, h => by
    have e1 : k1 = k2 := (List.cons.inj e).1
    have e2 := (List.cons.inj e).2
    subst e1
    cases r with
    | cons r1 r2 =>
      by_cases hk : k1 = k
      · rw [List.find?_cons_of_pos (by simpa using hk)] at h
        cases h
        exact ⟨v1, valV_pos hk, r1⟩
      · rw [List.find?_cons_of_neg (by simpa using hk)] at h
        rw [valV_neg hk]
        exact find_rep e2 r2 h
theorem asKey_of {y : V} {c : D} {k : Key} (v : View T G θ H y c) (h : asKey c = some k) : y = kV k := by
  unfold asKey at h
  split at h
  · cases h; exact v.int
  · cases h; exact v.str
  · cases h
theorem subD_val {value slice : Expr} {pins : List (Addr × Obj)} {s : Shared} {a : Addr} {y w : V} {u : Value} (hu : X.A.units + 1 < cLine) (I : Inv X pins σ H s) (g : DGet H a y (some w)) (ry : RelV y u)
    (hs : subscripted slice false (.ref a) u = operate [.ref a, u] (getItem (.ref a) u)) (q : Q w H) : wpAny (model X.prog X.w) X.A (subscriptTail value slice (.ref a) u) (EP X pins σ Q) X.xe s :=
  tail_any (ops := [.ref a, u]) (dict_typeIs I g) PySem.F.slot_dict_getitem.lookup (d_getItem hu I g ry fun w' s3 I3 rw' => ⟨w, H, I3, rw', q⟩) hs
theorem View.wd {v : V} {x : Wd} (h : View T G θ H v (.wd x)) : ∃ a, v = .ref a ∧ T.wd a x := by
  cases h with
  | of r _ => cases r; rename_i h; exact ⟨_, rfl, h⟩
  | ob _ o => cases o
theorem wv_rep {x : Wv} {v : V} (h : WvOk T.wd x v) : Rep T G θ v (wvD x) := by
  cases x with
  | int i => cases (show v = V.int i from h); exact .int i
  | str z => cases (show v = V.str z from h); exact .str z
  | nums is => obtain ⟨b, rfl, hb⟩ := (show ∃ b, v = .ref b ∧ T.wd b (.nums is) from h); exact .wd hb
theorem ixP (hu : X.A.units + 1 < cLine) (hK : X.K = T.K) (hw : X.w = T.w) : IxR X (r2P T B W fun c c' => ofO (idxD c c')) := by
  intro value slice pins s σ H x y v u Q I rx ry ⟨σ', G, θ, ρ, S, c, c', sm, vx, vy, r⟩ hs
  obtain ⟨d, hd, r2⟩ := r.ofO'
  unfold idxD at hd
  split at hd
  · rename_i l z
    obtain ⟨x, hx, rfl⟩ := Option.map_eq_some_iff.mp hd
    cases vy.str
    obtain ⟨a, rfl, ha⟩ := vx.wd
    have q := T.wo _ _ ha z
    rw [hx] at q
    obtain ⟨v0, kd, _, wv⟩ := q
    exact ix_kdict value slice pins s σ H _ _ v u Q I rx ry ⟨a, z, v0, rfl, rfl, by rw [hK, hw]; exact kd, fin r2 sm (wv_rep wv)⟩ hs
  · rename_i l i j
    obtain ⟨x, hx, rfl⟩ := Option.map_eq_some_iff.mp hd
    obtain ⟨b, ys, rfl, hb, rb⟩ := vy.tup sm.sub
    obtain ⟨a, rfl, ha⟩ := vx.wd
    obtain ⟨xs, dd, gets⟩ := T.wo _ _ ha
    obtain ⟨p, v0, hp, rv, wv⟩ := gets i j x hx
    cases rx
    cases ry
    cases rb with
    | cons r1 rb => cases rb with
      | cons r2' rb => cases rb with
        | nil =>
          cases r1
          cases r2'
          have inK : T.K.In s.heap := by rw [← hK]; exact I.kIn
          have hb' : H b = some (.tup ([.inl i, .inl j].map kV)) := hb
          exact tail_any (dd X.prog s.heap inK).typeIs PySem.F.slot_dict_getitem.lookup (wpAny_getItem_heap (tupleKind_room_in1 hu) (key_of I.hok hb') (by rw [hw]; exact dd X.prog s.heap inK) hp ⟨v0, H, I.tok _, rv, fin r2 sm (wv_rep wv)⟩) hs
  · cases vy.int
    obtain ⟨a, xs, rfl, ha, ra⟩ := vx.lst sm.sub
    obtain ⟨w, h1, h2⟩ := atI_rep ra hd
    exact ix_list value slice pins s σ H _ _ v u Q I rx ry ⟨a, xs, _, w, rfl, rfl, SqL.ofRl ha, h1, fin r2 sm h2⟩ hs
  · cases vy.int
    obtain ⟨a, xs, rfl, ha, ra⟩ := vx.tup sm.sub
    obtain ⟨w, h1, h2⟩ := atI_rep ra hd
    exact ix_tup value slice pins s σ H _ _ v u Q I rx ry ⟨a, xs, _, w, rfl, rfl, SqT.of ha, h1, fin r2 sm h2⟩ hs
  · split at hd
    · rename_i hf
      obtain ⟨ch, hc, rfl⟩ := Option.map_eq_some_iff.mp hd
      cases vx.str; cases vy.int
      exact ix_str value slice pins s σ H _ _ v u Q I rx ry ⟨_, _, ch, rfl, rfl, fits_iff hf, hc, fin r2 sm (.str _)⟩ hs
    · cases hd
  · obtain ⟨k, hk, hg⟩ := Option.bind_eq_some_iff.mp hd
    obtain ⟨a, kvs, rfl, ha, hks, ra⟩ := vx.dct sm.sub
    obtain ⟨w, h1, h2⟩ := find_rep (k := k) hks ra hg
    cases rx
    have e := asKey_of vy hk
    subst e
    have g : DGet H a (kV k) (some w) := .inl ⟨kvs, _, ha.rd, rfl, h1.symm⟩
    exact subD_val hu I g ry hs (fin r2 sm h2)
  · cases hd
/-! ### ==, in -/
theorem Dp.of_rep (K : PySem.W.Frag) (sb : Sub G H) {v : V} {d : D} (r : Rep T G θ v d) : ∀ {p : PyData}, toPy d = some p → Dp K H v p := by
  refine Rep.rec (motive_1 := fun v d _ => ∀ {p : PyData}, toPy d = some p → Dp K H v p) (motive_2 := fun vs ds _ => ∀ {ps : List PyData}, toPys ds = some ps → DpAll K H vs ps) ?_ ?_ ?_ ?_ ?_ ?_ ?_ ?_ ?_ ?_ ?_ ?_ ?_ ?_ ?_ ?_ ?_ r
  · intro p h; simp only [toPy] at h; cases h; exact .non
  · intro b p h; simp only [toPy] at h; cases h; exact .bl b
  · intro b p h; simp only [toPy] at h; cases h; exact .int b
  · intro b p h; simp only [toPy] at h; cases h; exact .str b
  · intro a xs ds hG _ ih p h
    simp only [toPy] at h
    obtain ⟨ps, h1, rfl⟩ := Option.map_eq_some_iff.mp h
    exact .lst (SqL.ofRl (sb _ _ hG)) (ih h1)
  · intro a xs ds hG _ ih p h
    simp only [toPy] at h
    obtain ⟨ps, h1, rfl⟩ := Option.map_eq_some_iff.mp h
    exact .tup (SqT.of ((sb _ _ hG).plain fun z => z)) (ih h1)
  all_goals first
    | (intros; rename_i h; simp [toPy] at h; done)
    | skip
  · intro ps h; simp only [toPys] at h; cases h; exact .nil
  · intro v vs d ds _ _ i1 i2 ps h
    simp only [toPys] at h
    obtain ⟨p, h1, h2⟩ := Option.bind_eq_some_iff.mp h
    obtain ⟨ps', h3, rfl⟩ := Option.map_eq_some_iff.mp h2
    exact .cons (i1 h1) (i2 h3)
theorem dpAll_of (K : PySem.W.Frag) (sb : Sub G H) : ∀ {vs : List V} {ds : List D} {ps : List PyData}, RepL T G θ vs ds → toPys ds = some ps → DpAll K H vs ps
  | _, _, _, .nil, h => by simp only [toPys] at h; cases h; exact .nil
  | _, _, _, .cons a b, h => by
    simp only [toPys] at h
    obtain ⟨p, h1, h2⟩ := Option.bind_eq_some_iff.mp h
    obtain ⟨ps', h3, rfl⟩ := Option.map_eq_some_iff.mp h2
    exact .cons (Dp.of_rep K sb a h1) (dpAll_of K sb b h3)
theorem Dp.of_view (K : PySem.W.Frag) (sb : Sub G H) {v : V} {d : D} (r : View T G θ H v d) {p : PyData} (h : toPy d = some p) : Dp K H v p := by
  cases r with
  | of r _ => exact Dp.of_rep K sb r h
  | ob hr ob =>
    cases ob with
    | lst rl =>
      simp only [toPy] at h
      obtain ⟨ps, h1, rfl⟩ := Option.map_eq_some_iff.mp h
      exact .lst (SqL.ofRl hr) (dpAll_of K sb rl h1)
    | dct _ _ => simp [toPy] at h
    | dctT _ _ => simp [toPy] at h
    | ins _ _ _ => simp [toPy] at h
theorem flat_rep {v : V} {d : D} (r : Rep T G θ v d) (h : flatD d = true) : flatV v = true := by
  cases r <;> first | rfl | cases h
theorem eqF_rep {v w : V} {d e : D} (r : Rep T G θ v d) (r2 : Rep T G θ w e) (h : flatD d = true) (h2 : flatD e = true) : eqV v w = eqFD d e := by
  cases r <;> first
    | (cases r2 <;> first | rfl | cases h2)
    | cases h
theorem flats_rep : ∀ {vs : List V} {ds : List D}, RepL T G θ vs ds → ds.all flatD = true → vs.all flatV = true
  | _, _, .nil, _ => rfl
  | _, _, .cons a b, h => by
    simp only [List.all_cons, Bool.and_eq_true] at h ⊢
    exact ⟨flat_rep a h.1, flats_rep b h.2⟩
theorem any_rep {w : V} {e : D} (r2 : Rep T G θ w e) (h2 : flatD e = true) : ∀ {vs : List V} {ds : List D}, RepL T G θ vs ds → ds.all flatD = true → inV w vs = ds.any fun y => eqFD y e
  | _, _, .nil, _ => rfl
  | _, _, .cons (v := v) (vs := vs) a b, h => by
    simp only [List.all_cons, Bool.and_eq_true] at h
    have i := any_rep r2 h2 b h.2
    unfold inV at i ⊢
    rw [List.any_cons, List.any_cons, i, eqF_rep a r2 h.1 h2]
theorem View.flat {v : V} {d : D} (r : View T G θ H v d) (h : flatD d = true) : Rep T G θ v d := by
  cases r with
  | of r _ => exact r
  | ob _ ob => cases ob <;> cases h
theorem some_keys {k : Key} : ∀ {kvs : List (Key × V)} {kds : List (Key × D)}, kvs.map (·.1) = kds.map (·.1) → (getKD kds k).isSome = (valV kvs k).isSome
  | [], [], _ => rfl
  | [], _ :: _, e => by cases e
  | _ :: _, [], e => by cases e
  | p :: kvs, q :: kds, e => by
    have e1 : p.1 = q.1 := (List.cons.inj e).1
    have e2 := (List.cons.inj e).2
    have ih := some_keys (k := k) e2
    by_cases hk : q.1 = k
    · rw [valV_pos (e1.trans hk)]
      unfold getKD
      rw [List.find?_cons_of_pos (by simpa using hk)]
      rfl
    · rw [valV_neg (fun z => hk (e1.symm.trans z)), ← ih]
      unfold getKD
      rw [List.find?_cons_of_neg (by simpa using hk)]
/-- in a written dict -/
def InK (T : Tab) (x y : V) (b : Bool) : Prop := ∃ a z l, y = .ref a ∧ x = .str z ∧ T.wd a (.kd l) ∧ b = (l.lookup z).isSome
theorem kd_map {prog : Program} {w : World} (hw : w = T.w) {h : Heap} {a : Addr} {l : List (Str × Wv)} (ha : T.wd a (.kd l)) (hk : T.K.In h) (z : Str) : (a == sysModules) = false ∧ ∃ f, h.MapOf (strKind prog w) a f ∧ (f z).isSome = (l.lookup z).isSome := by
  subst hw
  have q := T.wo _ _ ha z
  cases e : l.lookup z with
  | some x =>
    rw [e] at q
    obtain ⟨v, ⟨es, n, u, k1, k2, k3, _⟩, low, _⟩ := q
    exact ⟨low, _, PySem.W.mapOf_K hk k1 k2, by rw [PySem.W.find_K k1 k3]; rfl⟩
  | none =>
    rw [e] at q
    obtain ⟨es, n, k1, k2, low, k3⟩ := q
    exact ⟨low, _, PySem.W.mapOf_K hk k1 k2, by rw [PySem.W.find_K k1 k3]; rfl⟩
theorem inP {x y : V} {c c' : D} {b : Bool} (sb : Sub G H) (vx : View T G θ H x c) (vy : View T G θ H y c') (h : inD c c' = some b) :
    (∃ k z, x = .str ⟨#[k]⟩ ∧ y = .str z ∧ b = decide (k ∈ z.cps.toList)) ∨ (∃ p xs, y = .ref p ∧ (SqL X.K H p xs ∨ SqT X.K H p xs) ∧ flatV x = true ∧ xs.all flatV = true ∧ b = inV x xs) ∨ (∃ a o, y = .ref a ∧ DGet H a x o ∧ b = o.isSome) ∨ InK T x y b := by
  unfold inD at h
  split at h
  · cases h; cases vx.str; cases vy.str
    exact .inl ⟨_, _, rfl, rfl, rfl⟩
  · split at h
    · rename_i hc
      cases h
      obtain ⟨h1, h2⟩ := Bool.and_eq_true_iff.mp hc
      obtain ⟨a, xs, rfl, ha, ra⟩ := vy.lst sb
      have rx := vx.flat h1
      exact .inr (.inl ⟨a, xs, rfl, .inl (SqL.ofRl ha), flat_rep rx h1, flats_rep ra h2, (any_rep rx h1 ra h2).symm⟩)
    · cases h
  · split at h
    · rename_i hc
      cases h
      obtain ⟨h1, h2⟩ := Bool.and_eq_true_iff.mp hc
      obtain ⟨a, xs, rfl, ha, ra⟩ := vy.tup sb
      have rx := vx.flat h1
      exact .inr (.inl ⟨a, xs, rfl, .inr (SqT.of ha), flat_rep rx h1, flats_rep ra h2, (any_rep rx h1 ra h2).symm⟩)
    · cases h
  · obtain ⟨k, hk, rfl⟩ := Option.map_eq_some_iff.mp h
    obtain ⟨a, kvs, rfl, ha, hks, ra⟩ := vy.dct sb
    have e := asKey_of vx hk
    subst e
    exact .inr (.inr (.inl ⟨a, valV kvs k, rfl, .inl ⟨kvs, k, ha.rd, rfl, rfl⟩, some_keys hks⟩))
  · cases h
    cases vx.str
    obtain ⟨a, rfl, ha⟩ := vy.wd
    exact .inr (.inr (.inr ⟨a, _, _, rfl, rfl, ha, rfl⟩))
  · cases h
theorem cmpP (hu : X.A.units + 64 < cLine) (hK : X.K = T.K) (hw : X.w = T.w) (o : CmpOp) : OpR X (compareOp o) (r2P T B W fun c c' => ofO (cmpD o c c')) := by
  have h0 : OpR X (compareOp o) (r2P T B W fun c c' => ofO (cmpD0 o c c')) := cmpP0 o
  have eqs : ∀ {σ' : L2.St} {G : Hp} {θ : List Addr} {H : Hp} {ρ : Rho} {S : Sto} {x y : V} {c c' : D} {b : Bool}, Sim T B G θ σ' H ρ S → View T G θ H x c → View T G θ H y c' → eqD c c' = some b → scalD c c' = some b ∨ ∃ d e, Dp X.K H x d ∧ Dp X.K H y e ∧ SeqAt.shaped d = true ∧ SeqAt.shaped e = true ∧ b = PyData.eqv d e := fun {σ' G θ H ρ S x y c c' b} s vx vy h => by
    unfold eqD at h
    cases hs : scalD c c' with
    | some b' => rw [hs] at h; exact .inl h
    | none =>
      rw [hs] at h
      simp only at h
      obtain ⟨p, h1, h2⟩ := Option.bind_eq_some_iff.mp h
      obtain ⟨q, h3, h4⟩ := Option.bind_eq_some_iff.mp h2
      split at h4
      · rename_i hh
        cases h4
        obtain ⟨g1, g2⟩ := Bool.and_eq_true_iff.mp hh
        exact .inr ⟨p, q, Dp.of_view _ s.sub vx h1, Dp.of_view _ s.sub vy h3, g1, g2, rfl⟩
      · cases h4
  cases o with
  | Eq =>
    intro pins s σ H x y v u Q I rx ry ⟨σ', G, θ, ρ, S, c, c', sm, vx, vy, r⟩
    obtain ⟨d, hd, r2⟩ := r.ofO'
    obtain ⟨b, hb, rfl⟩ := Option.map_eq_some_iff.mp (show (eqD c c').map (fun b => D.bl b) = some d from hd)
    rcases eqs sm vx vy hb with h | ⟨p, q, h1, h2, h3, h4, rfl⟩
    · refine h0 pins s σ H x y v u Q I rx ry ⟨σ', G, θ, ρ, S, c, c', sm, vx, vy, ?_⟩
      show Run T B W (ofO ((scalD c c').map fun b => D.bl b)) G θ σ' ρ S _
      rw [h]; exact r2
    · exact op_eqD hu pins s σ H x y v u Q I rx ry ⟨p, q, h1, h2, h3, h4, fin r2 sm (.bl _)⟩
  | NotEq =>
    intro pins s σ H x y v u Q I rx ry ⟨σ', G, θ, ρ, S, c, c', sm, vx, vy, r⟩
    obtain ⟨d, hd, r2⟩ := r.ofO'
    obtain ⟨b, hb, rfl⟩ := Option.map_eq_some_iff.mp (show (eqD c c').map (fun b => D.bl (!b)) = some d from hd)
    rcases eqs sm vx vy hb with h | ⟨p, q, h1, h2, h3, h4, rfl⟩
    · refine h0 pins s σ H x y v u Q I rx ry ⟨σ', G, θ, ρ, S, c, c', sm, vx, vy, ?_⟩
      show Run T B W (ofO ((scalD c c').map fun b => D.bl (!b))) G θ σ' ρ S _
      rw [h]; exact r2
    · exact op_neD hu pins s σ H x y v u Q I rx ry ⟨p, q, h1, h2, h3, h4, fin r2 sm (.bl _)⟩
  | In =>
    intro pins s σ H x y v u Q I rx ry ⟨σ', G, θ, ρ, S, c, c', sm, vx, vy, r⟩
    obtain ⟨d, hd, r2⟩ := r.ofO'
    obtain ⟨b, hb, rfl⟩ := Option.map_eq_some_iff.mp (show (inD c c').map (fun b => D.bl b) = some d from hd)
    rcases inP (X := X) sm.sub vx vy hb with ⟨k, z, rfl, rfl, rfl⟩ | ⟨p, xs, rfl, h1, h2, h3, rfl⟩ | ⟨a, o, rfl, g, rfl⟩ | ⟨a, z, l, rfl, rfl, ha, rfl⟩
    · exact op_in_sign pins s σ H _ _ v u Q I rx ry ⟨k, z, rfl, rfl, fin r2 sm (.bl _)⟩
    · exact op_in_seq pins s σ H _ _ v u Q I rx ry ⟨p, xs, rfl, h1, h2, h3, fin r2 sm (.bl _)⟩
    · cases ry
      exact d_in (by omega) I g rx fun s' I' => ⟨.bl _, H, I', rfl, fin r2 sm (.bl _)⟩
    · cases ry
      obtain ⟨t, rfl⟩ := rx
      obtain ⟨low, f, mp, e⟩ := kd_map (prog := X.prog) hw ha (by rw [← hK]; exact I.kIn) z
      exact wpAny_in_of (strKind_is X.prog X.w z t) low mp ⟨.bl _, H, I.tok _, rfl, by rw [e]; exact fin r2 sm (.bl _)⟩
  | NotIn =>
    intro pins s σ H x y v u Q I rx ry ⟨σ', G, θ, ρ, S, c, c', sm, vx, vy, r⟩
    obtain ⟨d, hd, r2⟩ := r.ofO'
    obtain ⟨b, hb, rfl⟩ := Option.map_eq_some_iff.mp (show (inD c c').map (fun b => D.bl (!b)) = some d from hd)
    rcases inP (X := X) sm.sub vx vy hb with ⟨k, z, rfl, rfl, rfl⟩ | ⟨p, xs, rfl, h1, h2, h3, rfl⟩ | ⟨a, o, rfl, g, rfl⟩ | ⟨a, z, l, rfl, rfl, ha, rfl⟩
    · exact op_notIn_sign pins s σ H _ _ v u Q I rx ry ⟨k, z, rfl, rfl, fin r2 sm (.bl _)⟩
    · exact op_notIn_seq pins s σ H _ _ v u Q I rx ry ⟨p, xs, rfl, h1, h2, h3, fin r2 sm (.bl _)⟩
    · cases ry
      exact d_notIn (by omega) I g rx fun s' I' => ⟨.bl _, H, I', rfl, fin r2 sm (.bl _)⟩
    · cases ry
      obtain ⟨t, rfl⟩ := rx
      obtain ⟨low, f, mp, e⟩ := kd_map (prog := X.prog) hw ha (by rw [← hK]; exact I.kIn) z
      exact wpAny_notIn_of (strKind_is X.prog X.w z t) low mp ⟨.bl _, H, I.tok _, rfl, by rw [e]; exact fin r2 sm (.bl _)⟩
  | Lt => exact h0
  | LtE => exact h0
  | Gt => exact h0
  | GtE => exact h0
  | Is => exact h0
  | IsNot => exact h0
end
end TM
end
section
set_option Elab.async false
set_option linter.all false
set_option maxRecDepth 100000
set_option maxHeartbeats 2000000
/-! FW6: one operand's operations, calls of built-ins, slices, truth. -/
namespace TM
open PySem PySem.Spec PyProof.Rows L2

section
variable {T : Tab} {B : Base} {W : L2.WX} {P : Prov} {X : Cx} {G G' : Hp} {θ θ' : List Addr} {σ : L2.St} {H H' : Hp} {ρ : Rho} {S : Sto} {Q : VK}
/-! ### truth -/
theorem tru_view {v : V} {c : D} {b : Bool} (sb : Sub G H) (vx : View T G θ H v c) (h : truD c = some b) : TruV X.K v H b := by
  unfold truD at h
  split at h
  · cases h; cases vx.bl; rfl
  · cases h; cases vx.non; rfl
  · cases h; cases vx.int; rfl
  · split at h
    · rename_i hf
      cases h; cases vx.str
      refine ⟨fits_iff hf, ?_⟩
      rename_i z
      show (z.length != 0) = ((z.length : Int) != 0)
      cases z.length with
      | zero => rfl
      | succ n => simp; omega
    · cases h
  · cases h
    obtain ⟨a, xs, rfl, ha, ra⟩ := vx.lst sb
    refine .inl ⟨xs, SqL.ofRl ha, ?_⟩
    cases ra <;> rfl
  · cases h
    obtain ⟨a, xs, rfl, ha, ra⟩ := vx.tup sb
    refine .inr (.inl ⟨xs, SqT.of ha, ?_⟩)
    cases ra <;> rfl
  · cases h
/-- a test of a value -/
theorem pt_val' {a : Expr} {m : Mo D} (ha : PE X a (liftE T B W m)) (he : ∀ whole, isTrue a X.env whole = (do let v ← whole; standAt a.pos; holding [v] (truthy v))) : PT X a (liftT T B W (m >>= tst)) := by
  refine PT.imp (pt_truth (pe_O ha) he) fun σ H Q ⟨G, θ, ρ, S, s, r⟩ => ?_
  have r' : Run T B W ((m >>= settle) >>= fun x => look x >>= fun c => ofO (truD c)) G θ σ ρ S (fun b _ _ H' _ _ => Q b H') := by
    have e : ((m >>= settle) >>= fun x => look x >>= fun c => ofO (truD c)) = (m >>= tst) := by
      funext ρ S
      simp only [bind_def]
      cases m ρ S <;> rfl
    rw [e]; exact r
  refine ⟨G, θ, ρ, S, s, r'.bind.imp fun x G1 θ1 H1 ρ1 S1 l1 t1 s1 r1 v o => ?_⟩
  obtain ⟨c, hc, r2⟩ := r1.look
  obtain ⟨b, hb, r3⟩ := r2.ofO'
  exact ⟨b, tru_view s1.sub (s1.view o hc) hb, r3.pure' s1⟩

/-! ### one operand -/
theorem negP : UnR X (unaryOp .USub) (r1P T B W fun c => ofO (negD c)) := UnR.imp un_neg fun x H Q ⟨σ, G, θ, ρ, S, c, s, vx, r⟩ => by
  obtain ⟨d, hd, r2⟩ := r.ofO'
  unfold negD at hd
  split at hd
  · cases hd; cases vx.int; exact ⟨_, rfl, fin r2 s (.int _)⟩
  · cases hd
theorem len_dct : CallR X (.builtin "len") (fun xs H Q => ∃ a kvs, xs = [V.ref a] ∧ Rl H a (.dK kvs) ∧ Q (.int kvs.length) H) := by
  intro pins s σ H xs us Q I r q
  obtain ⟨a, kvs, ex, ha, q⟩ := q
  subst ex
  obtain ⟨u, eu, rx⟩ := vals1 r
  subst eu
  cases rx
  exact d_len I ha.rd fun t s' I' => ⟨.int _, H, I', ⟨t, rfl⟩, q⟩
theorem CallR.or {f : Value} {r r' : List V → Hp → VK → Prop} (h : CallR X f r) (h' : CallR X f r') : CallR X f (fun xs H Q => r xs H Q ∨ r' xs H Q) := fun pins s σ H xs us Q I rx q =>
  q.elim (h pins s σ H xs us Q I rx) (h' pins s σ H xs us Q I rx)
theorem lenP : CallR X (.builtin "len") (rC1 T B W fun c => ofO (lenD c)) := CallR.imp (CallR.or call_len len_dct) fun xs H Q ⟨x, e, σ, G, θ, ρ, S, c, s, vx, r⟩ => by
  subst e
  obtain ⟨d, hd, r2⟩ := r.ofO'
  unfold lenD at hd
  split at hd
  · rename_i kds
    cases hd
    obtain ⟨a, kvs, rfl, ha, hk, ra⟩ := vx.dct s.sub
    have hl : kvs.length = kds.length := by simpa using congrArg List.length hk
    exact .inr ⟨a, kvs, rfl, ha, by rw [hl]; exact fin r2 s (.int _)⟩
  · cases hd
    obtain ⟨a, xs, rfl, ha, ra⟩ := vx.lst s.sub
    exact .inl ⟨_, _, rfl, .inl ⟨xs, SqL.ofRl ha, rfl⟩, by rw [ra.length]; exact fin r2 s (.int _)⟩
  · cases hd
    obtain ⟨a, xs, rfl, ha, ra⟩ := vx.tup s.sub
    exact .inl ⟨_, _, rfl, .inr ⟨xs, SqT.of ha, rfl⟩, by rw [ra.length]; exact fin r2 s (.int _)⟩
  · split at hd
    · rename_i hf
      cases hd; cases vx.str
      exact .inl ⟨_, _, rfl, ⟨fits_iff hf, rfl⟩, fin r2 s (.int _)⟩
    · cases hd
  · cases hd
theorem intP : CallR X (.type "int") (rC1 T B W fun c => ofO (intD c)) := CallR.imp call_int1 fun xs H Q ⟨x, e, σ, G, θ, ρ, S, c, s, vx, r⟩ => by
  subst e
  obtain ⟨d, hd, r2⟩ := r.ofO'
  unfold intD at hd
  split at hd
  · cases hd; cases vx.bl; exact .inr ⟨_, rfl, fin r2 s (.int _)⟩
  · cases hd; cases vx.int; exact .inl ⟨_, rfl, fin r2 s (.int _)⟩
  · cases hd
theorem keys_rep : ∀ {kvs : List (Key × V)} {kds : List (Key × D)}, kvs.map (·.1) = kds.map (·.1) → RepL T G θ (kvs.map fun kv => kV kv.1) (kds.map fun kv => keyD kv.1)
  | [], [], _ => .nil
  | [], _ :: _, e => by cases e
  | _ :: _, [], e => by cases e
  | (k, v) :: kvs, (k', d) :: kds, e => by
    have e1 : k = k' := (List.cons.inj e).1
    have e2 := (List.cons.inj e).2
    subst e1
    refine .cons ?_ (keys_rep e2)
    cases k with
    | inl i => exact .int i
    | inr x => exact .str x
/-- list of a text -/
theorem call_listS (hc : X.calm = true) : CallR X (.type "list") (fun xs H Q => ∃ x : Str, xs = [.str x] ∧ x.length ≤ sizeLine ∧ ∀ l, H l = none → Q (.ref l) (upd H l (.lst (x.cps.toList.map fun c => V.str ⟨#[c]⟩)))) := by
  intro pins s σ H xs us Q I r h
  obtain ⟨x, rfl, hz, q⟩ := h
  obtain ⟨u, rfl, rx⟩ := vals1 r
  obtain ⟨t, rfl⟩ := rx
  refine PySem.call_list_str (I.ok.hd hc) x t (hn := hz) fun h' tk acc' c' hk hS items => ?_
  have rv : Vals (x.cps.toList.map fun c => V.str ⟨#[c]⟩) acc'.toList := vals_of_at (by simp [items.1]) fun j v w h1 h2 => by
    obtain ⟨c, u, hc, rfl⟩ := items.2 j w (by simpa using h2)
    simp only [List.getElem?_map, Array.getElem?_toList, hc, Option.map_some, Option.some.injEq] at h1
    subst h1
    exact ⟨u, rfl⟩
  exact ⟨.ref s.heap.objs.size, _, I.laid (t' := tk) hk (Nat.le_refl _) (show ObjOk X.prog X.w _ h' _ (.lst (x.cps.toList.map fun c => V.str ⟨#[c]⟩)) from ⟨by rw [List.length_map, Array.length_toList]; exact hz, acc'.toList, c', rv, by simpa using hS⟩), rfl, q _ (I.hok.fresh (Nat.le_refl _))⟩
theorem signs_rep {x : Str} : RepL T G θ (x.cps.toList.map fun c => V.str ⟨#[c]⟩) (signsD x) := by
  unfold signsD
  induction x.cps.toList with
  | nil => exact .nil
  | cons c cs ih => exact .cons (.str _) ih
theorem listP (hc : X.calm = true) : CallR X (.type "list") (rC1 T B W fun c => ofO (listD c)) := CallR.imp (CallR.or (call_listS hc) (CallR.or call_list_of (call_listD hc))) fun xs H Q ⟨x, e, σ, G, θ, ρ, S, c, s, vx, r⟩ => by
  subst e
  obtain ⟨d, hd, r2⟩ := r.ofO'
  unfold listD at hd
  split at hd
  · split at hd
    · rename_i hf
      cases hd
      cases vx.str
      exact .inl ⟨_, rfl, fits_iff hf, finNew r2 s (.lst signs_rep)⟩
    · cases hd
  · cases hd
    obtain ⟨a, xs, rfl, ha, ra⟩ := vx.lst s.sub
    exact .inr (.inl ⟨a, xs, rfl, .inl (SqL.ofRl ha), finNew r2 s (.lst ra)⟩)
  · cases hd
    obtain ⟨a, xs, rfl, ha, ra⟩ := vx.tup s.sub
    exact .inr (.inl ⟨a, xs, rfl, .inr (SqT.of ha), finNew r2 s (.lst ra)⟩)
  · cases hd
    obtain ⟨a, kvs, rfl, ha, hk, ra⟩ := vx.dct s.sub
    exact .inr (.inr ⟨a, kvs, rfl, ha.rd, finNew r2 s (.lst (keys_rep hk))⟩)
  · cases hd
theorem tupleP : CallR X (.type "tuple") (rC1 T B W fun c => ofO (tupD c)) := CallR.imp call_tuple_of fun xs H Q ⟨x, e, σ, G, θ, ρ, S, c, s, vx, r⟩ => by
  subst e
  obtain ⟨d, hd, r2⟩ := r.ofO'
  unfold tupD at hd
  split at hd
  · cases hd
    obtain ⟨a, xs, rfl, ha, ra⟩ := vx.lst s.sub
    exact ⟨a, xs, rfl, .inl ⟨SqL.ofRl ha, finTup r2 s ra⟩⟩
  · cases hd
    obtain ⟨a, xs, rfl, ha, ra⟩ := vx.tup s.sub
    refine ⟨a, xs, rfl, .inr ⟨SqT.of ha, ?_⟩⟩
    cases vx with
    | of r _ => exact fin r2 s r
    | ob _ ob => cases ob
  · cases hd
theorem dictP : CallR X (.type "dict") (rC1 T B W fun c => ofO (dctD c)) := CallR.imp call_dictD fun xs H Q ⟨x, e, σ, G, θ, ρ, S, c, s, vx, r⟩ => by
  subst e
  obtain ⟨d, hd, r2⟩ := r.ofO'
  unfold dctD at hd
  split at hd
  · cases hd
    obtain ⟨a, kvs, rfl, ha, hk, ra⟩ := vx.dct s.sub
    exact ⟨a, kvs, rfl, ha.rd, finNew r2 s (.dct hk ra)⟩
  · cases hd
theorem bls_rep : ∀ {vs : List V} {ds : List D} {bs : List Bool}, RepL T G θ vs ds → blsD ds = some bs → vs = bs.map V.bl
  | _, _, _, .nil, h => by cases h; rfl
  | _, d :: ds, bs, .cons r rs, h => by
    cases d with
    | bl b =>
      obtain ⟨bs', h1, rfl⟩ := Option.map_eq_some_iff.mp (show (blsD ds).map (fun is => b :: is) = some bs from h)
      cases r
      rw [bls_rep rs h1]; rfl
    | _ => cases h
theorem ints_rep : ∀ {vs : List V} {ds : List D} {bs : List Int}, RepL T G θ vs ds → intsD ds = some bs → vs = bs.map V.int
  | _, _, _, .nil, h => by cases h; rfl
  | _, d :: ds, bs, .cons r rs, h => by
    cases d with
    | int b =>
      obtain ⟨bs', h1, rfl⟩ := Option.map_eq_some_iff.mp (show (intsD ds).map (fun is => b :: is) = some bs from h)
      cases r
      rw [ints_rep rs h1]; rfl
    | _ => cases h
theorem strs_rep : ∀ {vs : List V} {ds : List D} {bs : List Str}, RepL T G θ vs ds → strsD ds = some bs → vs = bs.map V.str
  | _, _, _, .nil, h => by cases h; rfl
  | _, d :: ds, bs, .cons r rs, h => by
    cases d with
    | str b =>
      obtain ⟨bs', h1, rfl⟩ := Option.map_eq_some_iff.mp (show (strsD ds).map (fun is => b :: is) = some bs from h)
      cases r
      rw [strs_rep rs h1]; rfl
    | _ => cases h
theorem allP (hc : X.calm = true) : CallR X (.builtin "all") (rC1 T B W fun c => ofO (allD c)) := CallR.imp (cr_all hc) fun xs H Q ⟨x, e, σ, G, θ, ρ, S, c, s, vx, r⟩ => by
  subst e
  obtain ⟨d, hd, r2⟩ := r.ofO'
  unfold allD at hd
  split at hd
  · obtain ⟨bs, h1, rfl⟩ := Option.map_eq_some_iff.mp hd
    obtain ⟨a, xs, rfl, ha, ra⟩ := vx.lst s.sub
    exact ⟨a, bs, rfl, by rw [← bls_rep ra h1]; exact SqL.ofRl ha, fin r2 s (.bl _)⟩
  · cases hd
theorem anyP (hc : X.calm = true) : CallR X (.builtin "any") (rC1 T B W fun c => ofO (anyD c)) := CallR.imp (cr_any hc) fun xs H Q ⟨x, e, σ, G, θ, ρ, S, c, s, vx, r⟩ => by
  subst e
  obtain ⟨d, hd, r2⟩ := r.ofO'
  unfold anyD at hd
  split at hd
  · obtain ⟨bs, h1, rfl⟩ := Option.map_eq_some_iff.mp hd
    obtain ⟨a, xs, rfl, ha, ra⟩ := vx.lst s.sub
    exact ⟨a, bs, rfl, by rw [← bls_rep ra h1]; exact SqL.ofRl ha, fin r2 s (.bl _)⟩
  · cases hd
theorem sumP (hc : X.calm = true) : CallR X (.builtin "sum") (rC1 T B W fun c => ofO (sumD c)) := CallR.imp (cr_sum hc) fun xs H Q ⟨x, e, σ, G, θ, ρ, S, c, s, vx, r⟩ => by
  subst e
  obtain ⟨d, hd, r2⟩ := r.ofO'
  unfold sumD at hd
  split at hd
  · obtain ⟨bs, h1, rfl⟩ := Option.map_eq_some_iff.mp hd
    obtain ⟨a, xs, rfl, ha, ra⟩ := vx.lst s.sub
    exact ⟨a, bs, rfl, by rw [← ints_rep ra h1]; exact SqL.ofRl ha, fin r2 s (.int _)⟩
  · cases hd
/-! ### sorted -/
theorem rises_le : ∀ (x : Str) (r : List Str), risingS x r = true → (x :: r).Pairwise (fun a b => leS a b = true)
  | x, [], _ => by simp
  | x, y :: r, h => by
    obtain ⟨h1, h2⟩ := Bool.and_eq_true_iff.mp (show (!ltCps y.cps.toList x.cps.toList && risingS y r) = true from h)
    have ih := rises_le y r h2
    have hxy : leS x y = true := by
      rw [ltCps_eq] at h1
      unfold leS
      simp only [Bool.not_eq_true', decide_eq_false_iff_not] at h1
      exact decide_eq_true (List.not_lt.mp h1)
    refine List.pairwise_cons.mpr ⟨fun z hz => ?_, ih⟩
    rcases List.mem_cons.mp hz with rfl | hz
    · exact hxy
    · have q := (List.pairwise_cons.mp ih).1 z hz
      unfold leS at q hxy ⊢
      exact decide_eq_true (List.le_trans (of_decide_eq_true hxy) (of_decide_eq_true q))
theorem eq_sortS {ys xs : List Str} (hp : ys.Perm xs) (hs : sortedS ys = true) : ys = sortS xs := by
  have h1 : ys.Pairwise (fun a b => leS a b = true) := by
    cases ys with
    | nil => exact .nil
    | cons y r => exact rises_le y r hs
  have h2 : (sortS xs).Pairwise (fun a b => leS a b = true) := List.pairwise_mergeSort (fun a b c h h' => by
    unfold leS at h h' ⊢
    exact decide_eq_true (List.le_trans (of_decide_eq_true h) (of_decide_eq_true h'))) (fun a b => by
    unfold leS
    rcases List.le_total a.cps.toList b.cps.toList with q | q
    · simp [q]
    · simp [q]) xs
  refine List.Perm.eq_of_pairwise (fun a b _ _ h h' => ?_) h1 h2 (hp.trans (List.mergeSort_perm xs _).symm)
  unfold leS at h h'
  have q := List.le_antisymm (of_decide_eq_true h) (of_decide_eq_true h')
  cases a with
  | mk a => cases b with
    | mk b => exact congrArg Str.mk (Array.toList_inj.mp q)
theorem ints_back {is : List Int} : RepL T G θ (is.map V.int) (is.map D.int) := by
  induction is with
  | nil => exact .nil
  | cons i r ih => exact .cons (.int i) ih
theorem strs_back {is : List Str} : RepL T G θ (is.map V.str) (is.map D.str) := by
  induction is with
  | nil => exact .nil
  | cons i r ih => exact .cons (.str i) ih
theorem keysI_ok : ∀ {kvs : List (Key × V)} {kds : List (Key × D)} {is : List Int}, kvs.map (·.1) = kds.map (·.1) → keysI kds = some is → kvs.map (·.1) = is.map Sum.inl
  | kvs, [], is, e, h => by cases h; rw [e]; rfl
  | kvs, (.inl i, _) :: r, is, e, h => by
    obtain ⟨is', h1, rfl⟩ := Option.map_eq_some_iff.mp (show (keysI r).map (fun is => i :: is) = some is from h)
    rw [e]
    have := keysI_ok (kvs := r.map fun kd => (kd.1, V.non)) (kds := r) (by rw [List.map_map]; rfl) h1
    rw [List.map_map] at this
    simp only [List.map_cons]
    exact congrArg _ this
  | kvs, (.inr i, _) :: r, is, e, h => by cases h
theorem keysS_ok : ∀ {kvs : List (Key × V)} {kds : List (Key × D)} {is : List Str}, kvs.map (·.1) = kds.map (·.1) → keysS kds = some is → kvs.map (·.1) = is.map Sum.inr
  | kvs, [], is, e, h => by cases h; rw [e]; rfl
  | kvs, (.inr i, _) :: r, is, e, h => by
    obtain ⟨is', h1, rfl⟩ := Option.map_eq_some_iff.mp (show (keysS r).map (fun is => i :: is) = some is from h)
    rw [e]
    have := keysS_ok (kvs := r.map fun kd => (kd.1, V.non)) (kds := r) (by rw [List.map_map]; rfl) h1
    rw [List.map_map] at this
    simp only [List.map_cons]
    exact congrArg _ this
  | kvs, (.inl i, _) :: r, is, e, h => by cases h
theorem sortedP (hc : X.calm = true) : CallR X (.builtin "sorted") (rC1 T B W fun c => ofO (sortedD c)) := CallR.imp (CallR.or (CallR.or cr_sortedI cr_sortedS) (CallR.or (call_sortedD hc) (call_sortedDI hc))) fun xs H Q ⟨x, e, σ, G, θ, ρ, S, c, s, vx, r⟩ => by
  subst e
  obtain ⟨d, hd, r2⟩ := r.ofO'
  unfold sortedD at hd
  split at hd
  · obtain ⟨a, xs, rfl, ha, ra⟩ := vx.lst s.sub
    split at hd
    · rename_i is hi
      cases hd
      refine .inl (.inl ⟨a, is, rfl, by rw [← ints_rep ra hi]; exact SqL.ofRl ha, fun ns' p hp hs hn => ?_⟩)
      rw [PySem.W.eq_sortI hp hs]
      exact finNew r2 s (.lst ints_back) p hn
    · split at hd
      · rename_i ss hs
        split at hd
        · rename_i hz
          cases hd
          refine .inl (.inr ⟨a, ss, rfl, by rw [← strs_rep ra hs]; exact SqL.ofRl ha, hz, fun ys p hp hs' hn => ?_⟩)
          rw [eq_sortS hp hs']
          exact finNew r2 s (.lst strs_back) p hn
        · cases hd
      · cases hd
  · obtain ⟨a, kvs, rfl, ha, hk, ra⟩ := vx.dct s.sub
    split at hd
    · rename_i is hi
      split at hd
      · rename_i hz
        cases hd
        refine .inr (.inr ⟨a, kvs, is, rfl, ha.rd, keysI_ok hk hi, hz, fun ns' p hp hs hn => ?_⟩)
        rw [PySem.W.eq_sortI hp hs]
        exact finNew r2 s (.lst ints_back) p hn
      · cases hd
    · split at hd
      · rename_i ss hs
        split at hd
        · rename_i hz
          cases hd
          refine .inr (.inl ⟨a, kvs, ss, rfl, ha.rd, keysS_ok hk hs, hz, fun ys p hp hs' hn => ?_⟩)
          rw [eq_sortS hp hs']
          exact finNew r2 s (.lst strs_back) p hn
        · cases hd
      · cases hd
  · cases hd
theorem strP : CallR X (.type "str") (rC1 T B W fun c => ofO (strD c)) := CallR.imp (CallR.or call_str_int SkE.call_str_str) fun xs H Q ⟨x, e, σ, G, θ, ρ, S, c, s, vx, r⟩ => by
  subst e
  obtain ⟨d, hd, r2⟩ := r.ofO'
  unfold strD at hd
  split at hd
  · split at hd
    · rename_i i hz
      cases hd; cases vx.int
      refine .inl ⟨_, rfl, ?_, fin r2 s (.str _)⟩
      by_cases h0 : i.natAbs = 0
      · rw [h0]; decide
      · exact (Nat.log2_lt h0).mpr (Nat.lt_trans hz (by decide))
    · cases hd
  · cases hd; cases vx.str
    exact .inr ⟨_, rfl, fin r2 s (.str _)⟩
  · cases hd
/-! ### two operands -/
theorem min2P (hc : X.calm = true) : CallR X (.builtin "min") (rC2 T B W fun c c' => ofO (min2D c c')) := CallR.imp (call_min2 hc) fun xs H Q ⟨x, y, e, σ, G, θ, ρ, S, c, c', s, vx, vy, r⟩ => by
  subst e
  obtain ⟨d, hd, r2⟩ := r.ofO'
  unfold min2D at hd
  split at hd
  · cases hd; cases vx.int; cases vy.int
    exact ⟨_, _, rfl, fin r2 s (.int _)⟩
  · cases hd
theorem max2P (hc : X.calm = true) : CallR X (.builtin "max") (rC2 T B W fun c c' => ofO (max2D c c')) := CallR.imp (call_max2 hc) fun xs H Q ⟨x, y, e, σ, G, θ, ρ, S, c, c', s, vx, vy, r⟩ => by
  subst e
  obtain ⟨d, hd, r2⟩ := r.ofO'
  unfold max2D at hd
  split at hd
  · cases hd; cases vx.int; cases vy.int
    exact ⟨_, _, rfl, fin r2 s (.int _)⟩
  · cases hd
/-! ### slices -/
def rSlP (T : Tab) (B : Base) (W : L2.WX) : V → Option Int → Option Int → Hp → VK → Prop := fun x lo hi H Q => ∃ σ G θ ρ S c, Sim T B G θ σ H ρ S ∧ View T G θ H x c ∧ Run T B W (ofO (sliceD c lo hi)) G θ σ ρ S (PV T B σ Q)
theorem Sim.script {a : Addr} {is : List Int} (s : Sim T B G θ σ H ρ S) (h : T.scr a is) : SqL T.K H a (is.map V.int) := by
  rcases s.scr a is h with ⟨q, n⟩ | q
  · rcases q with q | ⟨o, q⟩
    · exact .inl (.inl ((s.frame _ _ q n).nt True.intro))
    · exact .inl (.inr ⟨o, (s.frame _ _ q n).nt True.intro⟩)
  · exact q H
theorem View.scr {v : V} {is : List Int} (h : View T G θ H v (.scr is)) : ∃ a, v = .ref a ∧ T.scr a is := by
  cases h with
  | of r _ => cases r with
    | scr h => exact ⟨_, rfl, h⟩
  | ob _ ob => cases ob
theorem slP (hK : X.K = T.K) : SlR X (rSlP T B W) := by
  intro pins s σ H x v vl vu lo hi sl Q I rx hs pl pu ⟨σ', G, θ, ρ, S, c, sm, vx, r⟩
  obtain ⟨d, hd, r2⟩ := r.ofO'
  unfold sliceD at hd
  split at hd
  · cases hd
    obtain ⟨a, rfl, ha⟩ := vx.scr
    exact sl_list pins s σ H _ v vl vu lo hi sl Q I rx hs pl pu ⟨a, _, rfl, by rw [hK]; exact sm.script ha, finNew r2 sm (.lst (cut_rep ints_back lo hi))⟩
  · cases hd
    obtain ⟨a, xs, rfl, ha, ra⟩ := vx.lst sm.sub
    exact sl_list pins s σ H _ v vl vu lo hi sl Q I rx hs pl pu ⟨a, xs, rfl, SqL.ofRl ha, finNew r2 sm (.lst (cut_rep ra lo hi))⟩
  · split at hd
    · cases hd
    · rename_i hw
      cases hd
      obtain ⟨a, xs, rfl, ha, ra⟩ := vx.tup sm.sub
      rw [← ra.length] at hw
      exact sl_tup pins s σ H _ v vl vu lo hi sl Q I rx hs pl pu ⟨a, xs, rfl, SqT.of ha, hw, finTup r2 sm (cut_rep ra lo hi)⟩
  · split at hd
    · rename_i hf
      cases hd; cases vx.str
      exact sl_str pins s σ H _ v vl vu lo hi sl Q I rx hs pl pu ⟨_, rfl, fits_iff hf, fin r2 sm (.str _)⟩
    · cases hd
  · cases hd
end
end TM
end
section
set_option Elab.async false
set_option linter.all false
set_option maxRecDepth 100000
set_option maxHeartbeats 2000000
/-! FW7: which text a form stands for: the parts of a form; general side conditions. -/
namespace TM
open PySem PySem.Spec PyProof.Rows L2

/-! ### expressions that the model takes plainly -/
def okE : Expr → Bool
  | .Starred .. => false
  | .Slice .. => false
  | .Set .. => false
  | _ => true
/-- .. and no call f() of a name -/
def okB : Expr → Bool
  | .Call (.Name ..) [] [] _ => false
  | e => okE e
/-- .. whose test is its value's truth -/
def okT : Expr → Bool
  | .UnaryOp .Not _ _ => false
  | .BoolOp .. => false
  | .IfExp .. => false
  | .Compare .. => false
  | e => okE e
/-- .. that is no comprehension -/
def okV : Expr → Bool
  | .ListComp .. => false
  | .SetComp .. => false
  | .DictComp .. => false
  | e => okE e
section
variable {e b : Expr} {es : List Expr} {env : Env} {pos : Pos}
theorem star_ok (h : okE e = true) : starEach (e :: es) env = (false, eval e env) :: starEach es env := by
  cases e <;> first | rfl | cases h
theorem star_any : ∀ {es : List Expr}, (es.all okE) = true → (backTo pos (starEach es env)).any (·.1) = false
  | [], _ => rfl
  | e :: es, h => by
    obtain ⟨h1, h2⟩ := Bool.and_eq_true_iff.mp (show (okE e && es.all okE) = true from h)
    rw [star_ok h1]
    show (false || (backTo pos (starEach es env)).any (·.1)) = false
    rw [star_any h2]; rfl
theorem base_ok {f : Str} {w : Sem Value} (h : okB e = true) : attributeBase e f env w = w := by
  cases e <;> first
    | rfl
    | (rename_i fn args kws p
       cases fn <;> first
         | rfl
         | (cases args <;> cases kws <;> first | rfl | cases h))
theorem plain_ok (h : okE b = true) : PlainIx b := fun o i => by
  cases b <;> first | rfl | cases h
theorem mark_ok {op : CmpOp} (h : okE b = true) : behindInMarks op b = false := by
  cases b <;> first | rfl | cases h
theorem true_ok (h : okT e = true) : ∀ whole, isTrue e env whole = (do let v ← whole; standAt e.pos; holding [v] (truthy v)) := fun whole => by
  cases e <;> first
    | rfl
    | cases h
    | (rename_i op a p; cases op <;> first | rfl | cases h)
theorem okT_E (h : okT e = true) : okE e = true := by
  cases e <;> first
    | rfl
    | cases h
    | (rename_i op a p; cases op <;> first | rfl | cases h)
theorem okB_E (h : okB e = true) : okE e = true := by
  cases e <;> first | rfl | cases h
theorem swap_ok {tg : Option Expr} {line : Nat} (h : okV e = true) : swapsWith e tg line env = pure false := by
  cases e <;> first | rfl | cases h
theorem okV_E (h : okV e = true) : okE e = true := by
  cases e <;> first | rfl | cases h
end
/-! ### names -/
def vis (sc : Scope) (x : Str) : Bool := (match sc.names.lookup x with
  | some .local => true
  | some .cell => true
  | some .free => true
  | _ => false) && (x == ("__debug__" : Str)) == false && (x == ("__classdict__" : Str)) == false
def loc (sc : Scope) (x : Str) : Bool := match sc.names.lookup x with
  | some .local => true
  | some .cell => true
  | _ => false
def glb (sc : Scope) (x : Str) : Bool := (match sc.names.lookup x with
  | some .globalImplicit => true
  | _ => false) && (x == ("__debug__" : Str)) == false && !decide (x = ("__name__" : Str))
theorem vis_ok {sc : Scope} {x : Str} (h : vis sc x = true) : Vis sc x ∧ (x == ("__debug__" : Str)) = false ∧ (x == ("__classdict__" : Str)) = false := by
  unfold vis at h
  simp only [Bool.and_eq_true, beq_iff_eq] at h
  obtain ⟨⟨h1, h2⟩, h3⟩ := h
  refine ⟨?_, h2, h3⟩
  unfold Vis
  split at h1 <;> first | (rename_i e; simp [e]) | cases h1
theorem loc_ok {sc : Scope} {x : Str} (h : loc sc x = true) : L2.Loc sc x := by
  unfold loc at h
  unfold L2.Loc
  split at h <;> first | (rename_i e; simp [e]) | cases h
theorem glb_ok {sc : Scope} {x : Str} (h : glb sc x = true) : sc.names.lookup x = some .globalImplicit ∧ (x == ("__debug__" : Str)) = false ∧ x ≠ "__name__" := by
  unfold glb at h
  simp only [Bool.and_eq_true, beq_iff_eq, Bool.not_eq_true', decide_eq_false_iff_not] at h
  obtain ⟨⟨h1, h2⟩, h3⟩ := h
  refine ⟨?_, h2, h3⟩
  split at h1 <;> first | assumption | cases h1

/-! ### constants -/
def cstC : D → Const → Bool
  | .int i, .int j => decide (i = j)
  | .bl b, .bool c => decide (b = c)
  | .non, .none => true
  | .str x, .str y => decide (x = y)
  | _, _ => false

/-! ### the parts of an operation -/
/-- by name: a built-in's name, whether it is a type -/
def bn1 : P1 → Option (String × Bool)
  | .len => some ("len", false)
  | .intOf => some ("int", true)
  | .strOf => some ("str", true)
  | .listOf => some ("list", true)
  | .tupleOf => some ("tuple", true)
  | .sortedOf => some ("sorted", false)
  | .allOf => some ("all", false)
  | .anyOf => some ("any", false)
  | .sumOf => some ("sum", false)
  | .dictOf => some ("dict", true)
  | _ => none
def bn2 : P2 → Option (String × Bool)
  | .min2 => some ("min", false)
  | .max2 => some ("max", false)
  | _ => none
def is1 (sc : Scope) (x : Str) (b : Option (String × Bool)) : Bool := match b with
  | some (n, _) => decide (x = Str.ofString n) && glb sc x
  | none => false
def parts1 (sc : Scope) : P1 → Expr → Option Expr
  | .neg, .UnaryOp .USub a _ => some a
  | .sliceAll, .Subscript a (.Slice none none none _) _ => some a
  | .attr f, .Attribute a g _ => if decide (f = g) && okB a then some a else none
  | o, .Call (.Name x _) [a] [] _ => if is1 sc x (bn1 o) then some a else none
  | _, _ => none
def parts2 (sc : Scope) : P2 → Expr → Option (Expr × Expr)
  | .op o, .BinOp a o' b _ => if decide (o = o') then some (a, b) else none
  | .cmp o, .Compare a [o'] [b] _ => if decide (o = o') then some (a, b) else none
  | .sliceFrom, .Subscript a (.Slice (some b) none none _) _ => some (a, b)
  | .sliceTo, .Subscript a (.Slice none (some b) none _) _ => some (a, b)
  | .idx, .Subscript a b _ => some (a, b)
  | o, .Call (.Name x _) [a, b] [] _ => if is1 sc x (bn2 o) then some (a, b) else none
  | _, _ => none
def parts3 (sc : Scope) : P3 → Expr → Option (Expr × Expr × Expr)
  | _, _ => none

/-! ### texts taken apart -/
def xSli : Expr → Option (Expr × Expr × Expr)
  | .Subscript a (.Slice (some b) (some c) none _) _ => some (a, b, c)
  | _ => none
theorem xSli_ok {e a b c : Expr} (h : xSli e = some (a, b, c)) : ∃ p pos, e = .Subscript a (.Slice (some b) (some c) none p) pos := by
  unfold xSli at h
  split at h <;> cases h
  exact ⟨_, _, rfl⟩
def xCmp : Expr → Option (CmpOp × Expr × Expr)
  | .Compare a [p] [b] _ => some (p, a, b)
  | _ => none
theorem xCmp_ok {e a b : Expr} {p : CmpOp} (h : xCmp e = some (p, a, b)) : ∃ pos, e = .Compare a [p] [b] pos := by
  unfold xCmp at h
  split at h <;> cases h
  exact ⟨_, rfl⟩
def xChain : Expr → Option (CmpOp × CmpOp × Expr × Expr × Expr)
  | .Compare a [p, p'] [b, c] _ => some (p, p', a, b, c)
  | _ => none
theorem xChain_ok {e a b c : Expr} {p p' : CmpOp} (h : xChain e = some (p, p', a, b, c)) : ∃ pos, e = .Compare a [p, p'] [b, c] pos := by
  unfold xChain at h
  split at h <;> cases h
  exact ⟨_, rfl⟩
def xIf : Expr → Option (Expr × Expr × Expr)
  | .IfExp c a b _ => some (c, a, b)
  | _ => none
theorem xIf_ok {e a b c : Expr} (h : xIf e = some (c, a, b)) : ∃ pos, e = .IfExp c a b pos := by
  unfold xIf at h
  split at h <;> cases h
  exact ⟨_, rfl⟩
def xBool : Expr → Option (BoolOp × List Expr)
  | .BoolOp p es _ => some (p, es)
  | _ => none
theorem xBool_ok {e : Expr} {p : BoolOp} {es : List Expr} (h : xBool e = some (p, es)) : ∃ pos, e = .BoolOp p es pos := by
  unfold xBool at h
  split at h <;> cases h
  exact ⟨_, rfl⟩
def xNot : Expr → Option Expr
  | .UnaryOp .Not a _ => some a
  | _ => none
theorem xNot_ok {e a : Expr} (h : xNot e = some a) : ∃ pos, e = .UnaryOp .Not a pos := by
  unfold xNot at h
  split at h <;> cases h
  exact ⟨_, rfl⟩
def xTup : Expr → Option (List Expr)
  | .Tuple es _ _ => some es
  | _ => none
theorem xTup_ok {e : Expr} {es : List Expr} (h : xTup e = some es) : ∃ j pos, e = .Tuple es j pos := by
  unfold xTup at h
  split at h <;> cases h
  exact ⟨_, _, rfl⟩
def xLst : Expr → Option (List Expr)
  | .List es _ => some es
  | _ => none
theorem xLst_ok {e : Expr} {es : List Expr} (h : xLst e = some es) : ∃ pos, e = .List es pos := by
  unfold xLst at h
  split at h <;> cases h
  exact ⟨_, rfl⟩
def xDct0 : Expr → Bool
  | .Dict [] [] _ => true
  | _ => false
theorem xDct0_ok {e : Expr} (h : xDct0 e = true) : ∃ pos, e = .Dict [] [] pos := by
  unfold xDct0 at h
  split at h
  · exact ⟨_, rfl⟩
  · cases h
def xCall : Expr → Option (Str × List Expr)
  | .Call (.Name x _) es [] _ => some (x, es)
  | _ => none
theorem xCall_ok {e : Expr} {x : Str} {es : List Expr} (h : xCall e = some (x, es)) : ∃ p pos, e = .Call (.Name x p) es [] pos := by
  unfold xCall at h
  split at h <;> cases h
  exact ⟨_, _, rfl⟩
def xMeth : Expr → Option (Expr × Str × List Expr)
  | .Call (.Attribute o m p) es [] pos => if (p.endLine == pos.line) = true then some (o, m, es) else none
  | _ => none
theorem xMeth_ok {e o : Expr} {m : Str} {es : List Expr} (h : xMeth e = some (o, m, es)) : ∃ p pos, e = .Call (.Attribute o m p) es [] pos ∧ (p.endLine == pos.line) = true := by
  unfold xMeth at h
  split at h
  · split at h
    · rename_i hl
      cases h
      exact ⟨_, _, rfl, hl⟩
    · cases h
  · cases h
def xLc : Expr → Option (Expr × Expr × Expr × List Expr × Scope)
  | .ListComp elt [⟨tg, iter, ifs, 0⟩] scope _ => some (elt, tg, iter, ifs, scope)
  | _ => none
theorem xLc_ok {e elt tg iter : Expr} {ifs : List Expr} {scope : Scope} (h : xLc e = some (elt, tg, iter, ifs, scope)) : ∃ pos, e = .ListComp elt [⟨tg, iter, ifs, 0⟩] scope pos := by
  unfold xLc at h
  split at h <;> cases h
  exact ⟨_, rfl⟩
def xName : Expr → Option Str
  | .Name x _ => some x
  | _ => none
theorem xName_ok {e : Expr} {x : Str} (h : xName e = some x) : ∃ pos, e = .Name x pos := by
  unfold xName at h
  split at h <;> cases h
  exact ⟨_, rfl⟩
def xConst : Expr → Option Const
  | .Constant c _ _ => some c
  | _ => none
theorem xConst_ok {e : Expr} {c : Const} (h : xConst e = some c) : ∃ j pos, e = .Constant c j pos := by
  unfold xConst at h
  split at h <;> cases h
  exact ⟨_, _, rfl⟩

/-- the law's trial of a lambda -/
def noPar (ps : Arguments) : Bool := ps.posonlyargs.isEmpty && ps.args.isEmpty && ps.vararg.isNone && ps.kwonlyargs.isEmpty && ps.kw_defaults.isEmpty && ps.kwarg.isNone && ps.defaults.isEmpty
/-- one parameter z with the number i for it -/
def par0 (ps : Arguments) : Option (Str × Int) := match ps with
  | ⟨[], [a], none, [], [], none, [.Constant (.int i) _ _]⟩ => some (a.arg, i)
  | _ => none
theorem par0_ok {ps : Arguments} {z : Str} {i : Int} (h : par0 ps = some (z, i)) : ∃ a k p, ps = ⟨[], [a], none, [], [], none, [.Constant (.int i) k p]⟩ ∧ a.arg = z := by
  unfold par0 at h
  split at h <;> cases h
  exact ⟨_, _, _, rfl, rfl⟩
def lamS1B (N : List Str) (sc scope : Scope) (z : Str) : Bool :=
  decide (scope.kind = .function) && !scope.isCoroutine && !scope.isGenerator && decide (scope.names.lookup z = some .local) && decide (z ∉ N) && scope.names.all fun y => !decide (y.2 = .cell) && (!decide (y.2 = .local) || decide (y.1 = z)) && (!decide (y.2 = .free) || decide (sc.names.lookup y.1 = some .cell) || decide (sc.names.lookup y.1 = some .free))
def xTried : Expr → Option (Str × Arguments × Expr × Scope)
  | .Call (.Name x _) [.Lambda ps b s _] [] _ => some (x, ps, b, s)
  | _ => none
theorem xTried_ok {e b : Expr} {x : Str} {ps : Arguments} {s : Scope} (h : xTried e = some (x, ps, b, s)) : ∃ p lp pos, e = .Call (.Name x p) [.Lambda ps b s lp] [] pos := by
  unfold xTried at h
  split at h <;> cases h
  exact ⟨_, _, _, rfl⟩
/-- a type's name -/
def isTyN (sc : Scope) : TyN → Expr → Bool
  | .ty t, e => match xName e with
    | some x => decide (x = Str.ofString t) && decide (t ∈ askedTy) && glb sc x
    | none => false
  | .cls c, e => match xName e with
    | some x => decide (x = c) && glb sc x
    | none => false
def isTyNs (sc : Scope) : List TyN → List Expr → Bool
  | [], [] => true
  | t :: ts, e :: es => isTyN sc t e && isTyNs sc ts es
  | _, _ => false
def isTyE (sc : Scope) (ts : List TyN) : Bool → Expr → Bool
  | false, e => (match ts with
    | [t] => isTyN sc t e
    | _ => false)
  | true, e => match xTup e with
    | some es => isTyNs sc ts es && decide (es.length < 100) && !ts.isEmpty
    | none => false
/-- f'..' taken apart -/
def xFst : Expr → Option (List Expr)
  | .JoinedStr es _ => some es
  | _ => none
theorem xFst_ok {e : Expr} {es : List Expr} (h : xFst e = some es) : ∃ pos, e = .JoinedStr es pos := by
  unfold xFst at h
  split at h <;> cases h
  exact ⟨_, rfl⟩
/-- a part of f'..' that is reckoned; a written one -/
def xPart : Expr → Option Expr
  | .FormattedValue e (-1) none _ => some e
  | _ => none
theorem xPart_ok {e a : Expr} (h : xPart e = some a) : ∃ ps, e = .FormattedValue a (-1) none ps := by
  unfold xPart at h
  split at h <;> cases h
  exact ⟨_, rfl⟩
def xPartC : Expr → Option Str
  | .Constant (.str z) _ _ => some z
  | _ => none
theorem xPartC_ok {e : Expr} {z : Str} (h : xPartC e = some z) : ∃ j ps, e = .Constant (.str z) j ps := by
  unfold xPartC at h
  split at h <;> cases h
  exact ⟨_, _, rfl⟩
def isTxt : E → Option Str
  | .cst (.str z) => some z
  | _ => none
/-- a part of f'..', by the check of what is reckoned -/
def ptC (f : Expr → Bool) (m : E) (e : Expr) : Bool := match xPart e with
  | some a => f a
  | none => (match isTxt m, xPartC e with
    | some z, some z' => decide (z = z') && fits z.length
    | _, _ => false)
/-- {k: v for ..} -/
def xDc : Expr → Option (Expr × Expr × Expr × Expr × List Expr × Scope)
  | .DictComp kx vx [⟨tg, iter, ifs, 0⟩] scope _ => some (kx, vx, tg, iter, ifs, scope)
  | _ => none
theorem xDc_ok {e kx vx tg iter : Expr} {ifs : List Expr} {scope : Scope} (h : xDc e = some (kx, vx, tg, iter, ifs, scope)) : ∃ pos, e = .DictComp kx vx [⟨tg, iter, ifs, 0⟩] scope pos := by
  unfold xDc at h
  split at h <;> cases h
  exact ⟨_, rfl⟩
def xDict : Expr → Option (List (Option Expr) × List Expr)
  | .Dict keys values _ => some (keys, values)
  | _ => none
theorem xDict_ok {e : Expr} {keys : List (Option Expr)} {values : List Expr} (h : xDict e = some (keys, values)) : ∃ pos, e = .Dict keys values pos := by
  unfold xDict at h
  split at h <;> cases h
  exact ⟨_, rfl⟩
def xOw1 (sc : Scope) : O1 → Expr → Option Expr
  | .neg, .UnaryOp .USub a _ => some a
  | .len, .Call (.Name x _) [a] [] _ => if (decide (x = ("len" : Str)) && glb sc x && okE a) = true then some a else none
  | .repr, .Call (.Name x _) [a] [] _ => if (decide (x = ("repr" : Str)) && glb sc x && okE a) = true then some a else none
  | _, _ => none
def xOw2 : O2 → Expr → Option (Expr × Expr)
  | .mul, .BinOp a .Mult b _ => some (a, b)
  | .eq, .Compare a [.Eq] [b] _ => if okE b = true then some (a, b) else none
  | .ne, .Compare a [.NotEq] [b] _ => if okE b = true then some (a, b) else none
  | .isin, .Compare a [.In] [b] _ => if okE b = true then some (a, b) else none
  | .notin, .Compare a [.NotIn] [b] _ => if okE b = true then some (a, b) else none
  | _, _ => none
/-- a comparison -/
def isC : O2 → Bool
  | .mul => false
  | _ => true
def xItems : Expr → Option Expr
  | .Call (.Attribute o m p) [] [] pos => if ((p.endLine == pos.line) && decide (m = ("items" : Str)) && okB o) = true then some o else none
  | _ => none
theorem xItems_ok {e o : Expr} (h : xItems e = some o) : ∃ p pos, e = .Call (.Attribute o "items" p) [] [] pos ∧ (p.endLine == pos.line) = true ∧ okB o = true := by
  unfold xItems at h
  split at h
  · split at h
    · rename_i hl
      cases h
      simp only [Bool.and_eq_true, decide_eq_true_eq] at hl
      obtain ⟨⟨h1, h2⟩, h3⟩ := hl
      subst h2
      exact ⟨_, _, rfl, h1, h3⟩
    · cases h
  · cases h
/-- a place of a dict -/
def isPa (N : List Str) (sc : Scope) : Pa → Expr → Bool
  | .v i, e => (match xName e with
    | some x => decide (N[i]? = some x) && vis sc x
    | none => false)
  | .f i f, .Attribute a g _ => decide (f = g) && okB a && (match xName a with
    | some x => decide (N[i]? = some x) && vis sc x
    | none => false)
  | _, _ => false
def isDI (N : List Str) (sc : Scope) (p : Pa) (tg e : Expr) : DK → Bool
  | .keys => okE e && isPa N sc p e
  | .items => (match xItems e with
    | some o => isPa N sc p o && (xTup tg).isSome
    | none => false)
/-! ### the checker -/
def locL (sc : Scope) (x : Str) : Bool := match sc.names.lookup x with
  | some .local => true
  | _ => false
def slotOk (N : List Str) (L : Str → Bool) (i : Nat) (e : Expr) : Bool := match xName e with
  | some x => decide (N[i]? = some x) && L x
  | none => false
mutual
def isG (N : List Str) (L : Str → Bool) : G → Expr → Bool
  | .nm i, e => slotOk N L i e
  | .tup gs, e => match xTup e with
    | some es => isGs N L gs es
    | none => false
def isGs (N : List Str) (L : Str → Bool) : Gs → List Expr → Bool
  | .nil, [] => true
  | .cons g gs, e :: es => okE e && isG N L g e && isGs N L gs es
  | _, _ => false
end
section
variable (N : List Str) (defs : List Str)
mutual
def isE : Scope → E → Expr → Bool
  | sc, .var i, e => match xName e with
    | some x => decide (N[i]? = some x) && vis sc x
    | none => false
  | _, .cst d, e => match xConst e with
    | some c => cstC d c
    | none => false
  | sc, .glo g, e => match xName e with
    | some x => decide (x = g) && glb sc x
    | none => false
  | sc, .p1 o m, e => match parts1 sc o e with
    | some a => okE a && isE sc m a
    | none => false
  | sc, .p2 o m n, e => match parts2 sc o e with
    | some (a, b) => okE a && okE b && isE sc m a && isE sc n b
    | none => false
  | sc, .p3 o m n l, e => match parts3 sc o e with
    | some (a, b, c) => okE a && okE b && okE c && isE sc m a && isE sc n b && isE sc l c
    | none => false
  | sc, .sli m n l, e => match xSli e with
    | some (a, b, c) => isE sc m a && isE sc n b && isE sc l c
    | none => false
  | sc, .chain o o' m n l, e => match xChain e with
    | some (p, p', a, b, c) => decide (o = p) && decide (o' = p') && okE b && okE c && isE sc m a && isE sc n b && isE sc l c
    | none => false
  | _, .dct0, e => xDct0 e
  | sc, .join m n, e => match xMeth e with
    | some (o, nm, [a]) => decide (nm = ("join" : Str)) && okB o && okE a && isE sc m o && isE sc n a
    | _ => false
  | sc, .get2 m n l, e => match xMeth e with
    | some (o, nm, [a, b]) => decide (nm = ("get" : Str)) && okB o && okE a && okE b && isE sc m o && isE sc n a && isE sc l b
    | _ => false
  | sc, .ife t m n, e => match xIf e with
    | some (c, a, b) => isT sc t c && isE sc m a && isE sc n b
    | none => false
  | sc, .bop o ms, e => match xBool e with
    | some (p, es) => decide (o = p) && isB sc ms es
    | none => false
  | sc, .not m, e => match xNot e with
    | some a => isE sc m a
    | none => false
  | sc, .tup ms, e => match xTup e with
    | some es => isEs sc ms es
    | none => false
  | sc, .lst ms, e => match xLst e with
    | some es => isEs sc ms es
    | none => false
  | sc, .call f ms, e => match xCall e with
    | some (x, es) => decide (x = f) && glb sc x && decide (f ∈ defs) && isEs sc ms es
    | none => false
  | sc, .mk f ms, e => match xCall e with
    | some (x, es) => decide (x = f) && glb sc x && isEs sc ms es
    | none => false
  | sc, .meth mn o ms, e => match xMeth e with
    | some (a, nm, es) => decide (nm = mn) && okB a && decide (es.length < 29) && isE sc o a && isEs sc ms es
    | none => false
  | sc, .mu mu o ms, e => match xMeth e with
    | some (a, nm, es) => decide (nm = muN mu) && okB a && decide (es.length < 29) && (decide (es.length = 0) || muL mu || (muP mu && decide (es.length = 1))) && isE sc o a && isEs sc ms es
    | none => false
  | sc, .tried m, e => match xTried e with
    | some (x, ps, b, s) => decide (x = ("_law_tried" : Str)) && glb sc x && (match par0 ps with
      | some (z, _) => lamS1B N sc s z
      | none => noPar ps && LamX.lamSB sc s) && isE s m b
    | none => false
  | sc, .isi ts tp m, e => match xCall e with
    | some (x, [a, t]) => decide (x = ("isinstance" : Str)) && glb sc x && okE a && okE t && isTyE sc ts tp t && isE sc m a
    | _ => false
  | sc, .fst m n ms, e => match xFst e with
    | some (a :: b :: es) => ptC (isE sc m) m a && ptC (isE sc n) n b && isPts sc ms es
    | _ => false
  | sc, .newm m, e => isE sc m e
  | sc, .lc own tg it cs m, e => match xLc e with
    | some (elt, t, iter, ifs, scope) => okE iter && blkC N sc scope (own.map fun i => (N.getD i Str.empty, i)) && isI sc it t iter && isG N (locL (relS scope sc)) tg t && gIn own tg && isTs (relS scope sc) cs ifs && isE (relS scope sc) m elt
    | none => false
  | sc, .lcd own tg k p cs m, e => match xLc e with
    | some (elt, t, iter, ifs, scope) => okE iter && blkC N sc scope (own.map fun i => (N.getD i Str.empty, i)) && isDI N sc p t iter k && isG N (locL (relS scope sc)) tg t && gIn own tg && isTs (relS scope sc) cs ifs && isE (relS scope sc) m elt
    | none => false
  | sc, .dc own tg it cs mk mv, e => match xDc e with
    | some (kx, vx, t, iter, ifs, scope) => okE iter && blkC N sc scope (own.map fun i => (N.getD i Str.empty, i)) && isI sc it t iter && isG N (locL (relS scope sc)) tg t && gIn own tg && isTs (relS scope sc) cs ifs && isE (relS scope sc) mk kx && isE (relS scope sc) mv vx
    | none => false
  | sc, .dcd own tg k p cs mk mv, e => match xDc e with
    | some (kx, vx, t, iter, ifs, scope) => okE iter && blkC N sc scope (own.map fun i => (N.getD i Str.empty, i)) && isDI N sc p t iter k && isG N (locL (relS scope sc)) tg t && gIn own tg && isTs (relS scope sc) cs ifs && isE (relS scope sc) mk kx && isE (relS scope sc) mv vx
    | none => false
  | sc, .disp ps, e => match xDict e with
    | some (keys, values) => decide (keys ≠ []) && decide (keys.length < 17) && isPs sc ps keys values
    | none => false
  | sc, .ow1 o m, e => match xOw1 sc o e with
    | some a => isE sc m a
    | none => false
  | sc, .ow2 o m n, e => match xOw2 o e with
    | some (a, b) => isE sc m a && isE sc n b
    | none => false
  | sc, .inl m n, e => match xOw2 .isin e with
    | some (a, b) => isE sc m a && isE sc n b
    | none => false
/-- the pairs of a dict display -/
def isPs : Scope → Ps → List (Option Expr) → List Expr → Bool
  | _, .nil, [], [] => true
  | sc, .cons m n ps, some k :: ks, v :: vs => isE sc m k && isE sc n v && isPs sc ps ks vs
  | _, _, _, _ => false
def isPts : Scope → Es → List Expr → Bool
  | _, .nil, [] => true
  | sc, .cons m ms, e :: es => ptC (isE sc m) m e && isPts sc ms es
  | _, _, _ => false
/-- what a for walks, by its target -/
def isI : Scope → I → Expr → Expr → Bool
  | sc, .p1 .seq m, _, e => okE e && isE sc m e
  | sc, .p1 .enum m, tg, e => match xCall e with
    | some (x, [a]) => decide (x = ("enumerate" : Str)) && glb sc x && (xTup tg).isSome && okE a && isE sc m a
    | _ => false
  | sc, .p2 .zip m n, tg, e => match xCall e with
    | some (x, [a, b]) => decide (x = ("zip" : Str)) && glb sc x && (xTup tg).isSome && okE a && okE b && isE sc m a && isE sc n b
    | _ => false
  | sc, .p1 .rng m, _, e => match xCall e with
    | some (x, [a]) => decide (x = ("range" : Str)) && glb sc x && okE a && isE sc m a
    | _ => false
  | sc, .p2 .rng m n, _, e => match xCall e with
    | some (x, [a, b]) => decide (x = ("range" : Str)) && glb sc x && okE a && okE b && isE sc m a && isE sc n b
    | _ => false
/-- the ifs of a comprehension -/
def isTs : Scope → Ts → List Expr → Bool
  | _, .nil, [] => true
  | sc, .cons t .nil, [e] => isT sc t e
  | _, _, _ => false
def isT : Scope → T → Expr → Bool
  | sc, .e m, a => okT a && isE sc m a
  | sc, .cmp o m n, e => match xCmp e with
    | some (p, a, b) => decide (o = p) && okE b && isE sc m a && isE sc n b
    | none => false
  | sc, .chain o o' m n l, e => match xChain e with
    | some (p, p', a, b, c) => decide (o = p) && decide (o' = p') && okE b && okE c && isE sc m a && isE sc n b && isE sc l c
    | none => false
  | sc, .not t, e => match xNot e with
    | some a => isT sc t a
    | none => false
  | sc, .bop o ts, e => match xBool e with
    | some (p, es) => decide (o = p) && isTB sc ts es
    | none => false
  | sc, .ow o m n, e => match xOw2 o e with
    | some (a, b) => isC o && isE sc m a && isE sc n b
    | none => false
  | sc, .inl m n, e => match xOw2 .isin e with
    | some (a, b) => isE sc m a && isE sc n b
    | none => false
/-- arguments -/
def isEs : Scope → Es → List Expr → Bool
  | _, .nil, [] => true
  | sc, .cons m ms, e :: es => okE e && isE sc m e && isEs sc ms es
  | _, _, _ => false
/-- parts of and, or -/
def isB : Scope → Es → List Expr → Bool
  | _, .nil, _ => false
  | _, .cons _ _, [] => false
  | sc, .cons m ms, e :: es => isE sc m e && (match es with
    | [] => decide (esN ms = 0)
    | _ :: _ => isB sc ms es)
def isTB : Scope → Ts → List Expr → Bool
  | _, .nil, _ => false
  | _, .cons _ _, [] => false
  | sc, .cons m ms, e :: es => isT sc m e && (match es with
    | [] => (match ms with
      | .nil => true
      | _ => false)
    | _ :: _ => isTB sc ms es)
end
end
end TM
end
section
set_option Elab.async false
set_option linter.all false
set_option maxRecDepth 100000
set_option maxHeartbeats 2000000
/-! FW8: the context; the rules, form by form. -/
namespace TM
open PySem PySem.Spec PyProof.Rows L2

def bltns : List String := ["len", "int", "str", "list", "tuple", "sorted", "all", "any", "sum", "dict", "min", "max", "range", "enumerate", "zip", "isinstance", "repr", "bool"]
/-- what holds wherever the text runs -/
structure World0 (T : Tab) (P : Prov) (defs : List Str) (k : Nat) (prog : Program) (w : World) (K : PySem.W.Frag) (mg : Str → Option Value) (base : Heap) : Prop where
  eK : K = T.K
  ew : w = T.w
  free : ∀ n ∈ bltns, mg (Str.ofString n) = none
  glob : ∀ x d, P.glob x = some d → ∃ v u, mg x = some u ∧ RelV v u ∧ ∀ G θ, Rep T G θ v d
  fns : ∀ x ∈ defs, ∃ f fd ps, FnOk prog w K mg base (L2.CX prog w) k f fd ps (spOf T (P.fn x)) ∧ mg x = some (.ref f) ∧ PySem.W.keepIn K (.ref f) = true ∧ ∀ n, ∃ dvs ds, Binds K fd ps ds ∧ Vals dvs ds ∧ ∀ G θ, RepL T G θ dvs (P.dflt x n)
  fld : ∀ c A f, T.cls c = some A → P.fld c f = true → Cls K A ∧ NoAttr K A f
  meths : ∀ c A m key, T.cls c = some A → P.meth c m = some key → Cls K A ∧ ∃ g fd ps, Meth K A m g ∧ FnOk prog w K mg base (L2.CX prog w) k g fd ps (spOf T (P.fn key)) ∧ ∀ n, ∃ dvs ds, Binds K fd ps ds ∧ Vals dvs ds ∧ ∀ G θ, RepL T G θ dvs (P.dflt key n)
  makes : ∀ c, P.mks c = true → ∃ A f fd ps j, k = j + 1 ∧ T.cls c = some A ∧ Mk K A f ∧ FnOk prog w K mg base (L2.CX prog w) j f fd ps (spInit T c (P.make c)) ∧ mg c = some (.ref A) ∧ ∀ n, ∃ dvs ds, Binds K fd ps ds ∧ Vals dvs ds ∧ ∀ G θ, RepL T G θ dvs (P.dflt c n)
  isi : ∀ c, P.isc c = true → ∃ A, T.cls c = some A ∧ mg c = some (.ref A) ∧ Cls K A ∧ PySem.W.findIn K (.ref A) "__class__" = some (some (.builtin "object.__class__")) ∧ PySem.W.specialIn K (.builtin "object.__class__") "__get__" = some (some (.builtin "getset_descriptor.__get__")) ∧ PySem.W.takesIn K (.builtin "object.__class__") = some true ∧
    PySem.W.mroIn K A (.type "object") = some true ∧ (∀ t ∈ "NoneType" :: askedTy, PySem.W.kitOne K (.type t) (.ref A) = some false) ∧ ∀ c' A', P.isc c' = true → T.cls c' = some A' → PySem.W.kitOne K (.ref A') (.ref A) = some (decide (c' = c))
  excs : ∀ c n xs, P.xas c = some (n, xs) → ∃ A f fd ps j, k = j + 1 ∧ ps.length = n + 1 ∧ n ≤ 1000 ∧ T.cls c = some A ∧ mg c = some (.ref A) ∧ OexC K A ∧ PySem.W.findIn K (.ref A) "__init__" = some (some (.ref f)) ∧ PySem.W.typeIn K (.ref f) = some (.type "function") ∧ xs ≠ [] ∧
    FnOk prog w K mg base (L2.CX prog w) j f fd ps (spX A xs ps.length) ∧ Binds K fd ps []
  own : ∀ c A n f, T.cls c = some A → P.own c n = some f → ∃ g fd ps j, k = j + 1 ∧ Cls K A ∧ PySem.W.selfFirst K A = true ∧ PySem.W.findIn K (.ref A) n = some (some (.ref g)) ∧ PySem.W.isFn K (.ref g) = true ∧
    (n = "__eq__" → PySem.W.findIn K (.ref A) "__ne__" = some (some (.builtin "object.__ne__")) ∧ PySem.W.mroIn K A (.type "object") = some true ∧ ∀ t ∈ ["str", "int", "bool", "NoneType"], PySem.W.subIn K (.ref A) (.type t) = some false) ∧
    FnOk prog w K mg base (L2.CX prog w) j g fd ps (spOf T f) ∧ Binds K fd ps []
/-! ### the law's own trial -/
def tellNames : List Str := ["code", "node", "name", "index", "limit", "position", "value", "line"]
/-- return (e.code, _law_field(e)) -/
def isTellR (sg : Scope) : List Stmt → Bool
  | [.Return (some (.Tuple [.Attribute (.Name a _) c _, .Call (.Name f _) [.Name b _] [] _] _ _)) _] => decide (a = ("_law_e" : Str)) && decide (b = ("_law_e" : Str)) && decide (c = ("code" : Str)) && decide (f = ("_law_field" : Str))
  | _ => false
def isTriedB (sg : Scope) : List Stmt → Bool
  | [.Try [.Return (some (.Tuple [.Constant (.str z) _ _, .Call (.Name a _) [] [] _] _ _)) _] [.ExceptHandler (some (.Name x _)) (some n) s1 _, .ExceptHandler (some (.Name y _)) (some m) s2 _] [] [] _] =>
    decide (z = Str.empty) && decide (a = ("_law_ask" : Str)) && decide (x = ("ThreadError" : Str)) && decide (y = ("Missing" : Str)) && decide (n = ("_law_e" : Str)) && decide (m = ("_law_e" : Str)) && isTellR sg s1 && isTellR sg s2
  | _ => false
def strsE : List Str → List Expr → Bool
  | [], [] => true
  | z :: zs, e :: es => (match xPartC e with
    | some y => decide (z = y)
    | none => false) && strsE zs es
  | _, _ => false
/-- e.f -/
def isEf (f : Str) : Expr → Bool
  | .Attribute (.Name a _) g _ => decide (a = ("_law_e" : Str)) && decide (f = g)
  | _ => false
def isRowC (q : Bool) (cs : List Str) : Expr → Bool
  | .Compare a [.In] [.List es _] _ => !q && isEf "code" a && strsE cs es
  | .Compare a [.Eq] [b] _ => q && isEf "code" a && strsE cs [b]
  | _ => false
def isRetF (f : Str) : List Stmt → Bool
  | [.Return (some e) _] => isEf f e
  | _ => false
def isFieldB : List (Bool × List Str × Str) → List Stmt → Bool
  | [], [.Return (some (.IfExp c a (.Constant .none _ _) _)) _] => isRowC true ["invaliddocument"] c && isEf "line" a
  | (q, cs, f) :: r, .If c a [] _ :: ss => isRowC q cs c && isRetF f a && isFieldB r ss
  | _, _ => false
structure TriedOk (K : PySem.W.Frag) (mg : Str → Option Value) (T : Tab) (P : Prov) : Prop where
  def1 : ∃ (g : Addr) (pg : Arguments) (bg : List Stmt) (sg : Scope) (dV kV doc pm cdv ct oc : Value) (an od : Option Addr) (osl : Array (Option Value)), mg "_law_tried" = some (.ref g) ∧ PySem.W.keepIn K (.ref g) = true ∧
    K.lookup g = some ⟨oc, od, .func (PySem.W.fnOf "_law_tried" "_law_tried" pg bg sg dV kV doc pm an cdv ct), osl⟩ ∧ PySem.W.codeIn K cdv "_law_tried" = true ∧ Binds K (PySem.W.fnOf "_law_tried" "_law_tried" pg bg sg dV kV doc pm an cdv ct) ["_law_ask"] [] ∧
    FnScope ["_law_ask", "_law_e"] ["_law_ask"] sg ∧ vis sg "_law_ask" = true ∧ locL sg "_law_e" = true ∧ glb sg "ThreadError" = true ∧ glb sg "Missing" = true ∧ glb sg "_law_field" = true ∧ isTriedB sg bg = true
  def2 : ∃ (g : Addr) (pg : Arguments) (bg : List Stmt) (sg : Scope) (dV kV doc pm cdv ct oc : Value) (an od : Option Addr) (osl : Array (Option Value)), mg "_law_field" = some (.ref g) ∧ PySem.W.keepIn K (.ref g) = true ∧
    K.lookup g = some ⟨oc, od, .func (PySem.W.fnOf "_law_field" "_law_field" pg bg sg dV kV doc pm an cdv ct), osl⟩ ∧ PySem.W.codeIn K cdv "_law_field" = true ∧ Binds K (PySem.W.fnOf "_law_field" "_law_field" pg bg sg dV kV doc pm an cdv ct) ["_law_e"] [] ∧
    FnScope ["_law_e"] ["_law_e"] sg ∧ vis sg "_law_e" = true ∧ isFieldB tellRows bg = true
  ex : ∃ TE MS : Addr, mg "ThreadError" = some (.ref TE) ∧ mg "Missing" = some (.ref MS) ∧ ∀ c n xs A, P.xas c = some (n, xs) → T.cls c = some A → XfC K A ∧ (∀ f ∈ tellNames, PySem.W.findIn K (.ref A) f = some none) ∧
    (PySem.W.exmOne K (.ref A) (.ref TE) = some true ∨ PySem.W.exmOne K (.ref A) (.ref TE) = some false ∧ PySem.W.exmOne K (.ref A) (.ref MS) = some true)
/-- lambdas may be made here -/
structure LamOk (T : Tab) (P : Prov) (defs : List Str) (k : Nat) (X : Cx) : Prop where
  tab : ∃ c Pt, LamX.TabB X.base X.mg c Pt ∧ X.env.code = .ref c ∧ (Pt, X.env.qual ++ "<lambda>") ∈ T.tabs ∧ ∀ p ∈ T.tabs, p.1 = Pt → p.2 = X.env.qual ++ "<lambda>"
  low : ∃ PL k0, k = k0 + 2 ∧ World0 T PL defs k0 X.prog X.w X.K X.mg X.base ∧ P.lamv = ev PL ∧ PL.lam = false
  tri : TriedOk X.K X.mg T P
structure Ctx (T : Tab) (P : Prov) (defs : List Str) (N : List Str) (sc : Scope) (k : Nat) (X : Cx) (W : L2.WX) : Prop where
  calm : X.calm = true
  eN : X.N = N
  nd : N.Nodup
  es : X.env.scope = sc
  room : Room k X.A
  tk : Takes X W
  w0 : World0 T P defs k X.prog X.w X.K X.mg X.base
  lam : P.lam = true → LamOk T P defs k X

section
variable {T : Tab} {P : Prov} {defs N : List Str} {sc : Scope} {k : Nat} {X : Cx} {W : L2.WX} {B : Base} {e a b c : Expr} {m n l : Mo D} {pos : Pos} {x : Str}
theorem Ctx.gl (C : Ctx T P defs N sc k X W) (h : glb sc x = true) : Gl X x ∧ (x == ("__debug__" : Str)) = false ∧ x ≠ "__name__" := by
  obtain ⟨h1, h2, h3⟩ := glb_ok h
  refine ⟨?_, h2, h3⟩
  show X.env.scope.names.lookup x = _
  rw [C.es]; exact h1
theorem q_var (C : Ctx T P defs N sc k X W) {i : Nat} (h1 : N[i]? = some x) (h2 : vis sc x = true) : PE X (.Name x pos) (liftE T B W (ev P (.var i))) := by
  obtain ⟨v1, v2, v3⟩ := vis_ok h2
  refine PE.imp (pe_var (i := i) (by rw [C.eN]; exact h1) (by rw [C.es]; exact v1) v2 v3) fun σ H Q ⟨G, θ, ρ, S, s, r⟩ => ?_
  unfold Run at r
  unfold ev at r
  show ∃ v, σ[i]? = some (some v) ∧ Q v H
  cases e : ρ[i]? with
  | none => simp only [e] at r
  | some y =>
    cases y with
    | no => simp only [e] at r
    | v d =>
      simp only [e] at r
      obtain ⟨v, g1, g2⟩ := s.val i d e
      exact ⟨v, g1, r G θ H (Le.refl _) (Lt.refl _) s v (.of (.of g2))⟩
    | own d =>
      simp only [e] at r
      obtain ⟨a, o, g1, _⟩ := s.own i d e
      exact ⟨_, g1, r G θ H (Le.refl _) (Lt.refl _) s _ (.of (.sl g1))⟩
theorem q_cst {d : D} {cn : Const} {j : Nat} (h : cstC d cn = true) : PE X (.Constant cn j pos) (liftE T B W (pure d)) := by
  unfold cstC at h
  split at h
  · cases of_decide_eq_true h
    exact PE.imp pe_int fun σ H Q ⟨G, θ, ρ, S, s, r⟩ => fin r s (.int _)
  · cases of_decide_eq_true h
    exact PE.imp pe_bl fun σ H Q ⟨G, θ, ρ, S, s, r⟩ => fin r s (.bl _)
  · exact PE.imp pe_non fun σ H Q ⟨G, θ, ρ, S, s, r⟩ => fin r s .non
  · cases of_decide_eq_true h
    exact PE.imp pe_str fun σ H Q ⟨G, θ, ρ, S, s, r⟩ => fin r s (.str _)
  · cases h
theorem liftE_bad {σ : L2.St} {H : Hp} {Q : VK} (h : liftE T B W fail σ H Q) : False := by
  obtain ⟨G, θ, ρ, S, s, r⟩ := h
  exact r
theorem pe_never {t : TE} (h : ∀ σ H Q, ¬ t σ H Q) : PE X e t := ⟨fun _ _ σ H Q _ q => (h σ H Q q).elim⟩
theorem q_glo (C : Ctx T P defs N sc k X W) (h : glb sc x = true) : PE X (.Name x pos) (liftE T B W (ofO (P.glob x))) := by
  obtain ⟨g1, g2, g3⟩ := C.gl h
  cases hd : P.glob x with
  | none => exact pe_never fun σ H Q q => liftE_bad q
  | some d =>
    obtain ⟨v, u, m1, rv, rp⟩ := C.w0.glob x d hd
    exact PE.imp (pe_glob g1 m1 rv g2) fun σ H Q ⟨G, θ, ρ, S, s, r⟩ => fin r s (rp G θ)
/-! ### built-in calls by name -/
theorem pa_1 (h1 : okE a = true) (ha : PE X a (liftO T B W m)) : PA X [a] (tCons (liftO T B W m) tNil) := pa_cons ha pa_nil (star_ok h1)
theorem pa_2 (h1 : okE a = true) (h2 : okE b = true) (ha : PE X a (liftO T B W m)) (hb : PE X b (liftO T B W n)) : PA X [a, b] (tCons (liftO T B W m) (tCons (liftO T B W n) tNil)) := pa_cons ha (pa_cons hb pa_nil (star_ok h2)) (star_ok h1)
def bval (p : String × Bool) : Value := if p.2 then .type p.1 else .builtin p.1
theorem q_c1 {sem : D → Mo D} {nm : String} {ty : Bool} (C : Ctx T P defs N sc k X W) (hb : nm ∈ bltns) (hv : bootBuiltins (Str.ofString nm) = some (bval (nm, ty))) (hc : CallR X (bval (nm, ty)) (rC1 T B W sem)) (hx : x = Str.ofString nm) (hg : glb sc x = true)
    (h1 : okE a = true) (ha : PE X a (liftE T B W m)) {p : Pos} : PE X (.Call (.Name x p) [a] [] pos) (liftE T B W (m1 m sem)) := by
  subst hx
  obtain ⟨g1, g2, g3⟩ := C.gl hg
  have hm := C.w0.free nm hb
  have key : ∀ σ H Q, liftE T B W (m1 m sem) σ H Q → tCB (rC1 T B W sem) (tCons (liftO T B W (m >>= settle)) tNil) σ H Q := fun σ H Q h => w1 (K := fun x H Q => rC1 T B W sem [x] H Q) (fun x H Q q => ⟨x, rfl, q⟩) h
  cases ty with
  | true => exact PE.imp (pe_callTy hc g1 hm hv (pa_1 h1 (pe_O ha)) g3 g2 (star_ok h1) rfl) key
  | false => exact PE.imp (pe_callB hc g1 hm hv (pa_1 h1 (pe_O ha)) g3 g2 (star_ok h1) rfl) key
theorem q_c2 {sem : D → D → Mo D} {nm : String} {ty : Bool} (C : Ctx T P defs N sc k X W) (hb : nm ∈ bltns) (hv : bootBuiltins (Str.ofString nm) = some (bval (nm, ty))) (hc : CallR X (bval (nm, ty)) (rC2 T B W sem)) (hx : x = Str.ofString nm) (hg : glb sc x = true)
    (h1 : okE a = true) (h2 : okE b = true) (ha : PE X a (liftE T B W m)) (hb' : PE X b (liftE T B W n)) {p : Pos} : PE X (.Call (.Name x p) [a, b] [] pos) (liftE T B W (m2 m n sem)) := by
  subst hx
  obtain ⟨g1, g2, g3⟩ := C.gl hg
  have hm := C.w0.free nm hb
  have key : ∀ σ H Q, liftE T B W (m2 m n sem) σ H Q → tCB (rC2 T B W sem) (tCons (liftO T B W (m >>= settle)) (tCons (liftO T B W (n >>= settle)) tNil)) σ H Q := fun σ H Q h => by
    obtain ⟨G, θ, ρ, S, s, r⟩ := w2 h
    exact ⟨G, θ, ρ, S, s, r.imp fun x G1 θ1 H1 ρ1 S1 l1 t1 s1 q v o => by
      obtain ⟨G, θ, ρ, S, s, r⟩ := q v o
      exact ⟨G, θ, ρ, S, s, r.imp fun y G2 θ2 H2 ρ2 S2 l2 t2 s2 q2 v2 o2 => ⟨v, v2, rfl, q2 v2 o2⟩⟩⟩
  cases ty with
  | true => exact PE.imp (pe_callTy hc g1 hm hv (pa_2 h1 h2 (pe_O ha) (pe_O hb')) g3 g2 (star_ok h1) (star_any (by simp [h2]))) key
  | false => exact PE.imp (pe_callB hc g1 hm hv (pa_2 h1 h2 (pe_O ha) (pe_O hb')) g3 g2 (star_ok h1) (star_any (by simp [h2]))) key
end
end TM
end
section
set_option Elab.async false
set_option linter.all false
set_option maxRecDepth 100000
set_option maxHeartbeats 2000000
/-! FW9: the rules, form by form: operations, tests, displays, calls. -/
namespace TM
open PySem PySem.Spec PyProof.Rows L2

theorem lookup_rep {T : Tab} {G : Hp} {θ : List Addr} {f : Str} : ∀ {fs : List (Str × V)} {fds : List (Str × D)} {d : D}, fs.map (·.1) = fds.map (·.1) → RepL T G θ (fs.map (·.2)) (fds.map (·.2)) → fds.lookup f = some d → ∃ v, fs.lookup f = some v ∧ Rep T G θ v d
  | [], [], d, _, _, h => by cases h
  | [], _ :: _, _, e, _, _ => by cases e
  | _ :: _, [], _, e, _, _ => by cases e
  | (g, v) :: fs, (g', d') :: fds, d, e, r, h => by
    have e1 : g = g' := (List.cons.inj e).1
    have e2 := (List.cons.inj e).2
    subst e1
    cases r with
    | cons r1 r2 =>
      rw [List.lookup_cons] at h ⊢
      cases hq : f == g with
      | true => rw [hq] at h; cases h; exact ⟨v, rfl, r1⟩
      | false => rw [hq] at h; exact lookup_rep e2 r2 h

section
variable {T : Tab} {P : Prov} {defs N : List Str} {sc : Scope} {k : Nat} {X : Cx} {W : L2.WX} {B : Base} {e a b c : Expr} {m n l : Mo D} {pos : Pos} {x : Str}
theorem is1_ok {nb : Option (String × Bool)} (h : is1 sc x nb = true) : ∃ nm ty, nb = some (nm, ty) ∧ x = Str.ofString nm ∧ glb sc x = true := by
  unfold is1 at h
  split at h
  · rename_i nm ty
    obtain ⟨h1, h2⟩ := Bool.and_eq_true_iff.mp h
    exact ⟨nm, ty, rfl, of_decide_eq_true h1, h2⟩
  · cases h
theorem Ctx.hu (C : Ctx T P defs N sc k X W) : X.A.units + 1 < cLine := by have := C.room.units; omega
/-! ### operations -/
theorem q_p1 (C : Ctx T P defs N sc k X W) {o : P1} (hp : parts1 sc o e = some a) (h1 : okE a = true) (ha : PE X a (liftE T B W m)) : PE X e (liftE T B W (m1 m fun c => ofO (d1 P o c))) := by
  unfold parts1 at hp
  split at hp
  · cases hp
    exact PE.imp (pe_un negP (pe_O ha)) fun σ H Q h => w1 (fun _ _ _ q => q) h
  · cases hp
    exact PE.imp (pe_slice (slP C.w0.eK) (pe_O ha) po_none po_none) fun σ H Q h => w1 (K := fun x H Q => rSlP T B W x none none H Q) (fun _ _ _ q => q) h
  · rename_i f a' g _ 
    split at hp
    · rename_i hc
      cases hp
      obtain ⟨h2, h3⟩ := Bool.and_eq_true_iff.mp hc
      have h2 := of_decide_eq_true h2
      subst h2
      refine PE.imp (pe_fld (pe_O ha) (base_ok h3)) fun σ H Q h => w1 (K := fun x H1 Q => ∃ a C dx fs v, x = V.ref a ∧ H1 a = some (.ins C dx fs) ∧ Cls X.K C ∧ NoAttr X.K C f ∧ fs.lookup f = some v ∧ Q v H1) (fun v H Q ⟨σ, G, θ, ρ, S, c, s, vx, r⟩ => ?_) h
      obtain ⟨d, hd, r2⟩ := r.ofO'
      have hd : attrD P f c = some d := hd
      unfold attrD at hd
      split at hd
      · split at hd
        · rename_i hf
          obtain ⟨a, A, dx, fs, rfl, g1, g2, g3, g4⟩ := vx.ins s.sub
          obtain ⟨v, l1, l2⟩ := lookup_rep g3 g4 hd
          obtain ⟨c1, c2⟩ := C.w0.fld _ A f g2 hf
          exact ⟨a, A, dx, fs, v, rfl, g1, c1, c2, l1, fin r2 s l2⟩
        · cases hd
      · cases hd
    · cases hp
  · split at hp
    · rename_i hc
      cases hp
      obtain ⟨nm, ty, hb, hx, hg⟩ := is1_ok hc
      cases o <;> cases hb
      · exact q_c1 (ty := false) C (by decide) rfl lenP hx hg h1 ha
      · exact q_c1 (ty := true) C (by decide) rfl intP hx hg h1 ha
      · exact q_c1 (ty := true) C (by decide) rfl strP hx hg h1 ha
      · exact q_c1 (ty := true) C (by decide) rfl (listP C.calm) hx hg h1 ha
      · exact q_c1 (ty := true) C (by decide) rfl tupleP hx hg h1 ha
      · exact q_c1 (ty := false) C (by decide) rfl (sortedP C.calm) hx hg h1 ha
      · exact q_c1 (ty := false) C (by decide) rfl (allP C.calm) hx hg h1 ha
      · exact q_c1 (ty := false) C (by decide) rfl (anyP C.calm) hx hg h1 ha
      · exact q_c1 (ty := false) C (by decide) rfl (sumP C.calm) hx hg h1 ha
      · exact q_c1 (ty := true) C (by decide) rfl dictP hx hg h1 ha
    · cases hp
  · cases hp
/-- e[i:], e[:i] -/
theorem w2sl {ma mb : Mo D} {σ : L2.St} {H : Hp} {Q : VK} {sem : D → D → Option D} (h : liftE T B W (m2 ma mb fun c c' => ofO (sem c c')) σ H Q) (K : V → V → Hp → Prop) (k : ∀ σ G θ H ρ S c c' x y, Sim T B G θ σ H ρ S → View T G θ H x c → View T G θ H y c' → Run T B W (ofO (sem c c')) G θ σ ρ S (PV T B σ Q) → K x y H) :
    liftO T B W (ma >>= settle) σ H fun x H1 => liftO T B W (mb >>= settle) σ H1 fun y H2 => K x y H2 := by
  obtain ⟨G, θ, ρ, S, s, r⟩ := w2 h
  exact ⟨G, θ, ρ, S, s, r.imp fun x G1 θ1 H1 ρ1 S1 l1 t1 s1 q v o => by
    obtain ⟨G, θ, ρ, S, s, r⟩ := q v o
    exact ⟨G, θ, ρ, S, s, r.imp fun y G2 θ2 H2 ρ2 S2 l2 t2 s2 q2 v2 o2 => by
      obtain ⟨σ, G, θ, ρ, S, c, c', s, vx, vy, r⟩ := q2 v2 o2
      exact k σ G θ H2 ρ S c c' v v2 s vx vy r⟩⟩
theorem q_p2 (C : Ctx T P defs N sc k X W) {o : P2} (hp : parts2 sc o e = some (a, b)) (h1 : okE a = true) (h2 : okE b = true) (ha : PE X a (liftE T B W m)) (hb : PE X b (liftE T B W n)) : PE X e (liftE T B W (m2 m n fun c c' => ofO (d2 o c c'))) := by
  unfold parts2 at hp
  split at hp
  · split at hp
    · rename_i ho
      cases hp
      cases of_decide_eq_true ho
      exact PE.imp (pe_op (opP _) (pe_O ha) (pe_O hb)) fun σ H Q h => w2 h
    · cases hp
  · split at hp
    · rename_i ho
      cases hp
      cases of_decide_eq_true ho
      exact PE.imp (pe_cmpR (cmpP C.room.units C.w0.eK C.w0.ew _) (pe_O ha) (pe_O hb) (mark_ok h2)) fun σ H Q h => w2 h
    · cases hp
  · cases hp
    refine PE.imp (pe_slice (slP (T := T) (B := B) (W := W) C.w0.eK) (pe_O ha) (po_some (pe_O hb)) po_none) fun σ H Q h => w2sl h (fun x y H => ∃ i, y = V.int i ∧ rSlP T B W x (some i) none H Q) fun σ G θ H ρ S c c' x y s vx vy r => ?_
    cases c' with
    | int i => exact ⟨i, vy.int, σ, G, θ, ρ, S, c, s, vx, r⟩
    | _ => exact r.elim
  · cases hp
    refine PE.imp (pe_slice (slP (T := T) (B := B) (W := W) C.w0.eK) (pe_O ha) po_none (po_some (pe_O hb))) fun σ H Q h => w2sl h (fun x y H => ∃ i, y = V.int i ∧ rSlP T B W x none (some i) H Q) fun σ G θ H ρ S c c' x y s vx vy r => ?_
    cases c' with
    | int i => exact ⟨i, vy.int, σ, G, θ, ρ, S, c, s, vx, r⟩
    | _ => exact r.elim
  · cases hp
    exact PE.imp (pe_ix (ixP C.hu C.w0.eK C.w0.ew) (pe_O ha) (pe_O hb) (plain_ok h2)) fun σ H Q h => w2 h
  · split at hp
    · rename_i hc
      cases hp
      obtain ⟨nm, ty, hb', hx, hg⟩ := is1_ok hc
      cases o <;> cases hb'
      · exact q_c2 (ty := false) C (by decide) rfl (min2P C.calm) hx hg h1 h2 ha hb
      · exact q_c2 (ty := false) C (by decide) rfl (max2P C.calm) hx hg h1 h2 ha hb
    · cases hp
  · cases hp
theorem q_p3 (C : Ctx T P defs N sc k X W) {o : P3} (hp : parts3 sc o e = some (a, b, c)) (h1 : okE a = true) (h2 : okE b = true) (h3 : okE c = true) (ha : PE X a (liftE T B W m)) (hb : PE X b (liftE T B W n)) (hc : PE X c (liftE T B W l)) : PE X e (liftE T B W (m3 m n l fun c1 c2 c3 => ofO (d3 o c1 c2 c3))) := by
  unfold parts3 at hp
  cases hp
theorem asI_of {y : D} {i : Int} {v : V} {G : Hp} {θ : List Addr} {σ : L2.St} (h : asI y = some i) (o : ORep T G θ σ v y) : v = .int i := by
  unfold asI at h
  split at h
  · cases h
    cases o with
    | of r => cases r; rfl
  · cases h
theorem q_sli (C : Ctx T P defs N sc k X W) {p : Pos} (ha : PE X a (liftE T B W m)) (hb : PE X b (liftE T B W n)) (hc : PE X c (liftE T B W l)) : PE X (.Subscript a (.Slice (some b) (some c) none p) pos) (liftE T B W (msl m n l)) := by
  refine PE.imp (pe_slice (slP (T := T) (B := B) (W := W) C.w0.eK) (pe_O ha) (po_some (pe_O hb)) (po_some (pe_O hc))) fun σ H Q ⟨G, θ, ρ, S, s, r⟩ => ⟨G, θ, ρ, S, s, ?_⟩
  have r : Run T B W ((m >>= settle) >>= _) G θ σ ρ S _ := r
  refine r.bind.imp fun x G1 θ1 H1 ρ1 S1 l1 t1 s1 r1 v1 o1 => ⟨G1, θ1, ρ1, S1, s1, ?_⟩
  refine r1.bind.imp fun y G2 θ2 H2 ρ2 S2 l2 t2 s2 r2 v2 o2 => ?_
  obtain ⟨i, hi, r2⟩ := r2.ofO
  refine ⟨i, asI_of hi o2, G2, θ2, ρ2, S2, s2, ?_⟩
  refine r2.bind.imp fun z G3 θ3 H3 ρ3 S3 l3 t3 s3 r3 v3 o3 => ?_
  obtain ⟨j, hj, r3⟩ := r3.ofO
  refine ⟨j, asI_of hj o3, ?_⟩
  obtain ⟨c1, g1, r4⟩ := r3.look
  exact ⟨σ, G3, θ3, ρ3, S3, c1, s3, s3.view ((o1.mono l2 t2).mono l3 t3) g1, r4⟩
/-! ### chains, tests, displays -/
theorem Run.mono {α : Type} {m : Mo α} {G G' : Hp} {θ θ' : List Addr} {σ : L2.St} {ρ : Rho} {S : Sto} {P : α → Hp → List Addr → Hp → Rho → Sto → Prop} (h : Run T B W m G θ σ ρ S P) (l : Le G G') (t : Lt θ θ') : Run T B W m G' θ' σ ρ S P := by
  unfold Run at h ⊢
  cases e : m ρ S with
  | ok x ρ' S' => rw [e] at h; exact fun G2 θ2 H2 l2 t2 => h G2 θ2 H2 (l.trans l2) (t.trans t2)
  | ex c fs ρ' S' => rw [e] at h; exact fun G2 θ2 H2 cls dx l2 t2 => h G2 θ2 H2 cls dx (l.trans l2) (t.trans t2)
  | bad => rw [e] at h; exact h
theorem q_mch {o o' : CmpOp} {σ : L2.St} {H : Hp} {Q : VK} (h : liftE T B W (mch o o' m n l) σ H Q) : tChain (r2P T B W fun c c' => ofO (cmpD o c c')) (r2P T B W fun c c' => ofO (cmpD o' c c')) (liftO T B W (m >>= settle)) (liftO T B W (n >>= settle)) (liftO T B W (l >>= settle)) σ H Q := by
  obtain ⟨G, θ, ρ, S, s, r⟩ := h
  have r : Run T B W ((m >>= settle) >>= _) G θ σ ρ S _ := r
  refine ⟨G, θ, ρ, S, s, r.bind.imp fun x G1 θ1 H1 ρ1 S1 l1 t1 s1 r1 v1 o1 => ⟨G1, θ1, ρ1, S1, s1, r1.bind.imp fun y G2 θ2 H2 ρ2 S2 l2 t2 s2 r2 v2 o2 => ?_⟩⟩
  obtain ⟨c1, g1, r3⟩ := r2.look
  obtain ⟨c2, g2, r4⟩ := r3.look
  obtain ⟨d, hd, r5⟩ := r4.ofO
  refine ⟨σ, G2, θ2, ρ2, S2, c1, c2, s2, s2.view (o1.mono l2 t2) g1, s2.view o2 g2, ?_⟩
  show Run T B W (ofO (cmpD o c1 c2)) G2 θ2 σ ρ2 S2 _
  rw [hd]
  intro G3 θ3 H3 l3 t3 s3 v tv
  cases d with
  | bl kb =>
    have r6 : Run T B W (if kb = true then _ else _) G2 θ2 σ ρ2 S2 _ := r5
    have tb : v = .bl kb := by
      cases tv with
      | of o => cases o with
        | of r => cases r; rfl
    refine ⟨kb, tb, ?_⟩
    cases kb with
    | false =>
      simp only [Bool.false_eq_true, if_false] at r6 ⊢
      exact r6 G3 θ3 H3 l3 t3 s3 _ (.of (.of (.bl _)))
    | true =>
      simp only [if_true] at r6 ⊢
      refine ⟨G3, θ3, ρ2, S2, s3, (r6.mono l3 t3).bind.imp fun z G4 θ4 H4 ρ4 S4 l4 t4 s4 r7 v4 o4 => ?_⟩
      obtain ⟨c2', k2, r8⟩ := r7.look
      obtain ⟨c3, k3, r9⟩ := r8.look
      exact ⟨σ, G4, θ4, ρ4, S4, c2', c3, s4, s4.view ((o2.mono l3 t3).mono l4 t4) k2, s4.view o4 k3, r9⟩
  | _ => exact r5.elim
theorem Mo.assoc {α β γ : Type} {m : Mo α} {f : α → Mo β} {g : β → Mo γ} : (m >>= f) >>= g = m >>= fun a => f a >>= g := by
  funext ρ S
  simp only [bind_def]
  cases m ρ S <;> rfl
theorem q_chain (C : Ctx T P defs N sc k X W) {o o' : CmpOp} (h2 : okE b = true) (h3 : okE c = true) (ha : PE X a (liftE T B W m)) (hb : PE X b (liftE T B W n)) (hc : PE X c (liftE T B W l)) : PE X (.Compare a [o, o'] [b, c] pos) (liftE T B W (mch o o' m n l)) :=
  PE.imp (pe_chain (cmpP (T := T) (B := B) (W := W) C.room.units C.w0.eK C.w0.ew o) (cmpP (T := T) (B := B) (W := W) C.room.units C.w0.eK C.w0.ew o') (pe_O ha) (pe_O hb) (pe_O hc) (mark_ok h3)) fun σ H Q h => q_mch h
theorem q_asB {σ : L2.St} {H : Hp} {Q : Bool → Hp → Prop} (h : liftT T B W (m >>= asB) σ H Q) : liftE T B W m σ H fun x H1 => ∃ b, x = V.bl b ∧ Q b H1 := by
  obtain ⟨G, θ, ρ, S, s, r⟩ := h
  refine ⟨G, θ, ρ, S, s, r.bind.imp fun d G1 θ1 H1 ρ1 S1 l1 t1 s1 r1 v o => ?_⟩
  cases d with
  | bl kb =>
    have tb : v = .bl kb := by
      cases o with
      | of o => cases o with
        | of r => cases r; rfl
    exact ⟨kb, tb, Run.pure' r1 s1⟩
  | _ => exact r1.elim
theorem qt_cmp (C : Ctx T P defs N sc k X W) {o : CmpOp} (h2 : okE b = true) (ha : PE X a (liftE T B W m)) (hb : PE X b (liftE T B W n)) : PT X (.Compare a [o] [b] pos) (liftT T B W (m2 m n (fun c c' => ofO (cmpD o c c')) >>= asB)) :=
  PT.imp (pt_cmpR (cmpP (T := T) (B := B) (W := W) C.room.units C.w0.eK C.w0.ew o) (pe_O ha) (pe_O hb) (mark_ok h2)) fun σ H Q h => w2 (q_asB h)
theorem qt_chain (C : Ctx T P defs N sc k X W) {o o' : CmpOp} (h2 : okE b = true) (h3 : okE c = true) (ha : PE X a (liftE T B W m)) (hb : PE X b (liftE T B W n)) (hc : PE X c (liftE T B W l)) : PT X (.Compare a [o, o'] [b, c] pos) (liftT T B W (mch o o' m n l >>= asB)) :=
  PT.imp (pt_chain (cmpP (T := T) (B := B) (W := W) C.room.units C.w0.eK C.w0.ew o) (cmpP (T := T) (B := B) (W := W) C.room.units C.w0.eK C.w0.ew o') (pe_O ha) (pe_O hb) (pe_O hc) (mark_ok h3)) fun σ H Q h => q_mch (q_asB h)
variable {t u : Mo Bool} {rest : List Expr}
theorem Run.ite {α : Type} {x : Mo Bool} {f g : Mo α} {G : Hp} {θ : List Addr} {σ : L2.St} {ρ : Rho} {S : Sto} {Q : α → Hp → List Addr → Hp → Rho → Sto → Prop} (h : Run T B W (x >>= fun k => if k = true then f else g) G θ σ ρ S Q) :
    Run T B W x G θ σ ρ S fun k G' θ' _ ρ' S' => if k = true then Run T B W f G' θ' σ ρ' S' Q else Run T B W g G' θ' σ ρ' S' Q := h.bind.imp fun k G1 θ1 H1 ρ1 S1 _ _ _ r => by
  cases k with
  | true => exact r
  | false => exact r
theorem q_ife (hc : PT X c (liftT T B W t)) (ha : PE X a (liftE T B W m)) (hb : PE X b (liftE T B W n)) : PE X (.IfExp c a b pos) (liftE T B W (do
    let k ← t
    if k = true then m else n)) := PE.imp (pe_ifExp hc ha hb) fun σ H Q ⟨G, θ, ρ, S, s, r⟩ => ⟨G, θ, ρ, S, s, (Run.ite r).imp fun k G1 θ1 H1 ρ1 S1 l1 t1 s1 r1 => by
  cases k with
  | true => exact ⟨G1, θ1, ρ1, S1, s1, r1⟩
  | false => exact ⟨G1, θ1, ρ1, S1, s1, r1⟩⟩
theorem q_not (ha : PE X a (liftE T B W m)) : PE X (.UnaryOp .Not a pos) (liftE T B W (do
    let d ← m
    let b ← asB d
    pure (.bl (!b)))) := PE.imp (pe_not ha) fun σ H Q h => by
  obtain ⟨G, θ, ρ, S, s, r⟩ := h
  refine ⟨G, θ, ρ, S, s, r.bind.imp fun d G1 θ1 H1 ρ1 S1 l1 t1 s1 r1 v o => ?_⟩
  cases d with
  | bl kb =>
    have tb : v = .bl kb := by
      cases o with
      | of o => cases o with
        | of r => cases r; rfl
    have r2 : Run T B W (pure (.bl (!kb))) G1 θ1 σ ρ1 S1 (PV T B σ Q) := r1
    exact ⟨kb, tb, fin r2 s1 (.bl _)⟩
  | _ => exact r1.elim
theorem qt_not (ha : PT X a (liftT T B W t)) : PT X (.UnaryOp .Not a pos) (liftT T B W (do
    let k ← t
    pure (!k))) := PT.imp (pt_not ha) fun σ H Q ⟨G, θ, ρ, S, s, r⟩ => ⟨G, θ, ρ, S, s, r.bind.imp fun k G1 θ1 H1 ρ1 S1 l1 t1 s1 r1 => Run.pure' r1 s1⟩
/-! ### and, or -/
def bV (m : Mo Bool) : Mo D := m >>= fun b => pure (.bl b)
theorem bl_of {G : Hp} {θ : List Addr} {σ : L2.St} {H : Hp} {ρ : Rho} {v : V} {kb : Bool} (o : TRep T B G θ σ H ρ v (.bl kb)) : v = .bl kb := by
  cases o with
  | of o => cases o with
    | of r => cases r; rfl
theorem q_b1 {o : BoolOp} (ha : PE X a (liftE T B W m)) : PE X (.BoolOp o [a] pos) (liftE T B W (bV (m >>= asB))) := PE.imp (pe_one ha) fun σ H Q ⟨G, θ, ρ, S, s, r⟩ => by
  unfold bV at r
  rw [Mo.assoc] at r
  refine ⟨G, θ, ρ, S, s, r.bind.imp fun d G1 θ1 H1 ρ1 S1 l1 t1 s1 r1 v o => ?_⟩
  cases d with
  | bl kb =>
    rw [bl_of o]
    have r2 : Run T B W (pure (.bl kb)) G1 θ1 σ ρ1 S1 (PV T B σ Q) := r1
    exact fin r2 s1 (.bl _)
  | _ => exact r1.elim
theorem q_and (ha : PE X a (liftE T B W m)) (hb : PE X (.BoolOp .And (b :: rest) pos) (liftE T B W (bV t))) : PE X (.BoolOp .And (a :: b :: rest) pos) (liftE T B W (bV (do
    let d ← m
    let k ← asB d
    if k = true then t else pure false))) := PE.imp (pe_and ha hb) fun σ H Q ⟨G, θ, ρ, S, s, r⟩ => by
  unfold bV at r
  rw [Mo.assoc] at r
  refine ⟨G, θ, ρ, S, s, r.bind.imp fun d G1 θ1 H1 ρ1 S1 l1 t1 s1 r1 v o => ?_⟩
  cases d with
  | bl kb =>
    refine ⟨kb, bl_of o, ?_⟩
    cases kb with
    | true => exact ⟨G1, θ1, ρ1, S1, s1, r1⟩
    | false =>
      have r2 : Run T B W (pure (.bl false)) G1 θ1 σ ρ1 S1 (PV T B σ Q) := r1
      exact fin r2 s1 (.bl _)
  | _ => exact r1.elim
theorem q_or (ha : PE X a (liftE T B W m)) (hb : PE X (.BoolOp .Or (b :: rest) pos) (liftE T B W (bV t))) : PE X (.BoolOp .Or (a :: b :: rest) pos) (liftE T B W (bV (do
    let d ← m
    let k ← asB d
    if k = true then pure true else t))) := PE.imp (pe_or ha hb) fun σ H Q ⟨G, θ, ρ, S, s, r⟩ => by
  unfold bV at r
  rw [Mo.assoc] at r
  refine ⟨G, θ, ρ, S, s, r.bind.imp fun d G1 θ1 H1 ρ1 S1 l1 t1 s1 r1 v o => ?_⟩
  cases d with
  | bl kb =>
    refine ⟨kb, bl_of o, ?_⟩
    cases kb with
    | false => exact ⟨G1, θ1, ρ1, S1, s1, r1⟩
    | true =>
      have r2 : Run T B W (pure (.bl true)) G1 θ1 σ ρ1 S1 (PV T B σ Q) := r1
      exact fin r2 s1 (.bl _)
  | _ => exact r1.elim
theorem qw_1 {o : BoolOp} (ha : PT X a (liftT T B W t)) : PW X (.BoolOp o [a] pos) (liftT T B W t) := by
  cases o
  · exact pw_and1 ha
  · exact pw_or1 ha
theorem qw_and (ha : PT X a (liftT T B W t)) (hb : PW X (.BoolOp .And (b :: rest) pos) (liftT T B W u)) : PW X (.BoolOp .And (a :: b :: rest) pos) (liftT T B W (do
    let k ← t
    if k = true then u else pure false)) := PW.imp (pw_and ha hb) fun σ H Q ⟨G, θ, ρ, S, s, r⟩ => ⟨G, θ, ρ, S, s, (Run.ite r).imp fun k G1 θ1 H1 ρ1 S1 l1 t1 s1 r1 => by
  cases k with
  | true => exact ⟨G1, θ1, ρ1, S1, s1, r1⟩
  | false =>
    rw [if_neg (by decide)] at r1
    exact Run.pure' r1 s1⟩
theorem qw_or (ha : PT X a (liftT T B W t)) (hb : PW X (.BoolOp .Or (b :: rest) pos) (liftT T B W u)) : PW X (.BoolOp .Or (a :: b :: rest) pos) (liftT T B W (do
    let k ← t
    if k = true then pure true else u)) := PW.imp (pw_or ha hb) fun σ H Q ⟨G, θ, ρ, S, s, r⟩ => ⟨G, θ, ρ, S, s, (Run.ite r).imp fun k G1 θ1 H1 ρ1 S1 l1 t1 s1 r1 => by
  cases k with
  | false => exact ⟨G1, θ1, ρ1, S1, s1, r1⟩
  | true =>
    rw [if_pos rfl] at r1
    exact Run.pure' r1 s1⟩
/-! ### arguments, displays, calls -/
variable {es : List Expr} {ms : Mo (List D)}
theorem qa_nil : PA X [] (liftA T B W (pure [])) := PA.imp pa_nil fun σ H Q ⟨G, θ, ρ, S, s, r⟩ => Run.pure' r s _ .nil
theorem qa_cons (h1 : okE a = true) (ha : PE X a (liftE T B W m)) (hr : PA X es (liftA T B W ms)) : PA X (a :: es) (liftA T B W (do
    let x ← m >>= persist
    let xs ← ms
    pure (x :: xs))) := PA.imp (pa_cons (pe_P ha) hr (star_ok h1)) fun σ H Q ⟨G, θ, ρ, S, s, r⟩ => by
  refine ⟨G, θ, ρ, S, s, r.bind.imp fun x G1 θ1 H1 ρ1 S1 l1 t1 s1 r1 v o => ⟨G1, θ1, ρ1, S1, s1, r1.bind.imp fun xs G2 θ2 H2 ρ2 S2 l2 t2 s2 r2 vs os => ?_⟩⟩
  exact Run.pure' r2 s2 _ (.cons (o.mono l2 t2) os)
theorem q_tup {j : Nat} (h : PA X es (liftA T B W ms)) : PE X (.Tuple es j pos) (liftE T B W (do
    let ds ← ms
    if fits ds.length then pure (.tup ds) else fail)) := PE.imp (pe_tup h) fun σ H Q ⟨G, θ, ρ, S, s, r⟩ => by
  refine ⟨G, θ, ρ, S, s, r.bind.imp fun ds G1 θ1 H1 ρ1 S1 l1 t1 s1 r1 vs os => ?_⟩
  by_cases hf : fits ds.length = true
  · rw [if_pos hf] at r1
    exact ⟨by rw [os.length]; exact fits_iff hf, finTup r1 s1 os⟩
  · rw [if_neg hf] at r1
    exact r1.elim
theorem q_lst (h : PA X es (liftA T B W ms)) : PE X (.List es pos) (liftE T B W (do
    let ds ← ms
    if fits ds.length then pure (.nw (.lst ds)) else fail)) := PE.imp (pe_lst h) fun σ H Q ⟨G, θ, ρ, S, s, r⟩ => by
  refine ⟨G, θ, ρ, S, s, r.bind.imp fun ds G1 θ1 H1 ρ1 S1 l1 t1 s1 r1 vs os => ?_⟩
  by_cases hf : fits ds.length = true
  · rw [if_pos hf] at r1
    exact ⟨by rw [os.length]; exact fits_iff hf, finNew r1 s1 (.lst os)⟩
  · rw [if_neg hf] at r1
    exact r1.elim
theorem call_key {f : List D → Sto → Rc} {dvs : List V} {dds : List D} (hd : ∀ G θ, RepL T G θ dvs dds) {σ : L2.St} {H : Hp} {Q : VK} (h : liftE T B W (do
    let ds ← ms
    callM (f (ds ++ dds))) σ H Q) : tCallSD (spOf T f) dvs (WE W) (liftA T B W ms) σ H Q := by
  obtain ⟨G, θ, ρ, S, s, r⟩ := h
  refine ⟨G, θ, ρ, S, s, r.bind.imp fun ds G1 θ1 H1 ρ1 S1 l1 t1 s1 r1 vs os => ?_⟩
  exact Run.call r1 s1 (os.append (hd G1 θ1)) fun d G2 θ2 H2 S2 l2 t2 s2 q v rv => q v (.of (.of rv))
theorem call_key0 {f : List D → Sto → Rc} {dvs : List V} {dds : List D} (hd : ∀ G θ, RepL T G θ dvs dds) {σ : L2.St} {H : Hp} {Q : VK} (h : liftE T B W (callM (f dds)) σ H Q) : spOf T f dvs H Q (WE W σ) := by
  obtain ⟨G, θ, ρ, S, s, r⟩ := h
  exact Run.call r s (hd G θ) fun d G2 θ2 H2 S2 l2 t2 s2 q v rv => q v (.of (.of rv))
theorem q_call (C : Ctx T P defs N sc k X W) (hx : x ∈ defs) (hg : glb sc x = true) (h1 : okE a = true) (h2 : es.all okE = true) (h : PA X (a :: es) (liftA T B W ms)) (i : Nat) {p : Pos} : PE X (.Call (.Name x p) (a :: es) [] pos) (liftE T B W (do
    let ds ← ms
    callM (P.fn x (ds ++ P.dflt x i)))) := by
  obtain ⟨g1, g2, g3⟩ := C.gl hg
  obtain ⟨f, fd, ps, F, hm, hk, hb⟩ := C.w0.fns x hx
  obtain ⟨dvs, ds, b1, b2, b3⟩ := hb i
  exact PE.imp (pe_callSD (E := WE W) F C.room g1 hm hk b1 b2 (fun σ => passAt C.tk σ) h g2 (star_ok h1) (star_any h2)) fun σ H Q q => call_key b3 q
theorem q_call0 (C : Ctx T P defs N sc k X W) (hx : x ∈ defs) (hg : glb sc x = true) {p : Pos} : PE X (.Call (.Name x p) [] [] pos) (liftE T B W (do
    let ds ← pure []
    callM (P.fn x (ds ++ P.dflt x 0)))) := by
  obtain ⟨g1, g2, g3⟩ := C.gl hg
  obtain ⟨f, fd, ps, F, hm, hk, hb⟩ := C.w0.fns x hx
  obtain ⟨dvs, ds, b1, b2, b3⟩ := hb 0
  refine PE.imp (t := fun σ H Q => spOf T (P.fn x) dvs H Q (WE W σ)) ⟨fun pins s σ H Q I h => ?_⟩ fun σ H Q q => call_key0 b3 q
  refine wpAny_Call_Name_kw (ld_glob I g1 hm ?_ g2)
  exact PySem.W.callWith_K0 I.kIn hk (run_fnSD (us := []) (vs := []) F C.room b1 b2 (passAt C.tk σ) I .nil h)
theorem Sim.store {G : Hp} {θ : List Addr} {σ : L2.St} {H : Hp} {ρ : Rho} {S : Sto} {a : Addr} {o : HO} {d : D} (s : Sim T B G θ σ H ρ S) (h1 : H a = some o) (ob : Ob T G θ o d) (h2 : G a = none) (h3 : a ∉ θ) (h4 : B.H a = none) (h5 : ∀ (i : Nat) (e : D), ρ[i]? = some (.own e) → σ[i]? ≠ some (some (.ref a))) :
    Sim T B G (θ ++ [a]) σ H ρ (S ++ [⟨d, false⟩]) := by
  have t := Lt.snoc θ a
  refine ⟨s.scr, s.sub, s.frame, s.le.trans t, ?_, by simp [s.len], fun n b c e1 e2 => ?_, fun b hb n => ?_, s.slen, fun i d h => ?_, fun i d h => ?_, s.prot, s.apart, s.x⟩
  · rw [List.nodup_append]
    refine ⟨s.nd, by simp, fun x hx y hy e => ?_⟩
    simp only [List.mem_singleton] at hy
    rw [e, hy] at hx
    exact h3 hx
  · by_cases hn : n < θ.length
    · rw [List.getElem?_append_left hn] at e1
      rw [List.getElem?_append_left (by rw [s.len]; exact hn)] at e2
      obtain ⟨g, o', ob', k⟩ := s.sto n b c e1 e2
      exact ⟨g, o', ob'.mono (Le.refl _) t, k⟩
    · have hn' : n = θ.length := by
        have := (List.getElem?_eq_some_iff.mp e1).1
        simp only [List.length_append, List.length_cons, List.length_nil] at this
        omega
      subst hn'
      have e1' : b = a := by simpa using e1.symm
      have e2' : c = ⟨d, false⟩ := by
        rw [← s.len] at e2
        simpa using e2.symm
      subst e1'
      subst e2'
      exact ⟨h2, o, ob.mono (Le.refl _) t, h1⟩
  · rcases List.mem_append.mp hb with hb | hb
    · exact s.fresh b hb n
    · simp only [List.mem_singleton] at hb
      rw [hb]; exact h4
  · obtain ⟨v, g1, g2⟩ := s.val i d h
    exact ⟨v, g1, g2.mono (Le.refl _) t⟩
  · obtain ⟨b, u, g1, g2, g3, g4, g5, g6⟩ := s.own i d h
    refine ⟨b, u, g1, g2, g3.mono (Le.refl _) t, g4, fun z => ?_, g6⟩
    rcases List.mem_append.mp z with z | z
    · exact g5 z
    · simp only [List.mem_singleton] at z
      exact h5 i d h (by rw [g1, z])
/-- an object that is kept in the store -/
theorem q_newm (ha : PE X a (liftE T B W m)) : PE X a (liftE T B W (do
    let d ← m
    match d with
    | .nw c => fun ρ S => .ok (.ref S.length) ρ (S ++ [⟨c, false⟩])
    | _ => fail)) := PE.imp ha fun σ H Q ⟨G, θ, ρ, S, s, r⟩ => by
  refine ⟨G, θ, ρ, S, s, r.bind.imp fun d G1 θ1 H1 ρ1 S1 l1 t1 s1 r1 v o => ?_⟩
  cases o with
  | of o => cases o with
    | of r => cases r <;> exact r1.elim
    | sl _ => exact r1.elim
  | @nw b o d h1 ob h2 h3 h4 h5 =>
    have s2 := s1.store h1 ob h2 h3 h4 h5
    have r2 : Run T B W (fun ρ S => .ok (.ref S.length) ρ (S ++ [⟨d, false⟩]) : Mo D) G1 θ1 σ ρ1 S1 (PV T B σ Q) := r1
    refine r2 G1 (θ1 ++ [b]) H1 (Le.refl _) (Lt.snoc _ _) s2 _ (.of (.of (.ref ?_)))
    rw [s1.len]
    simp
theorem q_dct0 : PE X (.Dict [] [] pos) (liftE T B W (pure (.nw (.dct [])))) := PE.imp pe_dnewK fun σ H Q ⟨G, θ, ρ, S, s, r⟩ => finNew r s (.dct rfl .nil)
end
end TM
end
section
set_option Elab.async false
set_option linter.all false
set_option maxRecDepth 100000
set_option maxHeartbeats 4000000
/-! FW11: what a for walks; targets. -/
namespace TM
open PySem PySem.Spec PyProof.Rows L2

/-- J walks the source, from the state G, θ on -/
def Wlk (T : Tab) (G : Hp) (θ : List Addr) (L : Hp → Prop) (J : It) : Src → Prop
  | .fix ds => ∀ (B : Base) (G' : Hp) (θ' : List Addr) (σ : L2.St) (H : Hp) (ρ : Rho) (S : Sto), Le G G' → Lt θ θ' → Sim T B G' θ' σ H ρ S → L H → ∀ i : Nat,
    (i < ds.length → J.go i H ∧ ∀ x H2, J.yld i H x H2 → ∃ G2 d, Le G' G2 ∧ Sim T B G2 θ' σ H2 ρ S ∧ ds[i]? = some d ∧ Rep T G2 θ' x d) ∧ (ds.length ≤ i → J.stop i H)
  | .dyn n => ∀ (B : Base) (G' : Hp) (θ' : List Addr) (σ : L2.St) (H : Hp) (ρ : Rho) (S : Sto), Le G G' → Lt θ θ' → Sim T B G' θ' σ H ρ S → L H → ∀ (i : Nat) (ds : List D), derefS S (.ref n) = some (.lst ds) →
    (i < ds.length → J.go i H ∧ ∀ x H2, J.yld i H x H2 → ∃ G2 d, Le G' G2 ∧ Sim T B G2 θ' σ H2 ρ S ∧ ds[i]? = some d ∧ Rep T G2 θ' x d) ∧ (ds.length ≤ i → J.stop i H)
section
variable (T : Tab) (B : Base) (W : L2.WX)
def liftI (m : Mo Src) : TI := fun σ H R => ∃ G θ ρ S, Sim T B G θ σ H ρ S ∧ Run T B W m G θ σ ρ S fun s G' θ' H' _ _ => ∀ J, Wlk T G' θ' (fun _ => True) J s → R J H'
def liftG (m : D → Mo Unit) : TG := fun v σ H Q => ∃ G θ ρ S d, Sim T B G θ σ H ρ S ∧ Rep T G θ v d ∧ RunS T B W (m d) G θ ρ S fun _ _ _ σ' H' _ _ => Q σ' H'
end
theorem PI.imp {X : Cx} {tg iter : Expr} {t t' : TI} (h : PI X tg iter t) (k : ∀ σ H R, t' σ H R → t σ H R) : PI X tg iter t' := ⟨fun pins s σ H R I q => h.run pins s σ H R I (k σ H R q)⟩
theorem PG.imp {X : Cx} {tg : Expr} {t t' : TG} (h : PG X tg t) (k : ∀ v σ H Q, t' v σ H Q → t v σ H Q) : PG X tg t' := ⟨fun pins s σ H v u Q I r q => h.run pins s σ H v u Q I r (k v σ H Q q)⟩

section
variable {T : Tab} {P : Prov} {defs N : List Str} {sc : Scope} {k : Nat} {X : Cx} {W : L2.WX} {B : Base} {e a b c tg : Expr} {m n l : Mo D} {pos : Pos} {x : Str}
theorem Run.mono' {α : Type} {m : Mo α} {G G' : Hp} {θ θ' : List Addr} {σ : L2.St} {ρ : Rho} {S : Sto} {Q : α → Hp → List Addr → Hp → Rho → Sto → Prop} (h : Run T B W m G θ σ ρ S Q) (l : Le G G') (t : Lt θ θ') : Run T B W m G' θ' σ ρ S Q := Run.mono h l t
/-! ### what they walk -/
theorem wlk_list {L : Hp → Prop} {G : Hp} {θ : List Addr} {K : PySem.W.Frag} {a : Addr} {xs : List V} {ds : List D} (h : G a = some (.lst xs)) (r : RepL T G θ xs ds) : Wlk T G θ L (Itl K a) (.fix ds) := fun B G' θ' σ H ρ S l t s _ i => by
  have hx : SqL K H a xs := SqL.ofRl (s.sub a _ (l _ _ h))
  refine ⟨fun hi => ⟨?_, fun x H2 hy => ?_⟩, fun hi => ⟨xs, hx, by rw [r.length]; exact hi⟩⟩
  · obtain ⟨v, g1, g2⟩ := r.get (List.getElem?_eq_getElem hi)
    exact ⟨xs, v, hx, g1⟩
  · obtain ⟨rfl, hy⟩ := hy
    obtain ⟨d, g1, g2⟩ := r.getV (hy xs hx)
    exact ⟨G', d, Le.refl _, s, g1, g2.mono l t⟩
theorem wlk_tup {L : Hp → Prop} {G : Hp} {θ : List Addr} {K : PySem.W.Frag} {a : Addr} {xs : List V} {ds : List D} (h : G a = some (.tup xs)) (r : RepL T G θ xs ds) : Wlk T G θ L (Itt K a) (.fix ds) := fun B G' θ' σ H ρ S l t s _ i => by
  have hx : SqT K H a xs := SqT.of ((s.sub a _ (l _ _ h)).plain fun z => z)
  refine ⟨fun hi => ⟨?_, fun x H2 hy => ?_⟩, fun hi => ⟨xs, hx, by rw [r.length]; exact hi⟩⟩
  · obtain ⟨v, g1, g2⟩ := r.get (List.getElem?_eq_getElem hi)
    exact ⟨xs, v, hx, g1⟩
  · obtain ⟨rfl, hy⟩ := hy
    obtain ⟨d, g1, g2⟩ := r.getV (hy xs hx)
    exact ⟨G', d, Le.refl _, s, g1, g2.mono l t⟩
theorem wlk_str {L : Hp → Prop} {G : Hp} {θ : List Addr} {z : Str} : Wlk T G θ L (Its z) (.fix (z.cps.toList.map fun c => .str ⟨#[c]⟩)) := fun B G' θ' σ H ρ S l t s _ i => by
  simp only [List.length_map, Array.length_toList]
  refine ⟨fun hi => ⟨hi, fun x H2 hy => ?_⟩, fun hi => hi⟩
  obtain ⟨rfl, c, hc, rfl⟩ := hy
  exact ⟨G', _, Le.refl _, s, by rw [List.getElem?_map, Array.getElem?_toList, hc]; rfl, .str _⟩
theorem wlk_rng {L : Hp → Prop} {G : Hp} {θ : List Addr} {i : Int} {j : Nat} : Wlk T G θ L (Itr i j) (.fix (rngD i j)) := fun B G' θ' σ H ρ S l t s _ q => by
  unfold rngD
  simp only [List.length_map, List.length_range]
  refine ⟨fun hi => ⟨hi, fun x H2 hy => ?_⟩, fun hi => hi⟩
  obtain ⟨rfl, rfl⟩ := hy
  exact ⟨G', _, Le.refl _, s, by rw [List.getElem?_map, List.getElem?_range hi]; rfl, .int _⟩
theorem wlk_dyn {L : Hp → Prop} {G : Hp} {θ : List Addr} {K : PySem.W.Frag} {a : Addr} {n : Nat} (h : θ[n]? = some a) : Wlk T G θ L (Itl K a) (.dyn n) := fun B G' θ' σ H ρ S l t s _ i ds hd => by
  cases s.viewS (.ref (t _ _ h)) hd with
  | of r e => cases r with
    | lst hG r =>
      -- a store's object is not settled
      have hm := List.mem_of_getElem? (t _ _ h)
      cases q : S[n]? with
      | none =>
        have : (S[n]?).map (·.d) = some (D.lst ds) := hd
        rw [q] at this; cases this
      | some c =>
        have := (s.sto n a c (t _ _ h) q).1
        rw [hG] at this; cases this
  | ob hr ob =>
    cases ob with
    | lst r =>
      have hx : SqL K H a _ := SqL.ofRl hr
      refine ⟨fun hi => ⟨?_, fun x H2 hy => ?_⟩, fun hi => ⟨_, hx, by rw [r.length]; exact hi⟩⟩
      · obtain ⟨v, g1, g2⟩ := r.get (List.getElem?_eq_getElem hi)
        exact ⟨_, v, hx, g1⟩
      · obtain ⟨rfl, hy⟩ := hy
        obtain ⟨d, g1, g2⟩ := r.getV (hy _ hx)
        exact ⟨G', d, Le.refl _, s, g1, g2⟩
theorem wlk_enum {L : Hp → Prop} {G : Hp} {θ : List Addr} {K : PySem.W.Frag} {a : Addr} {xs : List V} {ds : List D} (h : G a = some (.lst xs)) (r : RepL T G θ xs ds) : Wlk T G θ L (Ite K a) (.fix (enumD ds)) := fun B G' θ' σ H ρ S l t s _ i => by
  have hx : SqL K H a xs := SqL.ofRl (s.sub a _ (l _ _ h))
  have len : (enumD ds).length = ds.length := by unfold enumD; simp
  rw [len]
  refine ⟨fun hi => ⟨?_, fun x H2 hy => ?_⟩, fun hi => ⟨xs, hx, by rw [r.length]; exact hi⟩⟩
  · obtain ⟨v, g1, g2⟩ := r.get (List.getElem?_eq_getElem hi)
    exact ⟨xs, v, hx, g1⟩
  · obtain ⟨q, y, rfl, hq, rfl, k⟩ := hy
    obtain ⟨d, g1, g2⟩ := r.getV (k xs hx)
    obtain ⟨l2, s2⟩ := s.alloc (o := .tup [.int (i : Nat), y]) True.intro hq
    refine ⟨_, .tup [.int (i : Nat), d], l2, s2, ?_, .tup upd_same (.cons (.int _) (.cons ((g2.mono l t).mono l2 (Lt.refl _)) .nil))⟩
    unfold enumD
    rw [List.getElem?_zipWith, List.getElem?_range hi, g1]
theorem zip_len {xs ys : List D} : (zipD xs ys).length = min xs.length ys.length := by unfold zipD; simp
theorem wlk_zipL {L : Hp → Prop} {G : Hp} {θ : List Addr} {K : PySem.W.Frag} {a b : Addr} {xs ys : List V} {ds es : List D} (h : G a = some (.lst xs)) (r : RepL T G θ xs ds) (h' : G b = some (.lst ys)) (r' : RepL T G θ ys es) : Wlk T G θ L (Itz K a b) (.fix (zipD ds es)) := fun B G' θ' σ H ρ S l t s _ i => by
  have hx : SqL K H a xs := SqL.ofRl (s.sub a _ (l _ _ h))
  have hy : SqL K H b ys := SqL.ofRl (s.sub b _ (l _ _ h'))
  rw [zip_len]
  refine ⟨fun hi => ⟨?_, fun x H2 hz => ?_⟩, fun hi => ⟨xs, ys, hx, hy, by rw [r.length, r'.length]; omega⟩⟩
  · obtain ⟨v, g1, g2⟩ := r.get (List.getElem?_eq_getElem (show i < ds.length by omega))
    obtain ⟨w, k1, k2⟩ := r'.get (List.getElem?_eq_getElem (show i < es.length by omega))
    exact ⟨xs, ys, v, w, hx, hy, g1, k1⟩
  · obtain ⟨q, y, z, rfl, hq, rfl, k, k'⟩ := hz
    obtain ⟨d, g1, g2⟩ := r.getV (k xs hx)
    obtain ⟨e, m1, m2⟩ := r'.getV (k' ys hy)
    obtain ⟨l2, s2⟩ := s.alloc (o := .tup [y, z]) True.intro hq
    refine ⟨_, .tup [d, e], l2, s2, ?_, .tup upd_same (.cons ((g2.mono l t).mono l2 (Lt.refl _)) (.cons ((m2.mono l t).mono l2 (Lt.refl _)) .nil))⟩
    unfold zipD
    rw [List.getElem?_zipWith, g1, m1]
theorem wlk_zipT {L : Hp → Prop} {G : Hp} {θ : List Addr} {K : PySem.W.Frag} {a b : Addr} {xs ys : List V} {ds es : List D} (h : G a = some (.tup xs)) (r : RepL T G θ xs ds) (h' : G b = some (.tup ys)) (r' : RepL T G θ ys es) : Wlk T G θ L (RZ.ItzT K a b) (.fix (zipD ds es)) := fun B G' θ' σ H ρ S l t s _ i => by
  have hx : SqT K H a xs := SqT.of ((s.sub a _ (l _ _ h)).plain fun z => z)
  have hy : SqT K H b ys := SqT.of ((s.sub b _ (l _ _ h')).plain fun z => z)
  rw [zip_len]
  refine ⟨fun hi => ⟨?_, fun x H2 hz => ?_⟩, fun hi => ⟨xs, ys, hx, hy, by rw [r.length, r'.length]; omega⟩⟩
  · obtain ⟨v, g1, g2⟩ := r.get (List.getElem?_eq_getElem (show i < ds.length by omega))
    obtain ⟨w, k1, k2⟩ := r'.get (List.getElem?_eq_getElem (show i < es.length by omega))
    exact ⟨xs, ys, v, w, hx, hy, g1, k1⟩
  · obtain ⟨q, y, z, rfl, hq, rfl, k, k'⟩ := hz
    obtain ⟨d, g1, g2⟩ := r.getV (k xs hx)
    obtain ⟨e, m1, m2⟩ := r'.getV (k' ys hy)
    obtain ⟨l2, s2⟩ := s.alloc (o := .tup [y, z]) True.intro hq
    refine ⟨_, .tup [d, e], l2, s2, ?_, .tup upd_same (.cons ((g2.mono l t).mono l2 (Lt.refl _)) (.cons ((m2.mono l t).mono l2 (Lt.refl _)) .nil))⟩
    unfold zipD
    rw [List.getElem?_zipWith, g1, m1]
/-- the run of m is known: its rest -/
theorem Run.at {α β : Type} {m : Mo α} {f : α → Mo β} {G : Hp} {θ : List Addr} {σ : L2.St} {ρ : Rho} {S : Sto} {Q : β → Hp → List Addr → Hp → Rho → Sto → Prop} (r : Run T B W (m >>= f) G θ σ ρ S Q) {x : α} {ρ' : Rho} {S' : Sto} (e : m ρ S = .ok x ρ' S') : Run T B W (f x) G θ σ ρ' S' Q := by
  unfold Run at r ⊢
  rw [bind_def, e] at r
  exact r
theorem Run.of {α : Type} {m : Mo α} {G : Hp} {θ : List Addr} {σ : L2.St} {ρ : Rho} {S : Sto} {Q : α → Hp → List Addr → Hp → Rho → Sto → Prop} {x : α} {ρ' : Rho} {S' : Sto} (e : m ρ S = .ok x ρ' S') (h : ∀ G' θ' H', Le G G' → Lt θ θ' → Sim T B G' θ' σ H' ρ' S' → Q x G' θ' H' ρ' S') : Run T B W m G θ σ ρ S Q := by
  unfold Run
  rw [e]
  exact h
theorem Run.frz {α : Type} {f : D → Mo α} {i : Nat} {v : V} {G : Hp} {θ : List Addr} {σ : L2.St} {H : Hp} {ρ : Rho} {S : Sto} {Q : α → Hp → List Addr → Hp → Rho → Sto → Prop} (s : Sim T B G θ σ H ρ S) (h : σ[i]? = some (some v)) (r : Run T B W (frz i >>= f) G θ σ ρ S Q) :
    ∃ d G' ρ', Le G G' ∧ Sim T B G' θ σ H ρ' S ∧ Rep T G' θ v d ∧ frz i ρ S = .ok d ρ' S ∧ Run T B W (f d) G' θ σ ρ' S Q := by
  have r2 := r.bind
  unfold Run at r2
  cases e : TM.frz i ρ S with
  | bad => rw [e] at r2; exact r2.elim
  | ex _ _ _ _ =>
    unfold TM.frz at e
    split at e <;> cases e
  | ok d ρ' S' =>
    rw [e] at r2
    have e0 := e
    unfold TM.frz at e
    split at e
    · rename_i d' hd
      cases e
      obtain ⟨a, o, h1, l2, h2, s2⟩ := s.freeze hd
      rw [h] at h1
      cases h1
      exact ⟨_, _, _, l2, s2, h2, rfl, r2 _ θ H l2 (Lt.refl _) s2⟩
    · rename_i d' hd
      cases e
      obtain ⟨w, h1, h2⟩ := s.val i d hd
      rw [h] at h1
      cases h1
      exact ⟨_, _, _, Le.refl _, s, h2, rfl, r2 G θ H (Le.refl _) (Lt.refl _) s⟩
    · cases e
/-- the kind of what is walked is known ahead of the walk -/
theorem pi_seq (ha : PE X a (liftE T B W m)) : PI X tg a (liftI T B W (mSeq m)) := by
  refine ⟨fun pins s σ H R I ⟨G, θ, ρ, S, sm, r⟩ => ?_⟩
  unfold mSeq at r
  cases e : (m >>= settle) ρ S with
  | bad =>
    unfold Run at r
    rw [bind_def, e] at r
    exact r.elim
  | ex c fs ρ' S' =>
    refine (pi_list (pe_O ha)).run pins s σ H R I ⟨G, θ, ρ, S, sm, ?_⟩
    unfold Run at r ⊢
    rw [bind_def, e] at r
    rw [e]
    exact r
  | ok d ρ' S' =>
    have r1 := r.at e
    cases d with
    | tup ds =>
      refine (pi_tup (pe_O ha)).run pins s σ H R I ⟨G, θ, ρ, S, sm, Run.of e fun G1 θ1 H1 l1 t1 s1 v o => ?_⟩
      cases o with
      | of o => cases o with
        | tup h rl => exact ⟨_, rfl, ⟨_, SqT.of ((s1.sub _ _ h).plain fun z => z)⟩, Run.pure' (r1.mono' l1 t1) s1 _ (wlk_tup h rl)⟩
    | str z =>
      refine (pi_str (pe_O ha)).run pins s σ H R I ⟨G, θ, ρ, S, sm, Run.of e fun G1 θ1 H1 l1 t1 s1 v o => ?_⟩
      cases o with
      | of o => cases o with
        | str z => exact ⟨_, rfl, Run.pure' (r1.mono' l1 t1) s1 _ wlk_str⟩
    | lst ds =>
      refine (pi_list (pe_O ha)).run pins s σ H R I ⟨G, θ, ρ, S, sm, Run.of e fun G1 θ1 H1 l1 t1 s1 v o => ?_⟩
      cases o with
      | of o => cases o with
        | lst h rl => exact ⟨_, rfl, ⟨_, SqL.ofRl (s1.sub _ _ h)⟩, Run.pure' (r1.mono' l1 t1) s1 _ (wlk_list h rl)⟩
    | ref n =>
      refine (pi_list (pe_O ha)).run pins s σ H R I ⟨G, θ, ρ, S, sm, Run.of e fun G1 θ1 H1 l1 t1 s1 v o => ?_⟩
      cases o with
      | of o => cases o with
        | ref h =>
          obtain ⟨c, hc, r2⟩ := Run.look (r1.mono' l1 t1)
          cases c with
          | lst ds =>
            obtain ⟨a', xs, ea, ha', ra⟩ := (s1.viewS (.ref h) hc).lst s1.sub
            cases ea
            exact ⟨_, rfl, ⟨xs, SqL.ofRl ha'⟩, Run.pure' r2 s1 _ (wlk_dyn h)⟩
          | _ => exact r2.elim
    | sl i =>
      -- a slot's own object: its kind stands in the slot
      have r2 : Run T B W (frz i >>= srcV) G θ σ ρ' S' _ := r1
      cases ef : frz i ρ' S' with
      | bad =>
        unfold Run at r2
        rw [bind_def, ef] at r2
        exact r2.elim
      | ex _ _ _ _ =>
        unfold TM.frz at ef
        split at ef <;> cases ef
      | ok c ρ2 S2 =>
        have r3 := r2.at ef
        have all : ∀ {G1 : Hp} {θ1 : List Addr} {H1 : Hp} {v : V}, Le G G1 → Lt θ θ1 → Sim T B G1 θ1 σ H1 ρ' S' → ORep T G1 θ1 σ v (.sl i) → ∃ G2, Le G1 G2 ∧ Sim T B G2 θ1 σ H1 ρ2 S2 ∧ Rep T G2 θ1 v c := fun {G1 θ1 H1 v} l1 t1 s1 o => by
          cases o with
          | of o => cases o
          | sl h =>
            obtain ⟨c', G2, ρ3, l2, s2, rp, e3, _⟩ := Run.frz s1 h (r2.mono' l1 t1)
            rw [ef] at e3
            cases e3
            exact ⟨G2, l2, s2, rp⟩
        cases c with
        | tup ds =>
          refine (pi_tup (pe_O ha)).run pins s σ H R I ⟨G, θ, ρ, S, sm, Run.of e fun G1 θ1 H1 l1 t1 s1 v o => ?_⟩
          obtain ⟨G2, l2, s2, rp⟩ := all l1 t1 s1 o
          cases rp with
          | tup h rl => exact ⟨_, rfl, ⟨_, SqT.of ((s2.sub _ _ h).plain fun z => z)⟩, Run.pure' (r3.mono' (l1.trans l2) t1) s2 _ (wlk_tup h rl)⟩
        | str z =>
          refine (pi_str (pe_O ha)).run pins s σ H R I ⟨G, θ, ρ, S, sm, Run.of e fun G1 θ1 H1 l1 t1 s1 v o => ?_⟩
          obtain ⟨G2, l2, s2, rp⟩ := all l1 t1 s1 o
          cases rp with
          | str z => exact ⟨_, rfl, Run.pure' (r3.mono' (l1.trans l2) t1) s2 _ wlk_str⟩
        | lst ds =>
          refine (pi_list (pe_O ha)).run pins s σ H R I ⟨G, θ, ρ, S, sm, Run.of e fun G1 θ1 H1 l1 t1 s1 v o => ?_⟩
          obtain ⟨G2, l2, s2, rp⟩ := all l1 t1 s1 o
          cases rp with
          | lst h rl => exact ⟨_, rfl, ⟨_, SqL.ofRl (s2.sub _ _ h)⟩, Run.pure' (r3.mono' (l1.trans l2) t1) s2 _ (wlk_list h rl)⟩
        | _ => exact r3.elim
    | _ => exact r1.elim
theorem okRng_of {i : Int} (h : okRng i = true) : -(2 ^ 62) ≤ i ∧ i < 2 ^ 62 := of_decide_eq_true h
theorem pi_r1 (C : Ctx T P defs N sc k X W) (hg : glb sc "range" = true) (h1 : okE a = true) (ha : PE X a (liftE T B W m)) {p : Pos} : PI X tg (.Call (.Name "range" p) [a] [] pos) (liftI T B W (mR1 m)) := by
  obtain ⟨g1, g2, g3⟩ := C.gl hg
  refine PI.imp (pi_range1 g1 (C.w0.free "range" (by decide)) (pa_1 h1 (pe_O ha)) (star_ok h1)) fun σ H R ⟨G, θ, ρ, S, s, r⟩ => ⟨G, θ, ρ, S, s, r.bind.imp fun d G1 θ1 H1 ρ1 S1 l1 t1 s1 r1 v o => ?_⟩
  obtain ⟨i, hi, r2⟩ := r1.ofO
  by_cases hr : okRng i = true
  · rw [if_pos hr] at r2
    obtain ⟨h1, h2⟩ := okRng_of hr
    exact ⟨i, by rw [asI_of hi o], h1, h2, Run.pure' r2 s1 _ wlk_rng⟩
  · rw [if_neg hr] at r2
    exact r2.elim
theorem pi_r2 (C : Ctx T P defs N sc k X W) (hg : glb sc "range" = true) (h1 : okE a = true) (h2 : okE b = true) (ha : PE X a (liftE T B W m)) (hb : PE X b (liftE T B W n)) {p : Pos} : PI X tg (.Call (.Name "range" p) [a, b] [] pos) (liftI T B W (mR2 m n)) := by
  obtain ⟨g1, g2, g3⟩ := C.gl hg
  refine PI.imp (pi_range2 g1 (C.w0.free "range" (by decide)) (pa_2 h1 h2 (pe_O ha) (pe_O hb)) (by rw [star_ok h1, star_ok h2]; rfl) (by rw [star_ok h2]; rfl)) fun σ H R ⟨G, θ, ρ, S, s, r⟩ => ⟨G, θ, ρ, S, s, r.bind.imp fun d G1 θ1 H1 ρ1 S1 l1 t1 s1 r1 v o => ⟨G1, θ1, ρ1, S1, s1, r1.bind.imp fun d' G2 θ2 H2 ρ2 S2 l2 t2 s2 r2 v2 o2 => ?_⟩⟩
  obtain ⟨i, hi, r3⟩ := r2.ofO
  obtain ⟨j, hj, r4⟩ := r3.ofO
  by_cases hr : (okRng i && okRng j) = true
  · rw [if_pos hr] at r4
    obtain ⟨k1, k2⟩ := Bool.and_eq_true_iff.mp hr
    obtain ⟨h1, h2⟩ := okRng_of k1
    obtain ⟨h3, h4⟩ := okRng_of k2
    exact ⟨i, j, by rw [asI_of hi o, asI_of hj o2], ⟨h1, h2, h3, h4⟩, Run.pure' r4 s2 _ wlk_rng⟩
  · rw [if_neg hr] at r4
    exact r4.elim
theorem pi_en (C : Ctx T P defs N sc k X W) (hg : glb sc "enumerate" = true) (ht : (xTup tg).isSome = true) (h1 : okE a = true) (ha : PE X a (liftE T B W m)) {p : Pos} : PI X tg (.Call (.Name "enumerate" p) [a] [] pos) (liftI T B W (mEnum m)) := by
  obtain ⟨es, he⟩ := Option.isSome_iff_exists.mp ht
  obtain ⟨j, tp, rfl⟩ := xTup_ok he
  obtain ⟨g1, g2, g3⟩ := C.gl hg
  refine PI.imp (pi_enum g1 (C.w0.free "enumerate" (by decide)) (pa_cons (pe_P ha) pa_nil (star_ok h1)) (star_ok h1)) fun σ H R ⟨G, θ, ρ, S, s, r⟩ => ⟨G, θ, ρ, S, s, r.bind.imp fun d G1 θ1 H1 ρ1 S1 l1 t1 s1 r1 v o => ?_⟩
  cases o with
  | lst h rl => exact ⟨_, _, rfl, SqL.ofRl (s1.sub _ _ h), Run.pure' r1 s1 _ (wlk_enum h rl)⟩
  | _ => exact r1.elim
theorem pi_zp0 (C : Ctx T P defs N sc k X W) (hg : glb sc "zip" = true) (ht : (xTup tg).isSome = true) (h1 : okE a = true) (h2 : okE b = true) (ha : PE X a (liftE T B W m)) (hb : PE X b (liftE T B W n)) {p : Pos} : PI X tg (.Call (.Name "zip" p) [a, b] [] pos) (liftI T B W (do
    let x ← m >>= persist
    let y ← n >>= persist
    zipQ x y)) := by
  obtain ⟨es, he⟩ := Option.isSome_iff_exists.mp ht
  obtain ⟨j, tp, rfl⟩ := xTup_ok he
  obtain ⟨g1, g2, g3⟩ := C.gl hg
  refine PI.imp (RZ.pi_zipA g1 (C.w0.free "zip" (by decide)) (pa_cons (pe_P ha) (pa_cons (pe_P hb) pa_nil (star_ok h2)) (star_ok h1)) (by rw [star_ok h1]) (by rw [star_ok h2]; rfl)) fun σ H R ⟨G, θ, ρ, S, s, r⟩ => ⟨G, θ, ρ, S, s, r.bind.imp fun d G1 θ1 H1 ρ1 S1 l1 t1 s1 r1 v o => ⟨G1, θ1, ρ1, S1, s1, r1.bind.imp fun d' G2 θ2 H2 ρ2 S2 l2 t2 s2 r2 v2 o2 => ?_⟩⟩
  have o' := o.mono l2 t2
  cases o' with
  | lst h rl =>
    cases o2 with
    | lst h' rl' => exact ⟨_, _, _, _, rfl, .inl ⟨SqL.ofRl (s2.sub _ _ h), SqL.ofRl (s2.sub _ _ h'), Run.pure' r2 s2 _ (wlk_zipL h rl h' rl')⟩⟩
    | _ => exact r2.elim
  | tup h rl =>
    cases o2 with
    | tup h' rl' => exact ⟨_, _, _, _, rfl, .inr ⟨SqT.of ((s2.sub _ _ h).plain fun z => z), SqT.of ((s2.sub _ _ h').plain fun z => z), Run.pure' r2 s2 _ (wlk_zipT h rl h' rl')⟩⟩
    | _ => exact r2.elim
  | _ => exact r2.elim
/-! ### zip of two texts -/
/-- their signs, in new pairs -/
def ItzS (x y : Str) : It := ⟨fun i _ => i < x.cps.size ∧ i < y.cps.size,
  fun i H v H' => ∃ q c c', v = .ref q ∧ H q = none ∧ H' = upd H q (.tup [.str ⟨#[c]⟩, .str ⟨#[c']⟩]) ∧ x.cps[i]? = some c ∧ y.cps[i]? = some c', fun i _ => x.cps.size ≤ i ∨ y.cps.size ≤ i⟩
theorem five {c z t o a b : Addr} (h : c ∈ [z, t, o, a, b]) : c = z ∨ c = t ∨ c = o ∨ c = a ∨ c = b := by simpa using h
theorem turn_zipS {P : Program} {w : World} {K : PySem.W.Frag} {es : List Expr} {j : Nat} {tp : Pos} {x y : Str} {tx ty : Tok} {n : Addr} :
    Turn P w K (.Tuple es j tp) (ItzS x y) [n + 4, n + 2, n + 3, n, n + 1] (n + 4) (fun i h => i ≤ x.cps.size ∧ i ≤ y.cps.size ∧ PySem.IsZip h (n + 4) (n + 2) (n + 3) .none ∧ PySem.IsTupOf2 h (n + 2) (.ref n) (.ref (n + 1)) ∧ (∃ a b, PySem.IsTupOf2 h (n + 3) a b) ∧
      h.IsStrIter n (PySem.strIterType x) x tx i ∧ h.IsStrIter (n + 1) (PySem.strIterType y) y ty i) := by
  have sep : PySem.ZipSep2 (n + 4) (n + 2) (n + 3) n (n + 1) [n] [n + 1] := by
    constructor <;> first
      | (simp; done)
      | (show (_ : Nat) ≠ _; omega)
      | (intro h; rcases List.mem_singleton.mp h with h; exact absurd (show (_ : Nat) = _ from h) (by omega))
  have ne4 : ∀ {a b : Nat}, a ≠ b → (a : Addr) ≠ b := fun h => h
  refine ⟨by simp, fun i h st c hc => ?_, fun i h h' st k => ?_, ?_, ?_, fun A i s Q E st h => PySem.wpAny_pyIter_zip st.2.2.1 h⟩
  · obtain ⟨_, _, hz, hTI, ⟨a, b, hTO⟩, ⟨o1, e1, _, d1⟩, ⟨o2, e2, _, d2⟩⟩ := st
    rcases five hc with q | q | q | q | q
    · subst q; exact ⟨_, hz, fun v z => nomatch z⟩
    · subst q; exact ⟨_, hTI, fun v z => nomatch z⟩
    · subst q; exact ⟨_, hTO, fun v z => nomatch z⟩
    · subst q; exact ⟨o1, e1, fun v z => by rw [d1] at z; cases z⟩
    · subst q; exact ⟨o2, e2, fun v z => by rw [d2] at z; cases z⟩
  · obtain ⟨b1, b2, hz, hTI, ⟨a, b, hTO⟩, ⟨o1, e1, r1⟩, ⟨o2, e2, r2⟩⟩ := st
    exact ⟨b1, b2, k (n + 4) (by simp) _ hz, k (n + 2) (by simp) _ hTI, ⟨a, b, k (n + 3) (by simp) _ hTO⟩, ⟨o1, k n (by simp) _ e1, r1⟩, ⟨o2, k (n + 1) (by simp) _ e2, r2⟩⟩
  · intro X hP hw hK hc i pins s σ H E I hf st hg
    subst hP hw hK
    obtain ⟨b1, b2, hz, hTI, ⟨a, b, hTO⟩, h1, h2⟩ := st
    have hh : X.A.in1.handled = none := I.ok.hd hc
    refine PySem.wpAny_pyNext_zipD2_item (St1 := fun i h => h.IsStrIter n (PySem.strIterType x) x tx i) (St2 := fun i h => h.IsStrIter (n + 1) (PySem.strIterType y) y ty i) sep (PySem.Draws.text hh n x tx) (PySem.Draws.text hh (n + 1) y ty) hz hTI hTO h1 h2 hg.1 hg.2 fun x1 x2 h' tk y1 y2 z' TO' h1' h2' hT hsz hk => ?_
    obtain ⟨c, u, gc, rfl⟩ := y1
    obtain ⟨c', u', gc', rfl⟩ := y2
    have lz : n + 4 < s.heap.objs.size := Heap.lt_size hz
    refine ⟨_, rfl, PySem.wpAny_letOwnedTupleGo_zip (s := { s with heap := h', toks := tk }) z' fun h'' z'' sb => ?_⟩
    have hT2 : h''.get? s.heap.objs.size = some { cls := .type "tuple", data := .seq #[.str ⟨#[c]⟩ u, .str ⟨#[c']⟩ u'] } := (sb.2 _ (Nat.ne_of_gt lz)).trans hT
    have I1 : Inv X pins σ (upd H s.heap.objs.size (.tup [.str ⟨#[c]⟩, .str ⟨#[c']⟩])) { s with heap := h'', toks := tk } :=
      I.turnedNew (t' := tk) (ch := [n + 4, n + 2, n + 3, n, n + 1]) (fun b o hb q => (sb.2 b (fun z => hb (by simp [z]))).trans (hk b o (fun z => hb (by simp [z])) (fun z => hb (by simp [z])) (fun z => hb (by simp [z])) (fun z => hb (by simp [z])) q)) hf (Nat.le_refl _)
        ⟨by show 2 ≤ sizeLine; decide, [.str ⟨#[c]⟩ u, .str ⟨#[c']⟩ u'], .cons ⟨u, rfl⟩ (.cons ⟨u', rfl⟩ .nil), ⟨_, hT2, rfl, _, rfl⟩⟩
    have up : ∀ {b : Addr} {o : Obj}, b ≠ n + 4 → h'.get? b = some o → h''.get? b = some o := fun hb e => (sb.2 _ hb).trans e
    refine ⟨.ref s.heap.objs.size, _, I1, rfl, ⟨_, c, c', rfl, I.hok.fresh (Nat.le_refl _), rfl, gc, gc'⟩, ⟨hg.1, hg.2, z'', up sep.TIz (hk _ _ sep.TIz sep.TITO sep.TIi1 sep.TIi2 hTI), ⟨_, _, up sep.TOz TO'⟩, ?_, ?_⟩, fun b hb => ?_⟩
    · obtain ⟨o, e, r⟩ := h1'
      exact ⟨o, up sep.zi1.symm e, r⟩
    · obtain ⟨o, e, r⟩ := h2'
      exact ⟨o, up sep.zi2.symm e, r⟩
    · have lt : b < s.heap.objs.size := by
        have : (b : Nat) ≤ n + 4 := by rcases five hb with q | q | q | q | q <;> (rw [q]; show (_ : Nat) ≤ _; omega)
        exact Nat.lt_of_le_of_lt this lz
      rw [upd_ne (Nat.ne_of_lt lt)]
      exact (hf b hb).1
  · intro X hP hw hK hc i pins s σ H E I hf st hg
    subst hP hw hK
    obtain ⟨b1, b2, hz, hTI, ⟨a, b, hTO⟩, h1, h2⟩ := st
    have hh : X.A.in1.handled = none := I.ok.hd hc
    have hend : i = x.cps.size ∨ i = y.cps.size := hg.imp (fun q => Nat.le_antisymm b1 q) fun q => Nat.le_antisymm b2 q
    exact PySem.wpAny_pyNext_zipD2_end (St1 := fun i h => h.IsStrIter n (PySem.strIterType x) x tx i) (St2 := fun i h => h.IsStrIter (n + 1) (PySem.strIterType y) y ty i) sep (PySem.Draws.text hh n x tx) (PySem.Draws.text hh (n + 1) y ty) hz hTI hTO h1 h2 b1 b2 hend fun h' tk hk => ⟨rfl, I.turnedL (t' := tk) (ch := [n + 4, n + 2, n + 3, n, n + 1]) (fun b o hb q =>
      hk b o (fun z => hb (by simp [z])) (fun z => hb (by simp [z])) (fun z => hb (by simp [z])) (fun z => hb (by simp [z])) q) hf⟩
def iZipS (ta : TA) : TI := fun σ H R => ta σ H fun vs H1 => ∃ x y, vs = [.str x, .str y] ∧ R (ItzS x y) H1
theorem pi_zipS {e e2 : Expr} {ta : TA} {p tp : Pos} {es : List Expr} {j : Nat} (hg : Gl X "zip") (hm : X.mg "zip" = none) (ha : PA X [e, e2] ta)
    (hs : starEach [e, e2] X.env = (false, eval e X.env) :: starEach [e2] X.env) (hp : (backTo pos (starEach [e2] X.env)).any (·.1) = false) : PI X (.Tuple es j tp) (.Call (.Name "zip" p) [e, e2] [] pos) (iZipS ta) := by
  refine ⟨fun pins s σ H R I h => Call_ (ld_blt I hg hm PyProof.Rows.boot_zip (PyProof.Rows.callWith_type1 (thn (ha.run pos pins s σ H _ I h) fun us s1 ⟨vs, H1, I1, r1, x, y, ex, q⟩ => ?_) hs hp))⟩
  subst ex
  cases r1 with
  | cons r rr => cases rr with
    | cons r' rr =>
      cases rr
      obtain ⟨tx, rfl⟩ := r
      obtain ⟨ty, rfl⟩ := r'
      refine PySem.zip_begins2 (PySem.begins_text x tx) (PySem.begins_text y ty) True.intro True.intro fun h' hz hTI hTO h1 h2 _ hk => PySem.wpAny_pyIter_zip hz ?_
      refine ⟨s1.heap.objs.size + 4, _, _, _, H1, rfl, I1.kept (t' := s1.toks) hk, turn_zipS (n := s1.heap.objs.size) (tx := tx) (ty := ty), ⟨Nat.zero_le _, Nat.zero_le _, hz, hTI, ⟨_, _, hTO⟩, ⟨_, h1, rfl, rfl⟩, ⟨_, h2, rfl, rfl⟩⟩, fun c hc => ?_, q⟩
      have : s1.heap.objs.size ≤ c := by rcases five hc with q | q | q | q | q <;> (rw [q]; show (_ : Nat) ≤ _; omega)
      exact I1.fpOk this (I1.hok.fresh this)
theorem signs_get {x : Str} {i : Nat} : (signsD x)[i]? = (x.cps[i]?).map fun c => D.str ⟨#[c]⟩ := by
  unfold signsD
  rw [List.getElem?_map, Array.getElem?_toList]
theorem wlk_zipS {L : Hp → Prop} {G : Hp} {θ : List Addr} {x y : Str} : Wlk T G θ L (ItzS x y) (.fix (zipD (signsD x) (signsD y))) := fun B G' θ' σ H ρ S l t s _ i => by
  have lx : (signsD x).length = x.cps.size := by unfold signsD; simp
  have ly : (signsD y).length = y.cps.size := by unfold signsD; simp
  rw [zip_len, lx, ly]
  refine ⟨fun hi => ⟨⟨by omega, by omega⟩, fun v H2 hv => ?_⟩, fun hi => by show _ ∨ _; omega⟩
  obtain ⟨q, c, c', rfl, hq, rfl, k, k'⟩ := hv
  obtain ⟨l2, s2⟩ := s.alloc (o := .tup [.str ⟨#[c]⟩, .str ⟨#[c']⟩]) True.intro hq
  refine ⟨_, .tup [.str ⟨#[c]⟩, .str ⟨#[c']⟩], l2, s2, ?_, .tup upd_same (.cons (.str _) (.cons (.str _) .nil))⟩
  unfold zipD
  rw [List.getElem?_zipWith, signs_get, signs_get, k, k']
  rfl
/-- zip of two lists, of two tuples, of two texts: the run tells which -/
theorem pi_zp (C : Ctx T P defs N sc k X W) (hg : glb sc "zip" = true) (ht : (xTup tg).isSome = true) (h1 : okE a = true) (h2 : okE b = true) (ha : PE X a (liftE T B W m)) (hb : PE X b (liftE T B W n)) {p : Pos} : PI X tg (.Call (.Name "zip" p) [a, b] [] pos) (liftI T B W (mZip m n)) := by
  refine ⟨fun pins s σ H R I ⟨G, θ, ρ, S, sm, r⟩ => ?_⟩
  have base := (pi_zp0 (pos := pos) (p := p) C hg ht h1 h2 ha hb).run pins s σ H R I
  have r0 : Run T B W ((m >>= persist) >>= fun x => (n >>= persist) >>= fun y => zipS x y) G θ σ ρ S _ := r
  cases e : (m >>= persist) ρ S with
  | bad =>
    unfold Run at r0
    rw [bind_def, e] at r0
    exact r0.elim
  | ex c fs ρ' S' =>
    refine base ⟨G, θ, ρ, S, sm, ?_⟩
    show Run T B W ((m >>= persist) >>= _) G θ σ ρ S _
    unfold Run at r0 ⊢
    rw [bind_def, e] at r0 ⊢
    exact r0
  | ok d ρ' S' =>
    have r1 := r0.at e
    have go : (∀ y, zipS d y = zipQ d y) → _ := fun hq => base ⟨G, θ, ρ, S, sm, by
      show Run T B W ((m >>= persist) >>= _) G θ σ ρ S _
      unfold Run at r1 ⊢
      rw [bind_def, e]
      simp only [hq] at r1
      exact r1⟩
    cases d with
    | str x =>
      obtain ⟨es, he⟩ := Option.isSome_iff_exists.mp ht
      obtain ⟨j, tp, rfl⟩ := xTup_ok he
      obtain ⟨g1, g2, g3⟩ := C.gl hg
      refine (pi_zipS (pos := pos) (p := p) g1 (C.w0.free "zip" (by decide)) (pa_cons (pe_P ha) (pa_cons (pe_P hb) pa_nil (star_ok h2)) (star_ok h1)) (by rw [star_ok h1]) (by rw [star_ok h2]; rfl)).run pins s σ H R I ⟨G, θ, ρ, S, sm, Run.of e fun G1 θ1 H1 l1 t1 s1 v o => ?_⟩
      cases o with
      | str x => exact ⟨G1, θ1, ρ', S', s1, (r1.mono' l1 t1).bind.imp fun d' G2 θ2 H2 ρ2 S2 l2 t2 s2 r2 v2 o2 => by
        cases o2 with
        | str y => exact ⟨x, y, rfl, Run.pure' r2 s2 _ wlk_zipS⟩
        | _ => exact r2.elim⟩
    | _ => exact go fun y => rfl
/-! ### targets -/
theorem RunS.mono {α : Type} {m : Mo α} {G G' : Hp} {θ θ' : List Addr} {ρ : Rho} {S : Sto} {Q : α → Hp → List Addr → L2.St → Hp → Rho → Sto → Prop} (h : RunS T B W m G θ ρ S Q) (l : Le G G') (t : Lt θ θ') : RunS T B W m G' θ' ρ S Q := by
  unfold RunS at h ⊢
  cases e : m ρ S with
  | ok x ρ' S' => rw [e] at h; exact fun G2 θ2 σ2 H2 l2 t2 => h G2 θ2 σ2 H2 (l.trans l2) (t.trans t2)
  | ex c fs ρ' S' => rw [e] at h; exact fun G2 θ2 σ2 H2 cls dx l2 t2 => h G2 θ2 σ2 H2 cls dx (l.trans l2) (t.trans t2)
  | bad => rw [e] at h; exact h
theorem slotOk_ok {L : Str → Bool} {i : Nat} (h : slotOk N L i e = true) : ∃ x pos, e = .Name x pos ∧ N[i]? = some x ∧ L x = true := by
  unfold slotOk at h
  split at h
  · rename_i x hx
    obtain ⟨pos, rfl⟩ := xName_ok hx
    simp only [Bool.and_eq_true, decide_eq_true_eq] at h
    exact ⟨x, pos, rfl, h.1, h.2⟩
  · cases h
/-- where the text may store to names -/
def Stor (X : Cx) (L : Str → Bool) : Prop := ∀ x, L x = true → L2.Loc X.env.scope x ∧ (X.fn x = true ∨ X.env.scope.names.lookup x = some .local)
theorem pg_slot (C : Ctx T P defs N sc k X W) {L : Str → Bool} (hs : Stor X L) {i : Nat} (h : slotOk N L i e = true) : PG X e (gName i) := by
  obtain ⟨x, pos, rfl, h1, h2⟩ := slotOk_ok h
  exact pg_name (by rw [C.eN]; exact C.nd) (by rw [C.eN]; exact h1) (hs x h2).1 (hs x h2).2
end
end TM
end
section
set_option Elab.async false
set_option linter.all false
set_option maxRecDepth 100000
set_option maxHeartbeats 4000000
/-! FW12: targets; statements without loops. -/
namespace TM
open PySem PySem.Spec PyProof.Rows L2

section
variable {T : Tab} {P : Prov} {defs N : List Str} {sc : Scope} {L : Str → Bool} {k : Nat} {X : Cx} {W : L2.WX} {B : Base} {e a b c tg : Expr} {m n l : Mo D} {pos : Pos} {x : Str}
theorem asg_cons {es : List Expr} {env : Env} (h : okE e = true) : assignEach (e :: es) env = (false, assign e env) :: assignEach es env := by
  cases e <;> first | rfl | cases h
/-- from settled values -/
theorem RunS.setRep {i : Nat} {d : D} {v : V} {G : Hp} {θ : List Addr} {σ : L2.St} {H : Hp} {ρ : Rho} {S : Sto} {Q : Unit → Hp → List Addr → L2.St → Hp → Rho → Sto → Prop} (h : RunS T B W (TM.setSlot i d) G θ ρ S Q) (s : Sim T B G θ σ H ρ S) (r : Rep T G θ v d) :
    ∃ G' ρ' S', Le G G' ∧ Sim T B G' θ (σ.set i (some v)) H ρ' S' ∧ Q () G' θ (σ.set i (some v)) H ρ' S' := h.setSlot s (.of (.of r))
def liftGs (T : Tab) (B : Base) (W : L2.WX) (m : List D → Mo Unit) : TGs := fun vs σ H Q => ∃ G θ ρ S ds, Sim T B G θ σ H ρ S ∧ RepL T G θ vs ds ∧ RunS T B W (m ds) G θ ρ S fun _ _ _ σ' H' _ _ => Q σ' H'
theorem pg_items {es : List Expr} {j : Nat} {t : TGs} {n : Nat} (hc : X.calm = true) (h : PGs X es t) (hn : (assignEach es X.env).length = n) (hst : (assignEach es X.env).findIdx? (·.1) = none) : PG X (.Tuple es j pos) (fun v σ H Q => gTup X.K n t v σ H Q ∨ gLst X.K n t v σ H Q) :=
  ⟨fun pins s σ H v u Q I r q => q.elim (fun q => (pg_tup hc h hn hst).run pins s σ H v u Q I r q) (fun q => (pg_lst hc h hn hst).run pins s σ H v u Q I r q)⟩
theorem isGs_ok : ∀ {gs : Gs} {es : List Expr} {env : Env}, isGs N L gs es = true → (assignEach es env).length = gsN gs ∧ (assignEach es env).findIdx? (·.1) = none
  | .nil, [], _, _ => ⟨rfl, rfl⟩
  | .nil, _ :: _, _, h => by simp [isGs] at h
  | .cons _ _, [], _, h => by simp [isGs] at h
  | .cons g gs, e :: es, env, h => by
    simp only [isGs, Bool.and_eq_true] at h
    obtain ⟨a, b⟩ := isGs_ok (env := env) h.2
    rw [asg_cons h.1.1]
    refine ⟨by simp only [List.length_cons, a, gsN], ?_⟩
    rw [List.findIdx?_cons]
    simp only [b]
    rfl
theorem intsRep {G : Hp} {θ : List Addr} : ∀ is : List Int, RepL T G θ (is.map V.int) (is.map D.int)
  | [] => .nil
  | i :: is => .cons (.int i) (intsRep is)
theorem items_ok {G : Hp} {θ : List Addr} {σ : L2.St} {H : Hp} {ρ : Rho} {S : Sto} {v : V} {d : D} {α : Type} {f : List D → Mo α} {Q : α → Hp → List Addr → L2.St → Hp → Rho → Sto → Prop} (s : Sim T B G θ σ H ρ S) (r : Rep T G θ v d) (h : RunS T B W (itemsM d >>= f) G θ ρ S Q) :
    ∃ a xs ds, v = .ref a ∧ (SqT T.K H a xs ∨ SqL T.K H a xs) ∧ RepL T G θ xs ds ∧ RunS T B W (f ds) G θ ρ S Q := by
  unfold RunS itemsM at h
  rw [bind_def, bind_def] at h
  unfold TM.look at h
  cases e : deref ρ S d with
  | none => rw [e] at h; exact h.elim
  | some c =>
    rw [e] at h
    have vx := s.view (.of r) e
    cases c with
    | tup ds =>
      obtain ⟨a, xs, rfl, ha, ra⟩ := vx.tup s.sub
      exact ⟨a, xs, ds, rfl, .inl (SqT.of ha), ra, h⟩
    | lst ds =>
      obtain ⟨a, xs, rfl, ha, ra⟩ := vx.lst s.sub
      exact ⟨a, xs, ds, rfl, .inr (SqL.ofRl ha), ra, h⟩
    | wd x =>
      cases x with
      | nums is =>
        obtain ⟨a, rfl, ha⟩ := vx.wd
        exact ⟨a, is.map V.int, is.map D.int, rfl, .inl (T.wo _ _ ha H), intsRep is, h⟩
      | _ => exact h.elim
    | _ => exact h.elim
theorem wipe_at {σ : L2.St} : ∀ {vs : List Nat} {i : Nat}, (wipe σ vs)[i]? = if i ∈ vs ∧ i < σ.length then some none else σ[i]?
  | [], i => by simp [wipe]
  | v :: vs, i => by
    unfold wipe
    by_cases hv : v = i
    · subst hv
      by_cases hl : v < σ.length
      · rw [List.getElem?_set_self (by rw [wipe_length]; exact hl), if_pos ⟨List.mem_cons_self .., hl⟩]
      · rw [if_neg (fun z => hl z.2), List.getElem?_eq_none (by rw [List.length_set, wipe_length]; omega), List.getElem?_eq_none (by omega)]
    · rw [List.getElem?_set_ne hv, wipe_at]
      have e : i ∈ v :: vs ↔ i ∈ vs := by
        simp only [List.mem_cons]
        exact ⟨fun z => z.resolve_left (fun q => hv q.symm), .inr⟩
      simp only [e]
theorem wipe_set {σ : L2.St} {vs : List Nat} {i : Nat} {x : Option V} (h : i ∈ vs) : wipe (σ.set i x) vs = wipe σ vs := by
  apply List.ext_getElem?
  intro j
  rw [wipe_at, wipe_at, List.length_set]
  by_cases hj : j ∈ vs ∧ j < σ.length
  · rw [if_pos hj, if_pos hj]
  · rw [if_neg hj, if_neg hj]
    by_cases hij : i = j
    · subst hij
      have hl : ¬ i < σ.length := fun z => hj ⟨h, z⟩
      rw [List.getElem?_eq_none (by rw [List.length_set]; omega), List.getElem?_eq_none (by omega)]
    · rw [List.getElem?_set_ne hij]
def Off (g : G) (σ σ' : L2.St) : Prop := ∀ vs, gIn vs g = true → wipe σ' vs = wipe σ vs
def Offs (g : Gs) (σ σ' : L2.St) : Prop := ∀ vs, gsIn vs g = true → wipe σ' vs = wipe σ vs
mutual
theorem sG' : ∀ (g : G) {e : Expr}, Ctx T P defs N sc k X W → Stor X L → isG N L g e = true → PG X e (fun v σ H Q => liftG T B W (gSet g) v σ H fun σ' H' => Off g σ σ' → Q σ' H')
  | .nm i, e, C, hs, h => by
    simp only [isG] at h
    refine PG.imp (pg_slot C hs h) fun v σ H Q ⟨G, θ, ρ, S, d, s, r, q⟩ => ?_
    simp only [gSet] at q
    obtain ⟨G', ρ', S', l, s2, q2⟩ := RunS.setRep q s r
    exact q2 fun vs hv => wipe_set (of_decide_eq_true hv)
  | .tup gs, e, C, hs, h => by
    simp only [isG] at h
    split at h
    · rename_i es hx
      obtain ⟨j, pos, rfl⟩ := xTup_ok hx
      obtain ⟨h1, h2⟩ := isGs_ok (env := X.env) h
      refine PG.imp (pg_items C.calm (sGs' gs C hs h) h1 h2) fun v σ H Q ⟨G, θ, ρ, S, d, s, r, q⟩ => ?_
      simp only [gSet] at q
      obtain ⟨a, xs, ds, rfl, ha, ra, q2⟩ := items_ok s r q
      by_cases hl : ds.length = gsN gs
      · rw [if_pos hl] at q2
        have key : liftGs T B W (gSets gs) xs σ H fun σ' H' => Offs gs σ σ' → Q σ' H' := ⟨G, θ, ρ, S, ds, s, ra, q2.imp fun _ G1 θ1 σ1 H1 ρ1 S1 l1 t1 s1 q o => q fun vs hv => o vs (by simpa only [gIn] using hv)⟩
        rw [C.w0.eK]
        rcases ha with ha | ha
        · exact .inl ⟨a, xs, rfl, ha, by rw [ra.length]; exact hl, key⟩
        · exact .inr ⟨a, xs, rfl, ha, by rw [ra.length]; exact hl, key⟩
      · rw [if_neg hl] at q2
        exact q2.elim
    · cases h
theorem sGs' : ∀ (gs : Gs) {es : List Expr}, Ctx T P defs N sc k X W → Stor X L → isGs N L gs es = true → PGs X es (fun vs σ H Q => liftGs T B W (gSets gs) vs σ H fun σ' H' => Offs gs σ σ' → Q σ' H')
  | .nil, [], C, hs, h => by
    refine ⟨fun pins s σ H vs us Q I r q => ?_⟩
    obtain ⟨G, θ, ρ, S, ds, sm, rl, q⟩ := q
    cases rl with
    | nil =>
      cases r
      simp only [gSets] at q
      exact assignInOrder_nil ⟨σ, H, I, RunS.pure' q sm fun _ _ => rfl⟩
    | cons _ _ => exact q.elim
  | .nil, _ :: _, C, hs, h => by simp [isGs] at h
  | .cons _ _, [], C, hs, h => by simp [isGs] at h
  | .cons g gs, e :: es, C, hs, h => by
    simp only [isGs, Bool.and_eq_true] at h
    obtain ⟨⟨h1, h2⟩, h3⟩ := h
    refine ⟨fun pins s σ H vs us Q I r q => ?_⟩
    obtain ⟨G, θ, ρ, S, ds, sm, rl, q⟩ := q
    cases rl with
    | nil => exact q.elim
    | @cons v vs d ds r1 r2 =>
      cases r with
      | cons ru rus =>
        simp only [gSets] at q
        rw [asg_cons h1]
        have q2 : liftG T B W (gSet g) v σ H fun σ1 H1 => Off g σ σ1 → liftGs T B W (gSets gs) vs σ1 H1 fun σ' H' => Offs gs σ1 σ' → Q σ' H' := ⟨G, θ, ρ, S, d, sm, r1, q.bind.imp fun _ G1 θ1 σ1 H1 ρ1 S1 l1 t1 s1 q1 o1 => ⟨G1, θ1, ρ1, S1, ds, s1, r2.mono l1 t1, q1.imp fun _ G2 θ2 σ2 H2 ρ2 S2 l2 t2 s2 q3 o2 => q3 fun us hu => by
          simp only [gsIn, Bool.and_eq_true] at hu
          rw [o2 us hu.2, o1 us hu.1]⟩⟩
        refine assignInOrder_cons (thn ((sG' g C hs h2).run pins s σ H _ _ _ I ru q2) fun _ s1 ⟨σ1, H1, I1, q1⟩ => ?_)
        exact (sGs' gs C hs h3).run pins s1 σ1 H1 _ _ Q I1 rus q1
end
theorem sG (g : G) {e : Expr} (C : Ctx T P defs N sc k X W) (hs : Stor X L) (h : isG N L g e = true) : PG X e (liftG T B W (gSet g)) :=
  PG.imp (sG' g C hs h) fun v σ H Q ⟨G, θ, ρ, S, d, s, r, q⟩ => ⟨G, θ, ρ, S, d, s, r, q.imp fun _ _ _ _ _ _ _ _ _ _ q _ => q⟩
end
end TM
end
section
set_option Elab.async false
set_option linter.all false
set_option maxRecDepth 100000
set_option maxHeartbeats 4000000
/-! FWL: list comprehensions. -/
namespace TM
open PySem PySem.Spec PyProof.Rows L2

theorem wipeR_at {ρ : Rho} : ∀ {vs : List Nat} {i : Nat}, (wipeR ρ vs)[i]? = if i ∈ vs ∧ i < ρ.length then some .no else ρ[i]?
  | [], i => by simp [wipeR]
  | v :: vs, i => by
    unfold wipeR
    have hlen : (wipeR ρ vs).length = ρ.length := by
      have : ∀ us, (wipeR ρ us).length = ρ.length := fun us => by
        induction us with
        | nil => rfl
        | cons u us ih => unfold wipeR; rw [List.length_set, ih]
      exact this vs
    by_cases hv : v = i
    · subst hv
      by_cases hl : v < ρ.length
      · rw [List.getElem?_set_self (by rw [hlen]; exact hl), if_pos ⟨List.mem_cons_self .., hl⟩]
      · rw [if_neg (fun z => hl z.2), List.getElem?_eq_none (by rw [List.length_set, hlen]; omega), List.getElem?_eq_none (by omega)]
    · rw [List.getElem?_set_ne hv, wipeR_at]
      have e : i ∈ v :: vs ↔ i ∈ vs := by
        simp only [List.mem_cons]
        exact ⟨fun z => z.resolve_left (fun q => hv q.symm), .inr⟩
      simp only [e]
theorem wipeR_length {ρ : Rho} : ∀ vs, (wipeR ρ vs).length = ρ.length
  | [] => rfl
  | u :: us => by unfold wipeR; rw [List.length_set, wipeR_length us]
theorem backR_length {ρ ρ0 : Rho} : ∀ vs, (backR ρ ρ0 vs).length = ρ.length
  | [] => rfl
  | u :: us => by unfold backR; rw [List.length_set, backR_length us]
theorem backR_at {ρ ρ0 : Rho} : ∀ {vs : List Nat} {i : Nat}, (backR ρ ρ0 vs)[i]? = if i ∈ vs ∧ i < ρ.length then some (keepSl (ρ0.getD i .no)) else ρ[i]?
  | [], i => by simp [backR]
  | v :: vs, i => by
    unfold backR
    by_cases hv : v = i
    · subst hv
      by_cases hl : v < ρ.length
      · rw [List.getElem?_set_self (by rw [backR_length]; exact hl), if_pos ⟨List.mem_cons_self .., hl⟩]
      · rw [if_neg (fun z => hl z.2), List.getElem?_eq_none (by rw [List.length_set, backR_length]; omega), List.getElem?_eq_none (by omega)]
    · rw [List.getElem?_set_ne hv, backR_at]
      have e : i ∈ v :: vs ↔ i ∈ vs := by
        simp only [List.mem_cons]
        exact ⟨fun z => z.resolve_left (fun q => hv q.symm), .inr⟩
      simp only [e]
section
variable {T : Tab} {B : Base} {G G' : Hp} {θ θ' : List Addr} {σ σ' : L2.St} {H H' : Hp} {ρ ρ' : Rho} {S S' : Sto} {vs : List Nat}
theorem wipe_of {σ : L2.St} {ρ : Rho} {i : Nat} {x : Sl} (h : (wipeR ρ vs)[i]? = some x) (hn : x ≠ .no) : ρ[i]? = some x ∧ (wipe σ vs)[i]? = σ[i]? ∧ i ∉ vs := by
  rw [wipeR_at] at h
  by_cases hi : i ∈ vs ∧ i < ρ.length
  · rw [if_pos hi] at h
    exact absurd (Option.some.inj h).symm hn
  · rw [if_neg hi] at h
    have hl := (List.getElem?_eq_some_iff.mp h).1
    have hv : i ∉ vs := fun z => hi ⟨z, hl⟩
    exact ⟨h, wipe_out hv, hv⟩
theorem Sim.wipe (s : Sim T B G θ σ H ρ S) (vs : List Nat) : Sim T B G θ (L2.wipe σ vs) H (wipeR ρ vs) S := by
  refine ⟨s.scr, s.sub, s.frame, s.le, s.nd, s.len, s.sto, s.fresh, by rw [wipe_length, wipeR_length]; exact s.slen, fun i d h => ?_, fun i d h => ?_, s.prot, fun i j d e a h1 h2 g1 g2 => ?_, ⟨s.x.gt, s.x.tabs, fun m hm d h => ?_⟩⟩
  · obtain ⟨q, w, _⟩ := wipe_of (σ := σ) h (by simp)
    rw [w]; exact s.val i d q
  · obtain ⟨q, w, _⟩ := wipe_of (σ := σ) h (by simp)
    rw [w]; exact s.own i d q
  · obtain ⟨q1, w1, _⟩ := wipe_of (σ := σ) h1 (by simp)
    obtain ⟨q2, w2, _⟩ := wipe_of (σ := σ) h2 (by simp)
    rw [w1] at g1
    rw [w2] at g2
    exact s.apart i j d e a q1 q2 g1 g2
  · obtain ⟨q, w, _⟩ := wipe_of (σ := σ) h (by simp)
    rw [w]; exact s.x.me m hm d q
theorem Sim.backs (s : Sim T B G θ σ H ρ S) (s' : Sim T B G' θ' (L2.wipe σ vs) H' ρ' S') (l : Le G G') (t : Lt θ θ') : Sim T B G' θ' σ H' (backR ρ' ρ vs) S' := by
  have hlen : ρ'.length = ρ.length := by rw [← s'.slen, wipe_length, s.slen]
  have own : ∀ {i : Nat} {d : D}, (backR ρ' ρ vs)[i]? = some (.own d) → ρ'[i]? = some (.own d) ∧ (L2.wipe σ vs)[i]? = σ[i]? := fun {i d} h => by
    rw [backR_at] at h
    by_cases hi : i ∈ vs ∧ i < ρ'.length
    · rw [if_pos hi] at h
      have h := Option.some.inj h
      unfold keepSl at h
      split at h <;> cases h
    · rw [if_neg hi] at h
      have hl := (List.getElem?_eq_some_iff.mp h).1
      exact ⟨h, wipe_out fun z => hi ⟨z, hl⟩⟩
  refine ⟨s'.scr, s'.sub, s'.frame, s'.le, s'.nd, s'.len, s'.sto, s'.fresh, by rw [backR_length, hlen]; exact s.slen, fun i d h => ?_, fun i d h => ?_, s'.prot, fun i j d e a h1 h2 g1 g2 => ?_, ⟨s'.x.gt, s'.x.tabs, fun m hm d h => ?_⟩⟩
  · rw [backR_at] at h
    by_cases hi : i ∈ vs ∧ i < ρ'.length
    · rw [if_pos hi] at h
      have h := Option.some.inj h
      unfold keepSl at h
      split at h
      · rename_i d' e
        cases h
        have hi2 : i < ρ.length := by rw [← hlen]; exact hi.2
        have e2 : ρ[i]? = some (.v d) := by
          rw [List.getElem?_eq_getElem hi2]
          rw [List.getD_eq_getElem?_getD, List.getElem?_eq_getElem hi2] at e
          exact congrArg some e
        obtain ⟨v, q1, q2⟩ := s.val i d e2
        exact ⟨v, q1, q2.mono l t⟩
      · cases h
    · rw [if_neg hi] at h
      have hl := (List.getElem?_eq_some_iff.mp h).1
      obtain ⟨v, q1, q2⟩ := s'.val i d h
      rw [wipe_out fun z => hi ⟨z, hl⟩] at q1
      exact ⟨v, q1, q2⟩
  · obtain ⟨q, w⟩ := own h
    rw [← w]; exact s'.own i d q
  · obtain ⟨q1, w1⟩ := own h1
    obtain ⟨q2, w2⟩ := own h2
    rw [← w1] at g1
    rw [← w2] at g2
    exact s'.apart i j d e a q1 q2 g1 g2
  · obtain ⟨q, w⟩ := own h
    rw [← w]; exact s'.x.me m hm d q
/-- an object in the hand is written -/
theorem Sim.other (s : Sim T B G θ σ H ρ S) {a : Addr} {u : HO} (nt : ∀ u, H a = some u → NT u) (h2 : G a = none) (h3 : a ∉ θ) (h4 : B.H a = none) (h5 : ∀ (i : Nat) (e : D), ρ[i]? = some (.own e) → σ[i]? ≠ some (some (.ref a))) : Sim T B G θ σ (upd H a u) ρ S := by
  refine ⟨s.scr, s.sub.write h2, fun b o e n => ?_, s.le, s.nd, s.len, fun n b c e1 e2 => ?_, s.fresh, s.slen, s.val, fun i d h => ?_, s.prot, s.apart, s.x.write nt⟩
  · rw [upd_ne (show b ≠ a from fun z => by rw [z, h4] at e; cases e)]
    exact s.frame b o e n
  · have hb : b ≠ a := fun z => h3 (by rw [← z]; exact List.mem_of_getElem? e1)
    obtain ⟨g, o, ob', hh⟩ := s.sto n b c e1 e2
    refine ⟨g, o, ob', ?_⟩
    rw [upd_ne hb]; exact hh
  · obtain ⟨b, o, g1, g2, g3, g4, g5, g6⟩ := s.own i d h
    have hb : b ≠ a := fun z => h5 i d h (by rw [g1, z])
    exact ⟨b, o, g1, by rw [upd_ne hb]; exact g2, g3, g4, g5, g6⟩
/-! ### the block -/
abbrev Wf : L2.WX := fun _ _ _ _ => False
theorem takes_blk {X : Cx} {s : Shared} {H : Hp} {scope : Scope} {cenv : Env} {fp : List Addr} : Takes (X.blk s H scope cenv fp) Wf := fun u s' x => by
  obtain ⟨a, B, sI, pins, σ, H, cls, d, _, _, _, _, _, _, _, _, w⟩ := x
  exact w
section
variable {P : Prov} {defs N : List Str} {sc : Scope} {k : Nat} {X : Cx} {W : L2.WX}
theorem Ctx.blk (C : Ctx T P defs N sc k X W) {scope : Scope} (s : Shared) (H : Hp) (A : Addr) (cl : List (Str × Addr)) (fp : List Addr) : Ctx T P defs N (relS scope sc) k (X.blk s H scope (compEnvC scope cl A X.env) fp) Wf where
  calm := C.calm
  eN := C.eN
  nd := C.nd
  es := by
    show relS scope X.env.scope = _
    rw [C.es]
  room := C.room
  tk := takes_blk
  w0 := C.w0
  lam := fun h => let L := C.lam h; ⟨L.tab, L.low, L.tri⟩
theorem stor_blk (C : Ctx T P defs N sc k X W) {scope : Scope} (s : Shared) (H : Hp) (A : Addr) (cl : List (Str × Addr)) (fp : List Addr) : Stor (X.blk s H scope (compEnvC scope cl A X.env) fp) (locL (relS scope sc)) := fun x h => by
  have e : (X.blk s H scope (compEnvC scope cl A X.env) fp).env.scope = relS scope sc := (C.blk s H A cl fp).es
  unfold locL at h
  rw [e]
  split at h
  · rename_i q
    exact ⟨.inl q, .inr q⟩
  · cases h
/-- a turn's run, from the whole run -/
theorem turn_run {α β : Type} {m : Mo α} {K : α → Mo β} {rF : β} {ρF : Rho} {SF : Sto} (B' : Base) (h : (turnB vs m >>= K) ρ S = .ok rF ρF SF) : RunS T B' Wf m G θ ρ S fun y _ _ _ _ ρ' S' => K y (wipeR ρ' vs) S' = .ok rF ρF SF := by
  rw [bind_def] at h
  unfold turnB at h
  unfold RunS
  cases e : m ρ S with
  | ok r ρ' S' =>
    rw [e] at h
    exact fun G' θ' σ' H' l t s => h
  | ex c fs ρ' S' => rw [e] at h; cases h
  | bad => rw [e] at h; cases h
structure Hld (T : Tab) (B : Base) (G : Hp) (θ : List Addr) (σ : L2.St) (H : Hp) (ρ : Rho) (D : Addr) (acc : List V) (r : List TM.D) : Prop where
  at_ : H D = some (.lst acc)
  rep : RepL T G θ acc r
  g : G D = none
  t : D ∉ θ
  b : B.H D = none
  o : ∀ (i : Nat) (e : TM.D), ρ[i]? = some (.own e) → σ[i]? ≠ some (some (.ref D))
theorem lc_turn {g : TM.G} {t : Mo Bool} {m : Mo TM.D} {K : List TM.D → Mo (List TM.D)} {D : Addr} {acc : List V} {r : List TM.D} {x : V} {d : TM.D} {rF : List TM.D} {ρF : Rho} {SF : Sto} {Nx : Hp → Prop} {Hc : Hp} {Gc : Hp} {σ0 : L2.St}
    (hw : σ = wipe σ0 vs) (hg : gIn vs g = true) (s : Sim T B Gc θ σ Hc ρ S) (h : Hld T B Gc θ σ Hc ρ D acc r) (rx : Rep T Gc θ x d) (hr : (turnB vs (lcTurn (gSet g) t m d) >>= K) ρ S = .ok rF ρF SF) (hz : ∀ y ρ' S', K [y] ρ' S' = .ok rF ρF SF → acc.length < sizeLine)
    (next : ∀ G' θ' H' ρ' S' acc' r', Le Gc G' → Lt θ θ' → Sim T B G' θ' σ H' ρ' S' → Hld T B G' θ' σ H' ρ' D acc' r' → (∃ y, r' = r ++ y ∧ K y ρ' S' = .ok rF ρF SF) → Nx H') :
    (∃ B', liftG T B' Wf (gSet g) x σ Hc fun σ2 H2 => Off g σ σ2 → wipe σ2 vs = σ ∧ ∃ B', liftT T B' Wf t σ2 H2 fun b H3 => if b = true then ∃ B', liftP T B' Wf (m >>= persist) σ2 H3 fun y H4 => ∃ acc, H4 D = some (.lst acc) ∧ acc.length < sizeLine ∧ Nx (upd H4 D (.lst (acc ++ [y]))) else Nx H3) := by
  have np := s.notPr h.b
  have hh := turn_run (T := T) (G := Gc) (θ := θ) (B.hold D (.lst acc)) hr
  unfold lcTurn at hh
  refine ⟨B.hold D (.lst acc), Gc, θ, ρ, S, d, s.hold h.at_ h.g h.t h.b h.o, rx, hh.bind.imp fun _ G1 θ1 σ1 H1 ρ1 S1 l1 t1 s1 r1 off => ?_⟩
  have w1 : wipe σ1 vs = σ := by
    have q : σ = wipe σ vs := by
      apply List.ext_getElem?
      intro j
      rw [wipe_at, hw, wipe_at]
      by_cases hj : j ∈ vs ∧ j < σ0.length
      · rw [if_pos hj, if_pos ⟨hj.1, by rw [wipe_length]; exact hj.2⟩]
      · rw [if_neg hj, if_neg (fun z => hj ⟨z.1, by rw [wipe_length] at z; exact z.2⟩)]
    rw [off vs hg, ← q]
  refine ⟨w1, B.hold D (.lst acc), G1, θ1, ρ1, S1, s1, r1.runBind.imp fun b G2 θ2 H2 ρ2 S2 l2 t2 s2 r2 => ?_⟩
  have back : ∀ {G3 : Hp} {θ3 : List Addr} {H3 : Hp} {ρ3 : Rho} {S3 : Sto}, Sim T (B.hold D (.lst acc)) G3 θ3 σ1 H3 ρ3 S3 → Le Gc G3 → Lt θ θ3 → Sim T B G3 θ3 σ H3 (wipeR ρ3 vs) S3 ∧ Hld T B G3 θ3 σ H3 (wipeR ρ3 vs) D acc r := fun {G3 θ3 H3 ρ3 S3} s3 l t => by
    obtain ⟨s4, f1, f2, f3, f4⟩ := s3.unhold True.intro h.b np s.scr
    have s5 := s4.wipe vs
    rw [w1] at s5
    refine ⟨s5, f1, h.rep.mono l t, f2, f3, h.b, fun i e q z => ?_⟩
    obtain ⟨q1, q2, _⟩ := wipe_of (σ := σ1) q (by simp)
    rw [← w1, q2] at z
    exact f4 i e q1 z
  cases b with
  | false =>
    rw [if_neg (by decide)] at r2
    show Nx H2
    obtain ⟨s3, h3⟩ := back s2 (l1.trans l2) (t1.trans t2)
    exact next _ _ _ _ _ _ _ (l1.trans l2) (t1.trans t2) s3 h3 ⟨[], by simp, RunS.pure' r2 s2⟩
  | true =>
    rw [if_pos rfl] at r2
    show (if true = true then _ else Nx H2)
    rw [if_pos rfl]
    refine ⟨B.hold D (.lst acc), G2, θ2, ρ2, S2, s2, r2.runBind.imp fun y G3 θ3 H3 ρ3 S3 l3 t3 s3 r3 v rv => ?_⟩
    obtain ⟨s4, h4⟩ := back s3 (l1.trans (l2.trans l3)) (t1.trans (t2.trans t3))
    have r5 := RunS.pure' r3 s3
    refine ⟨acc, h4.at_, hz _ _ _ r5, ?_⟩
    have s5 := s4.other (u := .lst (acc ++ [v])) (fun u e => by rw [h4.at_] at e; cases e; exact True.intro) h4.g h4.t h4.b h4.o
    exact next _ _ _ _ _ _ _ (l1.trans (l2.trans l3)) (t1.trans (t2.trans t3)) s5 ⟨upd_same, h4.rep.snoc rv, h4.g, h4.t, h4.b, h4.o⟩ ⟨[y], rfl, r5⟩
theorem fits_iff' {n : Nat} : fits n = true ↔ n ≤ sizeLine := by
  unfold fits
  rw [decide_eq_true_eq, sizeLine_eq]
theorem lcFix_len {f : D → Mo (List D)} : ∀ {ds acc r : List D} {ρ ρ' : Rho} {S S' : Sto}, lcFix f ds acc ρ S = .ok r ρ' S' → acc.length ≤ r.length
  | [], acc, r, ρ, ρ', S, S', h => by cases h; exact Nat.le_refl _
  | d :: ds, acc, r, ρ, ρ', S, S', h => by
    unfold lcFix at h
    rw [bind_def] at h
    cases e : f d ρ S with
    | ok y ρ1 S1 =>
      rw [e] at h
      have := lcFix_len h
      rw [List.length_append] at this
      omega
    | ex c fs ρ1 S1 => rw [e] at h; cases h
    | bad => rw [e] at h; cases h
theorem lcDyn_len {f : D → Mo (List D)} {n : Nat} : ∀ {m i : Nat} {acc r : List D} {ρ ρ' : Rho} {S S' : Sto}, lcDyn f n m i acc ρ S = .ok r ρ' S' → acc.length ≤ r.length
  | 0, i, acc, r, ρ, ρ', S, S', h => by cases h
  | m + 1, i, acc, r, ρ, ρ', S, S', h => by
    unfold lcDyn at h
    rw [bind_def] at h
    unfold TM.look at h
    cases ec : deref ρ S (.ref n) with
    | none => rw [ec] at h; cases h
    | some c =>
      rw [ec] at h
      cases c with
      | lst ds =>
        simp only at h
        cases ed : ds[i]? with
        | none => rw [ed] at h; cases h; exact Nat.le_refl _
        | some d =>
          rw [ed] at h
          simp only [bind_def] at h
          cases e : f d ρ S with
          | ok y ρ1 S1 =>
            rw [e] at h
            have := lcDyn_len h
            rw [List.length_append] at this
            omega
          | ex c fs ρ1 S1 => rw [e] at h; cases h
          | bad => rw [e] at h; cases h
      | _ => cases h
theorem inBlk_ok {β : Type} {m : Mo (List β)} {α : Type} {f : List β → Mo α} {Q : α → Hp → List Addr → Hp → Rho → Sto → Prop} (h : Run T B W (inBlk vs m >>= f) G θ σ ρ S Q) : ∃ r ρ' S', m (wipeR ρ vs) S = .ok r ρ' S' ∧ fits r.length = true ∧ Run T B W (f r) G θ σ (backR ρ' ρ vs) S' Q := by
  unfold Run at h
  rw [bind_def] at h
  unfold inBlk at h
  cases e : m (wipeR ρ vs) S with
  | ok r ρ' S' =>
    rw [e] at h
    by_cases hf : fits r.length = true
    · simp only [hf, if_true] at h
      exact ⟨r, ρ', S', rfl, hf, h⟩
    · simp only [hf] at h
      exact (show False from h).elim
  | ex c fs ρ' S' => rw [e] at h; exact h.elim
  | bad => rw [e] at h; exact h.elim
theorem Hld.turn {D : Addr} {acc : List V} {r : List TM.D} {G2 : Hp} {H2 : Hp} (h : Hld T B G θ σ H ρ D acc r) (s : Sim T B G θ σ H ρ S) (s2 : Sim T (B.hold D (.lst acc)) G2 θ σ H2 ρ S) (l : Le G G2) : Sim T B G2 θ σ H2 ρ S ∧ Hld T B G2 θ σ H2 ρ D acc r := by
  obtain ⟨s4, f1, f2, f3, f4⟩ := s2.unhold True.intro h.b (s.notPr h.b) s.scr
  exact ⟨s4, f1, h.rep.mono l (Lt.refl _), f2, f3, h.b, f4⟩
/-- the walk of a comprehension over a source, read -/
theorem lc_src {tg : TM.G} {t : Mo Bool} {m : Mo D} {src : Src} {J : It} {L : Hp → Prop} {G0 : Hp} {θ0 : List Addr} {H0 : Hp} {ρ0 : Rho} {S0 : Sto} (hg : gIn vs tg = true) {Q : VK} (s0 : Sim T B G0 θ0 σ H0 ρ0 S0) (w : Wlk T G0 θ0 L J src)
    (hL : ∀ {G : Hp} {θ : List Addr} {σ : L2.St} {H : Hp} {ρ : Rho} {S : Sto}, Sim T B G θ σ H ρ S → L H) (r0 : Run T B W (inBlk vs (lcRun (fun d => turnB vs (lcTurn (gSet tg) t m d)) src) >>= fun r => pure (.nw (.lst r))) G0 θ0 σ ρ0 S0 (PV T B σ Q)) : ∀ A, H0 A = none → ∃ Wl : Nat → Nat → Hp → Prop, (∃ m, Wl 0 m (upd H0 A (.lst []))) ∧ ∀ i k H, Wl i k H →
      (J.stop i H ∧ Q (.ref A) H) ∨ (J.go i H ∧ ∃ Nx : Hp → Prop, (∀ H', Nx H' → ∃ m', m' < k ∧ Wl (i + 1) m' H') ∧ ∀ x H', J.yld i H x H' → (fun v σ H Q => ∃ B', liftG T B' Wf (gSet tg) v σ H fun σ' H' => Off tg σ σ' → Q σ' H') x (L2.wipe σ vs) H' fun σ2 H2 => L2.wipe σ2 vs = L2.wipe σ vs ∧ (fun σ H Q => ∃ B', liftT T B' Wf t σ H Q) σ2 H2 fun b H3 =>
        if b = true then (fun σ H Q => ∃ B', liftP T B' Wf (m >>= persist) σ H Q) σ2 H3 fun y H4 => ∃ acc, H4 A = some (.lst acc) ∧ acc.length < sizeLine ∧ Nx (upd H4 A (.lst (acc ++ [y]))) else Nx H3) := by
  intro A hA
  obtain ⟨rF, ρF, SF, e, hfit, r1⟩ := inBlk_ok r0
  -- the new list
  have sA0 : Sim T B G0 θ0 σ (upd H0 A (.lst [])) ρ0 S0 := s0.laid hA
  obtain ⟨nG, nθ, nB, nO⟩ := s0.newFree hA
  have sA := sA0.wipe vs
  have hld : Hld T B G0 θ0 (L2.wipe σ vs) (upd H0 A (.lst [])) (wipeR ρ0 vs) A [] [] := ⟨upd_same, .nil, nG, nθ, nB, fun i e q z => by
    obtain ⟨q1, q2, _⟩ := wipe_of (σ := σ) q (by simp)
    rw [q2] at z
    exact nO i e q1 z⟩
  -- the end
  have fin' : ∀ {G1 : Hp} {θ1 : List Addr} {H1 : Hp} {acc : List V}, Le G0 G1 → Lt θ0 θ1 → Sim T B G1 θ1 (L2.wipe σ vs) H1 ρF SF → Hld T B G1 θ1 (L2.wipe σ vs) H1 ρF A acc rF → Q (.ref A) H1 := fun {G1 θ1 H1 acc} l1 t1 s1 h1 => by
    have s2 := s0.backs s1 l1 t1
    refine r1 G1 θ1 H1 l1 t1 s2 (.ref A) (.nw h1.at_ (.lst h1.rep) h1.g h1.t h1.b fun i e q z => ?_)
    have q' := q
    rw [backR_at] at q'
    by_cases hi : i ∈ vs ∧ i < ρF.length
    · rw [if_pos hi] at q'
      have q' := Option.some.inj q'
      unfold keepSl at q'
      split at q' <;> cases q'
    · rw [if_neg hi] at q'
      have hl := (List.getElem?_eq_some_iff.mp q').1
      refine h1.o i e q' ?_
      rw [wipe_out fun z => hi ⟨z, hl⟩]
      exact z
  have small : ∀ {acc : List V} {r : List D} {n : Nat}, acc.length = r.length → r.length + n ≤ rF.length → 0 < n → acc.length < sizeLine := fun h1 h2 h3 => by
    have := fits_iff hfit
    omega
  cases src with
  | fix ds =>
    refine ⟨fun i k H1 => k = ds.length - i ∧ i ≤ ds.length ∧ ∃ G1 θ1 ρ1 S1 acc r, Le G0 G1 ∧ Lt θ0 θ1 ∧ Sim T B G1 θ1 (L2.wipe σ vs) H1 ρ1 S1 ∧ Hld T B G1 θ1 (L2.wipe σ vs) H1 ρ1 A acc r ∧ lcFix (fun d => turnB vs (lcTurn (gSet tg) t m d)) (ds.drop i) r ρ1 S1 = .ok rF ρF SF,
      ⟨_, rfl, Nat.zero_le _, G0, θ0, _, S0, [], [], Le.refl _, Lt.refl _, sA, hld, e⟩, fun i k H1 hw => ?_⟩
    obtain ⟨rfl, hi, G1, θ1, ρ1, S1, acc, r, l1, t1, s1, h1, e1⟩ := hw
    obtain ⟨wg, wd⟩ := w (B.hold A (.lst acc)) G1 θ1 (L2.wipe σ vs) H1 ρ1 S1 l1 t1 (s1.hold h1.at_ h1.g h1.t h1.b h1.o) (hL s1) i
    by_cases hl : i < ds.length
    · obtain ⟨go, yl⟩ := wg hl
      refine .inr ⟨go, fun H' => i + 1 ≤ ds.length ∧ ∃ G1 θ1 ρ1 S1 acc r, Le G0 G1 ∧ Lt θ0 θ1 ∧ Sim T B G1 θ1 (L2.wipe σ vs) H' ρ1 S1 ∧ Hld T B G1 θ1 (L2.wipe σ vs) H' ρ1 A acc r ∧ lcFix (fun d => turnB vs (lcTurn (gSet tg) t m d)) (ds.drop (i + 1)) r ρ1 S1 = .ok rF ρF SF,
        fun H' q => ⟨ds.length - (i + 1), by omega, rfl, q⟩, fun x H2 hy => ?_⟩
      obtain ⟨G2, d, l2, s2, hd, rp⟩ := yl x H2 hy
      obtain ⟨s3, h3⟩ := h1.turn s1 s2 l2
      rw [List.drop_eq_getElem_cons hl] at e1
      have ed : ds[i] = d := by rw [List.getElem?_eq_getElem hl] at hd; exact Option.some.inj hd
      rw [ed] at e1
      exact lc_turn rfl hg s3 h3 rp e1 (fun y ρ' S' q => small h3.rep.length (by have := lcFix_len q; rw [List.length_append] at this; exact this) (by simp)) fun G' θ' H' ρ' S' acc' r' l' t' s' h' ⟨y, ey, q⟩ => ⟨hl, G', θ', ρ', S', acc', r', l1.trans (l2.trans l'), t1.trans t', s', h', by rw [ey]; exact q⟩
    · have : i = ds.length := by omega
      subst this
      rw [List.drop_length] at e1
      cases e1
      exact .inl ⟨wd (Nat.le_refl _), fin' l1 t1 s1 h1⟩
  | dyn n =>
    refine ⟨fun i k H1 => ∃ G1 θ1 ρ1 S1 acc r, Le G0 G1 ∧ Lt θ0 θ1 ∧ Sim T B G1 θ1 (L2.wipe σ vs) H1 ρ1 S1 ∧ Hld T B G1 θ1 (L2.wipe σ vs) H1 ρ1 A acc r ∧ lcDyn (fun d => turnB vs (lcTurn (gSet tg) t m d)) n k i r ρ1 S1 = .ok rF ρF SF,
      ⟨FUEL, G0, θ0, _, S0, [], [], Le.refl _, Lt.refl _, sA, hld, e⟩, fun i k H1 hw => ?_⟩
    obtain ⟨G1, θ1, ρ1, S1, acc, r, l1, t1, s1, h1, e1⟩ := hw
    cases k with
    | zero => cases e1
    | succ k =>
      unfold lcDyn at e1
      rw [bind_def] at e1
      unfold TM.look at e1
      cases ec : deref ρ1 S1 (.ref n) with
      | none => rw [ec] at e1; cases e1
      | some c =>
        rw [ec] at e1
        cases c with
        | lst ds =>
          simp only at e1
          obtain ⟨wg, wd⟩ := w (B.hold A (.lst acc)) G1 θ1 (L2.wipe σ vs) H1 ρ1 S1 l1 t1 (s1.hold h1.at_ h1.g h1.t h1.b h1.o) (hL s1) i ds ec
          cases ed : ds[i]? with
          | none =>
            rw [ed] at e1
            have hl : ds.length ≤ i := by simpa using ed
            cases e1
            exact .inl ⟨wd hl, fin' l1 t1 s1 h1⟩
          | some d =>
            rw [ed] at e1
            have hl : i < ds.length := (List.getElem?_eq_some_iff.mp ed).1
            obtain ⟨go, yl⟩ := wg hl
            refine .inr ⟨go, _, fun H' q => ⟨k, Nat.lt_succ_self k, q⟩, fun x H2 hy => ?_⟩
            obtain ⟨G2, d', l2, s2, hd, rp⟩ := yl x H2 hy
            rw [ed] at hd
            cases hd
            obtain ⟨s3, h3⟩ := h1.turn s1 s2 l2
            exact lc_turn rfl hg s3 h3 rp e1 (fun y ρ' S' q => small h3.rep.length (by have := lcDyn_len q; rw [List.length_append] at this; exact this) (by simp)) fun G' θ' H' ρ' S' acc' r' l' t' s' h' ⟨y, ey, q⟩ => ⟨G', θ', ρ', S', acc', r', l1.trans (l2.trans l'), t1.trans t', s', h', by rw [ey]; exact q⟩
        | _ => cases e1
theorem q_lcKey {tg : TM.G} {mi : Mo Src} {t : Mo Bool} {m : Mo D} (hg : gIn vs tg = true) {Q : VK} (h : liftE T B W (mLc vs tg mi t m) σ H Q) :
    tLc (liftI T B W mi) (fun v σ H Q => ∃ B', liftG T B' Wf (gSet tg) v σ H fun σ' H' => Off tg σ σ' → Q σ' H') (fun σ H Q => ∃ B', liftT T B' Wf t σ H Q) (fun σ H Q => ∃ B', liftP T B' Wf (m >>= persist) σ H Q) vs σ H Q := by
  obtain ⟨G, θ, ρ, S, s, r⟩ := h
  exact ⟨G, θ, ρ, S, s, r.bind.imp fun src G0 θ0 H0 ρ0 S0 l0 t0 s0 r0 J w => lc_src hg s0 w (fun _ => True.intro) r0⟩
theorem qts_nil : PTs X [] (liftT T B W (pure true)) := ⟨fun pins s σ H Q I ⟨G, θ, ρ, S, s', r⟩ => pts_nil.run pins s σ H Q I (Run.pure' r s')⟩
theorem pts_any {ifs : List Expr} {t : Base → TT} (h : ∀ B, PTs X ifs (t B)) : PTs X ifs (fun σ H Q => ∃ B, t B σ H Q) := ⟨fun pins s σ H Q I ⟨B, q⟩ => (h B).run pins s σ H Q I q⟩
theorem pg_any {tg : Expr} {t : Base → TG} (h : ∀ B, PG X tg (t B)) : PG X tg (fun v σ H Q => ∃ B, t B v σ H Q) := ⟨fun pins s σ H v u Q I r ⟨B, q⟩ => (h B).run pins s σ H v u Q I r q⟩
theorem pe_anyL {e : Expr} {t : Base → TE} (h : ∀ B, PE X e (t B)) : PE X e (fun σ H Q => ∃ B, t B σ H Q) := ⟨fun pins s σ H Q I ⟨B, q⟩ => (h B).run pins s σ H Q I q⟩
/-- what the parts of a comprehension are to keep -/
structure LcOk (T : Tab) (P : Prov) (defs N : List Str) (k : Nat) (X : Cx) (sc scope : Scope) (own : List Nat) (g : TM.G) (mi : Mo Src) (t : Mo Bool) (m : Mo D) (W : L2.WX) (B : Base) (elt tg iter : Expr) (ifs : List Expr) : Prop where
  it : okE iter = true
  blk : blkC N sc scope (own.map fun i => (N.getD i Str.empty, i)) = true
  pi : PI X tg iter (liftI T B W mi)
  tg : isG N (locL (relS scope sc)) g tg = true
  gin : gIn own g = true
  ts : ∀ (X' : Cx) (B' : Base), Ctx T P defs N (relS scope sc) k X' Wf → PTs X' ifs (liftT T B' Wf t)
  elt : ∀ (X' : Cx) (B' : Base), Ctx T P defs N (relS scope sc) k X' Wf → PE X' elt (liftE T B' Wf m)
theorem map_snd (N : List Str) (own : List Nat) : (own.map fun i => (N.getD i Str.empty, i)).map (·.2) = own := by
  rw [List.map_map]
  exact List.map_id own
theorem q_lc (C : Ctx T P defs N sc k X W) {scope : Scope} {own : List Nat} {g : TM.G} {mi : Mo Src} {t : Mo Bool} {m : Mo D} {elt tg iter : Expr} {ifs : List Expr} {pos : Pos} (h : LcOk T P defs N k X sc scope own g mi t m W B elt tg iter ifs) :
    PE X (.ListComp elt [⟨tg, iter, ifs, 0⟩] scope pos) (liftE T B W (mLc own g mi t m)) := by
  refine PE.imp (pe_lc C.calm (by rw [C.eN]; exact C.nd) h.pi (by rw [C.eN, C.es]; exact blkOk_by h.blk)
    (fun s H A cl fp => pg_any fun B' => sG' (B := B') g (C.blk s H A cl fp) (stor_blk C s H A cl fp) h.tg) (fun s H A cl fp => pts_any fun B' => h.ts _ B' (C.blk s H A cl fp)) (fun s H A cl fp => pe_anyL fun B' => pe_P (h.elt _ B' (C.blk s H A cl fp)))
    (fun x => by have := h.it; cases iter <;> first | rfl | cases this)) fun σ H Q q => ?_
  rw [map_snd]
  exact q_lcKey h.gin q
/-- x = [..] on one line -/
theorem q_setLc (C : Ctx T P defs N sc k X W) {i : Nat} {y : Str} {py spos : Pos} {scope : Scope} {own : List Nat} {g : TM.G} {mi : Mo Src} {t : Mo Bool} {m : Mo D} {elt tg iter : Expr} {ifs : List Expr} {pos : Pos} (hi : N[i]? = some y) (hy : sc.names.lookup y = some .local)
    (hw : swapsWith (.ListComp elt [⟨tg, iter, ifs, 0⟩] scope pos) (some (.Name y py)) spos.line X.env = pure true) (h : LcOk T P defs N k X sc scope own g mi t m W B elt tg iter ifs) :
    PS X (.Assign [.Name y py] (.ListComp elt [⟨tg, iter, ifs, 0⟩] scope pos) spos) (liftS T B W (do
      let d ← mLc own g mi t m
      setSlot i d
      pure .nx)) := by
  refine PS.imp (ps_setLc C.calm (by rw [C.eN]; exact C.nd) (by rw [C.eN]; exact hi) (by rw [C.es]; exact hy) hw h.pi (by rw [C.eN, C.es]; exact blkOk_by h.blk)
    (fun s H A cl fp => pg_any fun B' => sG' (B := B') g (C.blk s H A cl fp) (stor_blk C s H A cl fp) h.tg) (fun s H A cl fp => pts_any fun B' => h.ts _ B' (C.blk s H A cl fp)) (fun s H A cl fp => pe_anyL fun B' => pe_P (h.elt _ B' (C.blk s H A cl fp)))
    (fun x => by have := h.it; cases iter <;> first | rfl | cases this)) fun Dn σ H ⟨G, θ, ρ, S, s, r⟩ => ?_
  rw [map_snd]
  refine q_lcKey h.gin ⟨G, θ, ρ, S, s, r.runBind.imp fun d G1 θ1 H1 ρ1 S1 l1 t1 s1 r1 v o => ?_⟩
  obtain ⟨G', ρ', S', l, s2, q2⟩ := r1.bind.setSlot s1 o
  exact RunS.pure' q2 s2
end
end
end TM
end
section
set_option Elab.async false
set_option linter.all false
set_option maxRecDepth 100000
set_option maxHeartbeats 4000000
/-! FWM: methods that change lists and dicts; methods of own classes; instances. -/
namespace TM
open PySem PySem.Spec PyProof.Rows L2

section
variable {T : Tab} {P : Prov} {defs N : List Str} {sc : Scope} {k : Nat} {X : Cx} {W : L2.WX} {B : Base} {e a b c o : Expr} {m n l : Mo D} {es : List Expr} {ms : Mo (List D)} {pos p : Pos} {G : Hp} {θ : List Addr} {σ : L2.St} {H : Hp} {ρ : Rho} {S : Sto}
/-- a slot's own object is changed -/
theorem Sim.modOwn (s : Sim T B G θ σ H ρ S) {i : Nat} {a : Addr} {u u' : HO} {d d' : D} (h : ρ[i]? = some (.own d)) (h1 : σ[i]? = some (some (.ref a))) (h2 : H a = some u) (h4 : G a = none) (h5 : a ∉ θ) (h6 : B.H a = none) (ob : Ob T G θ u' d') :
    Sim T B G θ σ (upd H a u') (ρ.set i (.own d')) S := by
  have hi : i < ρ.length := (List.getElem?_eq_some_iff.mp h).1
  refine ⟨s.scr, s.sub.write h4, fun b o e n => ?_, s.le, s.nd, s.len, fun n b c e1 e2 => ?_, s.fresh, by simpa using s.slen, fun j d hj => ?_, fun j d hj => ?_, s.prot, fun j j' d e b q1 q2 g1 g2 => ?_, ⟨s.x.gt, tabs_upd s.x.tabs (fun v e => ?_), fun m hm e he => ?_⟩⟩
  · rw [upd_ne (show b ≠ a from fun z => by rw [z, h6] at e; cases e)]
    exact s.frame b o e n
  · have hb : b ≠ a := fun z => h5 (by rw [← z]; exact List.mem_of_getElem? e1)
    obtain ⟨g, o, ob', hh⟩ := s.sto n b c e1 e2
    refine ⟨g, o, ob', ?_⟩
    rw [upd_ne hb]; exact hh
  · by_cases hji : j = i
    · subst hji
      rw [List.getElem?_set_self hi] at hj; cases hj
    · rw [List.getElem?_set_ne (Ne.symm hji)] at hj
      exact s.val j d hj
  · by_cases hji : j = i
    · subst hji
      rw [List.getElem?_set_self hi] at hj; cases hj
      exact ⟨a, u', h1, upd_same, ob, h4, h5, h6⟩
    · rw [List.getElem?_set_ne (Ne.symm hji)] at hj
      obtain ⟨b, o, g1, g2, g3, g4, g5, g6⟩ := s.own j d hj
      have hb : b ≠ a := fun z => hji (s.apart j i d _ a hj h (by rw [g1, z]) h1)
      exact ⟨b, o, g1, by rw [upd_ne hb]; exact g2, g3, g4, g5, g6⟩
  · have back : ∀ {j : Nat} {d : D}, (ρ.set i (.own d'))[j]? = some (.own d) → ∃ d0, ρ[j]? = some (.own d0) := fun {j d} hj => by
      by_cases hji : j = i
      · subst hji; exact ⟨_, h⟩
      · rw [List.getElem?_set_ne (Ne.symm hji)] at hj; exact ⟨_, hj⟩
    obtain ⟨d1, q1⟩ := back q1
    obtain ⟨d2, q2⟩ := back q2
    exact s.apart j j' d1 d2 b q1 q2 g1 g2
  · obtain ⟨b, o, g1, g2, g3, _⟩ := s.own i d h
    rw [h1] at g1
    cases g1
    rw [g2] at e
    cases e
    exact g3.nt
  · by_cases hi0 : (0 : Nat) = i
    · rw [hi0] at he ⊢
      exact hi0 ▸ s.x.me m hm d (hi0 ▸ h)
    · rw [List.getElem?_set_ne (Ne.symm hi0)] at he
      exact s.x.me m hm e he
/-- an object of the store is changed -/
theorem Sim.modSto (s : Sim T B G θ σ H ρ S) {n : Nat} {a : Addr} {u' : HO} {d d' : D} (h : θ[n]? = some a) (h1 : S[n]? = some ⟨d, false⟩) (ob : Ob T G θ u' d') : Sim T B G θ σ (upd H a u') ρ (S.set n ⟨d', false⟩) := by
  have hm := List.mem_of_getElem? h
  obtain ⟨h4, o4, ob4, hh4⟩ := s.sto n a _ h h1
  have hn : n < S.length := (List.getElem?_eq_some_iff.mp h1).1
  refine ⟨s.scr, s.sub.write h4, fun b o e nb => ?_, s.le, s.nd, by simpa using s.len, fun j b c e1 e2 => ?_, s.fresh, s.slen, s.val, fun j d hj => ?_, s.prot, s.apart, s.x.write fun u e => by simp only [Bool.false_eq_true, if_false] at hh4; rw [hh4] at e; cases e; exact ob4.nt⟩
  · have hb : b ≠ a := fun z => by
      subst z
      have q := s.fresh b hm nb
      rw [e] at q; cases q
    rw [upd_ne hb]
    exact s.frame b o e nb
  · by_cases hj : j = n
    · subst hj
      rw [h] at e1; cases e1
      rw [List.getElem?_set_self hn] at e2; cases e2
      exact ⟨h4, u', ob, upd_same⟩
    · have hb : b ≠ a := fun z => by
        subst z
        obtain ⟨p1, p2⟩ := List.getElem?_eq_some_iff.mp e1
        obtain ⟨p3, p4⟩ := List.getElem?_eq_some_iff.mp h
        exact hj ((List.getElem_inj s.nd).mp (p2.trans p4.symm))
      rw [List.getElem?_set_ne (Ne.symm hj)] at e2
      obtain ⟨g, o, ob', hh⟩ := s.sto j b c e1 e2
      refine ⟨g, o, ob', ?_⟩
      rw [upd_ne hb]; exact hh
  · obtain ⟨b, o, g1, g2, g3, g4, g5, g6⟩ := s.own j d hj
    have hb : b ≠ a := fun z => g5 (by rw [z]; exact hm)
    exact ⟨b, o, g1, by rw [upd_ne hb]; exact g2, g3, g4, g5, g6⟩
theorem modC_ok {α : Type} {f : D → Option (D × α)} {v : V} {d : D} (s : Sim T B G θ σ H ρ S) (o : ORep T G θ σ v d) : modC d f ρ S = .bad ∨ ∃ a u c c' rr ρ' S', modC d f ρ S = .ok rr ρ' S' ∧ v = .ref a ∧ H a = some u ∧ Ob T G θ u c ∧ f c = some (c', rr) ∧
    ∀ u', Ob T G θ u' c' → Sim T B G θ σ (upd H a u') ρ' S' := by
  cases o with
  | of r =>
    cases r with
    | @ref a n h =>
      unfold modC
      simp only
      cases e : S[n]? with
      | none => exact .inl rfl
      | some cl =>
        obtain ⟨c, lk⟩ := cl
        cases lk with
        | true => exact .inl rfl
        | false =>
          simp only
          cases ef : f c with
          | none => exact .inl rfl
          | some p =>
            obtain ⟨c', rr⟩ := p
            obtain ⟨g, o, ob, hh⟩ := s.sto n a _ h e
            rw [if_neg Bool.false_ne_true] at hh
            exact .inr ⟨a, o, c, c', rr, _, _, rfl, rfl, hh, ob, ef, fun u' ob' => s.modSto h e ob'⟩
    | _ => exact .inl rfl
  | @sl i v h =>
    unfold modC
    simp only
    cases e : ρ[i]? with
    | none => exact .inl rfl
    | some y =>
      cases y with
      | no => exact .inl rfl
      | v d => exact .inl rfl
      | own c =>
        simp only
        cases ef : f c with
        | none => exact .inl rfl
        | some p =>
          obtain ⟨c', rr⟩ := p
          obtain ⟨a, u, g1, g2, g3, g4, g5, g6⟩ := s.own i c e
          rw [h] at g1
          cases g1
          exact .inr ⟨a, u, c, c', rr, _, _, rfl, rfl, g2, g3, ef, fun u' ob' => s.modOwn e h g2 g4 g5 g6 ob'⟩
theorem Run.modC {α : Type} {f : D → Option (D × α)} {v : V} {d : D} {Q : α → Hp → List Addr → Hp → Rho → Sto → Prop} (r : Run T B W (TM.modC d f) G θ σ ρ S Q) (s : Sim T B G θ σ H ρ S) (o : ORep T G θ σ v d) :
    ∃ a u c c' rr, v = .ref a ∧ H a = some u ∧ Ob T G θ u c ∧ f c = some (c', rr) ∧ ∀ u', Ob T G θ u' c' → ∃ ρ' S', Sim T B G θ σ (upd H a u') ρ' S' ∧ Q rr G θ (upd H a u') ρ' S' := by
  unfold Run at r
  rcases modC_ok (f := f) s o with h | ⟨a, u, c, c', rr, ρ', S', h, e, h1, h2, h3, h4⟩
  · rw [h] at r; exact r.elim
  · rw [h] at r
    exact ⟨a, u, c, c', rr, e, h1, h2, h3, fun u' ob' => ⟨ρ', S', h4 u' ob', r G θ _ (Le.refl _) (Lt.refl _) (h4 u' ob')⟩⟩
theorem RunS.modC {α β : Type} {f : D → Option (D × α)} {g : α → Mo β} {v : V} {d : D} {Q : β → Hp → List Addr → L2.St → Hp → Rho → Sto → Prop} (r : RunS T B W (TM.modC d f >>= g) G θ ρ S Q) (s : Sim T B G θ σ H ρ S) (o : ORep T G θ σ v d) :
    ∃ a u c c' rr, v = .ref a ∧ H a = some u ∧ Ob T G θ u c ∧ f c = some (c', rr) ∧ ∀ u', Ob T G θ u' c' → ∃ ρ' S', Sim T B G θ σ (upd H a u') ρ' S' ∧ RunS T B W (g rr) G θ ρ' S' Q := by
  obtain ⟨a, u, c, c', rr, e, h1, h2, h3, h4⟩ := (RunS.runBind (σ := σ) r).modC s o
  exact ⟨a, u, c, c', rr, e, h1, h2, h3, h4⟩
theorem RepL.dropLast : ∀ {vs : List V} {ds : List D}, RepL T G θ vs ds → RepL T G θ vs.dropLast ds.dropLast
  | _, _, .nil => .nil
  | _, _, .cons a .nil => .nil
  | _, _, .cons a (.cons b r) => .cons a (RepL.dropLast (.cons b r))
theorem RepL.eraseIdx : ∀ {vs : List V} {ds : List D} (i : Nat), RepL T G θ vs ds → RepL T G θ (vs.eraseIdx i) (ds.eraseIdx i)
  | _, _, _, .nil => .nil
  | _, _, 0, .cons _ r => r
  | _, _, i + 1, .cons a r => .cons a (RepL.eraseIdx i r)
theorem dropK_rep {k : Key} : ∀ {kvs : List (Key × V)} {kds : List (Key × D)}, kvs.map (·.1) = kds.map (·.1) → RepL T G θ (kvs.map (·.2)) (kds.map (·.2)) → (dropK kvs k).map (·.1) = (dropKD kds k).map (·.1) ∧ RepL T G θ ((dropK kvs k).map (·.2)) ((dropKD kds k).map (·.2))
  | [], [], _, _ => ⟨rfl, .nil⟩
  | [], _ :: _, e, _ => by cases e
  | _ :: _, [], e, _ => by cases e
  | p :: kvs, q :: kds, e, r => by
    have e1 : p.1 = q.1 := (List.cons.inj e).1
    have e2 := (List.cons.inj e).2
    cases r with
    | cons r1 r2 =>
      obtain ⟨i1, i2⟩ := dropK_rep (k := k) e2 r2
      unfold dropK dropKD at i1 i2 ⊢
      rw [List.filter_cons, List.filter_cons, e1]
      by_cases h : decide (q.1 ≠ k) = true
      · rw [if_pos h, if_pos h]
        exact ⟨by rw [List.map_cons, List.map_cons, i1, e1], .cons r1 i2⟩
      · rw [if_neg h, if_neg h]
        exact ⟨i1, i2⟩
def rDPop : V → List V → Hp → VK → Prop := fun x vs H Q => ∃ (a : Addr) (kvs : List (Key × V)) (k : Key) (v : V), x = .ref a ∧ vs = [kV k] ∧ H a = some (.dK kvs) ∧ valV kvs k = some v ∧ Q v (upd H a (.dK (dropK kvs k)))
theorem mtd_pop : MtR X "dict.pop" rDPop := by
  intro pins s σ H x vs v us Q I rx rv h
  obtain ⟨a, kvs, k, w, ex, ev, e, l, q⟩ := h
  subst ex
  subst ev
  obtain rfl : v = Value.ref a := rx
  obtain ⟨u, rfl, ru⟩ := vals1 rv
  exact d_pop I e ru l (.inl rfl) fun w' s3 I3 rw' => ⟨w, _, I3, rw', q⟩
def muR : Mu → V → List V → Hp → VK → Prop
  | .append => rAppend
  | .pop => rPop
  | .popAt => rPopAt
  | .clear => rClear
  | .dclear => rDClear
  | .dpop => rDPop
def muT : Mu → String
  | .dclear => "dict"
  | .dpop => "dict"
  | _ => "list"
theorem mu_ok (mu : Mu) {x : D} {v : V} {ds : List D} {vs : List V} {Q : VK} (s : Sim T B G θ σ H ρ S) (ox : ORep T G θ σ v x) (rs : RepL T G θ vs ds) (r : Run T B W (modC x fun z => muD mu z ds) G θ σ ρ S (PV T B σ Q)) : muR mu v vs H Q := by
  obtain ⟨a, u, c, c', rr, rfl, hu, ob, hf, fin'⟩ := r.modC s ox
  unfold muD at hf
  split at hf
  · split at hf
    · rename_i hz
      cases hf
      cases ob with
      | lst rl =>
        cases rs with
        | cons r1 r2 =>
          cases r2
          obtain ⟨ρ', S', s', q⟩ := fin' (.lst _) (.lst (rl.snoc r1))
          exact ⟨a, _, _, rfl, rfl, hu, by rw [sizeLine_eq, rl.length]; exact hz, q _ (.of (.of .non))⟩
    · cases hf
  · obtain ⟨y, hy, he⟩ := Option.map_eq_some_iff.mp hf
    cases he
    cases ob with
    | lst rl =>
      cases rs
      obtain ⟨ρ', S', s', q⟩ := fin' (.lst _) (.lst rl.dropLast)
      obtain ⟨w, h1, h2⟩ := rl.get hy
      exact ⟨a, _, w, rfl, rfl, hu, by rw [rl.length]; exact h1, q _ (.of (.of h2))⟩
  · split at hf
    · rename_i hz
      obtain ⟨k, hk, he⟩ := Option.bind_eq_some_iff.mp hf
      obtain ⟨y, hy, he⟩ := Option.map_eq_some_iff.mp he
      cases he
      cases ob with
      | lst rl =>
        cases rs with
        | cons r1 r2 =>
          cases r2
          cases r1
          obtain ⟨ρ', S', s', q⟩ := fin' (.lst _) (.lst (rl.eraseIdx k))
          obtain ⟨w, h1, h2⟩ := rl.get hy
          exact ⟨a, _, _, k, w, rfl, rfl, hu, hz.1, hz.2, by rw [rl.length]; exact hk, h1, q _ (.of (.of h2))⟩
    · cases hf
  · cases hf
    cases ob with
    | lst rl =>
      cases rs
      obtain ⟨ρ', S', s', q⟩ := fin' (.lst []) (.lst .nil)
      exact ⟨a, _, rfl, rfl, hu, q _ (.of (.of .non))⟩
  · cases hf
    cases ob with
    | dct ek rl =>
      cases rs
      obtain ⟨ρ', S', s', q⟩ := fin' (.dK []) (.dct rfl .nil)
      exact ⟨a, _, rfl, rfl, hu, q _ (.of (.of .non))⟩
  · obtain ⟨k, hk, he⟩ := Option.bind_eq_some_iff.mp hf
    obtain ⟨y, hy, he⟩ := Option.map_eq_some_iff.mp he
    cases he
    cases ob with
    | dct ek rl =>
      cases rs with
      | cons r1 r2 =>
        cases r2
        obtain ⟨w, h1, h2⟩ := find_rep (k := k) ek rl hy
        obtain ⟨p1, p2⟩ := dropK_rep (k := k) ek rl
        obtain ⟨ρ', S', s', q⟩ := fin' (.dK (dropK _ k)) (.dct p1 p2)
        have e1 := asKey_of (View.of (H := H) r1 (fun n z => by subst z; cases hk)) hk
        subst e1
        exact ⟨a, _, k, w, rfl, rfl, hu, h1, q _ (.of (.of h2))⟩
  · cases hf
def muI : Mu → String
  | .append => "list.append"
  | .pop => "list.pop"
  | .popAt => "list.pop"
  | .clear => "list.clear"
  | .dclear => "dict.clear"
  | .dpop => "dict.pop"
theorem muF (mu : Mu) : PlainAttrs (muT mu) ∧ PySem.Slot (muT mu) (muN mu) (muI mu) ∧ typeOf (.builtin (muI mu)) = pure (.type "method_descriptor") ∧ MtR X (muI mu) (muR mu) := by
  cases mu
  · exact ⟨PySem.F.plainAttrs_list, PySem.F.slot_list_append, PySem.F.type_list_append, mt_append⟩
  · exact ⟨PySem.F.plainAttrs_list, PySem.F.slot_list_pop, PySem.F.type_list_pop, mt_pop⟩
  · exact ⟨PySem.F.plainAttrs_list, PySem.F.slot_list_pop, PySem.F.type_list_pop, mt_popAt⟩
  · exact ⟨PySem.F.plainAttrs_list, PySem.F.slot_list_clear, PySem.F.type_list_clear, mt_clear⟩
  · exact ⟨PySem.F.plainAttrs_dict, PySem.F.slot_dict_clear, PySem.F.type_dict_clear, mtd_clear⟩
  · exact ⟨PySem.F.plainAttrs_dict, PySem.F.slot_dict_pop, PySem.F.type_dict_pop, mtd_pop⟩
theorem muK_ty {mu : Mu} {v : V} {c : D} (s : Sim T B G θ σ H ρ S) (hm : muK mu c = true) (vx : View T G θ H v c) : muT mu = "list" ∧ (∃ a xs, v = .ref a ∧ SqL X.K H a xs) ∨ muT mu = "dict" ∧ ∃ a kvs, v = .ref a ∧ Rl H a (.dK kvs) := by
  unfold muK at hm
  split at hm
  · obtain ⟨a, xs, rfl, ha, _⟩ := vx.lst s.sub; exact .inl ⟨rfl, a, xs, rfl, SqL.ofRl ha⟩
  · obtain ⟨a, xs, rfl, ha, _⟩ := vx.lst s.sub; exact .inl ⟨rfl, a, xs, rfl, SqL.ofRl ha⟩
  · obtain ⟨a, xs, rfl, ha, _⟩ := vx.lst s.sub; exact .inl ⟨rfl, a, xs, rfl, SqL.ofRl ha⟩
  · obtain ⟨a, xs, rfl, ha, _⟩ := vx.lst s.sub; exact .inl ⟨rfl, a, xs, rfl, SqL.ofRl ha⟩
  · obtain ⟨a, kvs, rfl, ha, _⟩ := vx.dct s.sub; exact .inr ⟨rfl, a, kvs, rfl, ha⟩
  · obtain ⟨a, kvs, rfl, ha, _⟩ := vx.dct s.sub; exact .inr ⟨rfl, a, kvs, rfl, ha⟩
  · cases hm
/-- x.m() -/
theorem q_mu0 {mu : Mu} (h1 : okB o = true) (hl : (p.endLine == pos.line) = true) (ho : PE X o (liftE T B W m)) : PE X (.Call (.Attribute o (muN mu) p) [] [] pos) (liftE T B W (mMu mu m (pure []))) := by
  obtain ⟨f1, f2, f3, f4⟩ := muF (X := X) mu
  refine PE.imp (pe_bm0 f1 f2 f3 f4 (pe_O ho) (base_ok h1) hl) fun σ H Q ⟨G, θ, ρ, S, s, r⟩ => ?_
  unfold mMu at r
  refine ⟨G, θ, ρ, S, s, r.bind.imp fun x G1 θ1 H1 ρ1 S1 l1 t1 s1 r1 v ov => ?_⟩
  obtain ⟨c, hc, r2⟩ := r1.look
  by_cases hm : muK mu c = true
  · rw [if_pos hm] at r2
    have r3 : Run T B W (modC x fun z => muD mu z []) G1 θ1 σ ρ1 S1 (PV T B σ Q) := r2
    refine ⟨?_, mu_ok mu s1 ov .nil r3⟩
    obtain ⟨a, u, c', c2, rr, rfl, hu, ob, hf, _⟩ := r3.modC s1 ov
    rcases muK_ty (X := X) s1 hm (s1.view ov hc) with ⟨e, a', xs, e2, ha⟩ | ⟨e, a', kvs, e2, ha⟩
    · cases e2
      rw [e]
      exact .inl ⟨rfl, xs, ha⟩
    · cases e2
      rw [e]
      refine .inr (.inr (.inl ⟨rfl, .inl ⟨kvs, ?_⟩⟩))
      rcases ha with ha | ⟨_, o', ha⟩
      · exact ha
      · rw [hu] at ha
        cases ha
        cases ob
  · rw [if_neg hm] at r2
    exact r2.elim
/-- x.m(e, ..) of a list -/
theorem q_mu1 {mu : Mu} (ht : muT mu = "list") (h1 : okB o = true) (hl : (p.endLine == pos.line) = true) (h2 : okE a = true) (h3 : es.all okE = true) (h4 : es.length < 28) (ho : PE X o (liftE T B W m)) (ha : PA X (a :: es) (liftA T B W ms)) :
    PE X (.Call (.Attribute o (muN mu) p) (a :: es) [] pos) (liftE T B W (mMu mu m ms)) := by
  obtain ⟨f1, f2, f3, f4⟩ := muF (X := X) mu
  have few : ((backTo pos (starEach (a :: es) X.env)).all (fun x => !x.1) && (backToKw pos (keywordEach [] X.env)).all (fun x => x.1.isSome)
      && decide ((a :: es).length + ([] : List Keyword).length + (if ([] : List Keyword).isEmpty then 0 else 1) < 30)) = true := by
    have q : (backTo pos (starEach (a :: es) X.env)).all (fun x => !x.1) = true := by
      have q1 : (backTo pos (starEach (a :: es) X.env)).any (·.1) = false := star_any (by simp [h2, h3])
      rw [List.all_eq_not_any_not]
      simp only [Bool.not_not]
      rw [q1]; rfl
    rw [q]
    simp only [List.length_cons, List.length_nil, List.isEmpty_nil, if_true]
    have : decide (es.length + 1 + 0 + 0 < 30) = true := decide_eq_true (by omega)
    rw [this]; rfl
  refine PE.imp (pe_bm f1 f2 f3 f4 (pe_O ho) ha (base_ok h1) few hl (star_ok h2) (star_any h3)) fun σ H Q ⟨G, θ, ρ, S, s, r⟩ => ?_
  unfold mMu at r
  refine ⟨G, θ, ρ, S, s, r.bind.imp fun x G1 θ1 H1 ρ1 S1 l1 t1 s1 r1 v ov => ?_⟩
  obtain ⟨c, hc, r2⟩ := r1.look
  by_cases hm : muK mu c = true
  · rw [if_pos hm] at r2
    refine ⟨?_, G1, θ1, ρ1, S1, s1, r2.bind.imp fun ds G2 θ2 H2 ρ2 S2 l2 t2 s2 r3 vs rs => mu_ok mu s2 (ov.mono l2 t2) rs r3⟩
    rcases muK_ty (X := X) s1 hm (s1.view ov hc) with ⟨e, a', xs, e2, ha⟩ | ⟨e, a', kvs, e2, ha⟩
    · subst e2
      rw [e]
      exact .inl ⟨rfl, xs, ha⟩
    · rw [ht] at e; exact absurd e (by decide)
  · rw [if_neg hm] at r2
    exact r2.elim
/-- d.pop(k) -/
theorem q_dpop (h1 : okB o = true) (hl : (p.endLine == pos.line) = true) (h2 : okE a = true) (ho : PE X o (liftE T B W m)) (ha : PE X a (liftE T B W n)) : PE X (.Call (.Attribute o "pop" p) [a] [] pos) (liftE T B W (mMu .dpop m (do
    let x ← n >>= persist
    let xs ← pure []
    pure (x :: xs)))) := by
  have trees : backTo pos (starEach [a] X.env) = [(false, eval a X.env)] := by
    rw [star_ok h2]; rfl
  refine PE.imp (pe_dpop1 (pe_O ho) (pe_P ha) ⟨base_ok h1, by rw [trees]; rfl, hl, trees⟩) fun σ H Q ⟨G, θ, ρ, S, s, r⟩ => ?_
  unfold mMu at r
  refine ⟨G, θ, ρ, S, s, r.bind.imp fun x G1 θ1 H1 ρ1 S1 l1 t1 s1 r1 v ov => ?_⟩
  obtain ⟨c, hc, r2⟩ := r1.look
  by_cases hm : muK .dpop c = true
  · rw [if_pos hm] at r2
    rcases muK_ty (X := X) s1 hm (s1.view ov hc) with ⟨e, _⟩ | ⟨e, a', kvs, e2, ha⟩
    · exact absurd e (by decide)
    · subst e2
      refine ⟨a', rfl, ?_, G1, θ1, ρ1, S1, s1, ?_⟩
      · exact .inl ⟨kvs, ha.rd⟩
      · have r2 : Run T B W (((n >>= persist) >>= fun x => (pure [] : Mo (List D)) >>= fun xs => pure (x :: xs)) >>= fun ds => modC x fun z => muD .dpop z ds) G1 θ1 σ ρ1 S1 (PV T B σ Q) := r2
        rw [Mo.assoc] at r2
        refine r2.bind.imp fun y G2 θ2 H2 ρ2 S2 l2 t2 s2 r3 w rw' => ?_
        have r4 : Run T B W (modC x fun z => muD .dpop z [y]) G2 θ2 σ ρ2 S2 (PV T B σ Q) := r3
        obtain ⟨a2, kv2, k2, v2, e1, e2, e3, e4, q⟩ := mu_ok .dpop s2 (ov.mono l2 t2) (.cons rw' .nil) r4
        cases e1
        exact ⟨kv2, k2, v2, e3, (List.cons.inj e2).1, e4, q⟩
  · rw [if_neg hm] at r2
    exact r2.elim
theorem muL_ok {mu : Mu} (h : muL mu = true) : muT mu = "list" := by
  cases mu <;> first | rfl | cases h
/-! ### methods of own classes -/
theorem wp_meth {prog : Program} {w : World} {A : Around} {E : Value → Shared → Prop} {s : Shared} {env : Env} {o : Expr} {name : Str} {apos pos : Pos} {args : List Expr} {Q : Value → Shared → Prop} (hbase : attributeBase o name env (eval o env) = eval o env)
    (hform : methodCallForm (args.length + ([] : List Keyword).length) (backTo pos (starEach args env)) (backToKw pos (keywordEach [] env)) = true) (hline : (apos.endLine == pos.line) = true)
    (h : wpAny (model prog w) A (eval o env) (fun ov s₁ => ∀ pl, wpAny (model prog w) A (getMethod ov name pl) (fun r s₂ => wpAny (model prog w) A (callWith pos r.1 r.2 (backTo pos (starEach args env)) (backToKw pos (keywordEach [] env))) Q E s₂) E s₁) E s) :
    wpAny (model prog w) A (eval (.Call (.Attribute o name apos) args [] pos) env) Q E s := by
  rw [arm_eval_Call, hbase]
  refine wpAny_bind (wpAny_mono h (fun ov s₁ h₁ => ?_) fun _ _ e => e)
  refine wpAny_bind (wpAny_standAt ?_)
  have hpos : methodCallPos true o env apos pos = pure pos := by unfold methodCallPos; simp [hline]
  unfold methodCall
  rw [hform]
  refine wpAny_bind (wpAny_holding ?_)
  refine wpAny_mono (h₁ _) (fun r s₂ h₂ => ?_) fun _ _ e => e
  exact wpAny_bind (wpAny_of_eq hpos h₂)
theorem form_ok {es : List Expr} {env : Env} (h3 : es.all okE = true) (h4 : es.length < 29) : methodCallForm (es.length + ([] : List Keyword).length) (backTo pos (starEach es env)) (backToKw pos (keywordEach [] env)) = true := by
  unfold methodCallForm
  have q : (backTo pos (starEach es env)).all (fun x => !x.1) = true := by
    have q1 : (backTo pos (starEach es env)).any (·.1) = false := star_any h3
    rw [List.all_eq_not_any_not]
    simp only [Bool.not_not]
    rw [q1]; rfl
  rw [q]
  have q2 : (backToKw pos (keywordEach [] env)) = [] := rfl
  rw [q2]
  simp only [List.all_nil, Bool.and_self, Bool.true_and, List.length_nil, List.isEmpty_nil, if_true]
  exact decide_eq_true (by omega)
/-- what a method's receiver must be -/
def MethAt (X : Cx) (T : Tab) (k : Nat) (mn : Str) (x : V) (H : Hp) (f : List D → Sto → Rc) (dds : List D) (K : Addr → List V → Prop) : Prop := ∃ C a dx fs g fd ps dvs ds, x = .ref a ∧ H a = some (.ins C dx fs) ∧ fs.lookup mn = none ∧ Cls X.K C ∧ Meth X.K C mn g ∧
  FnOk X.prog X.w X.K X.mg X.base (L2.CX X.prog X.w) k g fd ps (spOf T f) ∧ Binds X.K fd ps ds ∧ Vals dvs ds ∧ (∀ G θ, RepL T G θ dvs dds) ∧ K a dvs
theorem lookup_none {f : Str} : ∀ {fs : List (Str × V)} {fds : List (Str × D)}, fs.map (·.1) = fds.map (·.1) → fds.lookup f = none → fs.lookup f = none
  | [], [], _, _ => rfl
  | [], _ :: _, e, _ => by cases e
  | _ :: _, [], e, _ => by cases e
  | (g, v) :: fs, (g', d') :: fds, e, h => by
    have e1 : g = g' := (List.cons.inj e).1
    have e2 := (List.cons.inj e).2
    subst e1
    rw [List.lookup_cons] at h ⊢
    cases hq : f == g with
    | true => rw [hq] at h; cases h
    | false => rw [hq] at h; exact lookup_none e2 h
theorem methKey (C : Ctx T P defs N sc k X W) {mn : Str} {i : Nat} {Q : VK} (h : liftE T B W (mMeth P mn m ms i) σ H Q) : liftP T B W (m >>= persist) σ H fun x H1 => ∃ f dds, MethAt X T k mn x H1 f dds fun a dvs => liftA T B W ms σ H1 fun vs H2 => spOf T f (.ref a :: (vs ++ dvs)) H2 Q (WE W σ) := by
  obtain ⟨G, θ, ρ, S, s, r⟩ := h
  unfold mMeth at r
  refine ⟨G, θ, ρ, S, s, r.bind.imp fun x G1 θ1 H1 ρ1 S1 l1 t1 s1 r1 v rx => ?_⟩
  obtain ⟨c, hc, r2⟩ := r1.look
  have vx := s1.view (.of rx) hc
  cases c with
  | ins cn fs =>
    have r2 : Run T B W (if (fs.lookup mn).isNone = true then _ else fail) G1 θ1 σ ρ1 S1 (PV T B σ Q) := r2
    by_cases hn : (fs.lookup mn).isNone = true
    · rw [if_pos hn] at r2
      cases hk : P.meth cn mn with
      | none => rw [hk] at r2; exact r2.elim
      | some key =>
        rw [hk] at r2
        have r3 : Run T B W (ms >>= fun ds => callM (P.fn key (x :: (ds ++ P.dflt key (i + 1))))) G1 θ1 σ ρ1 S1 (PV T B σ Q) := r2
        obtain ⟨a, A, dx, vfs, rfl, ha, hA, ek, rl⟩ := vx.ins s1.sub
        obtain ⟨cl, g, fd, ps, me, F, hb⟩ := C.w0.meths cn A mn key hA hk
        obtain ⟨dvs, ds, b1, b2, b3⟩ := hb (i + 1)
        refine ⟨P.fn key, P.dflt key (i + 1), A, a, dx, vfs, g, fd, ps, dvs, ds, rfl, ha, lookup_none ek (Option.isNone_iff_eq_none.mp hn), cl, me, F, b1, b2, b3, G1, θ1, ρ1, S1, s1, r3.bind.imp fun es G2 θ2 H2 ρ2 S2 l2 t2 s2 r4 vs rs => ?_⟩
        exact Run.call r4 s2 (.cons (rx.mono l2 t2) (rs.append (b3 G2 θ2))) fun d G3 θ3 H3 S3 l3 t3 s3 q v rv => q v (.of (.of rv))
    · rw [if_neg hn] at r2
      exact r2.elim
  | _ => exact r2.elim
theorem q_meth0 (C : Ctx T P defs N sc k X W) {mn : Str} (h1 : okB o = true) (hl : (p.endLine == pos.line) = true) (ho : PE X o (liftE T B W m)) :
    PE X (.Call (.Attribute o mn p) [] [] pos) (liftE T B W (mMeth P mn m (pure []) 0)) := by
  refine PE.imp (t := fun σ H Q => liftP T B W (m >>= persist) σ H fun x H1 => ∃ f dds, MethAt X T k mn x H1 f dds fun a dvs => spOf T f (.ref a :: dvs) H1 Q (WE W σ))
    ⟨fun pins s σ H Q I h => ?_⟩ fun σ H Q h => ?_
  · refine wp_meth (base_ok h1) (form_ok rfl (by decide)) hl (thn ((pe_P ho).run pins s σ H _ I h) fun u s1 ⟨x, H1, I1, rx, f, dds, C', a, dx, fs, g, fd, ps, dvs, ds, ex, ea, l, c, hm, F, hb, hd, _, q⟩ => fun pl => ?_)
    subst ex
    obtain rfl : u = Value.ref a := rx
    refine getmeth_ok I1 ea c hm l ?_
    exact PySem.W.callWith_K0 (first := [.ref a]) I1.kIn hm.kp (run_fnSD (us := [.ref a]) (vs := [.ref a]) F C.room hb hd (passAt C.tk σ) I1 (.cons rfl .nil) q)
  · obtain ⟨G, θ, ρ, S, s, r⟩ := methKey C h
    refine ⟨G, θ, ρ, S, s, r.imp fun x G1 θ1 H1 ρ1 S1 l1 t1 s1 q v rv => ?_⟩
    obtain ⟨f, dds, C', a, dx, fs, g, fd, ps, dvs, ds, ex, ea, l, c, hm, F, hb, hd, hdd, G2, θ2, ρ2, S2, s2, r2⟩ := q v rv
    exact ⟨f, dds, C', a, dx, fs, g, fd, ps, dvs, ds, ex, ea, l, c, hm, F, hb, hd, hdd, Run.pure' r2 s2 [] .nil⟩
theorem q_meth1 (C : Ctx T P defs N sc k X W) {mn : Str} {i : Nat} (h1 : okB o = true) (hl : (p.endLine == pos.line) = true) (h2 : okE a = true) (h3 : es.all okE = true) (h4 : es.length < 28) (ho : PE X o (liftE T B W m)) (ha : PA X (a :: es) (liftA T B W ms)) :
    PE X (.Call (.Attribute o mn p) (a :: es) [] pos) (liftE T B W (mMeth P mn m ms i)) := by
  refine PE.imp (t := fun σ H Q => liftP T B W (m >>= persist) σ H fun x H1 => ∃ f dds, MethAt X T k mn x H1 f dds fun a dvs => liftA T B W ms σ H1 fun vs H2 => spOf T f (.ref a :: (vs ++ dvs)) H2 Q (WE W σ))
    ⟨fun pins s σ H Q I h => ?_⟩ fun σ H Q h => methKey C h
  refine wp_meth (base_ok h1) (form_ok (by simp [h2, h3]) (by simp only [List.length_cons]; omega)) hl (thn ((pe_P ho).run pins s σ H _ I h) fun u s1 ⟨x, H1, I1, rx, f, dds, C', a', dx, fs, g, fd, ps, dvs, ds, ex, ea, l, c, hm, F, hb, hd, _, q⟩ => fun pl => ?_)
  subst ex
  obtain rfl : u = Value.ref a' := rx
  refine getmeth_ok I1 ea c hm l ?_
  refine PySem.W.callWith_K (first := [.ref a']) (h₀ := X.base) I.ok.mod.kin hm.kp (thn (ha.run pos pins s1 σ H1 _ I1 q) fun us s2 ⟨vs, H2, I2, r, q2⟩ => ⟨I2.kIn, ?_⟩) (star_ok h2) (star_any h3)
  exact run_fnSD (us := .ref a' :: us) (vs := .ref a' :: vs) F C.room hb hd (passAt C.tk σ) I2 (.cons rfl r) q2
/-! ### a.join(b), a.get(b, c) -/
theorem few_ok {es : List Expr} {env : Env} (h3 : es.all okE = true) (h4 : es.length < 29) : ((backTo pos (starEach es env)).all (fun x => !x.1) && (backToKw pos (keywordEach [] env)).all (fun x => x.1.isSome)
      && decide (es.length + ([] : List Keyword).length + (if ([] : List Keyword).isEmpty then 0 else 1) < 30)) = true := form_ok h3 h4
theorem asS_of {y : D} {z : Str} {v : V} (h : asS y = some z) (o : ORep T G θ σ v y) : v = .str z := by
  unfold asS at h
  split at h
  · cases h
    cases o with
    | of r => cases r; rfl
  · cases h
theorem q_join (h1 : okB o = true) (hl : (p.endLine == pos.line) = true) (h2 : okE a = true) (ho : PE X o (liftE T B W m)) (ha : PE X a (liftE T B W n)) : PE X (.Call (.Attribute o "join" p) [a] [] pos) (liftE T B W (mJoin m n)) := by
  refine PE.imp (pe_bm PySem.F.plainAttrs_str PySem.F.slot_str_join PySem.F.type_str_join mt_join (pe_O ho) (pa_1 h2 (pe_O ha)) (base_ok h1) (few_ok (by simp [h2]) (by simp)) hl (star_ok h2) rfl) fun σ H Q ⟨G, θ, ρ, S, s, r⟩ => ?_
  unfold mJoin at r
  refine ⟨G, θ, ρ, S, s, r.bind.imp fun x G1 θ1 H1 ρ1 S1 l1 t1 s1 r1 v ov => ?_⟩
  obtain ⟨z, hz, r2⟩ := r1.ofO
  have ev := asS_of hz ov
  subst ev
  refine ⟨rfl, G1, θ1, ρ1, S1, s1, r2.bind.imp fun y G2 θ2 H2 ρ2 S2 l2 t2 s2 r3 w ow => ?_⟩
  obtain ⟨c, hc, r4⟩ := r3.look
  obtain ⟨d, hd, r5⟩ := r4.ofO'
  have vx := s2.view ow hc
  unfold joinD at hd
  split at hd
  · obtain ⟨ss, hs, he⟩ := Option.bind_eq_some_iff.mp hd
    split at he
    · rename_i hn
      cases he
      obtain ⟨a', xs, rfl, hx, rx⟩ := vx.lst s2.sub
      exact ⟨z, a', ss, rfl, rfl, .inl (by rw [← strs_rep rx hs]; exact SqL.ofRl hx), hn, fin r5 s2 (.str _)⟩
    · cases he
  · obtain ⟨ss, hs, he⟩ := Option.bind_eq_some_iff.mp hd
    split at he
    · rename_i hn
      cases he
      obtain ⟨a', xs, rfl, hx, rx⟩ := vx.tup s2.sub
      exact ⟨z, a', ss, rfl, rfl, .inr (by rw [← strs_rep rx hs]; exact SqT.of hx), hn, fin r5 s2 (.str _)⟩
    · cases he
  · cases hd
theorem q_get2 (C : Ctx T P defs N sc k X W) (h1 : okB o = true) (hl : (p.endLine == pos.line) = true) (h2 : okE a = true) (h3 : okE b = true) (ho : PE X o (liftE T B W m)) (ha : PE X a (liftE T B W n)) (hb : PE X b (liftE T B W l)) :
    PE X (.Call (.Attribute o "get" p) [a, b] [] pos) (liftE T B W (mGet2 m n l)) := by
  have trees : backTo pos (starEach [a, b] X.env) = [(false, eval a X.env), (false, eval b X.env)] := by
    rw [star_ok h2, star_ok h3]; rfl
  refine PE.imp (pe_dget2 C.hu (pe_O ho) (pe_O ha) (pe_P hb) ⟨base_ok h1, few_ok (by simp [h2, h3]) (by simp), hl, trees⟩) fun σ H Q ⟨G, θ, ρ, S, s, r⟩ => ?_
  unfold mGet2 at r
  refine ⟨G, θ, ρ, S, s, r.bind.imp fun x G1 θ1 H1 ρ1 S1 l1 t1 s1 r1 v ov => ?_⟩
  obtain ⟨c, hc, r2⟩ := r1.look
  by_cases hm : isDct c = true
  · rw [if_pos hm] at r2
    have vx := s1.view ov hc
    cases c with
    | dct kds =>
      obtain ⟨a', kvs, rfl, hd, _, _⟩ := vx.dct s1.sub
      refine ⟨a', rfl, .inl ⟨kvs, hd.rd⟩, G1, θ1, ρ1, S1, s1, r2.bind.imp fun y G2 θ2 H2 ρ2 S2 l2 t2 s2 r3 w ow => ⟨G2, θ2, ρ2, S2, s2, r3.bind.imp fun z G3 θ3 H3 ρ3 S3 l3 t3 s3 r4 u rz => ?_⟩⟩
      obtain ⟨c', hc', r5⟩ := r4.look
      obtain ⟨k, hk, r6⟩ := r5.ofO
      have vx' := s3.view ((ov.mono l2 t2).mono l3 t3) hc'
      cases c' with
      | dct kds' =>
        obtain ⟨a2, kvs', e, hd', hks, ra⟩ := vx'.dct s3.sub
        cases e
        have r7 : Run T B W (pure ((getKD kds' k).getD z)) G3 θ3 σ ρ3 S3 (PV T B σ Q) := r6
        have ey : w = kV k := by
          cases ow with
          | of rw' => exact asKey_of (View.of (H := H3) rw' (fun n q => by subst q; cases hk)) hk
          | sl _ => cases hk
        subst ey
        refine ⟨valV kvs' k, .inl ⟨kvs', k, hd'.rd, rfl, rfl⟩, ?_⟩
        cases hg : getKD kds' k with
        | some d =>
          rw [hg] at r7
          obtain ⟨w', q1, q2⟩ := find_rep (k := k) hks ra hg
          rw [q1]
          exact fin r7 s3 q2
        | none =>
          rw [hg] at r7
          have q := some_keys (k := k) hks
          rw [hg] at q
          have q' : valV kvs' k = none := by
            cases e : valV kvs' k with
            | none => rfl
            | some _ => rw [e] at q; cases q
          rw [q']
          exact fin r7 s3 rz
      | _ => exact r6.elim
    | _ => cases hm
  · rw [if_neg hm] at r2
    exact r2.elim
end
end TM
end
section
set_option Elab.async false
set_option linter.all false
set_option maxRecDepth 100000
set_option maxHeartbeats 4000000
/-! FWN: instances made: what an __init__ promises; C(..). -/
namespace TM
open PySem PySem.Spec PyProof.Rows L2

/-- the slots at an __init__'s entry -/
def startI (c : Str) (n : Nat) (ds : List D) : Rho := .own (.ins c []) :: (ds.map Sl.v ++ List.replicate (n - (ds.length + 1)) .no)
/-- the instance as it stands in the first slot -/
def selfOf : Rho → Option D
  | .own d :: _ => some d
  | _ => none
theorem selfOf_ok {ρ : Rho} {d : D} (h : selfOf ρ = some d) : ρ[0]? = some (.own d) := by
  unfold selfOf at h
  split at h <;> cases h
  rfl
/-- an __init__, run: the instance as it is left -/
def runInit (P : Prov) (c : Str) (n np : Nat) (b : Ss) (ds : List D) (S : Sto) : Rc :=
  if ds.length + 1 = np then (match exSs P b (startI c n ds) S with
    | .ok .nx ρ' S' => (match selfOf ρ' with
      | some d => .ok d S'
      | none => .bad)
    | .ex c fs _ S' => .ex c fs S'
    | _ => .bad) else .bad
/-- the entry of an __init__ -/
def entryI (G : Hp) (θ : List Addr) (H1 : Hp) (x dx : Addr) : Base := ⟨upd H1 dx (.own x), θ, fun a => (∃ o, H1 a = some o) ∧ G a = none ∧ a ∉ θ, some x⟩
section
variable {T : Tab} {B : Base} {G G' : Hp} {θ θ' : List Addr} {σ : L2.St} {H H' H1 : Hp} {ρ ρ' : Rho} {S S' : Sto} {W : L2.WX} {x dx A : Addr} {c : Str}
theorem StoOk.free (st : StoOk T G θ H S) {a : Addr} (h : H a = none) : a ∉ θ := fun hm => by
  obtain ⟨n, hn⟩ := List.mem_iff_getElem?.mp hm
  have hl := (List.getElem?_eq_some_iff.mp hn).1
  rw [← st.2.1] at hl
  obtain ⟨_, o, _, hh⟩ := st.2.2.1 n a _ hn (List.getElem?_eq_getElem hl)
  split at hh
  · obtain ⟨_, ob, z⟩ := hh; rw [h] at z; cases z
  · rw [h] at hh; cases hh
theorem startI_get {n i : Nat} {ds : List D} {y : Sl} (h : (startI c n ds)[i]? = some y) : (i = 0 ∧ y = .own (.ins c [])) ∨ (∃ j d, i = j + 1 ∧ ds[j]? = some d ∧ y = .v d) ∨ y = .no := by
  unfold startI at h
  cases i with
  | zero => simp only [List.getElem?_cons_zero] at h; cases h; exact .inl ⟨rfl, rfl⟩
  | succ j =>
    simp only [List.getElem?_cons_succ] at h
    by_cases hj : j < ds.length
    · rw [List.getElem?_append_left (by simpa using hj), List.getElem?_map] at h
      cases e : ds[j]? with
      | none => rw [e] at h; cases h
      | some d => rw [e] at h; cases h; exact .inr (.inl ⟨j, d, rfl, e, rfl⟩)
    · rw [List.getElem?_append_right (by simpa using hj), List.getElem?_replicate] at h
      split at h
      · cases h; exact .inr (.inr rfl)
      · cases h
theorem Sim.startI {N : List Str} {ws : List V} {ds : List D} (hA : T.cls c = some A) (hx : H1 x = none) (hd : H1 dx = none) (ne : dx ≠ x) (sb : Sub G H1) (st : StoOk T G θ H1 S) (r : RepL T G θ ws ds) :
    Sim T (entryI G θ H1 x dx) G θ (L2.start N (V.ref x :: ws)) (upd (upd H1 dx (.own x)) x (.ins A dx [])) (TM.startI c N.length ds) S := by
  have hl := r.length
  have hx2 : upd H1 dx (.own x) x = none := by rw [upd_ne (Ne.symm ne)]; exact hx
  have keep : ∀ a o, H1 a = some o → upd (upd H1 dx (.own x)) x (.ins A dx []) a = some o := fun a o e => by rw [upd_ne (ne_of_none e hx), upd_ne (ne_of_none e hd)]; exact e
  have at0 : (L2.start N (V.ref x :: ws))[0]? = some (some (.ref x)) := rfl
  refine ⟨st.2.2.2.1.upd hd, (sb.write (sb.free hd)).write (sb.free hx), fun a o e _ => ?_, Lt.refl _, st.1, st.2.1, fun n a cl e1 e2 => ?_, fun a h n => absurd h n, ?_, fun i d h => ?_, fun i d h => ?_, fun a h => ⟨h.2.1, ?_, h.2.2⟩, fun i j d e a h1 h2 _ _ => ?_, ⟨st.2.2.2.2.1, tabs_upd (tabs_upd st.2.2.2.2.2 (fun u e => by rw [hd] at e; cases e)) (fun u e => by rw [hx2] at e; cases e), fun m hm d _ => ?_⟩⟩
  · have e' : upd H1 dx (.own x) a = some o := e
    exact .inl (by rw [upd_ne (ne_of_none e' hx2)]; exact e')
  · obtain ⟨g, o, ob, hh⟩ := st.2.2.1 n a cl e1 e2
    refine ⟨g, o, ob, ?_⟩
    split at hh
    · rename_i z; rw [if_pos z]; obtain ⟨lk, y, q⟩ := hh; exact ⟨lk, y, keep _ _ q⟩
    · rename_i z; rw [if_neg z]; exact keep _ _ hh
  · unfold L2.start TM.startI
    simp only [List.length_append, List.length_map, List.length_replicate, List.length_cons, hl]
    omega
  · rcases startI_get h with ⟨_, q⟩ | ⟨j, d', e0, e, q⟩ | q
    · cases q
    · cases q
      subst e0
      obtain ⟨v, h1, h2⟩ := r.get e
      refine ⟨v, ?_, h2⟩
      unfold L2.start
      have hj := (List.getElem?_eq_some_iff.mp h1).1
      rw [List.getElem?_append_left (by simp only [List.length_map, List.length_cons]; omega), List.getElem?_map, List.getElem?_cons_succ, h1]
      rfl
    · cases q
  · rcases startI_get h with ⟨e0, q⟩ | ⟨j, d', _, _, q⟩ | q
    · cases q
      subst e0
      exact ⟨x, _, at0, upd_same, .ins (fs := []) hA rfl .nil, sb.free hx, st.free hx, hx2⟩
    · cases q
    · cases q
  · obtain ⟨o, e⟩ := h.1
    exact ⟨o, by show upd H1 dx (.own x) a = some o; rw [upd_ne (ne_of_none e hd)]; exact e⟩
  · rcases startI_get h1 with ⟨e1, _⟩ | ⟨_, _, _, _, q⟩ | q
    · rcases startI_get h2 with ⟨e2, _⟩ | ⟨_, _, _, _, q⟩ | q
      · rw [e1, e2]
      · cases q
      · cases q
    · cases q
    · cases q
  · cases hm
    exact at0
theorem Sim.keptI (s : Sim T (entryI G θ H1 x dx) G' θ' σ H' ρ S') (hd : H1 dx = none) (l : Le G G') (t : Lt θ θ') : Kept G θ H1 G' θ' H' where
  le := l
  lt := t
  heap := fun a o e n => s.frame a o (by show upd H1 dx (.own x) a = some o; rw [upd_ne (ne_of_none e hd)]; exact e) n
  new := fun a h n => by
    have q : upd H1 dx (.own x) a = none := s.fresh a h n
    by_cases ha : a = dx
    · rw [ha]; exact hd
    · rw [upd_ne ha] at q; exact q
  out := fun a o e g n => (s.prot a ⟨⟨o, e⟩, g, n⟩).1
section
variable {prog : Program} {w : World} {K : PySem.W.Frag} {mg : Str → Option Value} {base : Heap}
/-- THE RULE for an __init__: its body by the interpreter -/
theorem init_ok {P : Prov} {nm qual : Str} {params : Arguments} {body : List Stmt} {scope : Scope} {dvs : List V} {kws : List (Str × V)} {f : Addr} {fd : FuncData} {N ps : List Str} {k : Nat} {b : Ss}
    (F : FunD K nm qual params body scope dvs kws f fd) (Sc : FnScope N ps scope)
    (hbody : ∀ (X : Cx) (W : L2.WX) (B : Base), X.calm = true → X.K = K → X.mg = mg → X.base = base → X.prog = prog → X.w = w → X.N = N → X.env.scope = scope → X.stack = X.env :: X.outer → X.env.frame = some X.env.locals → (∀ y, X.fn y = true) → Room k X.A → Takes X W → PassesOwn (model X.prog X.w) X.A X.env X.xe → PSs X body (liftS T B W (exSs P b))) :
    FnOk prog w K mg base (L2.CX prog w) (k + 1) f fd ps (spInit T c (runInit P c N.length ps.length b)) := by
  refine F.ok Sc (fun vs H Q E h => ?_) (fun cdv A' outer s H vs Q E hr h => ?_)
  · obtain ⟨x, dx, A, ws, H1, G, θ, S, ds, rfl, _, _, _, _, _, _, _, r, h⟩ := h
    by_cases hl : ds.length + 1 = ps.length
    · rw [List.length_cons, r.length, hl]
    · unfold runInit at h
      rw [if_neg hl] at h
      exact h.elim
  · obtain ⟨x, dx, A, ws, H1, G, θ, S, ds, rfl, hA, hx, hd, ne, rfl, sb, st, r, h⟩ := h
    have tk : Takes (cxOf (L2.CX prog w) prog w K mg base N qual scope f cdv A' outer s (upd (upd H1 dx (.own x)) x (.ins A dx [])) E) (fun cls d _ H => E cls d H) := takes_of rfl rfl rfl rfl
    have pw := passes_of (X := cxOf (L2.CX prog w) prog w K mg base N qual scope f cdv A' outer s (upd (upd H1 dx (.own x)) x (.ins A dx [])) E) rfl
    refine ⟨_, hbody (cxOf (L2.CX prog w) prog w K mg base N qual scope f cdv A' outer s (upd (upd H1 dx (.own x)) x (.ins A dx [])) E) (fun cls d _ H => E cls d H) (entryI G θ H1 x dx) rfl rfl rfl rfl rfl rfl rfl rfl rfl rfl (fun _ => rfl) hr tk pw, ?_⟩
    refine ⟨G, θ, TM.startI c N.length ds, S, Sim.startI hA hx hd ne sb st r, ?_⟩
    have hl : ds.length + 1 = ps.length := by
      by_cases hl : ds.length + 1 = ps.length
      · exact hl
      · unfold runInit at h
        rw [if_neg hl] at h
        exact h.elim
    unfold runInit at h
    rw [if_pos hl] at h
    unfold RunS
    cases e : exSs P b (TM.startI c N.length ds) S with
    | ok fl ρ' S' =>
      rw [e] at h
      cases fl with
      | nx =>
        intro G' θ' σ' H' l t s'
        simp only at h
        cases e1 : selfOf ρ' with
        | none => rw [e1] at h; exact h.elim
        | some d =>
          rw [e1] at h
          have e0 := selfOf_ok e1
          obtain ⟨a, o, g1, g2, g3, g4, g5, g6⟩ := s'.own 0 d e0
          have g7 := s'.x.me x rfl d e0
          rw [g7] at g1
          cases g1
          exact h H' G' θ' o (s'.keptI hd l t) s'.sub s'.stoOk g2 g3 g4 g5
      | ret d => exact h.elim
      | bk => exact h.elim
      | ct => exact h.elim
    | ex c fs ρ' S' =>
      rw [e] at h
      exact fun G' θ' σ' H' cls dx' l t s' xr => h cls dx' H' G' θ' (s'.keptI hd l t) s'.sub s'.stoOk xr
    | bad => rw [e] at h; exact h
end
end
/-! ### C(..) -/
section
variable {T : Tab} {P : Prov} {defs N : List Str} {sc : Scope} {k : Nat} {X : Cx} {W : L2.WX} {B : Base} {a : Expr} {es : List Expr} {ms : Mo (List D)} {pos p : Pos} {c : Str}
/-- the making of an instance, seen from the maker -/
theorem run_mkS {C f : Addr} {fd : FuncData} {ps : List Str} {sp : Sp} {dvs vs : List V} {ds us : List Value} {j : Nat} {σ : L2.St} {H : Hp} {s : Shared} {pins : List (Addr × Obj)} {E : XK} {Q : VK} (M : Mk X.K C f)
    (Fi : FnOk X.prog X.w X.K X.mg X.base (L2.CX X.prog X.w) j f fd ps sp) (room : Room (j + 1) X.A) (bi : Binds X.K fd ps ds) (dv : Vals dvs ds) (out : PassesAt (L2.CX X.prog X.w) X σ E) (Iv : Inv X pins σ H s) (rv : Vals vs us)
    (ask : ∀ x dx, H x = none → H dx = none → dx ≠ x → sp (.ref x :: (vs ++ dvs)) (upd (upd H dx (.own x)) x (.ins C dx [])) (fun v H2 => v = .non ∧ Q (.ref x) H2) E) : wpAny (model X.prog X.w) X.A (call (.ref C) us) (EP X pins σ Q) X.xe s := by
  have want := ask (s.heap.objs.size + 1) s.heap.objs.size (Iv.hok.fresh (Nat.le_succ _)) (Iv.hok.fresh (Nat.le_refl _)) (Nat.ne_of_lt (Nat.lt_succ_self _))
  have Im := Inv.made (C := C) Iv
  have all : Vals (V.ref (s.heap.objs.size + 1) :: (vs ++ dvs)) (Value.ref (s.heap.objs.size + 1) :: (us ++ ds)) := .cons rfl (rv.append dv)
  have many : (Value.ref (s.heap.objs.size + 1) :: us ++ ds).length = ps.length := by
    have q := all.length
    rw [Fi.len _ _ _ _ want] at q
    exact q.symm
  have bound := bi _ (Value.ref (s.heap.objs.size + 1) :: us) Im.kIn many
  have go := Fi.run _ X.stack _ _ ⟨Value.ref (s.heap.objs.size + 1) :: us, []⟩ (Value.ref (s.heap.objs.size + 1) :: (us ++ ds)) _ _ E (room.make C us []) (Im.env0.make C us []) bound all want
  refine wpAny_call (make_map (f := f) Iv.kIn M.makes M.init (beq_iff_eq.mp M.fn) (codeAny_mono go fun r s' hs => ?_))
  cases r with
  | error u => exact out pins _ _ u s' Im hs
  | ok fl =>
    cases fl with
    | ret u =>
      obtain ⟨z, Hz, Iz, rz, ez, qz⟩ := Im.after hs
      subst ez
      exact ⟨rz, ⟨V.ref (s.heap.objs.size + 1), Hz, Iz, rfl, qz⟩⟩
    | next => exact hs.elim
    | brk => exact hs.elim
    | cont => exact hs.elim
theorem mk_key {A : Addr} {dvs : List V} {i : Nat} (hA : T.cls c = some A) (hd : ∀ G θ, RepL T G θ dvs (P.dflt c i)) {σ : L2.St} {H : Hp} {Q : VK} (h : liftE T B W (mMake P c ms i) σ H Q) :
    liftA T B W ms σ H fun vs H1 => ∀ x dx, H1 x = none → H1 dx = none → dx ≠ x → spInit T c (P.make c) (.ref x :: (vs ++ dvs)) (upd (upd H1 dx (.own x)) x (.ins A dx [])) (fun v H2 => v = .non ∧ Q (.ref x) H2) (WE W σ) := by
  obtain ⟨G, θ, ρ, S, s, r⟩ := h
  unfold mMake at r
  by_cases hm : P.mks c = true
  · rw [if_pos hm] at r
    refine ⟨G, θ, ρ, S, s, r.bind.imp fun ds G1 θ1 H1 ρ1 S1 l1 t1 s1 r1 vs rs x dx hx hdx ne => ?_⟩
    refine ⟨x, dx, A, vs ++ dvs, H1, G1, θ1, S1, ds ++ P.dflt c i, rfl, hA, hx, hdx, ne, rfl, s1.sub, s1.stoOk, rs.append (hd _ _), ?_⟩
    unfold Run callM at r1
    rw [bind_def] at r1
    cases e : P.make c (ds ++ P.dflt c i) S1 with
    | ok d S' =>
      rw [e] at r1
      intro H' G' θ' o k sb st hx' ob g t
      have s2 := s1.after k sb st
      obtain ⟨_, _, nB, nO⟩ := s1.newFree hx
      exact ⟨rfl, r1 G' θ' H' k.le k.lt s2 _ (.nw hx' ob g t nB nO)⟩
    | ex c' fs S' =>
      rw [e] at r1
      intro cls dx' H' G' θ' k sb st x
      exact r1 G' θ' H' cls dx' k.le k.lt (s1.after k sb st) x
    | bad => rw [e] at r1; exact r1
  · rw [if_neg hm] at r
    exact r.elim
theorem mk_no {i : Nat} (hm : ¬ P.mks c = true) {σ : L2.St} {H : Hp} {Q : VK} : ¬ liftE T B W (mMake P c ms i) σ H Q := fun ⟨G, θ, ρ, S, s, r⟩ => by
  unfold mMake at r
  rw [if_neg hm] at r
  exact r
theorem q_mk1 (C : Ctx T P defs N sc k X W) (hg : glb sc c = true) (h1 : okE a = true) (h2 : es.all okE = true) (h : PA X (a :: es) (liftA T B W ms)) (i : Nat) : PE X (.Call (.Name c p) (a :: es) [] pos) (liftE T B W (mMake P c ms i)) := by
  by_cases hm : P.mks c = true
  · obtain ⟨g1, g2, g3⟩ := C.gl hg
    obtain ⟨A, f, fd, ps, j, e, hA, M, Fi, gA, bd⟩ := C.w0.makes c hm
    obtain ⟨dvs, ds, b1, b2, b3⟩ := bd i
    refine PE.imp (t := fun σ H Q => liftA T B W ms σ H fun vs H1 => ∀ x dx, H1 x = none → H1 dx = none → dx ≠ x → spInit T c (P.make c) (.ref x :: (vs ++ dvs)) (upd (upd H1 dx (.own x)) x (.ins A dx [])) (fun v H2 => v = .non ∧ Q (.ref x) H2) (WE W σ)) ⟨fun pins s σ H Q I h' => ?_⟩ fun σ H Q q => mk_key hA b3 q
    refine wpAny_Call_Name_kw (ld_glob I g1 gA ?_ g2)
    refine PySem.W.callWith_K (h₀ := X.base) I.ok.mod.kin M.kp (thn (h.run pos pins s σ H _ I h') fun us s1 ⟨vs, H1, I1, rv, q⟩ => ⟨I1.kIn, ?_⟩) (star_ok h1) (star_any h2)
    exact run_mkS M Fi (e ▸ C.room) b1 b2 (passAt C.tk σ) I1 rv q
  · exact pe_never fun σ H Q q => mk_no hm q
theorem q_mk0 (C : Ctx T P defs N sc k X W) (hg : glb sc c = true) (i : Nat) : PE X (.Call (.Name c p) [] [] pos) (liftE T B W (mMake P c (pure []) i)) := by
  by_cases hm : P.mks c = true
  · obtain ⟨g1, g2, g3⟩ := C.gl hg
    obtain ⟨A, f, fd, ps, j, e, hA, M, Fi, gA, bd⟩ := C.w0.makes c hm
    obtain ⟨dvs, ds, b1, b2, b3⟩ := bd i
    refine PE.imp (t := fun σ H Q => ∀ x dx, H x = none → H dx = none → dx ≠ x → spInit T c (P.make c) (.ref x :: ([] ++ dvs)) (upd (upd H dx (.own x)) x (.ins A dx [])) (fun v H2 => v = .non ∧ Q (.ref x) H2) (WE W σ)) ⟨fun pins s σ H Q I h' => ?_⟩ fun σ H Q q => ?_
    · refine wpAny_Call_Name_kw (ld_glob I g1 gA ?_ g2)
      exact PySem.W.callWith_K0 I.kIn M.kp (run_mkS (us := []) (vs := []) M Fi (e ▸ C.room) b1 b2 (passAt C.tk σ) I .nil h')
    · obtain ⟨G, θ, ρ, S, s, r⟩ := mk_key (ms := pure []) hA b3 q
      exact Run.pure' r s [] .nil
  · exact pe_never fun σ H Q q => mk_no hm q
end
end TM
end
section
set_option Elab.async false
set_option linter.all false
set_option maxRecDepth 100000
set_option maxHeartbeats 4000000
/-! FWX: exceptions: their __init__, raise. -/
namespace TM
open PySem PySem.Spec PyProof.Rows L2

/-! ### the __init__ of an exception -/
section
variable {X : Cx} {N : List Str} {sc : Scope}
/-- self.f = a parameter | a text -/
def isX1 (N : List Str) (sc : Scope) : Str × XA → Stmt → Bool
  | (f, .par j), .Assign [.Attribute (.Name x _) g _] (.Name y _) _ => decide (f = g) && decide (N[0]? = some x) && vis sc x && decide (N[j + 1]? = some y) && vis sc y
  | (f, .txt z), .Assign [.Attribute (.Name x _) g _] (.Constant (.str z') _ _) _ => decide (f = g) && decide (N[0]? = some x) && vis sc x && decide (z = z')
  | _, _ => false
def isXs (N : List Str) (sc : Scope) : List (Str × XA) → List Stmt → Bool
  | [], [] => true
  | x :: xs, s :: ss => isX1 N sc x s && isXs N sc xs ss
  | _, _ => false
/-- what is left to be kept -/
def tXs (K : PySem.W.Frag) (xs : List (Str × XA)) : TS := fun Dn σ H => ∃ a C ws H1 fs vfs, OexC K C ∧ (∀ p ∈ xs, PySem.W.findIn K (.ref C) p.1 = some none) ∧ σ[0]? = some (some (.ref a)) ∧ (∀ j v, ws[j]? = some v → σ[j + 1]? = some (some v)) ∧ XMade C a H1 fs H ∧ (∀ b, b ≠ a → H b = none → H1 b = none) ∧
  fs.length + xs.length ≤ 900 ∧ xaVs xs ws fs = some vfs ∧ ∀ H', XMade C a H1 vfs H' → Dn.nx σ H'
theorem x1_ok {f : Str} {x : XA} {s : Stmt} (hN : X.N = N) (hs : X.env.scope = sc) (h : isX1 N sc (f, x) s = true) : ∃ o e p pos te, s = .Assign [.Attribute o f p] e pos ∧ PE X o (fun σ H Q => ∃ v, σ[0]? = some (some v) ∧ Q v H) ∧ PE X e te ∧ swapsWith e (some (.Attribute o f p)) pos.line X.env = pure false ∧
    ∀ σ H Q ws v, (∀ j v, ws[j]? = some v → σ[j + 1]? = some (some v)) → xaV ws x = some v → Q v H → te σ H Q := by
  unfold isX1 at h
  split at h
  · rename_i f' j z px g pg y py pos e
    obtain ⟨e1, e2⟩ := Prod.mk.inj e
    subst e1
    subst e2
    simp only [Bool.and_eq_true, decide_eq_true_eq] at h
    obtain ⟨⟨⟨⟨h1, h2⟩, h3⟩, h4⟩, h5⟩ := h
    subst h1
    obtain ⟨a1, a2, a3⟩ := vis_ok h3
    obtain ⟨b1, b2, b3⟩ := vis_ok h5
    refine ⟨_, _, _, _, _, rfl, pe_var (i := 0) (by rw [hN]; exact h2) (by rw [hs]; exact a1) a2 a3, pe_var (i := j + 1) (by rw [hN]; exact h4) (by rw [hs]; exact b1) b2 b3, rfl, fun σ H Q ws v k e q => ?_⟩
    exact ⟨v, k j v e, q⟩
  · rename_i f' z x' px g pg z' j pc pos e
    obtain ⟨e1, e2⟩ := Prod.mk.inj e
    subst e1
    subst e2
    simp only [Bool.and_eq_true, decide_eq_true_eq] at h
    obtain ⟨⟨⟨h1, h2⟩, h3⟩, h4⟩ := h
    subst h1
    subst h4
    obtain ⟨a1, a2, a3⟩ := vis_ok h3
    refine ⟨_, _, _, _, _, rfl, pe_var (i := 0) (by rw [hN]; exact h2) (by rw [hs]; exact a1) a2 a3, pe_str, rfl, fun σ H Q ws v k e q => ?_⟩
    cases e
    exact q
  · cases h
theorem xs_ok (hN : X.N = N) (hs : X.env.scope = sc) : ∀ {xs : List (Str × XA)} {ss : List Stmt}, isXs N sc xs ss = true → PSs X ss (tXs X.K xs)
  | [], [], _ => PSs.imp pss_nil fun Dn σ H ⟨a, C, ws, H1, fs, vfs, _, _, _, _, m, _, _, e, q⟩ => by
    cases e
    exact q H m
  | [], _ :: _, h => by simp [isXs] at h
  | _ :: _, [], h => by simp [isXs] at h
  | (f, x) :: xs, s :: ss, h => by
    simp only [isXs, Bool.and_eq_true] at h
    obtain ⟨o, e, p, pos, te, rfl, ho, he, hw, k⟩ := x1_ok hN hs h.1
    refine PSs.imp (pss_cons (ps_ost ho he hw) (xs_ok hN hs h.2)) fun Dn σ H ⟨a, C, ws, H1, fs, vfs, T, no, s0, sj, m, fr, hl, ev, q⟩ => ?_
    unfold xaVs at ev
    obtain ⟨v, hv, ev⟩ := Option.bind_eq_some_iff.mp ev
    simp only [List.length_cons] at hl
    refine k σ H _ ws v sj hv ⟨.ref a, s0, a, C, rfl, T, no _ (List.mem_cons_self ..), ?_⟩
    have no' : ∀ p ∈ xs, PySem.W.findIn X.K (.ref C) p.1 = some none := fun p hp => no p (List.mem_cons_of_mem _ hp)
    rcases m with ⟨rfl, ea, oth⟩ | ⟨d, ea, ed, nd, da, oth⟩
    · refine .inl ⟨ea, fun dx hdx ne => ⟨a, C, ws, H1, [(f, v)], vfs, T, no', s0, sj, .inr ⟨dx, upd_same, ?_, fr dx ne hdx, ne, fun b h1 h2 => ?_⟩, fun b hb hn => ?_, by simp only [List.length_cons, List.length_nil] at hl ⊢; omega, ev, q⟩⟩
      · rw [upd_ne ne]; exact upd_same
      · rw [upd_ne h1, upd_ne h2]; exact oth b h1
      · rw [upd_ne hb] at hn
        by_cases hbd : b = dx
        · rw [hbd]; exact fr dx ne hdx
        · rw [upd_ne hbd] at hn; exact fr b hb hn
    · refine .inr ⟨d, fs, ea, ed, by omega, ⟨a, C, ws, H1, (f, v) :: fs, vfs, T, no', s0, sj, .inr ⟨d, ?_, upd_same, nd, da, fun b h1 h2 => ?_⟩, fun b hb hn => ?_, by simp only [List.length_cons] at hl ⊢; omega, ev, q⟩⟩
      · rw [upd_ne (Ne.symm da)]; exact ea
      · rw [upd_ne h2]; exact oth b h1 h2
      · by_cases hbd : b = d
        · rw [hbd]; exact nd
        · rw [upd_ne hbd] at hn; exact fr b hb hn
end
section
variable {prog : Program} {w : World} {K : PySem.W.Frag} {mg : Str → Option Value} {base : Heap}
/-- THE RULE for an exception's __init__ -/
theorem xinit_ok {nm qual : Str} {params : Arguments} {body : List Stmt} {scope : Scope} {dvs : List V} {kws : List (Str × V)} {f : Addr} {fd : FuncData} {N ps : List Str} {xs : List (Str × XA)} {C : Addr}
    (F : FunD K nm qual params body scope dvs kws f fd) (Sc : FnScope N ps scope) (T : OexC K C) (no : ∀ p ∈ xs, PySem.W.findIn K (.ref C) p.1 = some none) (hl : xs.length ≤ 900) (h : isXs N scope xs body = true) :
    FnOk prog w K mg base (L2.CX prog w) 1 f fd ps (spX C xs ps.length) := by
  refine F.ok Sc (fun vs H Q E h => ?_) (fun cdv A' outer s H vs Q E hr h' => ?_)
  · obtain ⟨a, ws, H1, vfs, rfl, hn, _⟩ := h
    exact hn
  · obtain ⟨a, ws, H1, vfs, rfl, hn, rfl, ha, ev, q⟩ := h'
    refine ⟨_, xs_ok (X := cxOf (L2.CX prog w) prog w K mg base N qual scope f cdv A' outer s (upd H1 a (exo a C none)) E) rfl rfl h, a, C, ws, H1, [], vfs, T, no, rfl, fun j v e => ?_, .inl ⟨rfl, upd_same, fun b hb => upd_ne hb⟩, fun b hb e => by rw [upd_ne hb] at e; exact e, by simpa using hl, ev, q⟩
    unfold L2.start
    have hj := (List.getElem?_eq_some_iff.mp e).1
    rw [List.getElem?_append_left (by simp only [List.length_map, List.length_cons]; omega), List.getElem?_map, List.getElem?_cons_succ, e]
    rfl
end
/-! ### raise -/
section
variable {T : Tab} {P : Prov} {defs N : List Str} {sc : Scope} {k : Nat} {X : Cx} {W : L2.WX} {B : Base} {a e : Expr} {es : List Expr} {ms : Mo (List D)} {pos p : Pos} {c : Str}
theorem xa_names : ∀ {xs : List (Str × XA)} {ws : List V} {ds : List D} {fs : List (Str × D)} {vfs : List (Str × V)} {G : Hp} {θ : List Addr} {r : List (Str × D)}, RepL T G θ ws ds → vfs.map (·.1) = fs.map (·.1) → RepL T G θ (vfs.map (·.2)) (fs.map (·.2)) → xaFs xs ds fs = some r →
    ∃ q, xaVs xs ws vfs = some q ∧ q.map (·.1) = r.map (·.1) ∧ RepL T G θ (q.map (·.2)) (r.map (·.2))
  | [], _, _, _, _, _, _, _, _, e1, e2, h => by cases h; exact ⟨_, rfl, e1, e2⟩
  | (f, x) :: xs, ws, ds, fs, vfs, G, θ, r, rw', e1, e2, h => by
    unfold xaFs at h
    obtain ⟨d, hd, h⟩ := Option.bind_eq_some_iff.mp h
    have : ∃ v, xaV ws x = some v ∧ Rep T G θ v d := by
      cases x with
      | par j => exact rw'.get hd
      | txt z => cases hd; exact ⟨_, rfl, .str z⟩
    obtain ⟨v, hv, rv⟩ := this
    obtain ⟨q, q1, q2⟩ := xa_names (vfs := (f, v) :: vfs) (fs := (f, d) :: fs) rw' (by simp only [List.map_cons, e1]) (.cons rv e2) h
    exact ⟨q, by unfold xaVs; rw [hv]; exact q1, q2⟩
/-- the exception is made: seen from the raiser -/
theorem run_exc {A f : Addr} {fd : FuncData} {ps : List Str} {sp : Sp} {vs : List V} {us : List Value} {j : Nat} {σ : L2.St} {H : Hp} {s : Shared} {pins : List (Addr × Obj)} {Q : XK} (O : OexC X.K A) (iC : PySem.W.findIn X.K (.ref A) "__init__" = some (some (.ref f))) (tI : PySem.W.typeIn X.K (.ref f) = some (.type "function"))
    (Fi : FnOk X.prog X.w X.K X.mg X.base (L2.CX X.prog X.w) j f fd ps sp) (room : Room (j + 1) X.A) (bi : Binds X.K fd ps []) (Iv : Inv X pins σ H s) (rv : Vals vs us) (few : vs.length ≤ 1000)
    (ask : ∀ a, H a = none → sp (.ref a :: vs) (upd H a (exo a A none)) (fun v H2 => v = .non ∧ ∃ (d : Addr) (fs : List (Str × V)), H2 a = some (exo a A (some d)) ∧ H2 d = some (exd d fs) ∧ H d = none ∧ Q (.ref A) (some d) (upd (del H2 a) d (.xd fs))) (fun _ _ _ => False)) :
    wpAny (model X.prog X.w) X.A (call (.ref A) us) (MkP X pins σ Q) X.xe s := by
  obtain ⟨nm, q, M, bs, bm, sn, sub, ab, col, dd, k0, k1, k2, k3, k5, hC, hbm⟩ := O.cls
  obtain ⟨hp, g, dr, tk, os⟩ := s
  have up : hp.objs.size ≤ hp.objs.size + 1 := Nat.le_succ _
  have want := ask (hp.objs.size + 1) (Iv.hok.fresh up)
  have kept : ∀ b o, hp.get? b = some o → ((hp.push (PySem.W.kdv_tup us)).push (PySem.HandSPX.excO A hp.objs.size)).get? b = some o := fun b o e => Heap.get?_push_of_some _ (Heap.get?_push_of_some _ e)
  have there : ((hp.push (PySem.W.kdv_tup us)).push (PySem.HandSPX.excO A hp.objs.size)).get? (hp.objs.size + 1) = some (PySem.HandSPX.excO A hp.objs.size) := by heap_get
  have Im : Inv X pins σ (upd H (hp.objs.size + 1) (exo (hp.objs.size + 1) A none)) ⟨(hp.push (PySem.W.kdv_tup us)).push (PySem.HandSPX.excO A hp.objs.size), g, dr, tk, os⟩ :=
    Iv.laid (t' := tk) (o := exo (hp.objs.size + 1) A none) (h' := (hp.push (PySem.W.kdv_tup us)).push (PySem.HandSPX.excO A hp.objs.size)) kept up (exo_ok there)
  have all : Vals (V.ref (hp.objs.size + 1) :: vs) (Value.ref (hp.objs.size + 1) :: us) := .cons rfl rv
  have many : (Value.ref (hp.objs.size + 1) :: us ++ []).length = ps.length := by
    have z := all.length
    rw [Fi.len _ _ _ _ want] at z
    rw [List.append_nil]
    exact z.symm
  have bound := bi _ (Value.ref (hp.objs.size + 1) :: us) Im.kIn many
  rw [List.append_nil] at bound
  have few' : us.length ≤ sizeLine := by
    rw [← Paired.length rv, sizeLine_eq]
    omega
  have go := Fi.run _ X.stack _ _ ⟨Value.ref (hp.objs.size + 1) :: us, []⟩ (Value.ref (hp.objs.size + 1) :: us) _ _ (fun _ _ _ => False) (room.make A us []) (Im.env0.make A us []) bound all want
  refine wpAny_call (PySem.HandSPX.call_own F.excBase_ValueError (fun Y => PySem.HandSPX.refsVE_contains Y bm hbm) (Iv.kIn _ _ hC) (PySem.W.looks_findIn Iv.kIn iC) (fun self => PySem.W.bind_fn Iv.kIn self tI) few' (codeAny_mono go fun r s' hs => ?_))
  cases r with
  | error u =>
    obtain ⟨_, _, _, _, _, _, _, _, _, _, _, _, z⟩ := hs
    exact z.elim
  | ok fl =>
    cases fl with
    | ret u =>
      obtain ⟨v, H2, os2, bare2, un2, hok2, r2, ev, d, fs, ea, ed, hd1, q2⟩ := hs
      subst ev
      obtain ⟨h2, g2, d2, t2, os'⟩ := s'
      exact ⟨r2, mk_end (raises_own O.exC O.tyC) Iv up kept un2 hok2 os2 bare2 ea ed hd1 q2⟩
    | next => exact hs.elim
    | brk => exact hs.elim
    | cont => exact hs.elim
theorem xd_heap {H H2 : Hp} {a d : Addr} {fs : List (Str × V)} (ha : H a = none) (oth : ∀ b, b ≠ a → b ≠ d → H2 b = H b) (da : d ≠ a) : upd (del H2 a) d (.xd fs) = upd H d (.xd fs) := by
  funext b
  by_cases hb : b = d
  · rw [hb, upd_same, upd_same]
  · rw [upd_ne hb, upd_ne hb]
    by_cases hba : b = a
    · rw [hba, del_same, ha]
    · rw [del_ne hba, oth b hba hb]
theorem xaVs_ne : ∀ {xs : List (Str × XA)} {ws : List V} {fs q : List (Str × V)}, xaVs xs ws fs = some q → fs ≠ [] ∨ xs ≠ [] → q ≠ []
  | [], _, _, _, h, e => by cases h; exact e.resolve_right fun z => z rfl
  | (f, x) :: xs, ws, fs, q, h, _ => by
    unfold xaVs at h
    obtain ⟨v, hv, h⟩ := Option.bind_eq_some_iff.mp h
    exact xaVs_ne h (.inl fun z => nomatch z)
theorem exc_key {α : Type} {A : Addr} {xs : List (Str × XA)} {n : Nat} (hA : T.cls c = some A) (hx : P.xas c = some (n, xs)) (hne : xs ≠ []) (hn : n ≤ 1000) {σ : L2.St} {H : Hp} {G : Hp} {θ : List Addr} {ρ : Rho} {S : Sto} {Z : α → Hp → List Addr → Hp → Rho → Sto → Prop} (s : Sim T B G θ σ H ρ S) (r : Run T B W (mRaise P c ms : Mo α) G θ σ ρ S Z) :
    liftA T B W ms σ H fun vs H1 => vs.length ≤ 1000 ∧ ∀ a, H1 a = none → spX A xs (n + 1) (.ref a :: vs) (upd H1 a (exo a A none)) (fun v H2 => v = .non ∧ ∃ (d : Addr) (fs : List (Str × V)), H2 a = some (exo a A (some d)) ∧ H2 d = some (exd d fs) ∧ H1 d = none ∧ W (.ref A) (some d) σ (upd (del H2 a) d (.xd fs))) (fun _ _ _ => False) := by
  unfold mRaise at r
  rw [hx] at r
  refine ⟨G, θ, ρ, S, s, r.bind.imp fun ds G1 θ1 H1 ρ1 S1 l1 t1 s1 r1 vs rs => ?_⟩
  by_cases hl : ds.length = n
  · rw [if_pos hl] at r1
    obtain ⟨fs, hf, r2⟩ := r1.ofO
    obtain ⟨vfs, q1, q2, q3⟩ := xa_names (vfs := []) rs rfl .nil hf
    refine ⟨by rw [rs.length, hl]; exact hn, fun a ha => ⟨a, vs, H1, vfs, rfl, by rw [rs.length, hl], rfl, ha, q1, fun H' m => ⟨rfl, ?_⟩⟩⟩
    rcases m with m | ⟨d, ea, ed, nd, da, oth⟩
    · exact absurd m.1 (xaVs_ne q1 (.inr hne))
    · refine ⟨d, vfs, ea, ed, nd, ?_⟩
      rw [xd_heap ha oth da]
      have s2 := s1.laid (o := .xd vfs) nd
      have r3 : ∀ G' θ' H' cls dx, Le G1 G' → Lt θ1 θ' → Sim T B G' θ' σ H' ρ1 S1 → XRep T G' θ' H' c fs cls dx → W cls dx σ H' := r2
      exact r3 G1 θ1 _ _ _ (Le.refl _) (Lt.refl _) s2 ⟨A, d, vfs, rfl, hA, rfl, upd_same, q2, q3⟩
  · rw [if_neg hl] at r1
    exact r1.elim
theorem raise_no {α : Type} (hx : P.xas c = none) {G : Hp} {θ : List Addr} {ρ : Rho} {S : Sto} {Z : α → Hp → List Addr → L2.St → Hp → Rho → Sto → Prop} (r : RunS T B W (mRaise P c ms : Mo α) G θ ρ S Z) : False := by
  unfold mRaise at r
  rw [hx] at r
  exact r
/-- what the raiser's reading asks -/
def tExc (T : Tab) (c : Str) (n : Nat) (xs : List (Str × XA)) (ta : TA) : L2.St → Hp → XK → Prop := fun σ H Q => ∀ A, T.cls c = some A → ta σ H fun vs H1 => vs.length ≤ 1000 ∧ ∀ a, H1 a = none → spX A xs (n + 1) (.ref a :: vs) (upd H1 a (exo a A none))
  (fun v H2 => v = .non ∧ ∃ (d : Addr) (fs : List (Str × V)), H2 a = some (exo a A (some d)) ∧ H2 d = some (exd d fs) ∧ H1 d = none ∧ Q (.ref A) (some d) (upd (del H2 a) d (.xd fs))) (fun _ _ _ => False)
/-- C(..) as what is raised -/
theorem pmk_any (C : Ctx T P defs N sc k X W) (hg : glb sc c = true) (h1 : okE a = true) (h2 : es.all okE = true) {ta : TA} (ha : PA X (a :: es) ta) {n : Nat} {xs : List (Str × XA)} (hx : P.xas c = some (n, xs)) :
    PMk X (.Call (.Name c p) (a :: es) [] pos) (tExc T c n xs ta) := by
  obtain ⟨g1, g2, g3⟩ := C.gl hg
  obtain ⟨A, f, fd, ps, j, ek, hps, hn, hA, gA, O, iC, tI, hne, Fi, bi⟩ := C.w0.excs c n xs hx
  rw [hps] at Fi
  intro pins s σ H Q I h
  refine wpAny_Call_Name_kw (ld_glob I g1 gA ?_ g2)
  refine PySem.W.callWith_K (h₀ := X.base) I.ok.mod.kin O.kC (thn (ha.run pos pins s σ H _ I (h A hA)) fun us s1 ⟨vs, H1, I1, rv, few, q⟩ => ⟨I1.kIn, ?_⟩) (star_ok h1) (star_any h2)
  exact run_exc O iC tI Fi (ek ▸ C.room) bi I1 rv few q
theorem pmk_any0 (C : Ctx T P defs N sc k X W) (hg : glb sc c = true) {n : Nat} {xs : List (Str × XA)} (hx : P.xas c = some (n, xs)) : PMk X (.Call (.Name c p) [] [] pos) (tExc T c n xs fun _ H Q => Q [] H) := by
  obtain ⟨g1, g2, g3⟩ := C.gl hg
  obtain ⟨A, f, fd, ps, j, ek, hps, hn, hA, gA, O, iC, tI, hne, Fi, bi⟩ := C.w0.excs c n xs hx
  rw [hps] at Fi
  intro pins s σ H Q I h
  refine wpAny_Call_Name_kw (ld_glob I g1 gA ?_ g2)
  exact PySem.W.callWith_K0 I.kIn O.kC (run_exc (us := []) O iC tI Fi (ek ▸ C.room) bi I .nil (h A hA).1 (h A hA).2)
theorem q_raise (C : Ctx T P defs N sc k X W) (hg : glb sc c = true) (h2 : es.all okE = true) (ha : PA X es (liftA T B W ms)) (h0 : es = [] → ms = pure []) {st : Pos} : PS X (.Raise (some (.Call (.Name c p) es [] pos)) none st) (liftS T B W (mRaise P c ms)) := by
  cases hx : P.xas c with
  | none => exact PS.imp ps_never fun Dn σ H ⟨G, θ, ρ, S, s, r⟩ => raise_no hx r
  | some y =>
    obtain ⟨n, xs⟩ := y
    obtain ⟨A, _, _, _, _, _, _, hn, hA, _, _, _, _, hne, _, _⟩ := C.w0.excs c n xs hx
    have key : ∀ {Dn : Ends} {σ : L2.St} {H : Hp}, liftS T B W (mRaise P c ms) Dn σ H → tExc T c n xs (liftA T B W ms) σ H fun cls d H' => W cls d σ H' := fun {Dn σ H} ⟨G, θ, ρ, S, s, r⟩ A' hA' => exc_key hA' hx hne hn s r.run
    cases es with
    | nil =>
      have e := h0 rfl
      subst e
      refine PS.imp (ps_raise C.calm C.tk (pmk_any0 C hg hx)) fun Dn σ H q A' hA' => ?_
      obtain ⟨G, θ, ρ, S, s, r⟩ := key q A' hA'
      exact Run.pure' r s [] .nil
    | cons a es =>
      simp only [List.all_cons, Bool.and_eq_true] at h2
      exact PS.imp (ps_raise C.calm C.tk (pmk_any C hg h2.1 h2.2 ha hx)) fun Dn σ H q => key q
end
end TM
end
section
set_option Elab.async false
set_option linter.all false
set_option maxRecDepth 100000
set_option maxHeartbeats 4000000
/-! FWI: isinstance, texts with parts. -/
namespace TM
open PySem PySem.Spec PyProof.Rows L2

theorem kinds_ok : (["NoneType", "bool", "int", "str", "list", "tuple", "dict"].all fun k => askedTy.all fun t => kitB k t == some (kindIs k t)) = true := by decide +kernel
theorem kind_mem {c : D} {k : String} (h : kindD c = some k) : k ∈ "NoneType" :: askedTy := by
  unfold kindD at h
  split at h <;> cases h <;> decide
theorem kind_asked {K : PySem.W.Frag} {k t : String} (hk : k ∈ "NoneType" :: askedTy) (ht : t ∈ askedTy) : PySem.W.kitOne K (.type k) (.type t) = some (kindIs k t) := by
  have h := List.all_eq_true.mp (List.all_eq_true.mp kinds_ok k hk) t ht
  exact kit_ty (eq_of_beq h)
section
variable {T : Tab} {P : Prov} {defs N : List Str} {sc : Scope} {k : Nat} {X : Cx} {W : L2.WX} {B : Base} {e a b c t : Expr} {es : List Expr} {m n l : Mo D} {pos p : Pos} {x : Str}
theorem kind_ty {G : Hp} {θ : List Addr} {H : Hp} {K : PySem.W.Frag} {v : V} {d : D} {kd : String} (sb : Sub G H) (vx : View T G θ H v d) (h : kindD d = some kd) : TyX K H v (.type kd) := by
  unfold kindD at h
  split at h <;> cases h
  · cases vx.non; exact .base .non
  · cases vx.bl; exact .base (.bl _)
  · cases vx.int; exact .base (.int _)
  · cases vx.str; exact .base (.str _)
  · obtain ⟨a, xs, rfl, ha, _⟩ := vx.lst sb
    exact .base (.lst (ha.plain fun z => z))
  · obtain ⟨a, xs, rfl, ha, _⟩ := vx.tup sb
    exact .base (.tup ha)
  · obtain ⟨a, kvs, rfl, ha, _⟩ := vx.dct sb
    rcases ha with ha | ⟨_, o, ha⟩
    · exact .base (.dK ha)
    · exact .fDict ha
theorem isD_ty {d : D} {t : String} : isD P d (.ty t) = if t ∈ askedTy then (kindD d).map fun k => kindIs k t else none := rfl
theorem isD_cls {d : D} {n : Str} (h : P.isc n = true) : isD P d (.cls n) = match d with
    | .ins m _ => if P.isc m = true then some (decide (m = n)) else none
    | c => (kindD c).map fun _ => false := if_pos h
theorem isD_known {d : D} {n : Str} {r : Bool} (h : isD P d (.cls n) = some r) : P.isc n = true := by
  by_cases hc : P.isc n = true
  · exact hc
  · have h : (if P.isc n = true then _ else none) = some r := h
    rw [if_neg hc] at h
    cases h
theorem isD_asked {d : D} {t : String} {r : Bool} (h : isD P d (.ty t) = some r) : t ∈ askedTy ∧ (kindD d).map (fun k => kindIs k t) = some r := by
  rw [isD_ty] at h
  by_cases hc : t ∈ askedTy
  · rw [if_pos hc] at h; exact ⟨hc, h⟩
  · rw [if_neg hc] at h; cases h
/-- what isinstance says of the value, by one class -/
theorem isD_ok (w0 : World0 T P defs k X.prog X.w X.K X.mg X.base) {G : Hp} {θ : List Addr} {H : Hp} {v : V} {d : D} (sb : Sub G H) (vx : View T G θ H v d) {ts : List TyN} {b : Bool} (h : isAnyD P d ts = some b) (hne : ts ≠ []) :
    ∃ u, TyX X.K H v u ∧ ∀ t ∈ ts, ∃ r, isD P d t = some r ∧ (∀ n, t = .ty n → PySem.W.kitOne X.K u (.type n) = some r) ∧ ∀ c A, t = .cls c → T.cls c = some A → PySem.W.kitOne X.K u (.ref A) = some r := by
  have each : ∀ {ts : List TyN} {b : Bool}, isAnyD P d ts = some b → ∀ t ∈ ts, ∃ r, isD P d t = some r := fun {ts} => by
    induction ts with
    | nil => intro b _ t ht; cases ht
    | cons t ts ih =>
      intro b h t' ht
      unfold isAnyD at h
      obtain ⟨r, h1, h2⟩ := Option.bind_eq_some_iff.mp h
      obtain ⟨r', h3, _⟩ := Option.map_eq_some_iff.mp h2
      rcases List.mem_cons.mp ht with rfl | ht
      · exact ⟨r, h1⟩
      · exact ih h3 t' ht
  have all := each h
  cases hk : kindD d with
  | some kd =>
    refine ⟨.type kd, kind_ty sb vx hk, fun t ht => ?_⟩
    obtain ⟨r, hr⟩ := all t ht
    refine ⟨r, hr, fun n e => ?_, fun c A e hA => ?_⟩
    · subst e
      obtain ⟨hn, hr⟩ := isD_asked hr
      rw [hk] at hr
      cases hr
      exact kind_asked (kind_mem hk) hn
    · subst e
      have hc := isD_known hr
      rw [isD_cls hc] at hr
      obtain ⟨A', hA', _, _, _, _, _, _, hK, _⟩ := w0.isi c hc
      rw [hA] at hA'
      cases hA'
      have hr2 : r = false := by
        cases d <;> first
          | (cases hk; done)
          | (simp only [hk, Option.map_some, Option.some.injEq] at hr; exact hr.symm)
      rw [hr2]
      exact hK kd (kind_mem hk)
  | none =>
    cases ts with
    | nil => exact absurd rfl hne
    | cons t0 ts =>
      -- an instance
      obtain ⟨r0, hr0⟩ := all t0 (List.mem_cons_self ..)
      have hi : ∃ c0 fs, d = .ins c0 fs ∧ P.isc c0 = true := by
        cases t0 with
        | ty t =>
          have := (isD_asked hr0).2
          rw [hk] at this; cases this
        | cls n =>
          have hc := isD_known hr0
          rw [isD_cls hc] at hr0
          split at hr0
          · split at hr0
            · rename_i h1; exact ⟨_, _, rfl, h1⟩
            · cases hr0
          · rw [hk] at hr0; cases hr0
      obtain ⟨c0, fs, rfl, hc0⟩ := hi
      obtain ⟨a, A0, dx, vfs, rfl, ha, hA0, _, _⟩ := vx.ins sb
      obtain ⟨A1, hA1, _, cl, q1, q2, q3, q4, _, _⟩ := w0.isi c0 hc0
      rw [hA0] at hA1
      cases hA1
      refine ⟨.ref A0, .base (.ins ha cl q1 q2 q3 q4), fun t ht => ?_⟩
      obtain ⟨r, hr⟩ := all t ht
      refine ⟨r, hr, fun n e => ?_, fun c A e hA => ?_⟩
      · subst e
        have := (isD_asked hr).2
        cases this
      · subst e
        have hc := isD_known hr
        rw [isD_cls hc] at hr
        obtain ⟨A', hA', _, _, _, _, _, _, _, hI⟩ := w0.isi c hc
        rw [hA] at hA'
        cases hA'
        simp only [hc0, if_true] at hr
        cases hr
        exact hI c0 A0 hc0 hA0
theorem boot_asked {t : String} (h : t ∈ askedTy) : bootBuiltins (Str.ofString t) = some (.type t) ∧ t ∈ bltns ∧ Str.ofString t ≠ "__name__" := by
  have all : (askedTy.all fun t => decide (bootBuiltins (Str.ofString t) = some (.type t)) && decide (t ∈ bltns) && !decide (Str.ofString t = "__name__")) = true := by decide +kernel
  have h := List.all_eq_true.mp all t h
  simp only [Bool.and_eq_true, decide_eq_true_eq, Bool.not_eq_true', decide_eq_false_iff_not] at h
  exact ⟨h.1.1, h.1.2, h.2⟩
/-- a type's name, as a value -/
def tyV (T : Tab) : TyN → Option (V × Value)
  | .ty t => some (.ty t, .type t)
  | .cls c => (T.cls c).map fun A => (.ref A, .ref A)
theorem q_tyN (C : Ctx T P defs N sc k X W) {tn : TyN} (h : isTyN sc tn e = true) (hc : ∀ c, tn = .cls c → P.isc c = true) : ∃ v u, tyV T tn = some (v, u) ∧ ClsV v u ∧ PE X e (tC v) ∧ okE e = true := by
  cases tn with
  | ty t =>
    simp only [isTyN] at h
    split at h
    · rename_i x hx
      obtain ⟨pos, rfl⟩ := xName_ok hx
      simp only [Bool.and_eq_true, decide_eq_true_eq] at h
      obtain ⟨⟨h1, h2⟩, h3⟩ := h
      subst h1
      obtain ⟨g1, g2, g3⟩ := C.gl h3
      obtain ⟨b1, b2, b3⟩ := boot_asked h2
      exact ⟨.ty t, .type t, rfl, .ty t, pe_bltn g1 (C.w0.free t b2) b1 rfl b3 g2, rfl⟩
    · cases h
  | cls c =>
    simp only [isTyN] at h
    split at h
    · rename_i x hx
      obtain ⟨pos, rfl⟩ := xName_ok hx
      simp only [Bool.and_eq_true, decide_eq_true_eq] at h
      obtain ⟨h1, h3⟩ := h
      subst h1
      obtain ⟨g1, g2, g3⟩ := C.gl h3
      obtain ⟨A, hA, gA, _⟩ := C.w0.isi x (hc x rfl)
      exact ⟨.ref A, .ref A, by show (T.cls x).map _ = _; rw [hA]; rfl, .own A, pe_glob g1 gA rfl g2, rfl⟩
    · cases h
theorem isi_clss {d : D} : ∀ {ts : List TyN} {b : Bool}, isAnyD P d ts = some b → ∀ c, TyN.cls c ∈ ts → P.isc c = true
  | [], _, _, _, h => by cases h
  | t :: ts, b, h, c, hc => by
    unfold isAnyD at h
    obtain ⟨r, h1, h2⟩ := Option.bind_eq_some_iff.mp h
    obtain ⟨r', h3, _⟩ := Option.map_eq_some_iff.mp h2
    rcases List.mem_cons.mp hc with rfl | hc
    · exact isD_known h1
    · exact isi_clss h3 c hc
theorem isTyNs_ok (C : Ctx T P defs N sc k X W) : ∀ {ts : List TyN} {es : List Expr}, isTyNs sc ts es = true → clsKn P ts = true → ∃ vs us, PA X es (fun _ H Q => Q vs H) ∧ Paired ClsV vs us ∧ ts.length = es.length ∧ vs.length = ts.length ∧
    ∀ {G : Hp} {θ : List Addr} {H : Hp} {v : V} {d : D} {b : Bool} {u : Value}, isAnyD P d ts = some b → (∀ t ∈ ts, ∃ r, isD P d t = some r ∧ (∀ n, t = .ty n → PySem.W.kitOne X.K u (.type n) = some r) ∧ ∀ c A, t = .cls c → T.cls c = some A → PySem.W.kitOne X.K u (.ref A) = some r) → PySem.W.kitAny X.K u us = some b
  | [], [], _, _ => ⟨[], [], pa_nil, .nil, rfl, rfl, fun h _ => by cases h; rfl⟩
  | [], _ :: _, h, _ => by simp [isTyNs] at h
  | _ :: _, [], h, _ => by simp [isTyNs] at h
  | t :: ts, e :: es, h, hk => by
    simp only [isTyNs, Bool.and_eq_true] at h
    unfold clsKn at hk
    simp only [List.all_cons, Bool.and_eq_true] at hk
    obtain ⟨v, u, tv, cv, pe, oe⟩ := q_tyN C h.1 fun c q => by subst q; exact hk.1
    obtain ⟨vs, us, pa, cs, l1, l2, go⟩ := isTyNs_ok C h.2 hk.2
    refine ⟨v :: vs, u :: us, PA.imp (pa_cons pe pa (star_ok oe)) fun σ H Q q => q, .cons cv cs, by simp [l1], by simp [l2], fun {G θ H w d b u'} hb all => ?_⟩
    unfold isAnyD at hb
    obtain ⟨r, h1, h2⟩ := Option.bind_eq_some_iff.mp hb
    obtain ⟨r', h3, h4⟩ := Option.map_eq_some_iff.mp h2
    obtain ⟨r2, k1, k2, k3⟩ := all t (List.mem_cons_self ..)
    rw [h1] at k1
    cases k1
    have one : PySem.W.kitOne X.K u' u = some r := by
      cases t with
      | ty n => cases tv; exact k2 n rfl
      | cls c =>
        have tv : (T.cls c).map (fun A => (V.ref A, Value.ref A)) = some (v, u) := tv
        obtain ⟨A, hA, e⟩ := Option.map_eq_some_iff.mp tv
        cases e
        exact k3 c A rfl hA
    have rest := go (G := G) (θ := θ) (H := H) (v := w) h3 fun t ht => all t (List.mem_cons_of_mem _ ht)
    exact kitAny_cons one (fun _ => by rw [rest, ← h4]; cases r <;> first | rfl | (cases ‹true = false›)) (fun e => by rw [← h4, e]; rfl)
theorem q_isi (C : Ctx T P defs N sc k X W) {ts : List TyN} {tp : Bool} (hx : x = "isinstance") (hg : glb sc x = true) (h1 : okE a = true) (h2 : okE t = true) (ht : isTyE sc ts tp t = true) (ha : PE X a (liftE T B W m)) :
    PE X (.Call (.Name x p) [a, t] [] pos) (liftE T B W (if clsKn P ts = true then m1 m fun c => ofO ((isAnyD P c ts).map D.bl) else fail)) := by
  subst hx
  by_cases hk : clsKn P ts = true
  · rw [if_pos hk]
    obtain ⟨g1, g2, g3⟩ := C.gl hg
    have hm := C.w0.free "isinstance" (by decide)
    cases tp with
    | false =>
      simp only [isTyE] at ht
      split at ht
      · rename_i t0
        have hk' := hk
        unfold clsKn at hk'
        simp only [List.all_cons, List.all_nil, Bool.and_true] at hk'
        obtain ⟨v, u, tv, cv, pe, oe⟩ := q_tyN C ht fun c q => by subst q; exact hk'
        refine PE.imp (pe_callB call_isi g1 hm rfl (pa_cons (pe_O ha) (pa_cons pe pa_nil (star_ok h2)) (star_ok h1)) g3 g2 (star_ok h1) (star_any (by simp [h2]))) fun σ H Q h => ?_
        refine w1 (K := fun y H1 Q => tCons (tC v) tNil σ H1 fun vs H2 => rIsi X.K (y :: vs) H2 Q) (fun y H Q ⟨σ, G, θ, ρ, S, d, s, vx, r⟩ => ?_) h
        obtain ⟨bd, hb, r2⟩ := r.ofO'
        obtain ⟨b, hb2, rfl⟩ := Option.map_eq_some_iff.mp hb
        obtain ⟨w, tw, all⟩ := isD_ok (ts := [t0]) C.w0 s.sub vx hb2 (fun z => nomatch z)
        obtain ⟨r0, k1, k2, k3⟩ := all t0 (List.mem_cons_self ..)
        have e0 : r0 = b := by
          unfold isAnyD isAnyD at hb2
          obtain ⟨r, q1, q2⟩ := Option.bind_eq_some_iff.mp hb2
          rw [k1] at q1
          cases q1
          simpa using q2
        subst e0
        refine ⟨y, v, w, u, r0, rfl, cv, tw, ?_, fin r2 s (.bl _)⟩
        cases t0 with
        | ty n => cases tv; exact k2 n rfl
        | cls c =>
          have tv : (T.cls c).map (fun A => (V.ref A, Value.ref A)) = some (v, u) := tv
          obtain ⟨A, hA, e⟩ := Option.map_eq_some_iff.mp tv
          cases e
          exact k3 c A rfl hA
      · cases ht
    | true =>
      simp only [isTyE] at ht
      split at ht
      · rename_i es hes
        obtain ⟨j, tpos, rfl⟩ := xTup_ok hes
        simp only [Bool.and_eq_true, decide_eq_true_eq, Bool.not_eq_true'] at ht
        obtain ⟨ht, hne0⟩ := ht
        obtain ⟨vs, us, pa, cs, l1, l2, go⟩ := isTyNs_ok C ht.1 hk
        by_cases hne : ts = []
        · exact absurd hne (fun z => by subst z; simp at hne0)
        · refine PE.imp (pe_callB call_isiT g1 hm rfl (pa_cons (pe_O ha) (pa_cons (pe_tup pa) pa_nil (star_ok h2)) (star_ok h1)) g3 g2 (star_ok h1) (star_any (by simp [h2]))) fun σ H Q h => ?_
          refine w1 (K := fun y H1 Q => tCons (tTup fun _ H Q => Q vs H) tNil σ H1 fun ws H2 => rIsiT X.K (y :: ws) H2 Q) (fun y H Q ⟨σ', G, θ, ρ, S, d, s, vx, r⟩ => ?_) h
          obtain ⟨bd, hb, r2⟩ := r.ofO'
          obtain ⟨b, hb2, rfl⟩ := Option.map_eq_some_iff.mp hb
          refine ⟨by rw [l2, l1, sizeLine_eq]; omega, fun q hq => ?_⟩
          have s2 := s.laid (o := .tup vs) hq
          have vx2 : View T G θ (upd H q (.tup vs)) y d := vx.mono (Le.refl _) (Lt.refl _) fun a o ho => by
            rcases ho with ho | ⟨lk, o', ho⟩
            · exact .inl (by rw [upd_ne (ne_of_none ho hq)]; exact ho)
            · exact .inr ⟨lk, o', by rw [upd_ne (ne_of_none ho hq)]; exact ho⟩
          obtain ⟨w, tw, all⟩ := isD_ok C.w0 s2.sub vx2 hb2 hne
          have r3 : Run T B W (pure (D.bl b)) G θ σ' ρ S (PV T B σ' Q) := r2
          exact ⟨y, q, vs, w, us, b, rfl, upd_same, cs, tw, go (G := G) (θ := θ) (H := H) (v := y) hb2 all, r3.pure' s2 _ (.of (.of (.bl _)))⟩
      · cases ht
  · rw [if_neg hk]
    exact pe_never fun σ H Q q => liftE_bad q
/-! ### texts with parts -/
def liftX (T : Tab) (B : Base) (W : L2.WX) (m : Mo Str) (σ : L2.St) (H : Hp) (Q : Str → Hp → Prop) : Prop := ∃ G θ ρ S, Sim T B G θ σ H ρ S ∧ Run T B W m G θ σ ρ S fun y _ _ H' _ _ => Q y H'
/-- one further part -/
def tPt (te : TE) (acc : Str) (σ : L2.St) (H : Hp) (Q : Str → Hp → Prop) : Prop := te σ H fun x H1 => ∃ y : Str, x = .str y ∧ (acc ++ y).length ≤ sizeLine ∧ Q (acc ++ y) H1
theorem evF_run {σ : L2.St} {G : Hp} {θ : List Addr} {ρ : Rho} {S : Sto} {acc : Str} {Z : Str → Hp → List Addr → Hp → Rho → Sto → Prop} (r : Run T B W (evF m acc) G θ σ ρ S Z) : Run T B W (m >>= settle) G θ σ ρ S fun d G1 θ1 H1 ρ1 S1 => ∀ v, ORep T G1 θ1 σ v d → ∃ y : Str, (v = .str y ∧ y.length ≤ sizeLine ∨ ∃ i : Int, v = .int i ∧ i.natAbs.log2 < 1920 ∧ y = toString i) ∧ (acc ++ y).length ≤ sizeLine ∧ Run T B W (pure (acc ++ y)) G1 θ1 σ ρ1 S1 Z := by
  unfold evF at r
  refine r.bind.imp fun d G1 θ1 H1 ρ1 S1 l1 t1 s1 r1 v o => ?_
  obtain ⟨c, hc, r2⟩ := r1.look
  obtain ⟨y, hy, r3⟩ := r2.ofO
  have vx := s1.view o hc
  by_cases hf : fits (acc ++ y).length = true
  · rw [if_pos hf] at r3
    refine ⟨y, ?_, fits_iff hf, r3⟩
    unfold fmtD at hy
    split at hy
    · split at hy
      · rename_i hz
        cases hy
        exact .inl ⟨vx.str, fits_iff hz⟩
      · cases hy
    · split at hy
      · rename_i i hz
        cases hy
        refine .inr ⟨_, vx.int, ?_, rfl⟩
        by_cases h0 : i.natAbs = 0
        · rw [h0]; decide
        · exact (Nat.log2_lt h0).mpr (Nat.lt_trans hz (by decide))
      · cases hy
    · cases hy
  · rw [if_neg hf] at r3
    exact r3.elim
/-- what a part's term says -/
def PtOk (T : Tab) (B : Base) (W : L2.WX) (X : Cx) (m : Mo D) (e : Expr) : Prop := ∃ te, PE X e te ∧ ∀ σ H acc Q, liftX T B W (evF m acc) σ H Q → tPt te acc σ H Q
theorem pt_fmt (ha : PE X a (liftE T B W m)) {ps : Pos} : PtOk T B W X m (.FormattedValue a (-1) none ps) := ⟨_, pe_fmt (pe_O ha), fun σ H acc Q ⟨G, θ, ρ, S, s, r⟩ => by
  refine ⟨G, θ, ρ, S, s, (evF_run r).imp fun d G1 θ1 H1 ρ1 S1 l1 t1 s1 q v o => ?_⟩
  obtain ⟨y, hv, hl, r2⟩ := q v o
  rcases hv with ⟨e, hy⟩ | ⟨i, e, hi, ey⟩
  · exact .inl ⟨y, e, hy, y, rfl, hl, r2.pure' s1⟩
  · subst ey
    exact .inr ⟨i, e, hi, _, rfl, hl, r2.pure' s1⟩⟩
theorem pt_txt {z : Str} (hz : fits z.length = true) {j : Nat} {ps : Pos} : PtOk T B W X (pure (.str z)) (.Constant (.str z) j ps) := ⟨_, pe_str, fun σ H acc Q ⟨G, θ, ρ, S, s, r⟩ => by
  obtain ⟨y, hv, hl, r2⟩ := (evF_run r).pure' s (.str z) (.of (.str z))
  rcases hv with ⟨e, _⟩ | ⟨i, e, _⟩
  · cases e
    exact ⟨z, rfl, hl, r2.pure' s⟩
  · cases e⟩
theorem pt_of {M : TM.E} {f : Expr → Bool} (h : ptC f M e = true) (k : ∀ a, f a = true → PE X a (liftE T B W (ev P M))) : PtOk T B W X (ev P M) e := by
  unfold ptC at h
  split at h
  · rename_i a hp
    obtain ⟨ps, rfl⟩ := xPart_ok hp
    exact pt_fmt (k a h)
  · split at h
    · rename_i z z' h1 h2
      obtain ⟨j, ps, rfl⟩ := xPartC_ok h2
      simp only [Bool.and_eq_true, decide_eq_true_eq] at h
      obtain ⟨h3, h4⟩ := h
      subst h3
      unfold isTxt at h1
      split at h1 <;> cases h1
      simp only [ev]
      exact pt_txt h4
    · cases h
/-- the further parts -/
def PtsOk (T : Tab) (B : Base) (W : L2.WX) (X : Cx) (f : Str → Mo Str) (es : List Expr) : Prop := ∃ ts, PJ X es ts ∧ ∀ σ H acc Q, liftX T B W (f acc) σ H Q → tJs ts acc σ H Q
theorem pts_nil' : PtsOk T B W X (fun acc => pure acc) [] := ⟨[], .nil, fun σ H acc Q ⟨G, θ, ρ, S, s, r⟩ => r.pure' s⟩
theorem pts_cons' {f : Str → Mo Str} (h : PtOk T B W X m e) (hs : PtsOk T B W X f es) : PtsOk T B W X (fun acc => do
    let x ← evF m acc
    f x) (e :: es) := by
  obtain ⟨te, pe, k1⟩ := h
  obtain ⟨ts, pj, k2⟩ := hs
  refine ⟨te :: ts, .cons pe pj, fun σ H acc Q ⟨G, θ, ρ, S, s, r⟩ => ?_⟩
  exact k1 σ H acc (fun y H1 => tJs ts y σ H1 Q) ⟨G, θ, ρ, S, s, r.bind.imp fun y G1 θ1 H1 ρ1 S1 l1 t1 s1 r1 => k2 σ H1 y Q ⟨G1, θ1, ρ1, S1, s1, r1⟩⟩
theorem q_fst {f : Str → Mo Str} (h1 : PtOk T B W X m a) (h2 : PtOk T B W X n b) (h3 : PtsOk T B W X f es) : PE X (.JoinedStr (a :: b :: es) pos) (liftE T B W (do
    let x ← evF m Str.empty
    let y ← evF n x
    let z ← f y
    pure (.str z))) := by
  obtain ⟨ts, pj, k⟩ := pts_cons' h1 (pts_cons' h2 h3)
  refine PE.imp (pe_joined pj) fun σ H Q ⟨G, θ, ρ, S, s, r⟩ => ?_
  refine k σ H Str.empty (fun out H1 => Q (.str out) H1) ⟨G, θ, ρ, S, s, ?_⟩
  have r : Run T B W ((evF m Str.empty >>= fun x => evF n x >>= fun y => f y) >>= fun z => pure (.str z)) G θ σ ρ S (PV T B σ Q) := by
    rw [Mo.assoc]
    have e : (fun x => (evF n x >>= fun y => f y) >>= fun z => (pure (.str z) : Mo D)) = fun x => evF n x >>= fun y => f y >>= fun z => pure (.str z) := by
      funext x
      rw [Mo.assoc]
    rw [e]
    exact r
  exact r.bind.imp fun y G1 θ1 H1 ρ1 S1 l1 t1 s1 r1 => fin r1 s1 (.str _)
end
end TM
end
section
set_option Elab.async false
set_option linter.all false
set_option maxRecDepth 100000
set_option maxHeartbeats 4000000
/-! FWT1: several except clauses with one name; a def called within such a clause with what was caught. -/
namespace TM
open PySem PySem.Spec PyProof.Rows L2

/-- what the clauses wish of what the body raises, one behind another; the name's slot is i -/
def wNamed (K : PySem.W.Frag) (nl : Nat) (Wo : WX) (Dn : Ends) (i : Nat) : List (Value × (Addr → Value → Option Addr → TS)) → WX
  | [] => Wo
  | (c, t) :: r => fun cls d σ H => ∃ b, PySem.W.exmOne K cls c = some b ∧ (b = true → σ.length = nl → ∀ a, H a = none → t a cls d { nx := fun σ1 H1 => Dn.nx (σ1.set i none) H1, rt := Dn.rt, bk := fun σ1 H1 => Dn.bk (σ1.set i none) H1, ct := fun σ1 H1 => Dn.ct (σ1.set i none) H1 } (σ.set i (some (.ref a))) H) ∧
    (b = false → wNamed K nl Wo Dn i r cls d σ H)
inductive NamedOk (X : Cx) (n : Str) : List ExceptHandler → List (Value × (Addr → Value → Option Addr → TS)) → Prop
  | nil : NamedOk X n [] []
  | cons {x : Str} {c : Value} {t : Addr → Value → Option Addr → TS} {b₀ : Stmt} {more : List Stmt} {p1 p2 : Pos} {hs : List ExceptHandler} {l : List (Value × (Addr → Value → Option Addr → TS))} (nm : Names X x c)
      (su : ∀ (a : Addr) (oe : Obj) (cls : Value) (d : Option Addr) (pn : List (Addr × Obj)), Zc cls d oe → (∃ vs, oe.data = .fields vs) → PSs (X.suite a ((a, oe) :: pn)) (b₀ :: more) (t a cls d)) (r : NamedOk X n hs l) :
      NamedOk X n (.ExceptHandler (some (.Name x p1)) (some n) (b₀ :: more) p2 :: hs) ((c, t) :: l)
section
variable {X : Cx} {n : Str} {i : Nat} {body : List Stmt} {h₀ : ExceptHandler} {hs : List ExceptHandler} {l : List (Value × (Addr → Value → Option Addr → TS))} {pos : Pos} {tb : WX → TS} {Wo : WX}
theorem ps_try_named (e1 : X.stack = X.env :: X.outer) (e2 : X.env.frame = some X.env.locals) (nd : X.N.Nodup) (at_ : X.N[i]? = some n) (lc : X.env.kindOf n = some .local) (tk : Takes X Wo)
    (hb : ∀ (W : WX) (pn : List (Addr × Obj)) (xe : Value → Shared → Prop), Takes (X.tr pn xe) W → PassesOwn (model X.prog X.w) X.A X.env xe → PSs (X.tr pn xe) body (tb W))
    (hh : NamedOk X n (h₀ :: hs) l) : PS X (.Try body (h₀ :: hs) [] [] pos) (fun Dn σ H => tb (wNamed X.K X.N.length Wo Dn i l) Dn σ H) := by
  refine ⟨fun pins s σ H Dn I ask => ?_⟩
  have ok := I.ok
  have fr : X.A.frames = some (X.env :: X.outer) := by rw [ok.frames, e1]
  have lc' : Loc X.env.scope n := .inl lc
  have run := (hb (wNamed X.K X.N.length Wo Dn i l) (X.pn ++ pins) (fun e z1 => wpAny (model X.prog X.w) X.A (noteFrame e X.env) (fun _ z2 => wpAny (model X.prog X.w) X.A (setFlight e none) (fun _ z3 =>
    wpAny (model X.prog X.w) X.A (handleBy e X.env (h₀ :: hs)) (SP X pins Dn) X.xe z3) X.xe z2) X.xe z1) (fun u z xx => ?caught) PassesOwn.looking).run [] s σ H Dn (I.toTry _) ask
  case caught =>
    obtain ⟨a, Bh, sI, pins1, σ1, H1, cls, d, rfl, J1, nb, up, sky, na, os, ag, w⟩ := xx
    have J : Inv X pins σ1 H1 sI := J1.ofTry ok
    have sky1 : Sky Bh (X.env :: X.outer) a (Zc cls d) X.env.locals z.heap := by rw [← e1]; exact sky
    show wpAny (model X.prog X.w) X.A (noteFrame (.ref a) X.env) _ _ _
    refine Sky.land Zc.steady fr e2 sky1 fun g3 fly3 up3 => ?_
    have J3 : Inv X pins σ1 H1 { z with heap := g3 } := J.landed nb fly3.1 (up.trans up3) os ag
    obtain ⟨o3, v3, at3, z3, d3⟩ := fly3.there
    have out : a ∉ frs (X.env :: X.outer) := fun hm => by
      obtain ⟨_, o', q, k⟩ := fly3.2.2.1.mem hm
      rw [at3] at q
      cases q
      exact k _ d3
    have notL : a ≠ X.env.locals := fun q => out (List.mem_filterMap.mpr ⟨X.env, List.mem_cons_self, by rw [e2, q]⟩)
    have notF : a ∉ X.fs := fun hm => by
      obtain ⟨e, he, q⟩ := List.mem_filterMap.mp hm
      exact out (List.mem_filterMap.mpr ⟨e, List.mem_cons_of_mem _ he, q⟩)
    have S3 := J3.suite at3 d3 na notL notF
    have go : ∀ {hs1 : List ExceptHandler} {l1 : List (Value × (Addr → Value → Option Addr → TS))}, NamedOk X n hs1 l1 → wNamed X.K X.N.length Wo Dn i l1 cls d σ1 H1 →
        wpAny (model X.prog X.w) X.A (handleBy (.ref a) X.env hs1) (SP X pins Dn) X.xe { z with heap := g3 } := by
      intro hs1 l1 hk
      induction hk with
      | nil =>
        intro w
        refine wpAny_handleBy_nil ?_
        obtain ⟨_, _, _, oe, vs, T, oT, tt, he, hz, hd, h1, hr⟩ := id fly3
        unfold PySem.passOn
        refine wpAny_bind (wpAny_field he hd h1 ?_)
        rw [if_neg (show ¬ ((Value.ref T == Value.none) = true) from by simp)]
        have goes : wpAny (model X.prog X.w) X.A (setFlight (.ref a) X.env.frame) (fun _ z4 => wpAny (model X.prog X.w) X.A (throw (.ref a) : Sem Flow) (SP X pins Dn) X.xe z4) X.xe { z with heap := g3 } := by
          rw [e2]
          refine HandSPX.setFlight_upZ fly3 fun g4 in4 up4 => wpAny_throw (tk _ _ ?_)
          exact ⟨a, Bh, sI, pins, σ1, H1, cls, d, rfl, J, nb, (up.trans up3).trans up4, .inr (.inr (by rw [e1]; exact in4)), na, os, ag, w⟩
        first
          | exact wpAny_bind (wpAny_pure (wpAny_bind goes))
          | exact wpAny_bind goes
      | @cons x c t b₀ more p1 p2 hs2 l2 nm su r ih =>
        intro w
        obtain ⟨b, hb1, yes, no⟩ := w
        refine wpAny_handleBy_cons (codeAny_handlers_test ?_) (by intro q; cases q)
        have kd : PySem.W.Looks (model X.prog X.w) g3 (typeOf (.ref a)) cls := fun A1 Q1 E1 s1 k q => wpAny_typeOf_ref (k _ _ at3) (by rw [z3.1]; exact q)
        have mt := PySem.W.exm_one (M := model X.prog X.w) J3.kIn kd hb1
        have asked : ∀ {Q E : Value → Shared → Prop}, Q c { z with heap := g3 } → wpAny (model X.prog X.w) (X.A.mark (some (.ref a))) (eval (.Name x p1) X.env) Q E { z with heap := g3 } := fun {Q E} q => by
          obtain ⟨hg, hdb, hm | ⟨hm, hv, hn⟩⟩ := nm
          · exact ld_glob (X := X.suite a ((a, o3) :: (X.pn ++ pins))) S3 hg hm q hdb
          · exact ld_blt (X := X.suite a ((a, o3) :: (X.pn ++ pins))) S3 hg hm hv q hn hdb
        refine asked (mt.here ?_)
        cases b with
        | false =>
          show wpAny _ X.A (handleBy (.ref a) X.env hs2) _ _ _
          exact ih (no rfl)
        | true =>
          refine codeAny_handlers_suite_as ?_
          refine HandSPX.lands_againZ fly3 fun g4 fly4 up4 => ?_
          have J4 : Inv X pins σ1 H1 { z with heap := g4 } := J.landed nb fly4.1 ((up.trans up3).trans up4) os ag
          obtain ⟨o4, v4, at4, z4, d4⟩ := fly4.there
          have S4 := J4.suite at4 d4 na notL notF
          refine store_ok (X := X.suite a ((a, o4) :: (X.pn ++ pins))) (v := .ref a) S4 nd at_ lc' rfl (fun s5 S5 => ?_) (.inr lc)
          have ends : ∀ {σ6 : L2.St} {H6 : Hp} {s6 : Shared} {Q : Shared → Prop}, Inv (X.suite a ((a, o4) :: (X.pn ++ pins))) [] σ6 H6 s6 → (∀ s7, Inv X pins (σ6.set i none) H6 s7 → Q s7) →
              wpAny (model X.prog X.w) X.A (do bindName X.env n .none; unbindBehindTheSuite X.env n p2) (fun _ s7 => Q s7) X.xe s6 := fun {σ6 H6 s6 Q} S6 hq => gone_ok (S6.unsuite ok) nd at_ lc hq
          refine wpAny_mono ((su a o4 cls d (X.pn ++ pins) z4 ⟨_, d4⟩).run [] s5 _ H1 _ S5 (yes rfl J.len a na)) (fun f s6 got => ?_) (fun _ _ q => False.elim q)
          cases f with
          | next =>
            obtain ⟨σ6, H6, S6, q6⟩ := got
            exact ends S6 fun s7 J7 => ⟨_, _, J7, q6⟩
          | brk =>
            obtain ⟨σ6, H6, S6, q6⟩ := got
            exact ends S6 fun s7 J7 => ⟨_, _, J7, q6⟩
          | cont =>
            obtain ⟨σ6, H6, S6, q6⟩ := got
            exact ends S6 fun s7 J7 => ⟨_, _, J7, q6⟩
          | ret u =>
            obtain ⟨v6, σ6, H6, S6, r6, q6⟩ := got
            exact ends S6 fun s7 J7 => ⟨_, _, _, J7, r6, q6⟩
    exact go hh w
  refine wpAny_Try_except (wpAny_mono run (fun f s1 got => ?_) fun e s1 he => he)
  cases f with
  | next =>
    obtain ⟨σ1, H1, J1, q⟩ := got
    exact wpAny_execs_nil ⟨σ1, H1, J1.ofTry ok, q⟩
  | brk =>
    obtain ⟨σ1, H1, J1, q⟩ := got
    exact ⟨σ1, H1, J1.ofTry ok, q⟩
  | cont =>
    obtain ⟨σ1, H1, J1, q⟩ := got
    exact ⟨σ1, H1, J1.ofTry ok, q⟩
  | ret u =>
    obtain ⟨v, σ1, H1, J1, r, q⟩ := got
    exact ⟨v, σ1, H1, J1.ofTry ok, r, q⟩
end

/-! ### what was caught, read -/
/-- the body knows the object at a -/
def Known (X : Cx) (a : Addr) (oe : Obj) : Prop := ∀ {pins : List (Addr × Obj)} {σ : L2.St} {H : Hp} {s : Shared}, Inv X pins σ H s → s.heap.get? a = some oe
theorem known_pin {X : Cx} {a : Addr} {oe : Obj} (h : (a, oe) ∈ X.pn) : Known X a oe := fun I => (I.pin (a, oe) (List.mem_append_left _ h)).1
def tXk (a dd : Addr) (n : Str) (te : TE) : TE := fun σ H Q => te σ H fun x H1 => x = .ref a ∧ ∃ (fs : List (Str × V)) (v : V), H1 dd = some (.xd fs) ∧ fs.lookup n = some v ∧ Q v H1
theorem pe_known {X : Cx} {a C dd : Addr} {oe : Obj} {e : Expr} {te : TE} {pos : Pos} {n : Str} (T : XfC X.K C) (hno : PySem.W.findIn X.K (.ref C) n = some none) (hz : Zc (.ref C) (some dd) oe) (hf : ∃ vs, oe.data = .fields vs) (kn : Known X a oe)
    (he : PE X e te) (hb : attributeBase e n X.env (eval e X.env) = eval e X.env := by rfl) : PE X (.Attribute e n pos) (tXk a dd n te) := by
  refine ⟨fun pins s σ H Q I ask => attr_of hb (thn (he.run pins s σ H _ I ask) fun u s1 hh => ?_)⟩
  obtain ⟨x, H1, I1, rx, ex, fs, v, ed, lk, q⟩ := hh
  subst ex
  obtain rfl : u = Value.ref a := rx
  have here := kn I1
  obtain ⟨vs, hd⟩ := hf
  obtain ⟨mA, hns, hr⟩ := (show ObjOk X.prog X.w H1 s1.heap dd (.xd fs) from I1.hok dd _ ed)
  obtain ⟨od, ho, hl⟩ := lookIn_ns hns
  obtain ⟨u, hu, ru⟩ := RelO.some_of (v := v) (o := mA n) (by rw [← lk]; exact hr n)
  have inst : PySem.W.InstAt s1.heap a oe C (some od) := ⟨here, hz.1, by unfold PySem.W.notCls; rw [hd] <;> rfl, by rw [hz.2]; exact ho⟩
  exact HandSPX.exc_get I1.kIn inst T.ga T.gg T.exC (PySem.W.findObj_own T.hdC hno rfl (by rw [hl, hu])) (handed_of ru) ⟨v, H1, I1.tok _, ru, q⟩

/-! ### a def called there -/
section
variable {X : Cx} {pins : List (Addr × Obj)} {σ : L2.St} {H : Hp} {s : Shared}
theorem call_there {g : Addr} {k : Nat} {name qual : Str} {params : Arguments} {body : List Stmt} {scope : Scope} {dV kV doc pm cdv ct oc : Value} {an od : Option Addr} {osl : Array (Option Value)} {N ps : List Str} {us : List Value} {vs : List V} {Q : VK} {p : Addr × Obj}
    (lk : X.K.lookup g = some ⟨oc, od, .func (PySem.W.fnOf name qual params body scope dV kV doc pm an cdv ct), osl⟩) (hcd : PySem.W.codeIn X.K cdv qual = true) (S : FnScope N ps scope) (hr : L2H.RoomH (k + 1) X.A) (hb : Binds X.K (PySem.W.fnOf name qual params body scope dV kV doc pm an cdv ct) ps [])
    (hp : p ∈ X.pn) (I : Inv X pins σ H s) (r : Vals vs us) (hl : vs.length = ps.length)
    (hbody : ∃ t, PSs (L2H.cxH C8.CX0 X.prog X.w X.K X.mg X.base N qual scope g cdv X.A X.stack s H C8.E0 p) body t ∧ t { nx := fun _ H' => Q .non H', rt := Q } (L2.start N vs) H) :
    wpAny (model X.prog X.w) X.A (call (.ref g) us) (EP X pins σ Q) X.xe s := by
  have P1 := I.pin p (List.mem_append_left _ hp)
  have pin : L2H.PinOk X.stack H s p := ⟨P1.1, P1.2.1, fun hm => (List.mem_cons.mp (I.stkSub p.1 hm)).elim P1.2.2.1 P1.2.2.2.1, P1.2.2.2.2⟩
  have bd := hb s us I.kIn (by rw [List.append_nil, ← r.length]; exact hl)
  rw [List.append_nil] at bd
  have e0 := I.env0
  have inK : X.K.In s.heap := I.kIn
  have lim : s.heap.NoLimit := I.nolimit
  have kinds : ∀ y ∈ ps.zip us, scope.names.lookup y.1 = some .local ∨ (scope.names.lookup y.1 = some .cell ∧ ((cellsFrom (s.heap.objs.size + 1) scope.names []).lookup y.1).isSome = true) := fun y hy => by
    rcases S.par y.1 (List.of_mem_zip hy).1 with q | q
    · exact .inl q
    · exact .inr ⟨q, PySem.W.cellsFrom_some _ _ _ (.inl q)⟩
  have rc : codeAny (model X.prog X.w) X.A (.call (.ref g) ⟨us, []⟩) (CR C8.CX0 X.stack X.prog X.w H s Q C8.E0) s := by
    refine codeAny_call_function hr.depth (inK _ _ lk) rfl S.co S.gen rfl (PySem.W.codeRec_of inK hcd) (bd _ _ _ _ ?_)
    refine wpAny_newFunctionEnv_cells S.kind kinds fun env he s1 x => ?_
    subst he
    refine ⟨lim.keeps x.toInCall.keep, codeAny_func ?_⟩
    obtain ⟨t, ht, hq⟩ := hbody
    have J := L2H.inv_startH (CX := C8.CX0) (cd := cdv) (f := g) (E := C8.E0) S pin e0 hl r x
    refine wpAny_mono (ht.run [] s1 (L2.start N vs) H _ J hq) (fun fl s2 got => ?_) fun e s2 q => q
    cases fl with
    | ret u =>
      obtain ⟨v, σ1, H1, J1, rv, q⟩ := got
      exact ⟨v, H1, J1.os, J1.bare, J1.base, J1.hok, rv, q⟩
    | next =>
      obtain ⟨σ1, H1, J1, q⟩ := got
      exact ⟨.non, H1, J1.os, J1.bare, J1.base, J1.hok, rfl, q⟩
    | brk => exact got.elim fun _ ⟨_, _, q⟩ => q.elim
    | cont => exact got.elim fun _ ⟨_, _, q⟩ => q.elim
  refine wpAny_call (codeAny_mono rc fun res s2 got => ?_)
  cases res with
  | error e => exact (show False from got).elim
  | ok fl =>
    cases fl with
    | ret u => exact I.after got
    | next => exact got.elim
    | brk => exact got.elim
    | cont => exact got.elim
end
end TM
end
section
set_option Elab.async false
set_option linter.all false
set_option maxRecDepth 100000
set_option maxHeartbeats 4000000
/-! FWT2: the law's own trial: _law_field, _law_tried, the rule. -/
namespace TM
open PySem PySem.Spec PyProof.Rows L2

/-- lists were laid -/
inductive Grow (H : Hp) : Hp → Prop
  | refl : Grow H H
  | lay {H1 : Hp} {p : Addr} {xs : List V} : Grow H H1 → H1 p = none → Grow H (upd H1 p (.lst xs))
theorem Grow.at {H H' : Hp} (g : Grow H H') {a : Addr} {o : HO} (h : H a = some o) : H' a = some o := by
  induction g with
  | refl => exact h
  | lay _ hp ih => rw [upd_ne (ne_of_none ih hp)]; exact ih
theorem Grow.trans {H H1 H2 : Hp} (g : Grow H H1) (g2 : Grow H1 H2) : Grow H H2 := by
  induction g2 with
  | refl => exact g
  | lay _ hp ih => exact .lay ih hp
theorem Grow.sim {T : Tab} {B : Base} {G : Hp} {θ : List Addr} {σ : L2.St} {H H' : Hp} {ρ : Rho} {S : Sto} (g : Grow H H') (s : Sim T B G θ σ H ρ S) : Sim T B G θ σ H' ρ S := by
  induction g with
  | refl => exact s
  | lay _ hp ih => exact ih.laid hp
def rowsV (fs : List (Str × V)) (code : Str) : List (Bool × List Str × Str) → Option V
  | [] => if code = ("invaliddocument" : Str) then fs.lookup ("line" : Str) else some .non
  | (_, cs, f) :: r => if code ∈ cs then fs.lookup f else rowsV fs code r
theorem rows_rep {T : Tab} {G : Hp} {θ : List Addr} {fs : List (Str × V)} {fds : List (Str × D)} {code : Str} (e : fs.map (·.1) = fds.map (·.1)) (r : RepL T G θ (fs.map (·.2)) (fds.map (·.2))) : ∀ {rows : List (Bool × List Str × Str)} {d : D}, rowsD fds code rows = some d → ∃ v, rowsV fs code rows = some v ∧ Rep T G θ v d
  | [], d, h => by
    unfold rowsD at h
    unfold rowsV
    split at h
    · rename_i q
      rw [if_pos q]
      exact lookup_rep e r h
    · rename_i q
      cases h
      rw [if_neg q]
      exact ⟨_, rfl, .non⟩
  | (q, cs, f) :: rows, d, h => by
    unfold rowsD at h
    unfold rowsV
    split at h
    · rename_i q
      rw [if_pos q]
      exact lookup_rep e r h
    · rename_i q
      rw [if_neg q]
      exact rows_rep e r h
/-! ### the def that tells the field -/
section
variable {X : Cx} {a C dd : Addr} {oe : Obj} {i : Nat}
/-- what is known where the caught exception is read: its name stands in slot i -/
structure Caught (X : Cx) (a C dd : Addr) (oe : Obj) (i : Nat) : Prop where
  T : XfC X.K C
  no : ∀ f ∈ tellNames, PySem.W.findIn X.K (.ref C) f = some none
  z : Zc (.ref C) (some dd) oe
  f : ∃ vs, oe.data = .fields vs
  kn : Known X a oe
  nm : X.N[i]? = some "_law_e"
  vs : vis X.env.scope "_law_e" = true
theorem pe_ce (c : Caught X a C dd oe i) {ps : Pos} : PE X (.Name "_law_e" ps) (fun σ H Q => ∃ v, σ[i]? = some (some v) ∧ Q v H) := by
  obtain ⟨h1, h2, h3⟩ := vis_ok c.vs
  exact pe_var c.nm h1 h2 h3
theorem pe_ef (c : Caught X a C dd oe i) {f : Str} (hf : f ∈ tellNames) {e : Expr} (h : isEf f e = true) : PE X e (fun σ H Q => σ[i]? = some (some (.ref a)) ∧ ∃ (fs : List (Str × V)) (v : V), H dd = some (.xd fs) ∧ fs.lookup f = some v ∧ Q v H) := by
  unfold isEf at h
  split at h
  · simp only [Bool.and_eq_true, decide_eq_true_eq] at h
    obtain ⟨h1, h2⟩ := h
    subst h1
    subst h2
    exact PE.imp (pe_known c.T (c.no _ hf) c.z c.f c.kn (pe_ce c)) fun σ H Q ⟨s0, fs, v, h1, h2, q⟩ => ⟨.ref a, s0, rfl, fs, v, h1, h2, q⟩
  · cases h
theorem strsE_ok : ∀ {zs : List Str} {es : List Expr}, strsE zs es = true → es.all okE = true ∧ PA X es (fun _ H Q => Q (zs.map V.str) H)
  | [], [], _ => ⟨rfl, pa_nil⟩
  | [], _ :: _, h => by simp [strsE] at h
  | _ :: _, [], h => by simp [strsE] at h
  | z :: zs, e :: es, h => by
    simp only [strsE, Bool.and_eq_true] at h
    obtain ⟨h1, h2⟩ := h
    obtain ⟨o, p⟩ := strsE_ok h2
    split at h1
    · rename_i y hy
      obtain ⟨j, ps, rfl⟩ := xPartC_ok hy
      have h1 := of_decide_eq_true h1
      subst h1
      exact ⟨by simp [o, okE], PA.imp (pa_cons pe_str p (star_ok rfl)) fun σ H Q q => q⟩
    · cases h1
theorem inV_strs {c : Str} : ∀ {zs : List Str}, inV (.str c) (zs.map V.str) = decide (c ∈ zs)
  | [] => rfl
  | z :: zs => by
    have e : inV (.str c) ((z :: zs).map V.str) = (eqV (.str z) (.str c) || inV (.str c) (zs.map V.str)) := rfl
    rw [e, inV_strs]
    have e2 : eqV (.str z) (.str c) = (z == c) := rfl
    rw [e2]
    by_cases h : c = z
    · subst h; simp
    · have h' : (z == c) = false := beq_eq_false_iff_ne.mpr fun q => h q.symm
      rw [h']
      simp [h]
theorem flat_strs : ∀ {zs : List Str}, (zs.map V.str).all flatV = true
  | [] => rfl
  | _ :: zs => by
    show (flatV (.str _) && _) = true
    rw [flat_strs (zs := zs)]; rfl
theorem pt_row (c : Caught X a C dd oe i) {q : Bool} {cs : List Str} (hl : cs.length < 100) {e : Expr} (h : isRowC q cs e = true) : PT X e (fun σ H Q => σ[i]? = some (some (.ref a)) ∧ ∃ (fs : List (Str × V)) (code : Str), H dd = some (.xd fs) ∧ fs.lookup ("code" : Str) = some (.str code) ∧ ∀ H', Grow H H' → Q (decide (code ∈ cs)) H') := by
  unfold isRowC at h
  split at h
  · simp only [Bool.and_eq_true, Bool.not_eq_true'] at h
    obtain ⟨⟨h1, h2⟩, h3⟩ := h
    obtain ⟨o, p⟩ := strsE_ok (X := X) h3
    refine PT.imp (pt_cmpR op_in_seq (pe_ef c (by decide) h2) (pe_lst p) (mark_ok rfl)) fun σ H Q ⟨s0, fs, code, hd, hc, k⟩ => ?_
    refine ⟨s0, fs, .str code, hd, hc, ?_⟩
    refine ⟨by rw [List.length_map, sizeLine_eq]; omega, fun p hp => ⟨p, _, rfl, .inl (SqL.of upd_same), rfl, flat_strs, ?_⟩⟩
    rw [inV_strs]
    exact ⟨_, rfl, k _ (.lay .refl hp)⟩
  · simp only [Bool.and_eq_true] at h
    obtain ⟨⟨h1, h2⟩, h3⟩ := h
    cases cs with
    | nil => simp [strsE] at h3
    | cons z zs =>
      cases zs with
      | cons _ _ => simp [strsE] at h3
      | nil =>
        simp only [strsE, Bool.and_true] at h3
        split at h3
        · rename_i y hy
          obtain ⟨j, ps, rfl⟩ := xPartC_ok hy
          have h3 := of_decide_eq_true h3
          subst h3
          refine PT.imp (pt_cmpR op_eq (pe_ef c (by decide) h2) pe_str (mark_ok rfl)) fun σ H Q ⟨s0, fs, code, hd, hc, k⟩ => ?_
          refine ⟨s0, fs, .str code, hd, hc, ?_⟩
          have e : decide (V.str code = V.str z) = decide (code ∈ [z]) := by simp
          refine ⟨rfl, _, rfl, ?_⟩
          rw [e]
          exact k _ .refl
        · cases h3
  · cases h
def tRows (a dd : Addr) (i : Nat) (rows : List (Bool × List Str × Str)) : TS := fun Dn σ H => σ[i]? = some (some (.ref a)) ∧ ∃ (fs : List (Str × V)) (code : Str) (v : V), H dd = some (.xd fs) ∧ fs.lookup ("code" : Str) = some (.str code) ∧ rowsV fs code rows = some v ∧ ∀ H', Grow H H' → Dn.rt v H'
theorem rows_ok (c : Caught X a C dd oe i) : ∀ {rows : List (Bool × List Str × Str)} {ss : List Stmt}, (∀ r ∈ rows, r.2.1.length < 100 ∧ r.2.2 ∈ tellNames) → isFieldB rows ss = true → PSs X ss (tRows a dd i rows)
  | [], ss, _, h => by
    unfold isFieldB at h
    split at h
    · rename_i cc aa _ _ _ _ _
      simp only [Bool.and_eq_true] at h
      refine PSs.imp (pss_one (ps_ret (pe_ifExp (pt_row c (by decide) h.1) (pe_ef c (f := "line") (by decide) h.2) pe_non))) fun Dn σ H ⟨s0, fs, code, v, hd, hc, hv, k⟩ => ?_
      refine ⟨s0, fs, code, hd, hc, fun H' g => ?_⟩
      unfold rowsV at hv
      by_cases e : code = ("invaliddocument" : Str)
      · rw [if_pos e] at hv
        rw [if_pos (by simp [e])]
        exact ⟨s0, fs, v, g.at hd, hv, k _ g⟩
      · rw [if_neg e] at hv
        cases hv
        rw [if_neg (by simp [e])]
        exact k _ g
    · rename_i q1 q2 q3
      cases q3
    · cases h
  | (q, cs, f) :: rows, ss, hr, h => by
    cases ss with
    | nil => simp [isFieldB] at h
    | cons s ss =>
      unfold isFieldB at h
      split at h
      · rename_i q1 q2
        cases q1
      · rename_i q' cs' f' r' cc aa ps ss' q1 q2
        cases q1
        cases q2
        simp only [Bool.and_eq_true] at h
        obtain ⟨⟨h1, h2⟩, h3⟩ := h
        obtain ⟨b1, b2⟩ := hr _ (List.mem_cons_self ..)
        have rest := rows_ok c (fun r hm => hr r (List.mem_cons_of_mem _ hm)) h3
        unfold isRetF at h2
        split at h2
        · refine PSs.imp (pss_cons (ps_if (pt_row c b1 h1) (pss_one (ps_ret (pe_ef c b2 h2))) pss_nil) rest) fun Dn σ H ⟨s0, fs, code, v, hd, hc, hv, k⟩ => ?_
          refine ⟨s0, fs, code, hd, hc, fun H' g => ?_⟩
          unfold rowsV at hv
          by_cases e : code ∈ cs
          · rw [if_pos e] at hv
            rw [if_pos (by simp [e])]
            exact ⟨s0, fs, v, g.at hd, hv, k _ g⟩
          · rw [if_neg e] at hv
            rw [if_neg (by simp [e])]
            exact ⟨s0, fs, code, v, g.at hd, hc, hv, fun H2 g2 => k _ (g.trans g2)⟩
        · cases h2
      · cases h
/-! ### the trial's def -/
/-- what its clauses tell of an exception -/
def Told (K : PySem.W.Frag) (TE MS : Addr) (Q : VK) : XK := fun cls d H => ∃ (C dd : Addr) (fs : List (Str × V)) (code : Str) (v : V), cls = .ref C ∧ d = some dd ∧ XfC K C ∧ (∀ f ∈ tellNames, PySem.W.findIn K (.ref C) f = some none) ∧
  (PySem.W.exmOne K (.ref C) (.ref TE) = some true ∨ PySem.W.exmOne K (.ref C) (.ref TE) = some false ∧ PySem.W.exmOne K (.ref C) (.ref MS) = some true) ∧ H dd = some (.xd fs) ∧ fs.lookup ("code" : Str) = some (.str code) ∧ rowsV fs code tellRows = some v ∧
  ∀ H1, Grow H H1 → ∀ p, H1 p = none → Q (.ref p) (upd H1 p (.tup [.str code, v]))
def TTried (K : PySem.W.Frag) (TE MS : Addr) : (XK → Hp → VK → Prop) → Hp → VK → Prop := fun tl H Q => tl (Told K TE MS Q) H fun v H1 => [V.str Str.empty, v].length ≤ sizeLine ∧ ∀ p, H1 p = none → Q (.ref p) (upd H1 p (.tup [.str Str.empty, v]))
theorem rows_fine : ∀ r ∈ tellRows, r.2.1.length < 100 ∧ r.2.2 ∈ tellNames := by decide
section
variable {X : Cx} {T : Tab} {P : Prov}
/-- the clause's suite, where the caught exception is known -/
theorem suite_ok {a C dd g : Addr} {oe : Obj} {sg sgf : Scope} {ss : List Stmt} {pgf : Arguments} {bgf : List Stmt} {dV kV doc pm cdv ct oc : Value} {an od : Option Addr} {osl : Array (Option Value)} {k : Nat}
    (c : Caught X a C dd oe 1) (hp : (a, oe) ∈ X.pn) (es : X.env.scope = sg) (hg : glb sg "_law_field" = true) (hm : X.mg "_law_field" = some (.ref g)) (hk : PySem.W.keepIn X.K (.ref g) = true)
    (lk : X.K.lookup g = some ⟨oc, od, .func (PySem.W.fnOf "_law_field" "_law_field" pgf bgf sgf dV kV doc pm an cdv ct), osl⟩) (hcd : PySem.W.codeIn X.K cdv "_law_field" = true) (hb : Binds X.K (PySem.W.fnOf "_law_field" "_law_field" pgf bgf sgf dV kV doc pm an cdv ct) ["_law_e"] [])
    (S : FnScope ["_law_e"] ["_law_e"] sgf) (hv : vis sgf "_law_e" = true) (hB : isFieldB tellRows bgf = true) (hr : L2H.RoomH (k + 1) X.A) (h : isTellR sg ss = true) :
    PSs X ss (fun Dn σ H => σ[1]? = some (some (.ref a)) ∧ ∃ (fs : List (Str × V)) (code : Str) (v : V), H dd = some (.xd fs) ∧ fs.lookup ("code" : Str) = some (.str code) ∧ rowsV fs code tellRows = some v ∧ ∀ H1, Grow H H1 → ∀ p, H1 p = none → Dn.rt (.ref p) (upd H1 p (.tup [.str code, v]))) := by
  unfold isTellR at h
  split at h
  · rename_i a1 pa c1 pc f1 pf b1 pb pp j pt pr
    simp only [Bool.and_eq_true, decide_eq_true_eq] at h
    obtain ⟨⟨⟨h1, h2⟩, h3⟩, h4⟩ := h
    subst h1
    subst h2
    subst h3
    subst h4
    obtain ⟨g1, g2, g3⟩ := glb_ok hg
    have gl : Gl X "_law_field" := by show X.env.scope.names.lookup _ = _; rw [es]; exact g1
    -- the call
    have call : PE X (.Call (.Name "_law_field" pf) [.Name "_law_e" pb] [] pp) (fun σ H Q => σ[1]? = some (some (.ref a)) ∧ ∃ (fs : List (Str × V)) (code : Str) (v : V), H dd = some (.xd fs) ∧ fs.lookup ("code" : Str) = some (.str code) ∧ rowsV fs code tellRows = some v ∧ ∀ H1, Grow H H1 → Q v H1) := by
      refine ⟨fun pins s σ H Q I ask => ?_⟩
      refine wpAny_Call_Name_kw (ld_glob I gl hm ?_ g2)
      refine PySem.W.callWith_K (h₀ := X.base) I.ok.mod.kin hk (thn ((pa_cons (pe_ce c) pa_nil (star_ok rfl)).run pp pins s σ H (fun vs H1 => vs = [.ref a] ∧ H1 = H) I ⟨.ref a, ask.1, rfl, rfl⟩) fun us s1 ⟨vs, H1, I1, rv, ev, eH⟩ => ⟨I1.kIn, ?_⟩) (star_ok rfl) rfl
      subst ev
      subst eH
      obtain ⟨_, fs, code, v, hd, hc, hv', q⟩ := ask
      refine call_there (p := (a, oe)) lk hcd S hr hb hp I1 rv rfl ⟨_, rows_ok (X := L2H.cxH C8.CX0 X.prog X.w X.K X.mg X.base ["_law_e"] "_law_field" sgf g cdv X.A X.stack s1 _ C8.E0 (a, oe)) (i := 0) (a := a) (C := C) (dd := dd) (oe := oe) ⟨c.T, c.no, c.z, c.f, known_pin (by exact List.mem_singleton.mpr rfl), rfl, hv⟩ rows_fine hB, ?_⟩
      exact ⟨rfl, fs, code, v, hd, hc, hv', q⟩
    have cf : PE X (.Attribute (.Name "_law_e" pa) "code" pc) _ := pe_ef (f := "code") c (by decide) (by unfold isEf; simp)
    refine PSs.imp (pss_one (ps_ret (pe_tup (pa_cons cf (pa_cons call pa_nil (star_ok rfl)) (star_ok rfl))))) fun Dn σ H ⟨s0, fs, code, v, hd, hc, hv', q⟩ => ?_
    refine ⟨s0, fs, .str code, hd, hc, s0, fs, code, v, hd, hc, hv', fun H1 gr => ⟨by show 2 ≤ sizeLine; rw [sizeLine_eq]; omega, fun p hp => q H1 gr p hp⟩⟩
  · cases h
/-- the trial's def gives what TTried says -/
theorem tried_gives {sg sgf : Scope} {bg : List Stmt} {g1 : Addr} {cdg : Value} {q : Str} {TE MS gf : Addr} {pgf : Arguments} {bgf : List Stmt} {dV kV doc pm cdv ct oc : Value} {an od : Option Addr} {osl : Array (Option Value)} (hr : L2H.RoomH 2 X.A)
    (hm : X.mg "_law_field" = some (.ref gf)) (hk : PySem.W.keepIn X.K (.ref gf) = true) (lk : X.K.lookup gf = some ⟨oc, od, .func (PySem.W.fnOf "_law_field" "_law_field" pgf bgf sgf dV kV doc pm an cdv ct), osl⟩) (hcd : PySem.W.codeIn X.K cdv "_law_field" = true)
    (hb : Binds X.K (PySem.W.fnOf "_law_field" "_law_field" pgf bgf sgf dV kV doc pm an cdv ct) ["_law_e"] []) (Sf : FnScope ["_law_e"] ["_law_e"] sgf) (hv : vis sgf "_law_e" = true) (hB : isFieldB tellRows bgf = true)
    (Sg : FnScope ["_law_ask", "_law_e"] ["_law_ask"] sg) (he : locL sg "_law_e" = true) (gT : glb sg "ThreadError" = true) (gM : glb sg "Missing" = true) (gf' : glb sg "_law_field" = true) (mT : X.mg "ThreadError" = some (.ref TE)) (mM : X.mg "Missing" = some (.ref MS)) (h : isTriedB sg bg = true) :
    LamX.GivesTo X ["_law_ask", "_law_e"] "_law_tried" sg g1 cdg bg "_law_ask" q (TTried X.K TE MS) := by
  intro f c' s H Q tl act hc ask
  unfold isTriedB at h
  split at h
  · rename_i z jz pz aa pa pc jt pt pr x1 px n1 s1 p1 x2 py n2 s2 p2 p3
    simp only [Bool.and_eq_true, decide_eq_true_eq] at h
    obtain ⟨⟨⟨⟨⟨⟨⟨h1, h2⟩, h3⟩, h4⟩, h5⟩, h6⟩, h7⟩, h8⟩ := h
    subst h1
    subst h2
    subst h3
    subst h4
    subst h5
    subst h6
    have one : ∀ {s1 : List Stmt}, isTellR sg s1 = true → ∃ b₀ more, s1 = b₀ :: more := fun {s1} h => by
      unfold isTellR at h
      split at h
      · exact ⟨_, _, rfl⟩
      · cases h
    obtain ⟨b1, m1, rfl⟩ := one h7
    obtain ⟨b2, m2, rfl⟩ := one h8
    have le : sg.names.lookup ("_law_e" : Str) = some .local := by
      unfold locL at he
      split at he
      · assumption
      · cases he
    obtain ⟨t1, t2, t3⟩ := glb_ok gT
    obtain ⟨u1, u2, u3⟩ := glb_ok gM
    -- the suites
    have su : ∀ {ss : List Stmt}, isTellR sg ss = true → ∀ (a : Addr) (oe : Obj) (cls : Value) (d : Option Addr) (pn : List (Addr × Obj)), Zc cls d oe → (∃ vs, oe.data = .fields vs) →
        PSs ((L2.cxOf C8.CX0 X.prog X.w X.K X.mg X.base ["_law_ask", "_law_e"] "_law_tried" sg g1 cdg X.A X.stack s H C8.E0).nox.suite a ((a, oe) :: pn)) ss (fun Dn σ H => σ[1]? = some (some (.ref a)) ∧ ∃ (C dd : Addr) (fs : List (Str × V)) (code : Str) (v : V), cls = .ref C ∧ d = some dd ∧ XfC X.K C ∧ (∀ f ∈ tellNames, PySem.W.findIn X.K (.ref C) f = some none) ∧
          H dd = some (.xd fs) ∧ fs.lookup ("code" : Str) = some (.str code) ∧ rowsV fs code tellRows = some v ∧ ∀ H1, Grow H H1 → ∀ p, H1 p = none → Dn.rt (.ref p) (upd H1 p (.tup [.str code, v]))) := fun {ss} hs a oe cls d pn hz hf => by
      refine ⟨fun pins s' σ H' Dn I ⟨s0, C, dd, fs, code, v, e1, e2, T', no, hd, hcd', hv', k⟩ => ?_⟩
      subst e1
      subst e2
      have cc : Caught ((L2.cxOf C8.CX0 X.prog X.w X.K X.mg X.base ["_law_ask", "_law_e"] "_law_tried" sg g1 cdg X.A X.stack s H C8.E0).nox.suite a ((a, oe) :: pn)) a C dd oe 1 :=
        ⟨T', no, hz, hf, known_pin (List.mem_cons_self ..), rfl, by unfold vis; rw [show (L2.cxOf C8.CX0 X.prog X.w X.K X.mg X.base ["_law_ask", "_law_e"] "_law_tried" sg g1 cdg X.A X.stack s H C8.E0).nox.env.scope.names.lookup ("_law_e" : Str) = some .local from le]; decide +kernel⟩
      have r := suite_ok (k := 0) cc (List.mem_cons_self ..) rfl gf' hm hk lk hcd hb Sf hv hB ⟨(hr.deeper (envOfC "_law_tried" sg s.heap.objs.size g1 cdg)).dp, (hr.deeper (envOfC "_law_tried" sg s.heap.objs.size g1 cdg)).un⟩ hs
      exact r.run pins s' σ H' Dn I ⟨s0, fs, code, v, hd, hcd', hv', k⟩
    refine ⟨_, pss_one (ps_try_named (X := (L2.cxOf C8.CX0 X.prog X.w X.K X.mg X.base ["_law_ask", "_law_e"] "_law_tried" sg g1 cdg X.A X.stack s H C8.E0).nox) (n := "_law_e") (i := 1)
      (tb := fun W Dn σ H => ∃ Ech : XK, (∀ cls d σ' H', Ech cls d H' → W cls d σ' H') ∧ σ[0]? = some (some (.ref f)) ∧ H c' = some (LamX.CodeO c' q) ∧ tl Ech H fun v H1 => [V.str Str.empty, v].length ≤ sizeLine ∧ ∀ p, H1 p = none → Dn.rt (.ref p) (upd H1 p (.tup [.str Str.empty, v])))
      rfl rfl Sg.nd rfl le LamX.takes0 (fun W pn xe tk _ => ?_) (.cons (x := "ThreadError") (c := .ref TE) ⟨t1, t2, .inl mT⟩ (su h7) (.cons (x := "Missing") (c := .ref MS) ⟨u1, u2, .inl mM⟩ (su h8) .nil))), ?_⟩
    · refine ⟨fun pins s' σ H' Dn I ⟨Ech, hW, k1, k2, k3⟩ => ?_⟩
      have hp := act W pn xe Ech pa pc tk hW
      have hs : PE ((L2.cxOf C8.CX0 X.prog X.w X.K X.mg X.base ["_law_ask", "_law_e"] "_law_tried" sg g1 cdg X.A X.stack s H C8.E0).tr pn xe) (.Constant (.str Str.empty) jz pz) (tC (.str Str.empty)) := pe_str
      have hq := pss_one (ps_ret (pos := pr) (pe_tup (pos := pt) (x1 := jt) (pa_cons hs (pa_cons hp pa_nil (star_ok rfl)) (star_ok rfl))))
      exact hq.run pins s' σ H' Dn I ⟨k1, k2, k3⟩
    · refine ⟨Told X.K TE MS Q, fun cls d σ' H' ⟨C, dd, fs, code, v, e1, e2, T', no, ex, hd, hcd', hv', k⟩ => ?_, rfl, hc, ask⟩
      have suite : σ'.length = 2 → ∀ a, H' a = none → (σ'.set 1 (some (.ref a)))[1]? = some (some (.ref a)) ∧ ∃ (C dd : Addr) (fs : List (Str × V)) (code : Str) (v : V), cls = .ref C ∧ d = some dd ∧ XfC X.K C ∧ (∀ f ∈ tellNames, PySem.W.findIn X.K (.ref C) f = some none) ∧
          H' dd = some (.xd fs) ∧ fs.lookup ("code" : Str) = some (.str code) ∧ rowsV fs code tellRows = some v ∧ ∀ H1, Grow H' H1 → ∀ p, H1 p = none → Q (.ref p) (upd H1 p (.tup [.str code, v])) := fun hl a _ => ⟨List.getElem?_set_self (by omega), C, dd, fs, code, v, e1, e2, T', no, hd, hcd', hv', k⟩
      rcases ex with ex | ⟨ex, ex2⟩
      · exact ⟨true, by rw [e1]; exact ex, fun _ hl a ha => suite hl a ha, fun z => nomatch z⟩
      · refine ⟨false, by rw [e1]; exact ex, (fun z => absurd z (by decide)), fun _ => ?_⟩
        exact ⟨true, by rw [e1]; exact ex2, fun _ hl a ha => suite hl a ha, fun z => nomatch z⟩
  · cases h
end
end
end TM
end
section
set_option Elab.async false
set_option linter.all false
set_option maxRecDepth 100000
set_option maxHeartbeats 4000000
/-! FWT3: the trial of a lambda, as a rule. -/
namespace TM
open PySem PySem.Spec PyProof.Rows L2

/-- what the making of a lambda does to the tracked heap -/
def LamStep (H H1 : Hp) : Prop := H1 = H ∨ ∃ P c ps ps' q, H P = some (.tbl ps) ∧ H c = none ∧ H1 = upd (upd H P (.tbl ps')) c (LamX.CodeO c q)
theorem LamStep.at {H H1 : Hp} (l : LamStep H H1) {a : Addr} {o : HO} (h : H a = some o) (n : ∀ ps, o ≠ .tbl ps) : H1 a = some o := by
  rcases l with rfl | ⟨P, c, ps, ps', q, h1, h2, rfl⟩
  · exact h
  · rw [upd_ne (ne_of_none h h2), upd_ne (fun z => n ps (Option.some.inj (h.symm.trans (by rw [z]; exact h1))))]
    exact h
theorem LamStep.tbl {H H1 : Hp} (l : LamStep H H1) {a : Addr} {ps : Array Value} (h : H a = some (.tbl ps)) : ∃ ps', H1 a = some (.tbl ps') := by
  rcases l with rfl | ⟨P, c, p1, p2, q, h1, h2, rfl⟩
  · exact ⟨_, h⟩
  · by_cases e : a = P
    · subst e
      exact ⟨p2, by rw [upd_ne (ne_of_none h h2), upd_same]⟩
    · exact ⟨ps, by rw [upd_ne (ne_of_none h h2), upd_ne e]; exact h⟩
theorem nt_ne {o : HO} (h : NT o) (ps : Array Value) : o ≠ .tbl ps := fun z => by subst z; exact h
theorem Sim.lam {T : Tab} {B : Base} {G : Hp} {θ : List Addr} {σ : L2.St} {H H1 : Hp} {ρ : Rho} {S : Sto} (s : Sim T B G θ σ H ρ S) (l : LamStep H H1) (t : LamX.Tabs T.tabs H1) : Sim T B G θ σ H1 ρ S := by
  have fz : ∀ {a : Addr} {o : Obj} {u : HO}, H a = some (.frz o u) → H1 a = some (.frz o u) := fun h => l.at h fun ps z => nomatch z
  refine ⟨s.scr, fun a u e => ?_, fun a o e n => ?_, s.le, s.nd, s.len, fun n a c e1 e2 => ?_, s.fresh, s.slen, s.val, fun i d h => ?_, s.prot, s.apart, ⟨s.x.gt, t, s.x.me⟩⟩
  · rcases s.sub a u e with h | ⟨lk, o, h⟩
    · exact .inl (l.at h (nt_ne (s.x.gt a u e)))
    · exact .inr ⟨lk, o, fz h⟩
  · rcases s.frame a o e n with h | ⟨ps, ps', rfl, h⟩
    · cases o with
      | tbl ps =>
        obtain ⟨p2, h2⟩ := l.tbl h
        exact .inr ⟨ps, p2, rfl, h2⟩
      | _ => exact .inl (l.at h fun ps z => nomatch z)
    · obtain ⟨p2, h2⟩ := l.tbl h
      exact .inr ⟨ps, p2, rfl, h2⟩
  · obtain ⟨g, o, ob, hh⟩ := s.sto n a c e1 e2
    refine ⟨g, o, ob, ?_⟩
    split at hh
    · rename_i z; rw [if_pos z]; obtain ⟨lk, y, q⟩ := hh; exact ⟨lk, y, fz q⟩
    · rename_i z; rw [if_neg z]; exact l.at hh (nt_ne ob.nt)
  · obtain ⟨a, o, h1, h2, h3, r⟩ := s.own i d h
    exact ⟨a, o, h1, l.at h2 (nt_ne h3.nt), h3, r⟩
section
variable {X : Cx} {pins : List (Addr × Obj)} {σ : L2.St} {H : Hp} {s : Shared}
/-- the lambda is made: its code object is new, or the table tells it -/
theorem lam_make3 {Tl : List (Addr × Str)} {c P : Addr} {params : Arguments} {body : Expr} {scope : Scope} {pos : Pos} {E : Value → Shared → Prop} {Q : Value → Shared → Prop} (I : Inv X pins σ H s) (TB : LamX.TabB X.base X.mg c P) (hcode : X.env.code = .ref c)
    (hm : (P, X.env.qual ++ "<lambda>") ∈ Tl) (hu : ∀ p ∈ Tl, p.1 = P → p.2 = X.env.qual ++ "<lambda>") (tabs : LamX.Tabs Tl H) (hdef : defaultsOf params X.env = ([], [])) (hfree : ∀ y ∈ scope.names, y.2 = .free → ∃ c, X.env.cells.lookup y.1 = some c)
    (go : ∀ (f c' : Addr) (pm ctv : Value) (H1 : Hp) (s' : Shared), Inv X pins σ H1 s' → LamStep H H1 → LamX.Tabs Tl H1 →
      s'.heap.get? f = some (PySem.W.kla_obj "<lambda>" (X.env.qual ++ "<lambda>") params body scope (cloFrom X.env.cells scope.names []) pm c' ctv) → H1 f = none → f ∉ frs X.stack → H1 c' = some (LamX.CodeO c' (X.env.qual ++ "<lambda>")) → Q (.ref f) s') :
    wpAny (model X.prog X.w) X.A (eval (.Lambda params body scope pos) X.env) Q E s := by
  obtain ⟨ps, atP, trip, told⟩ := tabs _ hm
  have bP : s.heap.BuiltinsAt X.mg P := TB.bm.keeps I.bk
  have getP : s.heap.get? P = some { cls := .none, data := .fields ps } := I.hok P _ atP
  have away : ∀ f, s.heap.objs.size ≤ f → f ∉ frs X.stack := fun f le z => by
    rcases List.mem_cons.mp (I.stkSub _ z) with e | e
    · have lt := I.lt
      rw [← e] at lt
      exact absurd (Nat.lt_of_lt_of_le lt le) (Nat.lt_irrefl _)
    · exact I.nofs le e
  refine PySem.W.kla_eval hdef ?_
  cases found : codeAmong pos ps.toList with
  | some cv =>
    obtain ⟨c', e, co⟩ := told pos cv found
    subst e
    refine PySem.W.kla_makeFunctionHit (mg := X.mg) (c := c) (P := P) (ps := ps) (closure_ok hfree) I.ok.glob (I.mod.glob.keeps I.bk) hcode (TB.code.keeps I.bk) getP trip found bP fun ctv h1 tk keep size => ?_
    have J : Inv X pins σ H { s with heap := h1.push (PySem.W.kla_obj "<lambda>" (X.env.qual ++ "<lambda>") params body scope (cloFrom X.env.cells scope.names []) ((X.mg "__name__").getD .none) c' ctv), toks := tk } := I.kept fun b o e => Heap.get?_push_of_some _ (keep b o e)
    exact go h1.objs.size c' ((X.mg "__name__").getD .none) ctv H _ J (.inl rfl) tabs (Heap.get?_push_size _ rfl) (I.hok.fresh size) (away _ size) co
  | none =>
    refine PySem.W.kla_makeFunction (mg := X.mg) (c := c) (P := P) (ps := ps) (closure_ok hfree) I.ok.glob (I.mod.glob.keeps I.bk) hcode (TB.code.keeps I.bk) getP trip found TB.gP bP fun c' ctv h1 tk keep ge lt rec table => ?_
    obtain ⟨c2, oc, vs, t, e2, hoc, hd, hv⟩ := rec
    cases e2
    have size : s.heap.objs.size ≤ h1.objs.size := Nat.le_trans ge (Nat.le_of_lt lt)
    have new : H c' = none := I.hok.fresh ge
    have J := LamX.inv_table (t' := tk) (more := #[rawInt pos.line, rawInt pos.col, .ref c']) (h' := h1.push (PySem.W.kla_obj "<lambda>" (X.env.qual ++ "<lambda>") params body scope (cloFrom X.env.cells scope.names []) ((X.mg "__name__").getD .none) c' ctv)) I atP
      (fun b o hb e => Heap.get?_push_of_some _ (keep b o hb e)) (Heap.get?_push_of_some _ table) ge ⟨oc, vs, t, Heap.get?_push_of_some _ hoc, hd, hv⟩
    have step : LamStep H (upd (upd H P (.tbl (ps ++ #[rawInt pos.line, rawInt pos.col, .ref c']))) c' (LamX.CodeO c' (X.env.qual ++ "<lambda>"))) := .inr ⟨P, c', ps, _, _, atP, new, rfl⟩
    have list : (ps ++ #[rawInt pos.line, rawInt pos.col, .ref c']).toList = ps.toList ++ [rawInt pos.line, rawInt pos.col, .ref c'] := by simp
    have codeO : ∀ {d : Addr} {q : Str}, H d = some (LamX.CodeO d q) → upd (upd H P (.tbl (ps ++ #[rawInt pos.line, rawInt pos.col, .ref c']))) c' (LamX.CodeO c' (X.env.qual ++ "<lambda>")) d = some (LamX.CodeO d q) := fun e => step.at e LamX.codeO_ne
    refine go h1.objs.size c' ((X.mg "__name__").getD .none) ctv _ _ J step (fun p hp => ?_) (Heap.get?_push_size _ rfl) ?_ (away _ size) upd_same
    · by_cases hb : p.1 = P
      · rw [hu p hp hb, hb]
        refine ⟨_, by rw [upd_ne (ne_of_none atP new), upd_same], by rw [list]; exact PySem.TriplesOk_snoc _ _ _ _ trip, fun p' cv hcv => ?_⟩
        rw [list] at hcv
        rcases LamX.among_app _ trip hcv with z | z
        · obtain ⟨c0, e1, e2⟩ := told p' cv z
          exact ⟨c0, e1, codeO e2⟩
        · exact ⟨c', z, upd_same⟩
      · obtain ⟨qs, a1, a2, a3⟩ := tabs p hp
        refine ⟨qs, by rw [upd_ne (ne_of_none a1 new), upd_ne hb]; exact a1, a2, fun p' cv hcv => ?_⟩
        obtain ⟨c0, e1, e2⟩ := a3 p' cv hcv
        exact ⟨c0, e1, codeO e2⟩
    · have n1 : h1.objs.size ≠ c' := Nat.ne_of_gt lt
      have n2 : h1.objs.size ≠ P := Nat.ne_of_gt (Nat.lt_of_lt_of_le (Heap.lt_size getP) size)
      rw [upd_ne n1, upd_ne n2]
      exact I.hok.fresh size
end
def tLam3 (Tl : List (Addr × Str)) (TT : (XK → Hp → VK → Prop) → Hp → VK → Prop) (t : XK → TE) : TE := fun σ H Q => LamX.Tabs Tl H ∧ ∀ H1, LamStep H H1 → LamX.Tabs Tl H1 → TT (fun E H' Q' => t E σ H' Q') H1 Q
section
variable {X : Cx}
theorem pe_lam3 {Tl : List (Addr × Str)} {TT : (XK → Hp → VK → Prop) → Hp → VK → Prop} {x a : Str} {g c P : Addr} {k : Nat} {pg : Arguments} {bg : List Stmt} {sg : Scope} {dV kV doc pm cdv ct oc : Value} {an od : Option Addr} {osl : Array (Option Value)} {Ng : List Str}
    {params : Arguments} {body : Expr} {scope : Scope} {t : XK → TE} {p lpos pos : Pos} (hg : Gl X x) (hdb : (x == ("__debug__" : Str)) = false) (hm : X.mg x = some (.ref g)) (hk : PySem.W.keepIn X.K (.ref g) = true)
    (lk : X.K.lookup g = some ⟨oc, od, .func (PySem.W.fnOf x x pg bg sg dV kV doc pm an cdv ct), osl⟩) (hcg : PySem.W.codeIn X.K cdv x = true) (hb : L2.Binds X.K (PySem.W.fnOf x x pg bg sg dV kV doc pm an cdv ct) [a] []) (Sg : FnScope Ng [a] sg) (hNg : Ng[0]? = some a) (hva : Vis sg a)
    (hd : (a == ("__debug__" : Str)) = false) (hcd : (a == ("__classdict__" : Str)) = false) (gives : LamX.GivesTo X Ng x sg g cdv bg a (X.env.qual ++ "<lambda>") TT)
    (TB : LamX.TabB X.base X.mg c P) (hcode : X.env.code = .ref c) (hmT : (P, X.env.qual ++ "<lambda>") ∈ Tl) (hu : ∀ p ∈ Tl, p.1 = P → p.2 = X.env.qual ++ "<lambda>") (room : Room (k + 2) X.A) (L : LamX.LamS X.env.scope scope) (hdef : defaultsOf params X.env = ([], []))
    (hbind : ∀ (q : Str) (cl : List (Str × Addr)) (pm cv ctv : Value), bindArgs (PySem.W.kla_fn "<lambda>" q params body scope cl pm cv ctv) ⟨[], []⟩ = pure [])
    (hbody : ∀ (A : Around) (outer : List Env) (s : Shared) (H : Hp) (E : XK) (f c' : Addr), Room k (A.deeper (LamX.lamEnv X scope s.heap.objs.size f c')) → PE (LamX.lamCx X A outer s H E scope f c') body (t E)) :
    PE X (.Call (.Name x p) [.Lambda params body scope lpos] [] pos) (tLam3 Tl TT t) := by
  refine ⟨fun pins s σ H Q I ask => ?_⟩
  obtain ⟨tabs, ask⟩ := ask
  refine wpAny_Call_Name_kw (ld_glob I hg hm ?_ hdb)
  refine PySem.W.callWith_K (h₀ := X.base) I.ok.mod.kin hk ?_ (by rfl) (by rfl)
  show wpAny _ _ (spliced ((false, eval (.Lambda params body scope lpos) X.env) :: backTo pos (starEach [] X.env))) _ _ s
  refine Calls.spliced_cons (lam_make3 I TB hcode hmT hu tabs hdef (L.has I.ok) fun f c' pm' ctv H1 s1 I1 step tabs1 obj free away code => ?_)
  refine Calls.spliced_nil ⟨I1.kIn, ?_⟩
  have run : codeAny (model X.prog X.w) X.A (.call (.ref g) ⟨[.ref f], []⟩) (CR C8.CX0 X.stack X.prog X.w H1 s1 Q C8.E0) s1 := by
    refine LamX.run_ofS (N := Ng) (ps := [a]) (us := [.ref f]) (vs := [.ref f]) lk hcg Sg room I1.env0 (hb s1 [.ref f] I1.kIn rfl) (.cons rfl .nil) rfl fun room' => ?_
    obtain ⟨t', ht', hq'⟩ := gives f c' s1 H1 Q (fun E H' Q' => t E σ H' Q') (fun W pn xe E p1 p2 tk hW => LamX.pe_act (i := 0) I1 L obj free away (hbind _ _ _ _ _) tk hW room' (fun A outer s H room2 => hbody A outer s H E f c' room2) hNg hva hd hcd) code (ask H1 step tabs1)
    exact ⟨t', ht'.nox, hq'⟩
  refine wpAny_call (codeAny_mono run fun r s2 got => ?_)
  cases r with
  | error e => exact (show False from got).elim
  | ok fl =>
    cases fl with
    | ret u => exact I1.after got
    | next => exact got.elim
    | brk => exact got.elim
    | cont => exact got.elim
end
section
variable {T : Tab} {P : Prov} {defs N : List Str} {sc : Scope} {k : Nat} {X : Cx} {W : L2.WX} {B : Base} {b : Expr} {m : Mo D} {pos p lp : Pos} {x : Str} {ps : Arguments} {s' : Scope}
theorem noPar_ok {env : Env} (h : noPar ps = true) : defaultsOf ps env = ([], []) ∧ ∀ (q : Str) (body : Expr) (scope : Scope) (cl : List (Str × Addr)) (pm cv ctv : Value), bindArgs (PySem.W.kla_fn "<lambda>" q ps body scope cl pm cv ctv) ⟨[], []⟩ = pure [] := by
  obtain ⟨po, ar, va, ko, kd, kw, df⟩ := ps
  unfold noPar at h
  simp only [Bool.and_eq_true, List.isEmpty_iff, Option.isNone_iff_eq_none] at h
  obtain ⟨⟨⟨⟨⟨⟨h1, h2⟩, h3⟩, h4⟩, h5⟩, h6⟩, h7⟩ := h
  subst h1 h2 h3 h4 h5 h6 h7
  exact ⟨rfl, fun q body scope cl pm cv ctv => rfl⟩
theorem takes_lam {A : Around} {outer : List Env} {s : Shared} {H : Hp} {E : XK} {f c' : Addr} : Takes (LamX.lamCx X A outer s H E s' f c') (fun cls d _ H => E cls d H) := takes_of rfl rfl rfl rfl
/-- the run of the trial -/
theorem tried_key {PL : Prov} {M : TM.E} {TE MS : Addr} (tri : ∀ c n xs A, P.xas c = some (n, xs) → T.cls c = some A → XfC X.K A ∧ (∀ f ∈ tellNames, PySem.W.findIn X.K (.ref A) f = some none) ∧
    (PySem.W.exmOne X.K (.ref A) (.ref TE) = some true ∨ PySem.W.exmOne X.K (.ref A) (.ref TE) = some false ∧ PySem.W.exmOne X.K (.ref A) (.ref MS) = some true)) {σ : L2.St} {H : Hp} {Q : VK} (h : liftE T B W (mTried P (ev PL M)) σ H Q) :
    tLam3 T.tabs (TTried X.K TE MS) (fun E => liftP T B (fun cls d _ H => E cls d H) (ev PL M >>= persist)) σ H Q := by
  obtain ⟨G, θ, ρ, S, s, r⟩ := h
  refine ⟨s.x.tabs, fun H1 step tabs1 => ?_⟩
  have s1 := s.lam step tabs1
  refine ⟨G, θ, ρ, S, s1, ?_⟩
  unfold Run mTried at r
  unfold Run
  cases e : (ev PL M >>= persist) ρ S with
  | ok d ρ' S' =>
    rw [e] at r
    intro G2 θ2 H2 l2 t2 s2 v rv
    refine ⟨by show 2 ≤ sizeLine; rw [sizeLine_eq]; omega, fun q hq => ?_⟩
    obtain ⟨l3, s3⟩ := s2.alloc (o := .tup [.str Str.empty, v]) True.intro hq
    exact r _ θ2 _ (l2.trans l3) t2 s3 _ (.of (.of (.tup upd_same (.cons (.str _) (.cons (rv.mono l3 (Lt.refl _)) .nil)))))
  | ex c fs ρ' S' =>
    rw [e] at r
    intro G2 θ2 H2 cls dx l2 t2 s2 xr
    simp only at r
    obtain ⟨C, dd, vfs, e1, hC, e2, hd, hn, hv⟩ := xr
    cases ht : tellD P c fs with
    | none => simp only [ht] at r
    | some cd =>
      obtain ⟨code, d⟩ := cd
      simp only [ht] at r
      unfold tellD at ht
      by_cases hx : (P.xas c).isSome = true
      · rw [if_pos hx] at ht
        obtain ⟨y, hy⟩ := Option.isSome_iff_exists.mp hx
        obtain ⟨n, xs⟩ := y
        obtain ⟨T1, no, ex⟩ := tri c n xs C hy hC
        split at ht
        · rename_i code' hc
          obtain ⟨d', hr, e3⟩ := Option.map_eq_some_iff.mp ht
          cases e3
          obtain ⟨w, hw, rw'⟩ := rows_rep hn hv hr
          obtain ⟨cv, hcv, rcv⟩ := lookup_rep hn hv hc
          cases rcv
          refine ⟨C, dd, vfs, _, w, e1, e2, T1, no, ex, hd, hcv, hw, fun H3 gr q hq => ?_⟩
          have s3 := gr.sim s2
          obtain ⟨l4, s4⟩ := s3.alloc (o := .tup [.str code, w]) True.intro hq
          exact r _ θ2 _ (l2.trans l4) t2 s4 _ (.of (.of (.tup upd_same (.cons (.str _) (.cons (rw'.mono l4 (Lt.refl _)) .nil)))))
        · cases ht
      · rw [if_neg hx] at ht
        cases ht
  | bad => rw [e] at r; exact r
theorem q_tried (C : Ctx T P defs N sc k X W) {M : TM.E} (hx : x = "_law_tried") (hg : glb sc x = true) (hp : noPar ps = true) (hs : LamX.lamSB sc s' = true)
    (hb : ∀ {PL : Prov} {k0 : Nat} {X' : Cx} {W' : L2.WX}, Ctx T PL defs N s' k0 X' W' → PE X' b (liftE T B W' (ev PL M))) : PE X (.Call (.Name x p) [.Lambda ps b s' lp] [] pos) (liftE T B W (if P.lam = true then mTried P (P.lamv M) else fail)) := by
  subst hx
  by_cases hl : P.lam = true
  · rw [if_pos hl]
    obtain ⟨⟨c, Pt, TB, hcode, hmT, hu⟩, ⟨PL, k0, ek, w0, elv, nl⟩, tri⟩ := C.lam hl
    obtain ⟨g, pg, bg, sg, dV, kV, doc, pm, cdv, ct, oc, an, od, osl, m1, m2, m3, m4, m5, m6, m7, m8, m9, m10, m11, m12⟩ := tri.def1
    obtain ⟨gf, pgf, bgf, sgf, dV2, kV2, doc2, pm2, cdv2, ct2, oc2, an2, od2, osl2, f1, f2, f3, f4, f5, f6, f7, f8⟩ := tri.def2
    obtain ⟨TE, MS, x1, x2, x3⟩ := tri.ex
    obtain ⟨g1, g2, g3⟩ := C.gl hg
    obtain ⟨d1, d2⟩ := noPar_ok (env := X.env) hp
    obtain ⟨v1, v2, v3⟩ := vis_ok m7
    rw [elv]
    have room := C.room
    rw [ek] at room
    have gives := tried_gives (X := X) (q := X.env.qual ++ "<lambda>") (g1 := g) (cdg := cdv) (L2H.roomH_of (room.mono (by omega))) f1 f2 f3 f4 f5 f6 f7 f8 m6 m8 m9 m10 m11 x1 x2 m12
    refine PE.imp (pe_lam3 (Tl := T.tabs) (k := k0) (t := fun E => liftP T B (fun cls d _ H => E cls d H) (ev PL M >>= persist)) g1 g2 m1 m2 m3 m4 m5 m6 rfl v1 v2 v3 gives TB hcode hmT hu room (LamX.lamS_by (by rw [C.es]; exact hs)) d1 (fun q cl pm cv ctv => d2 q b s' cl pm cv ctv) fun A outer s H E f c' hr => ?_) fun σ H Q q => tried_key x3 q
    refine pe_P (hb (PL := PL) (k0 := k0) ⟨rfl, C.eN, C.nd, rfl, hr, takes_lam, w0, fun z => ?_⟩)
    rw [nl] at z
    cases z
  · rw [if_neg hl]
    exact pe_never fun σ H Q q => liftE_bad q
end
end TM
end
section
set_option Elab.async false
set_option linter.all false
set_option maxRecDepth 100000
set_option maxHeartbeats 4000000
/-! FWT4: the trial of a lambda with one parameter that is left out: lambda z=0: e. -/
namespace TM
open PySem PySem.Spec PyProof.Rows L2

/-- the data of a lambda whose defaults stand at t -/
abbrev kdF (qual : Str) (params : Arguments) (body : Expr) (scope : Scope) (cl : List (Str × Addr)) (pm cdv ct : Value) (t : Addr) : FuncData := { PySem.W.kla_fn "<lambda>" qual params body scope cl pm cdv ct with defaults := .ref t }
abbrev kdO (qual : Str) (params : Arguments) (body : Expr) (scope : Scope) (cl : List (Str × Addr)) (pm : Value) (c' : Addr) (ct : Value) (t : Addr) : Obj := { cls := .type "function", data := .func (kdF qual params body scope cl pm (.ref c') ct t) }
/-! ### it is made -/
section
variable {M : Model} {A : Around} {E : Value → Shared → Prop} {s : Shared} {qual : Str} {params : Arguments} {body : Expr} {scope : Scope} {env : Env} {c P t : Addr} {ps : Array Value} {pos : Pos} {line : Nat} {mg : Str → Option Value} {cl : List (Str × Addr)} {Q : Value → Shared → Prop}
theorem kd_new (ec : closureFor scope env = pure cl) (eg : env.globals = mainGlobals) (g0 : s.heap.Ns mainGlobals mg) (ecd : env.code = .ref c) (C : PySem.W.CodeHd s.heap c P) (hP : s.heap.get? P = some (PySem.W.tabObj ps)) (tr : TriplesOk ps.toList)
    (nf : codeAmong pos ps.toList = none) (ne : mainGlobals ≠ P) (b0 : s.heap.BuiltinsAt mg P)
    (go : ∀ c' ct h' tk, Heap.ExtBut P s.heap h' → s.heap.objs.size ≤ c' → c' < h'.objs.size → h'.CodeRec (.ref c') qual → h'.get? P = some (PySem.W.tabObj (ps ++ #[rawInt pos.line, rawInt pos.col, .ref c'])) →
      Q (.ref h'.objs.size) { s with heap := h'.push (kdO qual params body scope cl ((mg "__name__").getD .none) c' ct t), toks := tk }) :
    wpAny M A (makeTail "<lambda>" qual params (.expr body) scope env (.ref t) .none none pos line) Q E s := by
  obtain ⟨bm, ob, q1, q2, _, q3, q4, q5, q6, q7⟩ := b0
  unfold makeTail
  rw [ec, eg]
  refine wpAny_bind (wpAny_pure ?_)
  by_cases hc : cl.isEmpty = true
  · have e : cl = [] := List.isEmpty_iff.mp hc
    subst e
    rw [if_pos hc]
    refine wpAny_bind (wpAny_pure (wpAny_bind (wpAny_functionCodeX ecd (C.code hP tr) (C.tab hP) nf fun c' h' tk k1 k2 k3 _ k4 k5 _ => ?_)))
    have g1 := g0.extBut k1 ne
    exact wpAny_bind (wpAny_builtinsFor g1 q1 q2 (k1 _ _ q3 q4) q5 q6 q7 (wpAny_bind (wpAny_nsGet g1 (wpAny_bind (wpAny_pure (wpAny_newObj_type (go c' .none h' tk k1 k2 k3 k4 k5.2) (by size_fits)))))))
  · rw [if_neg hc]
    refine wpAny_bind (wpAny_newTextTuple (wpAny_bind (wpAny_functionCodeX ecd ((C.keeps fun b o e => Heap.get?_push_of_some _ e).code (Heap.get?_push_of_some _ hP) tr) ((C.keeps fun b o e => Heap.get?_push_of_some _ e).tab (Heap.get?_push_of_some _ hP)) nf fun c' h' tk k1 k2 k3 _ k4 k5 _ => ?_)))
    have g1 := (g0.push _).extBut k1 ne
    have k1' : Heap.ExtBut P s.heap h' := fun b o z e => k1 b o z (Heap.get?_push_of_some _ e)
    have k2' : s.heap.objs.size ≤ c' := Nat.le_trans (by rw [Heap.size_push]; omega) k2
    exact wpAny_bind (wpAny_builtinsFor g1 q1 q2 (k1' _ _ q3 q4) q5 q6 q7 (wpAny_bind (wpAny_nsGet g1 (wpAny_bind (wpAny_pure (wpAny_newObj_type (go c' _ h' tk k1' k2' k3 k4 k5.2) (by size_fits)))))))
theorem kd_hit {cv : Value} (ec : closureFor scope env = pure cl) (eg : env.globals = mainGlobals) (g0 : s.heap.Ns mainGlobals mg) (ecd : env.code = .ref c) (C : PySem.W.CodeHd s.heap c P) (hP : s.heap.get? P = some (PySem.W.tabObj ps)) (tr : TriplesOk ps.toList)
    (hf : codeAmong pos ps.toList = some cv) (b0 : s.heap.BuiltinsAt mg P)
    (go : ∀ (ct : Value) (h' : Heap) (tk : Tok), (∀ b o, s.heap.get? b = some o → h'.get? b = some o) → s.heap.objs.size ≤ h'.objs.size →
      Q (.ref h'.objs.size) { s with heap := h'.push { cls := .type "function", data := .func (kdF qual params body scope cl ((mg "__name__").getD .none) cv ct t) }, toks := tk }) :
    wpAny M A (makeTail "<lambda>" qual params (.expr body) scope env (.ref t) .none none pos line) Q E s := by
  obtain ⟨bm, ob, q1, q2, _, q3, q4, q5, q6, q7⟩ := b0
  unfold makeTail
  rw [ec, eg]
  refine wpAny_bind (wpAny_pure ?_)
  by_cases hc : cl.isEmpty = true
  · have e : cl = [] := List.isEmpty_iff.mp hc
    subst e
    rw [if_pos hc]
    refine wpAny_bind (wpAny_pure (wpAny_bind (wpAny_functionCode_hit ecd (C.code hP tr) hf ?_)))
    exact wpAny_bind (wpAny_builtinsFor g0 q1 q2 q4 q5 q6 q7 (wpAny_bind (wpAny_nsGet g0 (wpAny_bind (wpAny_pure (wpAny_newObj_type (go .none s.heap s.toks (fun _ _ e => e) (Nat.le_refl _)) (by size_fits)))))))
  · rw [if_neg hc]
    refine wpAny_bind (wpAny_newTextTuple (wpAny_bind (wpAny_functionCode_hit ecd ((C.keeps fun b o e => Heap.get?_push_of_some _ e).code (Heap.get?_push_of_some _ hP) tr) hf ?_)))
    have sz : ∀ o : Obj, s.heap.objs.size ≤ (s.heap.push o).objs.size := fun o => by rw [Heap.size_push]; omega
    exact wpAny_bind (wpAny_builtinsFor (g0.push _) q1 q2 (Heap.get?_push_of_some _ q4) q5 q6 q7 (wpAny_bind (wpAny_nsGet (g0.push _) (wpAny_bind (wpAny_pure (wpAny_newObj_type (go _ _ s.toks (fun b o e => Heap.get?_push_of_some _ e) (sz _)) (by size_fits)))))))
end
section
variable {X : Cx} {pins : List (Addr × Obj)} {σ : L2.St} {H : Hp} {s : Shared}
theorem lam_make4 {Tl : List (Addr × Str)} {c P : Addr} {params : Arguments} {body : Expr} {scope : Scope} {pos : Pos} {z : Str} {i : Int} {E : Value → Shared → Prop} {Q : Value → Shared → Prop} (I : Inv X pins σ H s) (TB : LamX.TabB X.base X.mg c P) (hcode : X.env.code = .ref c)
    (hm : (P, X.env.qual ++ "<lambda>") ∈ Tl) (hu : ∀ p ∈ Tl, p.1 = P → p.2 = X.env.qual ++ "<lambda>") (tabs : LamX.Tabs Tl H) (hp : par0 params = some (z, i)) (hfree : ∀ y ∈ scope.names, y.2 = .free → ∃ c, X.env.cells.lookup y.1 = some c)
    (go : ∀ (f c' t : Addr) (u pm ctv : Value) (H1 : Hp) (s' : Shared), Inv X pins σ H1 s' → LamStep H H1 → LamX.Tabs Tl H1 →
      s'.heap.get? f = some (kdO (X.env.qual ++ "<lambda>") params body scope (cloFrom X.env.cells scope.names []) pm c' ctv t) → H1 f = none → f ∉ frs X.stack → s'.heap.get? t = some { cls := .type "tuple", data := .seq #[u] } → H1 t = none → t ∉ frs X.stack →
      H1 c' = some (LamX.CodeO c' (X.env.qual ++ "<lambda>")) → Q (.ref f) s') :
    wpAny (model X.prog X.w) X.A (eval (.Lambda params body scope pos) X.env) Q E s := by
  obtain ⟨a, k, p, ep, ez⟩ := par0_ok hp
  have hdef : defaultsOf params X.env = ([eval (.Constant (.int i) k p) X.env], []) := by rw [ep]; rfl
  rw [arm_eval_Lambda, hdef]
  show wpAny _ X.A (do let dv ← evalAll [eval (.Constant (.int i) k p) X.env]; let kdv ← holding dv (evalAllOpt []); makeFunction "<lambda>" (X.env.qual ++ "<lambda>") params (.expr body) scope X.env dv kdv [] pos pos.line) Q E s
  -- the number, the tuple that holds it
  refine wpAny_bind (wpAny_bind (wpAny_Constant_int (wpAny_bind (wpAny_holding (wpAny_pure (wpAny_pure (wpAny_bind (wpAny_holding (wpAny_pure ?_)))))))))
  rw [makeFunction_eq]
  have noKw : (params.kwonlyargs.zip ([] : List (Option Value))).filterMap (fun (a, d) => d.map (a.arg, ·)) = [] := by rw [List.zip_nil_right]; rfl
  simp only [noKw, List.isEmpty_nil, List.isEmpty_cons, Bool.false_eq_true, if_false, if_true, pure_bind]
  refine wpAny_bind (wpAny_newTextTuple ?_)
  generalize hs1 : ({ s with toks := s.toks + 1 } : Shared) = s1 
  have I1 : Inv X pins σ H s1 := by rw [← hs1]; exact I.tok _
  generalize ht : s1.heap.objs.size = t
  have Ht : H t = none := I1.hok.fresh (Nat.le_of_eq ht)
  generalize hs2 : ({ s1 with heap := s1.heap.push { cls := .type "tuple", data := .seq #[.int i s.toks] } } : Shared) = s2
  have gt : s2.heap.get? t = some { cls := .type "tuple", data := .seq #[.int i s.toks] } := by rw [← hs2, ← ht]; exact Heap.get?_push_size _ rfl
  have sz2 : s2.heap.objs.size = t + 1 := by rw [← hs2, ← ht]; exact Heap.size_push ..
  have I2 : Inv X pins σ H s2 := by rw [← hs2]; exact I1.kept (t' := s1.toks) fun b o e => Heap.get?_push_of_some _ e
  show wpAny (model X.prog X.w) X.A _ Q E s2
  obtain ⟨ps, atP, trip, told⟩ := tabs _ hm
  have bP : s2.heap.BuiltinsAt X.mg P := TB.bm.keeps I2.bk
  have getP : s2.heap.get? P = some { cls := .none, data := .fields ps } := I2.hok P _ atP
  have away : ∀ f, s1.heap.objs.size ≤ f → f ∉ frs X.stack := fun f le z => by
    rcases List.mem_cons.mp (I1.stkSub _ z) with e | e
    · have lt := I1.lt
      rw [← e] at lt
      exact absurd (Nat.lt_of_lt_of_le lt le) (Nat.lt_irrefl _)
    · exact I1.nofs le e
  have old : s1.heap.objs.size ≤ s2.heap.objs.size := by rw [sz2, ht]; exact Nat.le_succ _
  have away2 : ∀ f, s2.heap.objs.size ≤ f → f ∉ frs X.stack := fun f le => away f (Nat.le_trans old le)
  have tP : t ≠ P := fun z => by rw [← z, gt] at getP; cases getP
  cases found : codeAmong pos ps.toList with
  | some cv =>
    obtain ⟨c', e, co⟩ := told pos cv found
    subst e
    refine kd_hit (mg := X.mg) (c := c) (P := P) (ps := ps) (closure_ok hfree) I2.ok.glob (I2.mod.glob.keeps I2.bk) hcode (TB.code.keeps I2.bk) getP trip found bP fun ctv h1 tk keep size => ?_
    exact go h1.objs.size c' t _ ((X.mg "__name__").getD .none) ctv H _ (I2.kept (t' := tk) fun b o e => Heap.get?_push_of_some _ (keep b o e)) (.inl rfl) tabs (Heap.get?_push_size _ rfl) (I2.hok.fresh size) (away2 _ size) (Heap.get?_push_of_some _ (keep _ _ gt)) Ht (away t (Nat.le_of_eq ht)) co
  | none =>
    refine kd_new (mg := X.mg) (c := c) (P := P) (ps := ps) (closure_ok hfree) I2.ok.glob (I2.mod.glob.keeps I2.bk) hcode (TB.code.keeps I2.bk) getP trip found TB.gP bP fun c' ctv h1 tk keep ge lt rec table => ?_
    obtain ⟨c2, oc, vs, u, e2, hoc, hd, hv⟩ := rec
    cases e2
    have size : s2.heap.objs.size ≤ h1.objs.size := Nat.le_trans ge (Nat.le_of_lt lt)
    have new : H c' = none := I2.hok.fresh ge
    have J := LamX.inv_table (t' := tk) (more := #[rawInt pos.line, rawInt pos.col, .ref c']) (h' := h1.push (kdO (X.env.qual ++ "<lambda>") params body scope (cloFrom X.env.cells scope.names []) ((X.mg "__name__").getD .none) c' ctv t)) I2 atP
      (fun b o hb e => Heap.get?_push_of_some _ (keep b o hb e)) (Heap.get?_push_of_some _ table) ge ⟨oc, vs, u, Heap.get?_push_of_some _ hoc, hd, hv⟩
    have step : LamStep H (upd (upd H P (.tbl (ps ++ #[rawInt pos.line, rawInt pos.col, .ref c']))) c' (LamX.CodeO c' (X.env.qual ++ "<lambda>"))) := .inr ⟨P, c', ps, _, _, atP, new, rfl⟩
    have list : (ps ++ #[rawInt pos.line, rawInt pos.col, .ref c']).toList = ps.toList ++ [rawInt pos.line, rawInt pos.col, .ref c'] := by simp
    have codeO : ∀ {d : Addr} {q : Str}, H d = some (LamX.CodeO d q) → upd (upd H P (.tbl (ps ++ #[rawInt pos.line, rawInt pos.col, .ref c']))) c' (LamX.CodeO c' (X.env.qual ++ "<lambda>")) d = some (LamX.CodeO d q) := fun e => step.at e LamX.codeO_ne
    have none2 : ∀ b, H b = none → b ≠ c' → b ≠ P → upd (upd H P (.tbl (ps ++ #[rawInt pos.line, rawInt pos.col, .ref c']))) c' (LamX.CodeO c' (X.env.qual ++ "<lambda>")) b = none := fun b e n1 n2 => by rw [upd_ne n1, upd_ne n2]; exact e
    have tc : t ≠ c' := fun z => by
      have : s2.heap.objs.size ≤ t := by rw [z]; exact ge
      rw [sz2] at this
      exact absurd this (Nat.not_succ_le_self _)
    refine go h1.objs.size c' t _ ((X.mg "__name__").getD .none) ctv _ _ J step (fun p hp => ?_) (Heap.get?_push_size _ rfl) (none2 _ (I2.hok.fresh size) (Nat.ne_of_gt lt) (Nat.ne_of_gt (Nat.lt_of_lt_of_le (Heap.lt_size getP) size))) (away2 _ size) (Heap.get?_push_of_some _ (keep _ _ tP gt)) (none2 t Ht tc tP) (away t (Nat.le_of_eq ht)) upd_same
    by_cases hb : p.1 = P
    · rw [hu p hp hb, hb]
      refine ⟨_, by rw [upd_ne (ne_of_none atP new), upd_same], by rw [list]; exact PySem.TriplesOk_snoc _ _ _ _ trip, fun p' cv hcv => ?_⟩
      rw [list] at hcv
      rcases LamX.among_app _ trip hcv with z | z
      · obtain ⟨c0, e1, e2⟩ := told p' cv z
        exact ⟨c0, e1, codeO e2⟩
      · exact ⟨c', z, upd_same⟩
    · obtain ⟨qs, a1, a2, a3⟩ := tabs p hp
      refine ⟨qs, by rw [upd_ne (ne_of_none a1 new), upd_ne hb]; exact a1, a2, fun p' cv hcv => ?_⟩
      obtain ⟨c0, e1, e2⟩ := a3 p' cv hcv
      exact ⟨c0, e1, codeO e2⟩
end
/-! ### its names -/
structure LamS1 (N : List Str) (sc scope : Scope) (z : Str) : Prop where
  kind : scope.kind = .function
  co : scope.isCoroutine = false
  gen : scope.isGenerator = false
  own : ∀ y ∈ scope.names, y.2 ≠ .cell ∧ (y.2 = .local → y.1 = z)
  par : scope.names.lookup z = some .local
  out : z ∉ N
  free : ∀ y ∈ scope.names, y.2 = .free → sc.names.lookup y.1 = some .cell ∨ sc.names.lookup y.1 = some .free
theorem lamS1_by {N : List Str} {sc scope : Scope} {z : Str} (h : lamS1B N sc scope z = true) : LamS1 N sc scope z := by
  unfold lamS1B at h
  simp only [Bool.and_eq_true, Bool.or_eq_true, Bool.not_eq_true', decide_eq_true_eq, decide_eq_false_iff_not, List.all_eq_true] at h
  obtain ⟨⟨⟨⟨⟨h1, h2⟩, h3⟩, h5⟩, h6⟩, h4⟩ := h
  refine ⟨h1, h2, h3, fun y hy => ⟨(h4 y hy).1.1, fun e => ?_⟩, h5, h6, fun y hy e => ?_⟩
  · rcases (h4 y hy).1.2 with q | q
    · exact absurd e q
    · exact q
  · rcases (h4 y hy).2 with (q | q) | q
    · exact absurd e q
    · exact .inl q
    · exact .inr q
theorem LamS1.has {X : Cx} {scope : Scope} {z : Str} (L : LamS1 X.N X.env.scope scope z) (ok : X.Ok) : ∀ y ∈ scope.names, y.2 = .free → ∃ c, X.env.cells.lookup y.1 = some c := fun y hy e => (L.free y hy e).elim (fun k => ok.has _ (.inl k)) fun k => ok.has _ (.inr k)
section
variable {M : Model} {A : Around} {E : Value → Shared → Prop} {s : Shared}
theorem kd_bind {qual z : Str} {i : Int} {params : Arguments} {body : Expr} {scope : Scope} {cl : List (Str × Addr)} {pm cdv ct u : Value} {t : Addr} {Q : List (Str × Value) → Shared → Prop} (hp : par0 params = some (z, i)) (ht : s.heap.get? t = some { cls := .type "tuple", data := .seq #[u] }) (h : Q [(z, u)] s) :
    wpAny M A (bindArgs (kdF qual params body scope cl pm cdv ct t) ⟨[], []⟩) Q E s := by
  obtain ⟨a, k, p, ep, ez⟩ := par0_ok hp
  subst ep
  subst ez
  unfold bindArgs
  refine wpAny_bind (wpAny_pure (wpAny_bind (wpAny_seqItems ht rfl ?_)))
  refine wpAny_of_eq (a := [(a.arg, u)]) ?_ h
  simp [List.lookup]
end
/-! ### it is called -/
section
variable {X : Cx} {pins : List (Addr × Obj)} {σ : L2.St} {H HZ : Hp} {s s1 : Shared} {z : Str}
theorem lam_start4 {A : Around} {outer : List Env} {E : XK} {scope : Scope} {f c' : Addr} {h₁ : Heap} {tk : Nat} {m : Str → Option Value} (I : Inv X pins σ H s) (L : LamS1 X.N X.env.scope scope z) (e0 : Env0 X.prog X.w X.K X.mg X.base A outer s1 HZ) (hd : A.handled = none)
    (un : Un (frs X.stack) [] H HZ s.heap s1.heap) (hns : h₁.Ns s1.heap.objs.size m) (kp : ∀ b o, s1.heap.get? b = some o → h₁.get? b = some o) :
    Inv (LamX.lamCx X A outer s1 HZ E scope f c') [] σ HZ { s1 with heap := h₁, toks := tk } := by
  have fr := L.has I.ok
  have same : ∀ {y c}, (cloFrom X.env.cells scope.names []).lookup y = some c → X.env.cells.lookup y = some c := fun {y c} e => by
    rcases cloFrom_mem (PySem.mem_of_lookup e) with q | ⟨h1, h2⟩
    · cases q
    · obtain ⟨c1, hc⟩ := fr _ h1 rfl
      have hc : X.env.cells.lookup y = some c1 := hc
      have e2 : c = c1 := by
        rw [h2, hc]; rfl
      rw [e2]
      exact hc
  have find : ∀ {y}, scope.names.lookup y = some .free → ∃ c, (cloFrom X.env.cells scope.names []).lookup y = some c := fun {y} hl => mem_lookup (cloFrom_has (cells := X.env.cells) (acc := []) (show (y, NameKind.free) ∈ scope.names from PySem.mem_of_lookup hl))
  have cellK : ∀ {c : Addr} {v : Option Value}, H c = none → s.heap.IsCell c v → h₁.IsCell c v := fun {c v} n ⟨o, ho, hd⟩ => by
    obtain ⟨sl, q⟩ := un.any ho n (by simp)
    exact ⟨_, kp _ _ q, hd⟩
  have noA : ∀ b : Addr, b ∉ (LamX.lamCx X A outer s1 HZ E scope f c').ex := fun b q => absurd (show b ∈ ([] : List Addr) from q) (by simp)
  refine ⟨⟨e0.mod, L.kind, rfl, rfl, Nat.le_refl _, fun y z c e1 e2 => I.ok.inj y z c (same e1) (same e2), fun y hy => ?_, fun y c q _ => ?_, fun _ => hd, Around.frames_deeper e0.frames, .inr ⟨rfl, rfl⟩, fun b q => absurd q (noA b), e0.bs, e0.bsz, fun b _ _ => noA b,
      fun b q => absurd q (noA b), e0.funs, e0.frf⟩,
    rfl, e0.bare, Un.kept kp, ⟨_, hns, fun i y v e1 e2 e3 => ?_⟩, fun y c e => ?_, e0.hok.fresh (Nat.le_refl _), fun y c e => ?_, fun q hq => absurd (show q ∈ ([] : List (Addr × Obj)) ++ [] from hq) (by simp), e0.hok.kept kp, I.len⟩
  · have hy : scope.names.lookup y = some .cell ∨ scope.names.lookup y = some .free := hy
    rcases hy with hy | hy
    · exact absurd rfl (L.own _ (PySem.mem_of_lookup hy)).1
    · exact find hy
  · have q : false = true := q
    cases q
  · have e3 : Vis scope y := e3
    rcases e3 with k | k | k
    · have ey : y = z := (L.own _ (PySem.mem_of_lookup k)).2 rfl
      exact absurd (List.mem_of_getElem? (show X.N[i]? = some y from e1)) (by rw [ey]; exact L.out)
    · exact absurd rfl (L.own _ (PySem.mem_of_lookup k)).1
    · obtain ⟨m', hn, hl⟩ := I.loc
      have hvis : Vis X.env.scope y := (L.free _ (PySem.mem_of_lookup k) rfl).elim (fun k => .inr (.inl k)) (fun k => .inr (.inr k))
      obtain ⟨w', r, q⟩ := hl i y v e1 e2 hvis
      obtain ⟨c2, h2⟩ := find k
      refine ⟨w', r, .inr ⟨.inr k, c2, h2, ?_⟩⟩
      have c1 := same h2
      rcases q with ⟨k', _⟩ | ⟨_, c3, e', q⟩
      · have k' : X.env.scope.names.lookup y = some .local := k'
        rcases L.free _ (PySem.mem_of_lookup k) rfl with k2 | k2 <;> rw [show X.env.scope.names.lookup y = _ from k2] at k' <;> cases k'
      · rw [c1] at e'
        cases e'
        exact cellK (I.freeC y _ c1) q
  · obtain ⟨w', q⟩ := I.cell y c (same e)
    exact ⟨w', cellK (I.freeC y c (same e)) q⟩
  · obtain ⟨v, o, ho, hd⟩ := I.cell y c (same e)
    exact un.free c o ho (I.freeC y c (same e)) (by simp)
theorem pe_act4 {CXg : CXT} {Eg : XK} {Ng : List Str} {qg : Str} {sg : Scope} {g f c' t : Addr} {cdg pm ctv u : Value} {params : Arguments} {body : Expr} {scope : Scope} {k i : Nat} {n : Int} {a : Str} {pn : List (Addr × Obj)} {xe : Value → Shared → Prop} {W : L2.WX} {E : XK} {tb : TE} {p1 p2 : Pos}
    (I : Inv X pins σ H s) (L : LamS1 X.N X.env.scope scope z) (hp : par0 params = some (z, n)) (hf : s.heap.get? f = some (kdO (X.env.qual ++ "<lambda>") params body scope (cloFrom X.env.cells scope.names []) pm c' ctv t)) (hfn : H f = none) (hfr : f ∉ frs X.stack)
    (ht : s.heap.get? t = some { cls := .type "tuple", data := .seq #[u] }) (htn : H t = none) (htr : t ∉ frs X.stack)
    (tk : Takes ((cxOf CXg X.prog X.w X.K X.mg X.base Ng qg sg g cdg X.A X.stack s H Eg).tr pn xe) W) (hW : ∀ cls d σ' H', E cls d H' → W cls d σ' H') (hr : Room (k + 1) (X.A.deeper (envOfC qg sg s.heap.objs.size g cdg)))
    (hbody : ∀ (A : Around) (outer : List Env) (s : Shared) (H : Hp), Room k (A.deeper (LamX.lamEnv X scope s.heap.objs.size f c')) → PE (LamX.lamCx X A outer s H E scope f c') body tb)
    (hN : Ng[i]? = some a) (hv : Vis sg a) (hd : (a == ("__debug__" : Str)) = false) (hcd : (a == ("__classdict__" : Str)) = false) :
    PE ((cxOf CXg X.prog X.w X.K X.mg X.base Ng qg sg g cdg X.A X.stack s H Eg).tr pn xe) (.Call (.Name a p1) [] [] p2)
      (fun σZ HZ Q => σZ[i]? = some (some (.ref f)) ∧ HZ c' = some (LamX.CodeO c' (X.env.qual ++ "<lambda>")) ∧ tb σ HZ Q) := by
  refine ⟨fun pinsZ sZ σZ HZ Q IZ h => ?_⟩
  obtain ⟨hs, hc, hb⟩ := h
  refine wpAny_Call_Name_kw (thn ((pe_var (pos := p1) (i := i) hN hv hd hcd).run pinsZ sZ σZ HZ (fun v H1 => v = .ref f ∧ H1 = HZ) IZ ⟨.ref f, hs, rfl, rfl⟩) fun fu s1 ⟨v, H1, I1, r1, q1⟩ => ?_)
  obtain ⟨ev, eH⟩ := q1
  subst ev
  rw [eH] at I1
  obtain rfl : fu = Value.ref f := r1
  have nox : ∀ b : Addr, b ∉ ([] : List Addr) := fun b q => nomatch q
  have of1 := I1.base.keep f _ hf hfn hfr (nox f)
  have ot1 := I1.base.keep t _ ht htn htr (nox t)
  refine PySem.W.callWith_F0 ⟨_, _, _, _, of1⟩ ?_
  have un : Un (frs X.stack) [] H HZ s.heap s1.heap := I1.base
  obtain ⟨⟨oc, vs, tt, hoc, hdc, hvc⟩, _, _⟩ := I1.hok c' _ hc
  have rc : codeAny (model X.prog X.w) (X.A.deeper (envOfC qg sg s.heap.objs.size g cdg)) (.call (.ref f) ⟨[], []⟩) (CR (L2.CX X.prog X.w) (envOfC qg sg s.heap.objs.size g cdg :: X.stack) X.prog X.w HZ s1 Q E) s1 := by
    refine PySem.W.kla_callFunE hr.depth of1 rfl L.co L.gen rfl ⟨c', oc, vs, tt, rfl, hoc, hdc, hvc⟩ (kd_bind hp ot1 ?_)
    refine wpAny_newFunctionEnv (fun y hy => (L.own y hy).1) (fun y hy => ?_) (fun h₁ hns hsb => ⟨I1.nolimit.fresh _ hsb, ?_⟩) L.kind
    · have e : y = (z, u) := by simpa using hy
      rw [e]
      exact L.par
    show codeAny _ _ (.expr body (LamX.lamEnv X scope s1.heap.objs.size f c')) _ _
    have kp : ∀ b o, s1.heap.get? b = some o → h₁.get? b = some o := fun b o e => hsb.extBut b o (Nat.ne_of_lt (Heap.lt_size e)) (Heap.get?_push_of_some _ e)
    have J := lam_start4 (E := E) (f := f) (c' := c') (tk := s1.toks + [(z, u)].length) I L I1.env0 hr.hd un hns kp
    refine PySem.W.kla_codeExpr (wpAny_mono ((hbody _ _ s1 HZ (hr.deeper _)).run [] _ _ HZ Q J hb) (fun v s' hq => ?_) fun e s' hq => hq)
    obtain ⟨w', H', J', rv, q⟩ := hq
    exact ⟨w', H', J'.os, J'.bare, J'.base, J'.hok, rv, q⟩
  have hx : Passes (L2.CX X.prog X.w) ((cxOf CXg X.prog X.w X.K X.mg X.base Ng qg sg g cdg X.A X.stack s H Eg).tr pn xe) E := passes_call tk hW
  refine wpAny_call (codeAny_mono rc fun r s' hq => ?_)
  cases r with
  | error e => exact hx pinsZ σZ HZ s1 e s' I1 hq
  | ok fl =>
    cases fl with
    | ret u => exact I1.after hq
    | next => exact hq.elim
    | brk => exact hq.elim
    | cont => exact hq.elim
end
section
variable {X : Cx}
theorem pe_lam4 {Tl : List (Addr × Str)} {TT : (XK → Hp → VK → Prop) → Hp → VK → Prop} {x a z : Str} {n : Int} {g c P : Addr} {k : Nat} {pg : Arguments} {bg : List Stmt} {sg : Scope} {dV kV doc pm cdv ct oc : Value} {an od : Option Addr} {osl : Array (Option Value)} {Ng : List Str}
    {params : Arguments} {body : Expr} {scope : Scope} {t : XK → TE} {p lpos pos : Pos} (hg : Gl X x) (hdb : (x == ("__debug__" : Str)) = false) (hm : X.mg x = some (.ref g)) (hk : PySem.W.keepIn X.K (.ref g) = true)
    (lk : X.K.lookup g = some ⟨oc, od, .func (PySem.W.fnOf x x pg bg sg dV kV doc pm an cdv ct), osl⟩) (hcg : PySem.W.codeIn X.K cdv x = true) (hb : L2.Binds X.K (PySem.W.fnOf x x pg bg sg dV kV doc pm an cdv ct) [a] []) (Sg : FnScope Ng [a] sg) (hNg : Ng[0]? = some a) (hva : Vis sg a)
    (hd : (a == ("__debug__" : Str)) = false) (hcd : (a == ("__classdict__" : Str)) = false) (gives : LamX.GivesTo X Ng x sg g cdv bg a (X.env.qual ++ "<lambda>") TT)
    (TB : LamX.TabB X.base X.mg c P) (hcode : X.env.code = .ref c) (hmT : (P, X.env.qual ++ "<lambda>") ∈ Tl) (hu : ∀ p ∈ Tl, p.1 = P → p.2 = X.env.qual ++ "<lambda>") (room : Room (k + 2) X.A) (L : LamS1 X.N X.env.scope scope z) (hp : par0 params = some (z, n))
    (hbody : ∀ (A : Around) (outer : List Env) (s : Shared) (H : Hp) (E : XK) (f c' : Addr), Room k (A.deeper (LamX.lamEnv X scope s.heap.objs.size f c')) → PE (LamX.lamCx X A outer s H E scope f c') body (t E)) :
    PE X (.Call (.Name x p) [.Lambda params body scope lpos] [] pos) (tLam3 Tl TT t) := by
  refine ⟨fun pins s σ H Q I ask => ?_⟩
  obtain ⟨tabs, ask⟩ := ask
  refine wpAny_Call_Name_kw (ld_glob I hg hm ?_ hdb)
  refine PySem.W.callWith_K (h₀ := X.base) I.ok.mod.kin hk ?_ (by rfl) (by rfl)
  show wpAny _ _ (spliced ((false, eval (.Lambda params body scope lpos) X.env) :: backTo pos (starEach [] X.env))) _ _ s
  refine Calls.spliced_cons (lam_make4 I TB hcode hmT hu tabs hp (L.has I.ok) fun f c' tt u pm' ctv H1 s1 I1 step tabs1 obj free away tup tfree taway code => ?_)
  refine Calls.spliced_nil ⟨I1.kIn, ?_⟩
  have run : codeAny (model X.prog X.w) X.A (.call (.ref g) ⟨[.ref f], []⟩) (CR C8.CX0 X.stack X.prog X.w H1 s1 Q C8.E0) s1 := by
    refine LamX.run_ofS (N := Ng) (ps := [a]) (us := [.ref f]) (vs := [.ref f]) lk hcg Sg room I1.env0 (hb s1 [.ref f] I1.kIn rfl) (.cons rfl .nil) rfl fun room' => ?_
    obtain ⟨t', ht', hq'⟩ := gives f c' s1 H1 Q (fun E H' Q' => t E σ H' Q') (fun W pn xe E p1 p2 tk hW => pe_act4 (i := 0) I1 L hp obj free away tup tfree taway tk hW room' (fun A outer s H room2 => hbody A outer s H E f c' room2) hNg hva hd hcd) code (ask H1 step tabs1)
    exact ⟨t', ht'.nox, hq'⟩
  refine wpAny_call (codeAny_mono run fun r s2 got => ?_)
  cases r with
  | error e => exact (show False from got).elim
  | ok fl =>
    cases fl with
    | ret u => exact I1.after got
    | next => exact got.elim
    | brk => exact got.elim
    | cont => exact got.elim
end
section
variable {T : Tab} {P : Prov} {defs N : List Str} {sc : Scope} {k : Nat} {X : Cx} {W : L2.WX} {B : Base} {b : Expr} {m : Mo D} {pos p lp : Pos} {x z : Str} {n : Int} {ps : Arguments} {s' : Scope}
theorem q_tried4 (C : Ctx T P defs N sc k X W) {M : TM.E} (hx : x = "_law_tried") (hg : glb sc x = true) (hp : par0 ps = some (z, n)) (hs : lamS1B N sc s' z = true)
    (hb : ∀ {PL : Prov} {k0 : Nat} {X' : Cx} {W' : L2.WX}, Ctx T PL defs N s' k0 X' W' → PE X' b (liftE T B W' (ev PL M))) : PE X (.Call (.Name x p) [.Lambda ps b s' lp] [] pos) (liftE T B W (if P.lam = true then mTried P (P.lamv M) else fail)) := by
  subst hx
  by_cases hl : P.lam = true
  · rw [if_pos hl]
    obtain ⟨⟨c, Pt, TB, hcode, hmT, hu⟩, ⟨PL, k0, ek, w0, elv, nl⟩, tri⟩ := C.lam hl
    obtain ⟨g, pg, bg, sg, dV, kV, doc, pm, cdv, ct, oc, an, od, osl, m1, m2, m3, m4, m5, m6, m7, m8, m9, m10, m11, m12⟩ := tri.def1
    obtain ⟨gf, pgf, bgf, sgf, dV2, kV2, doc2, pm2, cdv2, ct2, oc2, an2, od2, osl2, f1, f2, f3, f4, f5, f6, f7, f8⟩ := tri.def2
    obtain ⟨TE, MS, x1, x2, x3⟩ := tri.ex
    obtain ⟨g1, g2, g3⟩ := C.gl hg
    obtain ⟨v1, v2, v3⟩ := vis_ok m7
    rw [elv]
    have room := C.room
    rw [ek] at room
    have gives := tried_gives (X := X) (q := X.env.qual ++ "<lambda>") (g1 := g) (cdg := cdv) (L2H.roomH_of (room.mono (by omega))) f1 f2 f3 f4 f5 f6 f7 f8 m6 m8 m9 m10 m11 x1 x2 m12
    refine PE.imp (pe_lam4 (Tl := T.tabs) (k := k0) (t := fun E => liftP T B (fun cls d _ H => E cls d H) (ev PL M >>= persist)) g1 g2 m1 m2 m3 m4 m5 m6 rfl v1 v2 v3 gives TB hcode hmT hu room (lamS1_by (by rw [C.es, C.eN]; exact hs)) hp fun A outer s H E f c' hr => ?_) fun σ H Q q => tried_key x3 q
    refine pe_P (hb (PL := PL) (k0 := k0) ⟨rfl, C.eN, C.nd, rfl, hr, takes_lam, w0, fun q => ?_⟩)
    rw [nl] at q
    cases q
  · rw [if_neg hl]
    exact pe_never fun σ H Q q => liftE_bad q
end
end TM
end
section
set_option Elab.async false
set_option linter.all false
set_option maxRecDepth 100000
set_option maxHeartbeats 4000000
/-! FWD: walks over dicts, under the lock; dict comprehensions. -/
namespace TM
open PySem PySem.Spec PyProof.Rows L2

/-! ### the lock -/
def Base.lockAt (B : Base) (a : Addr) (o : Obj) (kvs : List (Key × V)) : Base := ⟨upd B.H a (.frz o (.dK kvs)), B.θ, B.pr, B.me⟩
section
variable {T : Tab} {B : Base} {G G' : Hp} {θ θ' : List Addr} {σ σ' : L2.St} {H H' : Hp} {ρ ρ' : Rho} {S S' : Sto} {W : L2.WX} {a : Addr} {kvs : List (Key × V)} {od : Obj}
theorem Sim.settled (s : Sim T B G θ σ H ρ S) {u : HO} (h : G a = some u) : a ∉ θ := fun hm => by
  obtain ⟨n, hn⟩ := List.mem_iff_getElem?.mp hm
  have hl := (List.getElem?_eq_some_iff.mp hn).1
  rw [← s.len] at hl
  obtain ⟨g, _⟩ := s.sto n a _ hn (List.getElem?_eq_getElem hl)
  rw [h] at g; cases g
/-- what the entry knew of the dict -/
theorem Sim.entryD (s : Sim T B G θ σ H ρ S) (hG : G a = some (.dK kvs)) (h : H a = some (.dK kvs)) : ∀ o, B.H a = some o → o = .dK kvs := fun o e => by
  have nt : a ∉ B.θ := fun z => s.settled hG (s.le.mem z)
  rcases s.frame a o e nt with q | ⟨ps, ps', _, q⟩
  · rw [h] at q; exact (Option.some.inj q).symm
  · rw [h] at q; cases q
theorem Sim.lock (s : Sim T B G θ σ H ρ S) (hG : G a = some (.dK kvs)) (h : H a = some (.dK kvs)) (od : Obj) : Sim T (B.lockAt a od kvs) G θ σ (upd H a (.frz od (.dK kvs))) ρ S := by
  have nθ := s.settled hG
  have ent := s.entryD hG h
  have gne : ∀ {b : Addr}, G b = none → b ≠ a := fun {b} e z => by rw [z, hG] at e; cases e
  have scr : ScrOk T (B.lockAt a od kvs).H (B.lockAt a od kvs).θ := fun b is hb => by
    rcases s.scr b is hb with ⟨q, n⟩ | q
    · refine .inl ⟨?_, n⟩
      have hba : b ≠ a := fun z => by
        subst z
        rcases q with q | ⟨o, q⟩ <;> (have := ent _ q; cases this)
      exact q.imp (fun q => by show upd B.H a _ b = _; rw [upd_ne hba]; exact q) fun ⟨o, q⟩ => ⟨o, by show upd B.H a _ b = _; rw [upd_ne hba]; exact q⟩
    · exact .inr q
  refine ⟨scr, fun b u e => ?_, fun b o e n => ?_, s.le, s.nd, s.len, fun n b c e1 e2 => ?_, fun b hb n => ?_, s.slen, s.val, fun i d h => ?_, fun b hb => ?_, s.apart, ⟨s.x.gt, tabs_upd s.x.tabs (fun u e => by rw [h] at e; cases e; exact True.intro), s.x.me⟩⟩
  · by_cases hb : b = a
    · subst hb
      rw [hG] at e
      cases e
      exact .inr ⟨True.intro, od, upd_same⟩
    · rcases s.sub b u e with q | ⟨lk, o, q⟩
      · exact .inl (by rw [upd_ne hb]; exact q)
      · exact .inr ⟨lk, o, by rw [upd_ne hb]; exact q⟩
  · have e' : upd B.H a (.frz od (.dK kvs)) b = some o := e
    by_cases hb : b = a
    · subst hb
      rw [upd_same] at e'
      cases e'
      exact .inl upd_same
    · rw [upd_ne hb] at e'
      rw [upd_ne hb]
      exact s.frame b o e' n
  · have hb : b ≠ a := fun z => nθ (by rw [← z]; exact List.mem_of_getElem? e1)
    obtain ⟨g, o, ob, hh⟩ := s.sto n b c e1 e2
    refine ⟨g, o, ob, ?_⟩
    rw [upd_ne hb]; exact hh
  · have hba : b ≠ a := fun z => nθ (by rw [← z]; exact hb)
    show upd B.H a _ b = none
    rw [upd_ne hba]
    exact s.fresh b hb n
  · obtain ⟨b, o, g1, g2, g3, g4, g5, g6⟩ := s.own i d h
    have hba := gne g4
    refine ⟨b, o, g1, by rw [upd_ne hba]; exact g2, g3, g4, g5, ?_⟩
    show upd B.H a _ b = none
    rw [upd_ne hba]
    exact g6
  · obtain ⟨g, ⟨o, q⟩, t⟩ := s.prot b hb
    refine ⟨g, ⟨o, ?_⟩, t⟩
    show upd B.H a _ b = some o
    rw [upd_ne (gne g)]
    exact q
/-- the lock was there -/
theorem Sim.lock0 (s : Sim T B G θ σ H ρ S) (hG : G a = some (.dK kvs)) (h : H a = some (.frz od (.dK kvs))) : Sim T (B.lockAt a od kvs) G θ σ H ρ S ∧ ∀ o, B.H a = some o → o = .frz od (.dK kvs) := by
  have nθ := s.settled hG
  have ent : ∀ o, B.H a = some o → o = .frz od (.dK kvs) := fun o e => by
    rcases s.frame a o e (fun z => nθ (s.le.mem z)) with q | ⟨ps, ps', _, q⟩
    · rw [h] at q; exact (Option.some.inj q).symm
    · rw [h] at q; cases q
  have gne : ∀ {b : Addr}, G b = none → b ≠ a := fun {b} e z => by rw [z, hG] at e; cases e
  have scr : ScrOk T (B.lockAt a od kvs).H (B.lockAt a od kvs).θ := fun b is hb => by
    rcases s.scr b is hb with ⟨q, n⟩ | q
    · refine .inl ⟨?_, n⟩
      have hba : b ≠ a := fun z => by
        subst z
        rcases q with q | ⟨o, q⟩ <;> (have := ent _ q; cases this)
      exact q.imp (fun q => by show upd B.H a _ b = _; rw [upd_ne hba]; exact q) fun ⟨o, q⟩ => ⟨o, by show upd B.H a _ b = _; rw [upd_ne hba]; exact q⟩
    · exact .inr q
  refine ⟨⟨scr, s.sub, fun b o e n => ?_, s.le, s.nd, s.len, s.sto, fun b hb n => ?_, s.slen, s.val, fun i d h => ?_, fun b hb => ?_, s.apart, ⟨s.x.gt, s.x.tabs, s.x.me⟩⟩, ent⟩
  · have e' : upd B.H a (.frz od (.dK kvs)) b = some o := e
    by_cases hb : b = a
    · subst hb
      rw [upd_same] at e'
      cases e'
      exact .inl h
    · rw [upd_ne hb] at e'
      exact s.frame b o e' n
  · have hba : b ≠ a := fun z => nθ (by rw [← z]; exact hb)
    show upd B.H a _ b = none
    rw [upd_ne hba]
    exact s.fresh b hb n
  · obtain ⟨b, o, g1, g2, g3, g4, g5, g6⟩ := s.own i d h
    refine ⟨b, o, g1, g2, g3, g4, g5, ?_⟩
    show upd B.H a _ b = none
    rw [upd_ne (gne g4)]
    exact g6
  · obtain ⟨g, ⟨o, q⟩, t⟩ := s.prot b hb
    refine ⟨g, ⟨o, ?_⟩, t⟩
    show upd B.H a _ b = some o
    rw [upd_ne (gne g)]
    exact q
theorem upd_id {H : Hp} {a : Addr} {o : HO} (h : H a = some o) : upd H a o = H := by
  funext b
  by_cases hb : b = a
  · rw [hb, upd_same, h]
  · rw [upd_ne hb]
/-- the lock goes, or stays as it was: the record is u behind it -/
theorem Sim.unlock {u : HO} (s : Sim T (B.lockAt a od kvs) G θ σ H ρ S) (hu : u = .dK kvs ∨ u = .frz od (.dK kvs)) (hG : G a = some (.dK kvs)) (ent : ∀ o, B.H a = some o → o = u) (hs : ScrOk T B.H B.θ) : Sim T B G θ σ (upd H a u) ρ S ∧ H a = some (.frz od (.dK kvs)) := by
  have nθ := s.settled hG
  have at_ : H a = some (.frz od (.dK kvs)) := (s.frame a _ upd_same (fun z => nθ (s.le.mem z))).nt True.intro
  have gne : ∀ {b : Addr}, G b = none → b ≠ a := fun {b} e z => by rw [z, hG] at e; cases e
  have back : ∀ {b : Addr}, b ≠ a → (B.lockAt a od kvs).H b = B.H b := fun {b} hb => by show upd B.H a _ b = _; rw [upd_ne hb]
  refine ⟨⟨hs, fun b u e => ?_, fun b o e n => ?_, s.le, s.nd, s.len, fun n b c e1 e2 => ?_, fun b hb n => ?_, s.slen, s.val, fun i d h => ?_, fun b hb => ?_, s.apart, ⟨s.x.gt, tabs_upd s.x.tabs (fun u e => by rw [at_] at e; cases e; exact True.intro), s.x.me⟩⟩, at_⟩
  · by_cases hb : b = a
    · subst hb
      rw [hG] at e
      cases e
      rcases hu with hu | hu
      · exact .inl (by rw [upd_same, hu])
      · exact .inr ⟨True.intro, od, by rw [upd_same, hu]⟩
    · rcases s.sub b u e with q | ⟨lk, o, q⟩
      · exact .inl (by rw [upd_ne hb]; exact q)
      · exact .inr ⟨lk, o, by rw [upd_ne hb]; exact q⟩
  · by_cases hb : b = a
    · subst hb
      rw [ent o e]
      exact .inl upd_same
    · rw [upd_ne hb]
      exact s.frame b o (by rw [back hb]; exact e) n
  · have hb : b ≠ a := fun z => nθ (by rw [← z]; exact List.mem_of_getElem? e1)
    obtain ⟨g, o, ob, hh⟩ := s.sto n b c e1 e2
    refine ⟨g, o, ob, ?_⟩
    rw [upd_ne hb]; exact hh
  · have hba : b ≠ a := fun z => nθ (by rw [← z]; exact hb)
    rw [← back hba]
    exact s.fresh b hb n
  · obtain ⟨b, o, g1, g2, g3, g4, g5, g6⟩ := s.own i d h
    have hba := gne g4
    exact ⟨b, o, g1, by rw [upd_ne hba]; exact g2, g3, g4, g5, by rw [← back hba]; exact g6⟩
  · obtain ⟨g, ⟨o, q⟩, t⟩ := s.prot b hb
    exact ⟨g, ⟨o, by rw [← back (gne g)]; exact q⟩, t⟩
/-- a statement's run, under the lock -/
theorem RunS.lock {m : Mo Fl} {Dn : Ends} {u : HO} (hu : u = .dK kvs ∨ u = .frz od (.dK kvs)) (hG : G a = some (.dK kvs)) (ent : ∀ o, B.H a = some o → o = u) (hs : ScrOk T B.H B.θ) (r : RunS T B W (noex m) G θ ρ S fun fl G' θ' σ' H' _ _ => EndOk T Dn fl G' θ' σ' H') :
    RunS T (B.lockAt a od kvs) W m G θ ρ S fun fl G' θ' σ' H' _ _ => EndOk T ⟨fun σ' H' => H' a = some (.frz od (.dK kvs)) ∧ Dn.nx σ' (upd H' a u), fun v H' => H' a = some (.frz od (.dK kvs)) ∧ Dn.rt v (upd H' a u), fun σ' H' => H' a = some (.frz od (.dK kvs)) ∧ Dn.bk σ' (upd H' a u), fun σ' H' => H' a = some (.frz od (.dK kvs)) ∧ Dn.ct σ' (upd H' a u)⟩ fl G' θ' σ' H' := by
  unfold RunS noex at r
  unfold RunS
  cases e : m ρ S with
  | ok fl ρ' S' =>
    rw [e] at r
    intro G' θ' σ' H' l t s
    obtain ⟨s1, h1⟩ := s.unlock hu (l _ _ hG) ent hs
    have q := r G' θ' σ' _ l t s1
    cases fl with
    | nx => exact ⟨h1, q⟩
    | bk => exact ⟨h1, q⟩
    | ct => exact ⟨h1, q⟩
    | ret d => exact fun v rv => ⟨h1, q v rv⟩
  | ex c fs ρ' S' => rw [e] at r; exact r.elim
  | bad => rw [e] at r; exact r
/-- a comprehension's run, under the lock -/
theorem Run.lock {α : Type} {m : Mo (List α)} {f : List α → D} {vs : List Nat} {u : HO} (hu : u = .dK kvs ∨ u = .frz od (.dK kvs)) (hG : G a = some (.dK kvs)) (ent : ∀ o, B.H a = some o → o = u) (hs : ScrOk T B.H B.θ) {Q : VK} (r : Run T B W (inBlk vs m >>= fun r => Pure.pure (D.nw (f r))) G θ σ ρ S (PV T B σ Q)) :
    Run T (B.lockAt a od kvs) W (inBlk vs m >>= fun r => Pure.pure (D.nw (f r))) G θ σ ρ S (PV T (B.lockAt a od kvs) σ fun v H' => H' a = some (.frz od (.dK kvs)) ∧ Q v (upd H' a u)) := by
  unfold Run at r ⊢
  rw [bind_def] at r ⊢
  cases e : inBlk vs m ρ S with
  | ok x ρ' S' =>
    rw [e] at r
    intro G' θ' H' l t s v tv
    obtain ⟨s1, h1⟩ := s.unlock hu (l _ _ hG) ent hs
    refine ⟨h1, r G' θ' _ l t s1 v ?_⟩
    cases tv with
    | of o => cases o with
      | of r => cases r
    | @nw p o d k1 ob k2 k3 k4 k5 =>
      have hp : p ≠ a := fun z => by rw [z, l _ _ hG] at k2; cases k2
      have k4 : upd B.H a (.frz od (.dK kvs)) p = none := k4
      rw [upd_ne hp] at k4
      exact .nw (by rw [upd_ne hp]; exact k1) ob k2 k3 k4 k5
  | ex c fs ρ' S' =>
    exfalso
    unfold inBlk at e
    split at e
    · split at e <;> cases e
    · cases e
  | bad => rw [e] at r; exact r
end
/-! ### where the dict stands -/
section
variable {T : Tab} {P : Prov} {defs N : List Str} {sc : Scope} {k : Nat} {X : Cx} {W : L2.WX} {B : Base} {e tg : Expr} {G : Hp} {θ : List Addr} {σ : L2.St} {H : Hp} {ρ : Rho} {S : Sto}
/-- the dict of the place is at a -/
def PAt (X : Cx) (σ : L2.St) (H : Hp) : Pa → Addr → Prop
  | .v i, a => σ[i]? = some (some (.ref a))
  | .f i x, a => ∃ b A dx fs, σ[i]? = some (some (.ref b)) ∧ H b = some (.ins A dx fs) ∧ Cls X.K A ∧ NoAttr X.K A x ∧ fs.lookup x = some (.ref a)
theorem Sim.path (C : Ctx T P defs N sc k X W) (s : Sim T B G θ σ H ρ S) {p : Pa} {kds : List (Key × D)} (h : paD P ρ S p = some kds) : ∃ a kvs, PAt X σ H p a ∧ G a = some (.dK kvs) ∧ kvs.map (·.1) = kds.map (·.1) ∧ RepL T G θ (kvs.map (·.2)) (kds.map (·.2)) := by
  have dct : ∀ {d : D} {v : V}, dctOf d = some kds → Rep T G θ v d → ∃ a kvs, v = .ref a ∧ G a = some (.dK kvs) ∧ kvs.map (·.1) = kds.map (·.1) ∧ RepL T G θ (kvs.map (·.2)) (kds.map (·.2)) := fun {d v} hd r => by
    unfold dctOf at hd
    split at hd
    · cases hd
      cases r with
      | dct g1 g2 g3 => exact ⟨_, _, rfl, g1, g2, g3⟩
    · cases hd
  cases p with
  | v i =>
    simp only [paD] at h
    split at h
    · rename_i d hd
      obtain ⟨v, h1, h2⟩ := s.val i d hd
      obtain ⟨a, kvs, rfl, g⟩ := dct h h2
      exact ⟨a, kvs, h1, g⟩
    · cases h
  | f i x =>
    simp only [paD] at h
    split at h
    · rename_i d hd
      obtain ⟨c, hc, h⟩ := Option.bind_eq_some_iff.mp h
      obtain ⟨d', ha, h5⟩ := Option.bind_eq_some_iff.mp h
      obtain ⟨v, h1, h2⟩ := s.val i d hd
      have vx := s.viewS h2 hc
      unfold attrD at ha
      split at ha
      · split at ha
        · rename_i hf
          obtain ⟨b, A, dx, fs, rfl, k1, k2, k3, k4⟩ := vx.ins s.sub
          obtain ⟨w, l1, l2⟩ := lookup_rep k3 k4 ha
          obtain ⟨c1, c2⟩ := C.w0.fld _ A x k2 hf
          obtain ⟨a, kvs, rfl, g⟩ := dct h5 l2
          exact ⟨a, kvs, ⟨b, A, dx, fs, h1, k1, c1, c2, l1⟩, g⟩
        · cases ha
      · cases ha
    · cases h
theorem PAt.lock {p : Pa} {a c : Addr} {u : HO} (h : PAt X σ H p a) (hc : H c = some u) (hu : ∀ A dx fs, u ≠ .ins A dx fs) {o : HO} : PAt X σ (upd H c o) p a := by
  cases p with
  | v i => exact h
  | f i x =>
    obtain ⟨b, A, dx, fs, h1, h2, r⟩ := h
    refine ⟨b, A, dx, fs, h1, ?_, r⟩
    rw [upd_ne (fun z => hu A dx fs (by rw [z, hc] at h2; exact Option.some.inj h2))]
    exact h2
theorem pe_pa (C : Ctx T P defs N sc k X W) {p : Pa} (h : isPa N sc p e = true) : PE X e (fun σ H Q => ∃ a, PAt X σ H p a ∧ Q (.ref a) H) := by
  have nm : ∀ {i : Nat} {e : Expr}, (match xName e with
      | some x => decide (N[i]? = some x) && vis sc x
      | none => false) = true → PE X e (fun σ H Q => ∃ v, σ[i]? = some (some v) ∧ Q v H) := fun {i e} h => by
    split at h
    · rename_i x hx
      obtain ⟨pos, rfl⟩ := xName_ok hx
      simp only [Bool.and_eq_true, decide_eq_true_eq] at h
      obtain ⟨v1, v2, v3⟩ := vis_ok h.2
      exact pe_var (i := i) (by rw [C.eN]; exact h.1) (by rw [C.es]; exact v1) v2 v3
    · cases h
  cases p with
  | v i =>
    simp only [isPa] at h
    exact PE.imp (nm h) fun σ H Q ⟨a, h1, q⟩ => ⟨.ref a, h1, q⟩
  | f i f =>
    cases e with
    | Attribute aa g ps =>
      simp only [isPa, Bool.and_eq_true, decide_eq_true_eq] at h
      obtain ⟨⟨h1, h2⟩, h3⟩ := h
      subst h1
      exact PE.imp (pe_fld (nm h3) (base_ok h2)) fun σ H Q ⟨a, ⟨b, A, dx, fs, k1, k2, k3, k4, k5⟩, q⟩ => ⟨.ref b, k1, b, A, dx, fs, _, rfl, k2, k3, k4, k5, q⟩
    | _ => simp [isPa] at h
/-- what walks the dict at a -/
def ItOf (a : Addr) (o : Obj) (kvs : List (Key × V)) : DK → It
  | .keys => Itk a o kvs
  | .items => Iti a o kvs
def tDI (X : Cx) (p : Pa) (dk : DK) : TI := fun σ H R => ∃ a o kvs, PAt X σ H p a ∧ H a = some (.frz o (.dK kvs)) ∧ R (ItOf a o kvs dk) H
theorem pi_dk (C : Ctx T P defs N sc k X W) {p : Pa} {dk : DK} (h : isDI N sc p tg e dk = true) : PI X tg e (tDI X p dk) := by
  cases dk with
  | keys =>
    simp only [isDI, Bool.and_eq_true] at h
    exact PI.imp (pi_keys (pe_pa C h.2)) fun σ H R ⟨a, o, kvs, h1, h2, q⟩ => ⟨a, h1, a, o, rfl, .inl ⟨kvs, h2, q⟩⟩
  | items =>
    simp only [isDI] at h
    split at h
    · rename_i o ho
      obtain ⟨ap, pos, rfl, hl, hb⟩ := xItems_ok ho
      simp only [Bool.and_eq_true] at h
      obtain ⟨es, he⟩ := Option.isSome_iff_exists.mp h.2
      obtain ⟨j, tp, rfl⟩ := xTup_ok he
      exact PI.imp (pi_items (pe_pa C h.1) (base_ok hb) hl) fun σ H R ⟨a, o, kvs, h1, h2, q⟩ => ⟨a, h1, a, o, kvs, rfl, h2, q⟩
    · cases h
theorem keyV_rep {k : Key} : Rep T G θ (kV k) (keyD k) := by
  cases k with
  | inl i => exact .int i
  | inr x => exact .str x
theorem kv_at : ∀ {kvs : List (Key × V)} {kds : List (Key × D)} {i : Nat} {k : Key} {v : V}, kvs.map (·.1) = kds.map (·.1) → RepL T G θ (kvs.map (·.2)) (kds.map (·.2)) → kvs[i]? = some (k, v) → ∃ d, kds[i]? = some (k, d) ∧ Rep T G θ v d
  | [], _, _, _, _, _, _, h => by simp at h
  | _ :: _, [], _, _, _, e, _, _ => by cases e
  | (k1, v1) :: kvs, (k2, d2) :: kds, 0, k, v, e, r, h => by
    simp only [List.getElem?_cons_zero, Option.some.injEq, Prod.mk.injEq] at h
    obtain ⟨rfl, rfl⟩ := h
    have e1 : k1 = k2 := (List.cons.inj e).1
    subst e1
    cases r with
    | cons r1 r2 => exact ⟨d2, rfl, r1⟩
  | (k1, v1) :: kvs, (k2, d2) :: kds, i + 1, k, v, e, r, h => by
    cases r with
    | cons r1 r2 => exact kv_at (kvs := kvs) (kds := kds) (i := i) (List.cons.inj e).2 r2 h
theorem wlk_dk {a : Addr} {o : Obj} {kvs : List (Key × V)} {kds : List (Key × D)} {dk : DK} (e : kvs.map (·.1) = kds.map (·.1)) (r : RepL T G θ (kvs.map (·.2)) (kds.map (·.2))) : Wlk T G θ (fun H => H a = some (.frz o (.dK kvs))) (ItOf a o kvs dk) (.fix (dsrc dk kds)) := fun B G' θ' σ H ρ S l t s hL i => by
  have len : kvs.length = kds.length := by simpa using congrArg List.length e
  cases dk with
  | keys =>
    have len2 : (dsrc .keys kds).length = kds.length := by unfold dsrc; simp
    rw [len2]
    refine ⟨fun hi => ⟨⟨hL, by omega⟩, fun x H2 hy => ?_⟩, fun hi => ⟨hL, by omega⟩⟩
    obtain ⟨rfl, k, v, hk, rfl⟩ := hy
    obtain ⟨d, hd, _⟩ := kv_at e r hk
    exact ⟨G', _, Le.refl _, s, by unfold dsrc; rw [List.getElem?_map, hd]; rfl, keyV_rep⟩
  | items =>
    have len2 : (dsrc .items kds).length = kds.length := by unfold dsrc; simp
    rw [len2]
    refine ⟨fun hi => ⟨⟨hL, by omega⟩, fun x H2 hy => ?_⟩, fun hi => ⟨hL, by omega⟩⟩
    obtain ⟨q, k, v, hk, rfl, hq, rfl⟩ := hy
    obtain ⟨d, hd, rv⟩ := kv_at e r hk
    obtain ⟨l2, s2⟩ := s.alloc (o := .tup [kV k, v]) True.intro hq
    exact ⟨_, _, l2, s2, by unfold dsrc; rw [List.getElem?_map, hd]; rfl, .tup upd_same (.cons keyV_rep (.cons ((rv.mono l t).mono l2 (Lt.refl _)) .nil))⟩
/-! ### the comprehension of a list over a dict -/
variable {vs : List Nat}
theorem paM_run {α : Type} {f : List (Key × D) → Mo α} {p : Pa} {Z : α → Hp → List Addr → Hp → Rho → Sto → Prop} (r : Run T B W (paM P p >>= f) G θ σ ρ S Z) : ∃ kds, paD P ρ S p = some kds ∧ Run T B W (f kds) G θ σ ρ S Z := by
  unfold Run paM at r
  rw [bind_def] at r
  cases e : paD P ρ S p with
  | none => rw [e] at r; exact r.elim
  | some kds => rw [e] at r; exact ⟨kds, rfl, r⟩
theorem paM_runS {α : Type} {f : List (Key × D) → Mo α} {p : Pa} {Z : α → Hp → List Addr → L2.St → Hp → Rho → Sto → Prop} (r : RunS T B W (paM P p >>= f) G θ ρ S Z) : ∃ kds, paD P ρ S p = some kds ∧ RunS T B W (f kds) G θ ρ S Z := by
  unfold RunS paM at r
  rw [bind_def] at r
  cases e : paD P ρ S p with
  | none => rw [e] at r; exact r.elim
  | some kds => rw [e] at r; exact ⟨kds, rfl, r⟩
theorem locked {a : Addr} {od : Obj} {kvs : List (Key × V)} (hθ : a ∉ B.θ) {G : Hp} {θ : List Addr} {σ : L2.St} {H : Hp} {ρ : Rho} {S : Sto} (s : Sim T (B.lockAt a od kvs) G θ σ H ρ S) : H a = some (.frz od (.dK kvs)) := (s.frame a _ upd_same hθ).nt True.intro
/-- what the parts of a comprehension over a place's dict are to keep -/
structure LdOk (T : Tab) (P : Prov) (defs N : List Str) (k : Nat) (sc scope : Scope) (own : List Nat) (g : TM.G) (p : Pa) (dk : DK) (t : Mo Bool) (tg iter : Expr) (ifs : List Expr) : Prop where
  it : okE iter = true
  blk : blkC N sc scope (own.map fun i => (N.getD i Str.empty, i)) = true
  di : isDI N sc p tg iter dk = true
  tg : isG N (locL (relS scope sc)) g tg = true
  gin : gIn own g = true
  ts : ∀ (X' : Cx) (B' : Base), Ctx T P defs N (relS scope sc) k X' Wf → PTs X' ifs (liftT T B' Wf t)
theorem q_lcd (C : Ctx T P defs N sc k X W) {scope : Scope} {own : List Nat} {g : TM.G} {p : Pa} {dk : DK} {t : Mo Bool} {m : Mo D} {elt tg iter : Expr} {ifs : List Expr} {pos : Pos} (h : LdOk T P defs N k sc scope own g p dk t tg iter ifs)
    (helt : ∀ (X' : Cx) (B' : Base), Ctx T P defs N (relS scope sc) k X' Wf → PE X' elt (liftE T B' Wf m)) : PE X (.ListComp elt [⟨tg, iter, ifs, 0⟩] scope pos) (liftE T B W (mLcD P own g dk p t m)) := by
  have base := pe_lc (pos := pos) C.calm (by rw [C.eN]; exact C.nd) (pi_dk C h.di) (by rw [C.eN, C.es]; exact blkOk_by h.blk)
    (fun s H A cl fp => pg_any fun B' => sG' (B := B') g (C.blk s H A cl fp) (stor_blk C s H A cl fp) h.tg) (fun s H A cl fp => pts_any fun B' => h.ts _ B' (C.blk s H A cl fp)) (fun s H A cl fp => pe_anyL fun B' => pe_P (helt _ B' (C.blk s H A cl fp)))
    (fun x => by have := h.it; cases iter <;> first | rfl | cases this)
  rw [map_snd] at base
  refine ⟨fun pins st σ H Q I ⟨G, θ, ρ, S, s, r⟩ => ?_⟩
  obtain ⟨kds, hp, r1⟩ := paM_run r
  obtain ⟨a, kvs, pa, hG, hk, rl⟩ := s.path C hp
  have nθ : a ∉ B.θ := fun z => s.settled hG (s.le.mem z)
  rcases s.sub a _ hG with hh | ⟨_, od, hh⟩
  · refine (pe_lock base).run pins st σ H Q I ⟨a, .dK kvs, hh, True.intro, fun od => ?_⟩
    exact ⟨a, od, kvs, pa.lock hh (fun _ _ _ z => nomatch z), upd_same, lc_src h.gin (s.lock hG hh od) (wlk_dk hk rl) (locked nθ) (Run.lock (.inl rfl) hG (s.entryD hG hh) s.scr r1)⟩
  · obtain ⟨s1, ent⟩ := s.lock0 hG hh
    have q := lc_src h.gin s1 (wlk_dk hk rl) (locked nθ) (Run.lock (.inr rfl) hG ent s.scr r1)
    refine base.run pins st σ H Q I ⟨a, od, kvs, pa, hh, fun A hA => ?_⟩
    obtain ⟨Wl, h0, hw⟩ := q A hA
    exact ⟨Wl, h0, fun i k H hW => (hw i k H hW).imp (fun ⟨a1, b1, c1⟩ => ⟨a1, (upd_id b1) ▸ c1⟩) id⟩
/-! ### the comprehension of a dict -/
structure HldD (T : Tab) (B : Base) (G : Hp) (θ : List Addr) (σ : L2.St) (H : Hp) (ρ : Rho) (D : Addr) (acc : List (Key × V)) (r : List (Key × TM.D)) : Prop where
  at_ : H D = some (.dK acc)
  ks : acc.map (·.1) = r.map (·.1)
  rep : RepL T G θ (acc.map (·.2)) (r.map (·.2))
  g : G D = none
  t : D ∉ θ
  b : B.H D = none
  o : ∀ (i : Nat) (e : TM.D), ρ[i]? = some (.own e) → σ[i]? ≠ some (some (.ref D))
theorem putR {kvs : List (Key × V)} {kds : List (Key × D)} {k : Key} {v : V} {d : D} (e : kvs.map (·.1) = kds.map (·.1)) (r : RepL T G θ (kvs.map (·.2)) (kds.map (·.2))) (rv : Rep T G θ v d) :
    (putK kvs k v).map (·.1) = (putKD kds k d).map (·.1) ∧ RepL T G θ ((putK kvs k v).map (·.2)) ((putKD kds k d).map (·.2)) := by
  have any : ∀ {kvs : List (Key × V)} {kds : List (Key × D)}, kvs.map (·.1) = kds.map (·.1) → (kvs.any fun kv => decide (kv.1 = k)) = (kds.any fun kv => decide (kv.1 = k)) := fun {kvs kds} e => by
    have h1 : (kvs.any fun kv => decide (kv.1 = k)) = ((kvs.map (·.1)).any fun q => decide (q = k)) := by rw [List.any_map]; rfl
    have h2 : (kds.any fun kv => decide (kv.1 = k)) = ((kds.map (·.1)).any fun q => decide (q = k)) := by rw [List.any_map]; rfl
    rw [h1, h2, e]
  have mp : ∀ {kvs : List (Key × V)} {kds : List (Key × D)}, kvs.map (·.1) = kds.map (·.1) → RepL T G θ (kvs.map (·.2)) (kds.map (·.2)) →
      (kvs.map (fun kv => if kv.1 = k then (kv.1, v) else kv)).map (·.1) = (kds.map (fun kv => if kv.1 = k then (kv.1, d) else kv)).map (·.1) ∧ RepL T G θ ((kvs.map (fun kv => if kv.1 = k then (kv.1, v) else kv)).map (·.2)) ((kds.map (fun kv => if kv.1 = k then (kv.1, d) else kv)).map (·.2)) := fun {kvs} => by
    induction kvs with
    | nil => intro kds e r; cases kds with
      | nil => exact ⟨rfl, .nil⟩
      | cons _ _ => cases e
    | cons x kvs ih => intro kds e r; cases kds with
      | nil => cases e
      | cons y kds =>
        obtain ⟨k1, v1⟩ := x
        obtain ⟨k2, d2⟩ := y
        have e1 : k1 = k2 := (List.cons.inj e).1
        subst e1
        cases r with
        | cons r1 r2 =>
          obtain ⟨i1, i2⟩ := ih (List.cons.inj e).2 r2
          simp only [List.map_cons]
          by_cases hq : k1 = k
          · simp only [if_pos hq]
            exact ⟨by rw [i1], .cons rv i2⟩
          · simp only [if_neg hq]
            exact ⟨by rw [i1], .cons r1 i2⟩
  unfold putK putKD
  rw [any e]
  split
  · exact mp e r
  · simp only [List.map_append, List.map_cons, List.map_nil]
    exact ⟨by rw [e], r.append (.cons rv .nil)⟩
theorem dc_turn {g : TM.G} {t : Mo Bool} {mk mv : Mo TM.D} {K : Option (Key × TM.D) → Mo (List (Key × TM.D))} {D : Addr} {acc : List (Key × V)} {r : List (Key × TM.D)} {x : V} {d : TM.D} {rF : List (Key × TM.D)} {ρF : Rho} {SF : Sto} {Nx : Hp → Prop} {Hc : Hp} {Gc : Hp} {σ0 : L2.St}
    (hw : σ = wipe σ0 vs) (hg : gIn vs g = true) (s : Sim T B Gc θ σ Hc ρ S) (h : HldD T B Gc θ σ Hc ρ D acc r) (rx : Rep T Gc θ x d) (hr : (turnB vs (dcTurn (gSet g) t mk mv d) >>= K) ρ S = .ok rF ρF SF) (hz : acc.length < sizeLine)
    (next : ∀ G' θ' H' ρ' S' acc' r', Le Gc G' → Lt θ θ' → Sim T B G' θ' σ H' ρ' S' → HldD T B G' θ' σ H' ρ' D acc' r' → (∃ y, r' = putO r y ∧ K y ρ' S' = .ok rF ρF SF) → Nx H') :
    (∃ B', liftG T B' Wf (gSet g) x σ Hc fun σ2 H2 => Off g σ σ2 → wipe σ2 vs = σ ∧ ∃ B', liftT T B' Wf t σ2 H2 fun b H3 => if b = true then ∃ B', liftP T B' Wf (mk >>= persist) σ2 H3 fun y H4 => ∃ B', liftP T B' Wf (mv >>= persist) σ2 H4 fun z H5 => ∃ acc k, y = kV k ∧ H5 D = some (.dK acc) ∧ acc.length < sizeLine ∧ Nx (upd H5 D (.dK (putK acc k z))) else Nx H3) := by
  have np := s.notPr h.b
  have hh := turn_run (T := T) (G := Gc) (θ := θ) (B.hold D (.dK acc)) hr
  unfold dcTurn at hh
  refine ⟨B.hold D (.dK acc), Gc, θ, ρ, S, d, s.hold h.at_ h.g h.t h.b h.o, rx, hh.bind.imp fun _ G1 θ1 σ1 H1 ρ1 S1 l1 t1 s1 r1 off => ?_⟩
  have w1 : wipe σ1 vs = σ := by
    have q : σ = wipe σ vs := by
      apply List.ext_getElem?
      intro j
      rw [wipe_at, hw, wipe_at]
      by_cases hj : j ∈ vs ∧ j < σ0.length
      · rw [if_pos hj, if_pos ⟨hj.1, by rw [wipe_length]; exact hj.2⟩]
      · rw [if_neg hj, if_neg (fun z => hj ⟨z.1, by rw [wipe_length] at z; exact z.2⟩)]
    rw [off vs hg, ← q]
  refine ⟨w1, B.hold D (.dK acc), G1, θ1, ρ1, S1, s1, r1.runBind.imp fun b G2 θ2 H2 ρ2 S2 l2 t2 s2 r2 => ?_⟩
  have back : ∀ {G3 : Hp} {θ3 : List Addr} {H3 : Hp} {ρ3 : Rho} {S3 : Sto}, Sim T (B.hold D (.dK acc)) G3 θ3 σ1 H3 ρ3 S3 → Le Gc G3 → Lt θ θ3 → Sim T B G3 θ3 σ H3 (wipeR ρ3 vs) S3 ∧ HldD T B G3 θ3 σ H3 (wipeR ρ3 vs) D acc r := fun {G3 θ3 H3 ρ3 S3} s3 l t => by
    obtain ⟨s4, f1, f2, f3, f4⟩ := s3.unhold True.intro h.b np s.scr
    have s5 := s4.wipe vs
    rw [w1] at s5
    refine ⟨s5, f1, h.ks, h.rep.mono l t, f2, f3, h.b, fun i e q z => ?_⟩
    obtain ⟨q1, q2, _⟩ := wipe_of (σ := σ1) q (by simp)
    rw [← w1, q2] at z
    exact f4 i e q1 z
  cases b with
  | false =>
    rw [if_neg (by decide)] at r2
    show Nx H2
    obtain ⟨s3, h3⟩ := back s2 (l1.trans l2) (t1.trans t2)
    exact next _ _ _ _ _ _ _ (l1.trans l2) (t1.trans t2) s3 h3 ⟨none, rfl, RunS.pure' r2 s2⟩
  | true =>
    rw [if_pos rfl] at r2
    show (if true = true then _ else Nx H2)
    rw [if_pos rfl]
    refine ⟨B.hold D (.dK acc), G2, θ2, ρ2, S2, s2, r2.runBind.imp fun y G3 θ3 H3 ρ3 S3 l3 t3 s3 r3 v rv => ?_⟩
    have r3 : RunS T (B.hold D (.dK acc)) Wf (ofO (asKey y) >>= _) G3 θ3 ρ3 S3 _ := r3
    cases hk : asKey y with
    | none => rw [hk] at r3; exact r3.elim
    | some k =>
      rw [hk] at r3
      have r4 : RunS T (B.hold D (.dK acc)) Wf ((mv >>= persist) >>= fun z => Pure.pure (some (k, z))) G3 θ3 ρ3 S3 _ := r3
      have ev : v = kV k := by
        unfold asKey at hk
        split at hk
        · cases hk; cases rv; rfl
        · cases hk; cases rv; rfl
        · cases hk
      refine ⟨B.hold D (.dK acc), G3, θ3, ρ3, S3, s3, r4.runBind.imp fun z G4 θ4 H4 ρ4 S4 l4 t4 s4 r5 w rw' => ?_⟩
      obtain ⟨s5, h5⟩ := back s4 (l1.trans (l2.trans (l3.trans l4))) (t1.trans (t2.trans (t3.trans t4)))
      have r6 := RunS.pure' r5 s4
      refine ⟨acc, k, ev, h5.at_, hz, ?_⟩
      have s6 := s5.other (u := .dK (putK acc k w)) (fun u e => by rw [h5.at_] at e; cases e; exact True.intro) h5.g h5.t h5.b h5.o
      obtain ⟨p1, p2⟩ := putR (k := k) h5.ks h5.rep rw'
      exact next _ _ _ _ _ _ _ (l1.trans (l2.trans (l3.trans l4))) (t1.trans (t2.trans (t3.trans t4))) s6 ⟨upd_same, p1, p2, h5.g, h5.t, h5.b, h5.o⟩ ⟨some (k, z), rfl, r6⟩
theorem HldD.turn {D : Addr} {acc : List (Key × V)} {r : List (Key × TM.D)} {G2 : Hp} {H2 : Hp} (h : HldD T B G θ σ H ρ D acc r) (s : Sim T B G θ σ H ρ S) (s2 : Sim T (B.hold D (.dK acc)) G2 θ σ H2 ρ S) (l : Le G G2) : Sim T B G2 θ σ H2 ρ S ∧ HldD T B G2 θ σ H2 ρ D acc r := by
  obtain ⟨s4, f1, f2, f3, f4⟩ := s2.unhold True.intro h.b (s.notPr h.b) s.scr
  exact ⟨s4, f1, h.ks, h.rep.mono l (Lt.refl _), f2, f3, h.b, f4⟩
/-- the walk of a dict comprehension over a fixed source, read -/
theorem dc_src {vs : List Nat} {tg : TM.G} {t : Mo Bool} {mk mv : Mo D} {ds : List D} {J : It} {L : Hp → Prop} {G0 : Hp} {θ0 : List Addr} {H0 : Hp} {ρ0 : Rho} {S0 : Sto} (hg : gIn vs tg = true) {Q : VK} (s0 : Sim T B G0 θ0 σ H0 ρ0 S0) (w : Wlk T G0 θ0 L J (.fix ds))
    (hL : ∀ {G : Hp} {θ : List Addr} {σ : L2.St} {H : Hp} {ρ : Rho} {S : Sto}, Sim T B G θ σ H ρ S → L H) (r0 : Run T B W (dcRun vs tg t mk mv ds) G0 θ0 σ ρ0 S0 (PV T B σ Q)) : ∀ A, H0 A = none → ∃ Wl : Nat → Nat → Hp → Prop, (∃ m, Wl 0 m (upd H0 A (.dK []))) ∧ ∀ i k H, Wl i k H →
      (J.stop i H ∧ Q (.ref A) H) ∨ (J.go i H ∧ ∃ Nx : Hp → Prop, (∀ H', Nx H' → ∃ m', m' < k ∧ Wl (i + 1) m' H') ∧ ∀ x H', J.yld i H x H' → (fun v σ H Q => ∃ B', liftG T B' Wf (gSet tg) v σ H fun σ' H' => Off tg σ σ' → Q σ' H') x (L2.wipe σ vs) H' fun σ2 H2 => L2.wipe σ2 vs = L2.wipe σ vs ∧ (fun σ H Q => ∃ B', liftT T B' Wf t σ H Q) σ2 H2 fun b H3 =>
        if b = true then (fun σ H Q => ∃ B', liftP T B' Wf (mk >>= persist) σ H Q) σ2 H3 fun y H4 => (fun σ H Q => ∃ B', liftP T B' Wf (mv >>= persist) σ H Q) σ2 H4 fun z H5 => ∃ kvs k, y = kV k ∧ H5 A = some (.dK kvs) ∧ kvs.length < sizeLine ∧ Nx (upd H5 A (.dK (putK kvs k z))) else Nx H3) := by
  intro A hA
  unfold dcRun at r0
  obtain ⟨rF, ρF, SF, e, hfit, r1⟩ := inBlk_ok r0
  have sA0 : Sim T B G0 θ0 σ (upd H0 A (.dK [])) ρ0 S0 := s0.laid hA
  obtain ⟨nG, nθ, nB, nO⟩ := s0.newFree hA
  have sA := sA0.wipe vs
  have hld : HldD T B G0 θ0 (L2.wipe σ vs) (upd H0 A (.dK [])) (wipeR ρ0 vs) A [] [] := ⟨upd_same, rfl, .nil, nG, nθ, nB, fun i e q z => by
    obtain ⟨q1, q2, _⟩ := wipe_of (σ := σ) q (by simp)
    rw [q2] at z
    exact nO i e q1 z⟩
  have fin' : ∀ {G1 : Hp} {θ1 : List Addr} {H1 : Hp} {acc : List (Key × V)}, Le G0 G1 → Lt θ0 θ1 → Sim T B G1 θ1 (L2.wipe σ vs) H1 ρF SF → HldD T B G1 θ1 (L2.wipe σ vs) H1 ρF A acc rF → Q (.ref A) H1 := fun {G1 θ1 H1 acc} l1 t1 s1 h1 => by
    have s2 := s0.backs s1 l1 t1
    refine r1 G1 θ1 H1 l1 t1 s2 (.ref A) (.nw h1.at_ (.dct h1.ks h1.rep) h1.g h1.t h1.b fun i e q z => ?_)
    have q' := q
    rw [backR_at] at q'
    by_cases hi : i ∈ vs ∧ i < ρF.length
    · rw [if_pos hi] at q'
      have q' := Option.some.inj q'
      unfold keepSl at q'
      split at q' <;> cases q'
    · rw [if_neg hi] at q'
      have hl := (List.getElem?_eq_some_iff.mp q').1
      refine h1.o i e q' ?_
      rw [wipe_out fun z => hi ⟨z, hl⟩]
      exact z
  refine ⟨fun i k H1 => k = ds.length - i ∧ i ≤ ds.length ∧ ∃ G1 θ1 ρ1 S1 acc r, Le G0 G1 ∧ Lt θ0 θ1 ∧ Sim T B G1 θ1 (L2.wipe σ vs) H1 ρ1 S1 ∧ HldD T B G1 θ1 (L2.wipe σ vs) H1 ρ1 A acc r ∧ dcFix (fun d => turnB vs (dcTurn (gSet tg) t mk mv d)) (ds.drop i) r ρ1 S1 = .ok rF ρF SF,
    ⟨_, rfl, Nat.zero_le _, G0, θ0, _, S0, [], [], Le.refl _, Lt.refl _, sA, hld, e⟩, fun i k H1 hw => ?_⟩
  obtain ⟨rfl, hi, G1, θ1, ρ1, S1, acc, r, l1, t1, s1, h1, e1⟩ := hw
  obtain ⟨wg, wd⟩ := w (B.hold A (.dK acc)) G1 θ1 (L2.wipe σ vs) H1 ρ1 S1 l1 t1 (s1.hold h1.at_ h1.g h1.t h1.b h1.o) (hL s1) i
  by_cases hl : i < ds.length
  · obtain ⟨go, yl⟩ := wg hl
    refine .inr ⟨go, fun H' => i + 1 ≤ ds.length ∧ ∃ G1 θ1 ρ1 S1 acc r, Le G0 G1 ∧ Lt θ0 θ1 ∧ Sim T B G1 θ1 (L2.wipe σ vs) H' ρ1 S1 ∧ HldD T B G1 θ1 (L2.wipe σ vs) H' ρ1 A acc r ∧ dcFix (fun d => turnB vs (dcTurn (gSet tg) t mk mv d)) (ds.drop (i + 1)) r ρ1 S1 = .ok rF ρF SF,
      fun H' q => ⟨ds.length - (i + 1), by omega, rfl, q⟩, fun x H2 hy => ?_⟩
    obtain ⟨G2, d, l2, s2, hd, rp⟩ := yl x H2 hy
    obtain ⟨s3, h3⟩ := h1.turn s1 s2 l2
    rw [List.drop_eq_getElem_cons hl] at e1
    have ed : ds[i] = d := by rw [List.getElem?_eq_getElem hl] at hd; exact Option.some.inj hd
    rw [ed] at e1
    unfold dcFix at e1
    by_cases hz : r.length < 16777216
    · rw [if_pos hz] at e1
      have hzA : acc.length < sizeLine := by
        have := congrArg List.length h1.ks
        simp only [List.length_map] at this
        rw [sizeLine_eq, this]
        exact hz
      exact dc_turn rfl hg s3 h3 rp e1 hzA fun G' θ' H' ρ' S' acc' r' l' t' s' h' ⟨y, ey, q⟩ => ⟨hl, G', θ', ρ', S', acc', r', l1.trans (l2.trans l'), t1.trans t', s', h', by rw [ey]; exact q⟩
    · rw [if_neg hz] at e1
      cases e1
  · have : i = ds.length := by omega
    subst this
    rw [List.drop_length] at e1
    unfold dcFix at e1
    split at e1
    · cases e1
      exact .inl ⟨wd (Nat.le_refl _), fin' l1 t1 s1 h1⟩
    · cases e1
theorem q_dcKey {vs : List Nat} {tg : TM.G} {mi : Mo Src} {t : Mo Bool} {mk mv : Mo D} (hg : gIn vs tg = true) {Q : VK} (h : liftE T B W (mDc vs tg mi t mk mv) σ H Q) :
    tDc (liftI T B W mi) (fun v σ H Q => ∃ B', liftG T B' Wf (gSet tg) v σ H fun σ' H' => Off tg σ σ' → Q σ' H') (fun σ H Q => ∃ B', liftT T B' Wf t σ H Q) (fun σ H Q => ∃ B', liftP T B' Wf (mk >>= persist) σ H Q) (fun σ H Q => ∃ B', liftP T B' Wf (mv >>= persist) σ H Q) vs σ H Q := by
  obtain ⟨G, θ, ρ, S, s, r⟩ := h
  refine ⟨G, θ, ρ, S, s, r.bind.imp fun src G0 θ0 H0 ρ0 S0 l0 t0 s0 r0 J w => ?_⟩
  cases src with
  | fix ds => exact dc_src hg s0 w (fun _ => True.intro) r0
  | dyn n => exact r0.elim
theorem q_dc (C : Ctx T P defs N sc k X W) {scope : Scope} {own : List Nat} {g : TM.G} {mi : Mo Src} {t : Mo Bool} {mk mv : Mo D} {kx vx tg iter : Expr} {ifs : List Expr} {pos : Pos} (h : LcOk T P defs N k X sc scope own g mi t mk W B kx tg iter ifs)
    (hv : ∀ (X' : Cx) (B' : Base), Ctx T P defs N (relS scope sc) k X' Wf → PE X' vx (liftE T B' Wf mv)) : PE X (.DictComp kx vx [⟨tg, iter, ifs, 0⟩] scope pos) (liftE T B W (mDc own g mi t mk mv)) := by
  refine PE.imp (pe_dc C.calm (by rw [C.eN]; exact C.nd) h.pi (by rw [C.eN, C.es]; exact blkOk_by h.blk)
    (fun s H A cl fp => pg_any fun B' => sG' (B := B') g (C.blk s H A cl fp) (stor_blk C s H A cl fp) h.tg) (fun s H A cl fp => pts_any fun B' => h.ts _ B' (C.blk s H A cl fp)) (fun s H A cl fp => pe_anyL fun B' => pe_P (h.elt _ B' (C.blk s H A cl fp))) (fun s H A cl fp => pe_anyL fun B' => pe_P (hv _ B' (C.blk s H A cl fp)))
    (fun x => by have := h.it; cases iter <;> first | rfl | cases this)) fun σ H Q q => ?_
  rw [map_snd]
  exact q_dcKey h.gin q
theorem q_dcdB (C : Ctx T P defs N sc k X W) {own : List Nat} {g : TM.G} {p : Pa} {dk : DK} {t : Mo Bool} {mk mv : Mo D} {e : Expr} (hg : gIn own g = true)
    (base : PE X e (tDc (tDI X p dk) (fun v σ H Q => ∃ B', liftG T B' Wf (gSet g) v σ H fun σ' H' => Off g σ σ' → Q σ' H') (fun σ H Q => ∃ B', liftT T B' Wf t σ H Q) (fun σ H Q => ∃ B', liftP T B' Wf (mk >>= persist) σ H Q) (fun σ H Q => ∃ B', liftP T B' Wf (mv >>= persist) σ H Q) own)) :
    PE X e (liftE T B W (mDcD P own g dk p t mk mv)) := by
  refine ⟨fun pins st σ H Q I ⟨G, θ, ρ, S, s, r⟩ => ?_⟩
  obtain ⟨kds, hp, r1⟩ := paM_run r
  obtain ⟨a, kvs, pa, hG, hk, rl⟩ := s.path C hp
  have nθ : a ∉ B.θ := fun z => s.settled hG (s.le.mem z)
  rcases s.sub a _ hG with hh | ⟨_, od, hh⟩
  · refine (pe_lock base).run pins st σ H Q I ⟨a, .dK kvs, hh, True.intro, fun od => ?_⟩
    exact ⟨a, od, kvs, pa.lock hh (fun _ _ _ z => nomatch z), upd_same, dc_src hg (s.lock hG hh od) (wlk_dk hk rl) (locked nθ) (Run.lock (.inl rfl) hG (s.entryD hG hh) s.scr r1)⟩
  · obtain ⟨s1, ent⟩ := s.lock0 hG hh
    have q := dc_src hg s1 (wlk_dk hk rl) (locked nθ) (Run.lock (.inr rfl) hG ent s.scr r1)
    refine base.run pins st σ H Q I ⟨a, od, kvs, pa, hh, fun A hA => ?_⟩
    obtain ⟨Wl, h0, hw⟩ := q A hA
    exact ⟨Wl, h0, fun i k H hW => (hw i k H hW).imp (fun ⟨a1, b1, c1⟩ => ⟨a1, (upd_id b1) ▸ c1⟩) id⟩
theorem q_dcd (C : Ctx T P defs N sc k X W) {scope : Scope} {own : List Nat} {g : TM.G} {p : Pa} {dk : DK} {t : Mo Bool} {mk mv : Mo D} {kx vx tg iter : Expr} {ifs : List Expr} {pos : Pos} (h : LdOk T P defs N k sc scope own g p dk t tg iter ifs)
    (hk : ∀ (X' : Cx) (B' : Base), Ctx T P defs N (relS scope sc) k X' Wf → PE X' kx (liftE T B' Wf mk)) (hv : ∀ (X' : Cx) (B' : Base), Ctx T P defs N (relS scope sc) k X' Wf → PE X' vx (liftE T B' Wf mv)) :
    PE X (.DictComp kx vx [⟨tg, iter, ifs, 0⟩] scope pos) (liftE T B W (mDcD P own g dk p t mk mv)) := by
  have base := pe_dc (pos := pos) C.calm (by rw [C.eN]; exact C.nd) (pi_dk C h.di) (by rw [C.eN, C.es]; exact blkOk_by h.blk)
    (fun s H A cl fp => pg_any fun B' => sG' (B := B') g (C.blk s H A cl fp) (stor_blk C s H A cl fp) h.tg) (fun s H A cl fp => pts_any fun B' => h.ts _ B' (C.blk s H A cl fp)) (fun s H A cl fp => pe_anyL fun B' => pe_P (hk _ B' (C.blk s H A cl fp))) (fun s H A cl fp => pe_anyL fun B' => pe_P (hv _ B' (C.blk s H A cl fp)))
    (fun x => by have := h.it; cases iter <;> first | rfl | cases this)
  rw [map_snd] at base
  exact q_dcdB C h.gin base
/-! ### x = {..} on one line -/
theorem swD_true {kx vx : Expr} {gs : List Comprehension} {scope : Scope} {pos : Pos} {env : Env} {l : Nat} {y : Str} {py : Pos} (h : swapsWith (.ListComp kx gs scope pos) (some (.Name y py)) l env = pure true) : swapsWith (.DictComp kx vx gs scope pos) (some (.Name y py)) l env = pure true := h
theorem ps_setDc {i : Nat} {y : Str} {py : Pos} {kx vx tg iter : Expr} {ifs : List Expr} {scope : Scope} {own : List (Str × Nat)} {pos spos : Pos} {wi : TI} {g : TG} {tt : TT} {tk tv : TE} (hN : X.N.Nodup) (hc : X.calm = true) (hyl : X.env.scope.names.lookup y = some .local) (hy : X.N[i]? = some y)
    (ok : BlkOk X.N X.env.scope scope own) (hi : PI X tg iter wi) (hsw : swapsWith (.DictComp kx vx [⟨tg, iter, ifs, 0⟩] scope pos) (some (.Name y py)) spos.line X.env = pure true)
    (hg : ∀ (s : Shared) (H : Hp) (A : Addr) (cl : List (Str × Addr)) (fp : List Addr), PG (X.blk s H scope (compEnvC scope cl A X.env) fp) tg g) (ht : ∀ (s : Shared) (H : Hp) (A : Addr) (cl : List (Str × Addr)) (fp : List Addr), PTs (X.blk s H scope (compEnvC scope cl A X.env) fp) ifs tt)
    (hk : ∀ (s : Shared) (H : Hp) (A : Addr) (cl : List (Str × Addr)) (fp : List Addr), PE (X.blk s H scope (compEnvC scope cl A X.env) fp) kx tk) (hv : ∀ (s : Shared) (H : Hp) (A : Addr) (cl : List (Str × Addr)) (fp : List Addr), PE (X.blk s H scope (compEnvC scope cl A X.env) fp) vx tv)
    (hs : ∀ x, foldedSetIterable iter X.env x = pure x) : PS X (.Assign [.Name y py] (.DictComp kx vx [⟨tg, iter, ifs, 0⟩] scope pos) spos) (tAsg (tDc wi g tt tk tv (own.map (·.2))) (gName i)) := by
  refine ⟨fun pins st σ H Dn I h0 => ?_⟩
  have h : tDc wi g tt tk tv (own.map (·.2)) σ H (fun x H1 => gName i x σ H1 Dn.nx) := h0
  rw [exec_Assign_Name_used _ _ _ _ hsw]
  have core := dc_core (pos' := firstIterPos [⟨tg, iter, ifs, 0⟩] pos) (pos := pos) (use := some (assign (.Name y py) X.env)) (Qf := fun _ z => SP X pins Dn .next z) hc hN I hi ok hg ht hk hv hs h fun D A z m H1 I1 q nA f => by
    show wpAny _ _ (assign (.Name y py) X.env (.ref D)) _ _ _
    refine wpAny_assign_Name (store_ok2 (v := V.ref D) I1 hN hy (.inl hyl) rfl (fun z2 I2 ⟨b, sb, hb⟩ => ?_) (.inr hyl))
    obtain ⟨f0, f1, f2, f3, f4, f5⟩ := f
    have ne : A ≠ b := hb.elim (fun e => e ▸ f1) fun e q => f4 y b e q.symm
    exact ⟨m, nA.sameBut sb ne, fun _ sb3 => ⟨_, H1, I2.turned (t' := z2.toks) (fun b o hb e => (sb3.2 b hb).trans e) f0 f1 f3 f4 f5, q⟩⟩
  refine wpAny_bind (wpAny_standAt (wpAny_bind ?_))
  show wpAny _ X.A (do let _ ← comprehension (.DictComp kx vx [⟨tg, iter, ifs, 0⟩] scope pos) scope X.env (firstIterPos [⟨tg, iter, ifs, 0⟩] pos) newDict false (eval iter X.env) (some (assign (.Name y py) X.env))) _ _ st
  exact wpAny_bind (thn core fun _ _ q => wpAny_pure (wpAny_pure q))
theorem q_setDcd (C : Ctx T P defs N sc k X W) {i : Nat} {y : Str} {py spos : Pos} {scope : Scope} {own : List Nat} {g : TM.G} {p : Pa} {dk : DK} {t : Mo Bool} {mk mv : Mo D} {kx vx tg iter : Expr} {ifs : List Expr} {pos : Pos} (hi : N[i]? = some y) (hy : sc.names.lookup y = some .local)
    (hw : swapsWith (.DictComp kx vx [⟨tg, iter, ifs, 0⟩] scope pos) (some (.Name y py)) spos.line X.env = pure true) (h : LdOk T P defs N k sc scope own g p dk t tg iter ifs)
    (hk : ∀ (X' : Cx) (B' : Base), Ctx T P defs N (relS scope sc) k X' Wf → PE X' kx (liftE T B' Wf mk)) (hv : ∀ (X' : Cx) (B' : Base), Ctx T P defs N (relS scope sc) k X' Wf → PE X' vx (liftE T B' Wf mv)) :
    PS X (.Assign [.Name y py] (.DictComp kx vx [⟨tg, iter, ifs, 0⟩] scope pos) spos) (liftS T B W (do
      let d ← mDcD P own g dk p t mk mv
      setSlot i d
      pure .nx)) := by
  have base := ps_setDc (spos := spos) (by rw [C.eN]; exact C.nd) C.calm (by rw [C.es]; exact hy) (by rw [C.eN]; exact hi) (by rw [C.eN, C.es]; exact blkOk_by h.blk) (pi_dk C h.di) hw
    (fun s H A cl fp => pg_any fun B' => sG' (B := B') g (C.blk s H A cl fp) (stor_blk C s H A cl fp) h.tg) (fun s H A cl fp => pts_any fun B' => h.ts _ B' (C.blk s H A cl fp)) (fun s H A cl fp => pe_anyL fun B' => pe_P (hk _ B' (C.blk s H A cl fp))) (fun s H A cl fp => pe_anyL fun B' => pe_P (hv _ B' (C.blk s H A cl fp)))
    (fun x => by have := h.it; cases iter <;> first | rfl | cases this)
  rw [map_snd] at base
  refine ⟨fun pins st σ H Dn I ⟨G, θ, ρ, S, s, r⟩ => ?_⟩
  have r0 : Run T B W (mDcD P own g dk p t mk mv) G θ σ ρ S (PV T B σ fun v H1 => gName i v σ H1 Dn.nx) := r.runBind.imp fun d G1 θ1 H1 ρ1 S1 l1 t1 s1 r1 v o => by
    obtain ⟨G', ρ', S', l, s2, q2⟩ := r1.bind.setSlot s1 o
    exact RunS.pure' q2 s2
  obtain ⟨kds, hp, r1⟩ := paM_run r0
  obtain ⟨a, kvs, pa, hG, hk, rl⟩ := s.path C hp
  have nθ : a ∉ B.θ := fun z => s.settled hG (s.le.mem z)
  rcases s.sub a _ hG with hh | ⟨_, od, hh⟩
  · refine (ps_lock base).run pins st σ H Dn I ⟨a, .dK kvs, hh, True.intro, fun od => ?_⟩
    exact ⟨a, od, kvs, pa.lock hh (fun _ _ _ z => nomatch z), upd_same, dc_src h.gin (s.lock hG hh od) (wlk_dk hk rl) (locked nθ) (Run.lock (.inl rfl) hG (s.entryD hG hh) s.scr r1)⟩
  · obtain ⟨s1, ent⟩ := s.lock0 hG hh
    have q := dc_src h.gin s1 (wlk_dk hk rl) (locked nθ) (Run.lock (.inr rfl) hG ent s.scr r1)
    refine base.run pins st σ H Dn I ⟨a, od, kvs, pa, hh, fun A hA => ?_⟩
    obtain ⟨Wl, h0, hw⟩ := q A hA
    exact ⟨Wl, h0, fun i k H hW => (hw i k H hW).imp (fun ⟨a1, b1, c1⟩ => ⟨a1, (upd_id b1) ▸ c1⟩) id⟩
end
end TM
end
section
set_option Elab.async false
set_option linter.all false
set_option maxRecDepth 100000
set_option maxHeartbeats 4000000
/-! FWP: dict displays. -/
namespace TM
open PySem PySem.Spec PyProof.Rows L2

/-! ### the rules -/
/-- keys and values, each with its reading -/
inductive LPs (X : Cx) : List (Option Expr) → List Expr → List (TE × TE) → Prop
  | nil : LPs X [] [] []
  | cons {k v : Expr} {ks : List (Option Expr)} {vs : List Expr} {tk tv : TE} {trs : List (TE × TE)} : PE X k tk → PE X v tv → LPs X ks vs trs → LPs X (some k :: ks) (v :: vs) ((tk, tv) :: trs)
section
variable {X : Cx} {keys : List (Option Expr)} {values : List Expr} {trs : List (TE × TE)} {pos : Pos}
theorem LPs.pps (h : LPs X keys values trs) : PPs X pos keys values trs := by
  induction h with
  | nil => exact pps_nil
  | cons h1 h2 _ ih => exact pps_cons h1 h2 ih
theorem LPs.shape (h : LPs X keys values trs) : keys.all (·.isSome) = true ∧ keys.length = values.length := by
  induction h with
  | nil => exact ⟨rfl, rfl⟩
  | cons h1 h2 _ ih => exact ⟨by simp [ih.1], by simp [ih.2]⟩
/-- each pair is put as soon as it is there -/
def tLoop (p : Addr) : List (TE × TE) → L2.St → Hp → VK → Prop
  | [], _, H, Q => Q (.ref p) H
  | (tk, tv) :: r, σ, H, Q => tk σ H fun x H1 => tv σ H1 fun y H2 => ∃ kvs k, x = kV k ∧ H2 p = some (.dK kvs) ∧ kvs.length < sizeLine ∧ tLoop p r σ (upd H2 p (.dK (putK kvs k y))) Q
theorem loop_ok {p : Addr} (h : LPs X keys values trs) : ∀ {pins : List (Addr × Obj)} {s : Shared} {σ : L2.St} {H : Hp} {Q : VK}, Inv X pins σ H s → tLoop p trs σ H Q →
    wpAny (model X.prog X.w) X.A (forIn (pairTrees keys values X.env pos) PUnit.unit fun (x : Sem Value × Sem Value) (_ : PUnit) => (do
      let kv ← x.1
      let vv ← holding [kv] x.2
      holding [kv, vv] (dictSet p kv vv)
      pure (ForInStep.yield PUnit.unit) : Sem (ForInStep PUnit))) (fun _ s' => EP X pins σ Q (.ref p) s') X.xe s := by
  induction h with
  | nil =>
    intro pins s σ H Q I q
    show wpAny _ _ (forIn [] _ _) _ _ s
    rw [List.forIn_nil]
    exact wpAny_pure ⟨.ref p, H, I, rfl, q⟩
  | @cons k v ks vs tk tv trs hk hv hr ih =>
    intro pins s σ H Q I q
    show wpAny _ _ (forIn ((eval k X.env, do let x ← eval v X.env; standAt pos; pure x) :: pairTrees ks vs X.env pos) _ _) _ _ s
    rw [List.forIn_cons]
    refine wpAny_bind (wpAny_bind (thn (hk.run pins s σ H _ I q) fun kv s1 ⟨x, H1, I1, rx, q1⟩ => ?_))
    refine wpAny_bind (wpAny_holding (wpAny_bind (thn (hv.run pins s1 σ H1 _ I1 q1) fun vv s2 ⟨y, H2, I2, ry, kvs, key, ex, hp, hz, q2⟩ => wpAny_bind (wpAny_standAt (wpAny_pure ?_)))))
    subst ex
    exact wpAny_bind (wpAny_holding (d_dictSet I2 hp hz rx ry fun s3 I3 => wpAny_pure (ih I3 q2)))
def tLong (trs : List (TE × TE)) : TE := fun σ H Q => ∀ p, H p = none → tLoop p trs σ (upd H p (.dK [])) Q
theorem pe_long (h : LPs X keys values trs) (h1 : 15 < keys.length) (h2 : keys.length < 17) : PE X (.Dict keys values pos) (tLong trs) := by
  refine ⟨fun pins s σ H Q I q => ?_⟩
  obtain ⟨hall, hl⟩ := h.shape
  have hn := pairTrees_length keys values X.env pos hall hl
  have h0 : pairTrees keys values X.env pos ≠ [] := fun z => by
    rw [z] at hn
    exact absurd hn.symm (by simp only [List.length_nil]; omega)
  rw [arm_eval_Dict, zip_pairTrees keys values X.env pos hall hl, dictDisplay_pairs _ h0 (by rw [hn]; exact h2)]
  refine wpAny_bind (wpAny_standAt (wpAny_bind ?_))
  unfold subDict
  refine wpAny_bind (wpAny_alloc (wpAny_bind (wpAny_holding ?_)))
  rw [if_neg (by rw [hn]; omega)]
  have nn := I.hok.fresh (Nat.le_refl s.heap.objs.size)
  have I1 := I.laid (a := s.heap.objs.size) (o := .dK []) (h' := s.heap.push { cls := .type "dict", data := .dict #[] }) (t' := s.toks) (fun _ _ z => Heap.get?_push_of_some _ z) (Nat.le_refl _) (dk_empty s.heap I.big)
  exact wpAny_bind (wpAny_rule (wpAny_bind (thn (loop_ok h I1 (q _ nn)) fun _ s' z => wpAny_pure (wpAny_pure (wpAny_pure z)))))
end
/-! ### the run of the pairs, the new dict in the hand -/
section
variable (T : Tab) (W : L2.WX) (P : Prov)
def trsP : Ps → List (TE × TE)
  | .nil => []
  | .cons a b r => (fun σ H Q => ∃ B', liftP T B' W (ev P a >>= persist) σ H Q, fun σ H Q => ∃ B', liftP T B' W (ev P b >>= persist) σ H Q) :: trsP r
end
def psN : Ps → Nat
  | .nil => 0
  | .cons _ _ r => psN r + 1
def putAll (r kds : List (Key × D)) : List (Key × D) := kds.foldl (fun acc kv => putKD acc kv.1 kv.2) r
section
variable {T : Tab} {P : Prov} {defs N : List Str} {sc : Scope} {k : Nat} {X : Cx} {W : L2.WX} {B : Base} {G : Hp} {θ : List Addr} {σ : L2.St} {H : Hp} {ρ : Rho} {S : Sto}
theorem keyV_of {x : D} {key : Key} {v : V} (h : asKey x = some key) (r : Rep T G θ v x) : v = kV key := by
  unfold asKey at h
  split at h
  · cases h; cases r; rfl
  · cases h; cases r; rfl
  · cases h
/-- one part of a pair -/
theorem disp_part {α : Type} {p : Addr} {acc : List (Key × V)} {r : List (Key × D)} {m : Mo α} {f : α → Mo D} {Z : D → Hp → List Addr → Hp → Rho → Sto → Prop} (s : Sim T B G θ σ H ρ S) (h : HldD T B G θ σ H ρ p acc r) (run : Run T B W (m >>= f) G θ σ ρ S Z) :
    Sim T (B.hold p (.dK acc)) G θ σ H ρ S ∧ Run T (B.hold p (.dK acc)) W m G θ σ ρ S fun x G' θ' H' ρ' S' => Sim T B G' θ' σ H' ρ' S' ∧ (Le G G' → Lt θ θ' → HldD T B G' θ' σ H' ρ' p acc r) ∧ Run T B W (f x) G' θ' σ ρ' S' Z :=
  ⟨s.hold h.at_ h.g h.t h.b h.o, (run.bind.hold (a := p) (o := .dK acc) True.intro h.b (s.notPr h.b) s.scr).imp fun x G' θ' H' ρ' S' _ _ _ ⟨⟨f1, f2, f3, f4⟩, s', q⟩ => ⟨s', fun l t => ⟨f1, h.ks, h.rep.mono l t, f2, f3, h.b, f4⟩, q⟩⟩
theorem disp_long {p : Addr} : ∀ (ps : Ps) {f : List (Key × D) → Mo D} {acc : List (Key × V)} {r : List (Key × D)} {G : Hp} {θ : List Addr} {H : Hp} {ρ : Rho} {S : Sto} {Z : D → Hp → List Addr → Hp → Rho → Sto → Prop} {Q : VK}, Sim T B G θ σ H ρ S → HldD T B G θ σ H ρ p acc r → acc.length + psN ps < sizeLine →
    Run T B W (evPs P ps >>= f) G θ σ ρ S Z → (∀ G' θ' H' ρ' S' acc' kds, Le G G' → Lt θ θ' → Sim T B G' θ' σ H' ρ' S' → HldD T B G' θ' σ H' ρ' p acc' (putAll r kds) → Run T B W (f kds) G' θ' σ ρ' S' Z → Q (.ref p) H') → tLoop p (trsP T W P ps) σ H Q
  | .nil, f, acc, r, G, θ, H, ρ, S, Z, Q, s, h, hz, run, fin => by
    simp only [evPs] at run
    exact fin G θ H ρ S acc [] (Le.refl _) (Lt.refl _) s h run
  | .cons a b ps, f, acc, r, G, θ, H, ρ, S, Z, Q, s, h, hz, run, fin => by
    simp only [evPs] at run
    have run : Run T B W ((ev P a >>= persist) >>= fun x => (ofO (asKey x) >>= fun key => (ev P b >>= persist) >>= fun y => evPs P ps >>= fun r => pure ((key, y) :: r)) >>= f) G θ σ ρ S Z := by
      rw [← Mo.assoc]; exact run
    obtain ⟨s0, r0⟩ := disp_part s h run
    refine ⟨B.hold p (.dK acc), G, θ, ρ, S, s0, r0.imp fun x G1 θ1 H1 ρ1 S1 l1 t1 _ ⟨s1, h1, r1⟩ v rv => ?_⟩
    cases hk : asKey x with
    | none => rw [hk] at r1; exact (show False from r1).elim
    | some key =>
      rw [hk] at r1
      have r1 : Run T B W ((ev P b >>= persist) >>= fun y => (evPs P ps >>= fun r => pure ((key, y) :: r)) >>= f) G1 θ1 σ ρ1 S1 Z := by
        rw [← Mo.assoc]; exact r1
      obtain ⟨s1', r1'⟩ := disp_part s1 (h1 l1 t1) r1
      refine ⟨B.hold p (.dK acc), G1, θ1, ρ1, S1, s1', r1'.imp fun y G2 θ2 H2 ρ2 S2 l2 t2 _ ⟨s2, h2, r2⟩ w rw' => ?_⟩
      have h2 := h2 l2 t2
      have r2 : Run T B W (evPs P ps >>= fun r => f ((key, y) :: r)) G2 θ2 σ ρ2 S2 Z := by
        rw [Mo.assoc] at r2; exact r2
      have lz := length_putK acc key w
      refine ⟨acc, key, keyV_of hk rv, h2.at_, by unfold psN at hz; omega, ?_⟩
      have s3 := s2.other (u := .dK (putK acc key w)) (fun u e => by rw [h2.at_] at e; cases e; exact True.intro) h2.g h2.t h2.b h2.o
      obtain ⟨p1, p2⟩ := putR (k := key) h2.ks h2.rep rw'
      exact disp_long ps s3 ⟨upd_same, p1, p2, h2.g, h2.t, h2.b, h2.o⟩ (by unfold psN at hz; omega) r2 fun G' θ' H' ρ' S' acc' kds l t s' h' r' => fin G' θ' H' ρ' S' acc' ((key, y) :: kds) (l1.trans (l2.trans l)) (t1.trans (t2.trans t)) s' h' r'
theorem disp_short {p : Addr} : ∀ (ps : Ps) {f : List (Key × D) → Mo D} {G : Hp} {θ : List Addr} {H : Hp} {ρ : Rho} {S : Sto} {Z : D → Hp → List Addr → Hp → Rho → Sto → Prop} {Q : List (V × V) → Hp → Prop}, Sim T B G θ σ H ρ S → HldD T B G θ σ H ρ p [] [] → Run T B W (evPs P ps >>= f) G θ σ ρ S Z →
    (∀ G' θ' H' ρ' S' (kvs : List (Key × V)) (kds : List (Key × D)), Le G G' → Lt θ θ' → Sim T B G' θ' σ H' ρ' S' → HldD T B G' θ' σ H' ρ' p [] [] → kvs.length = psN ps → kvs.map (·.1) = kds.map (·.1) → RepL T G' θ' (kvs.map (·.2)) (kds.map (·.2)) → Run T B W (f kds) G' θ' σ ρ' S' Z → Q (kvs.map fun kv => (kV kv.1, kv.2)) H') → tPairs (trsP T W P ps) σ H Q
  | .nil, f, G, θ, H, ρ, S, Z, Q, s, h, run, fin => by
    simp only [evPs] at run
    exact fin G θ H ρ S [] [] (Le.refl _) (Lt.refl _) s h rfl rfl .nil run
  | .cons a b ps, f, G, θ, H, ρ, S, Z, Q, s, h, run, fin => by
    simp only [evPs] at run
    have run : Run T B W ((ev P a >>= persist) >>= fun x => (ofO (asKey x) >>= fun key => (ev P b >>= persist) >>= fun y => evPs P ps >>= fun r => pure ((key, y) :: r)) >>= f) G θ σ ρ S Z := by
      rw [← Mo.assoc]; exact run
    obtain ⟨s0, r0⟩ := disp_part s h run
    refine ⟨B.hold p (.dK []), G, θ, ρ, S, s0, r0.imp fun x G1 θ1 H1 ρ1 S1 l1 t1 _ ⟨s1, h1, r1⟩ v rv => ?_⟩
    cases hk : asKey x with
    | none => rw [hk] at r1; exact (show False from r1).elim
    | some key =>
      rw [hk] at r1
      have r1 : Run T B W ((ev P b >>= persist) >>= fun y => (evPs P ps >>= fun r => pure ((key, y) :: r)) >>= f) G1 θ1 σ ρ1 S1 Z := by
        rw [← Mo.assoc]; exact r1
      obtain ⟨s1', r1'⟩ := disp_part s1 (h1 l1 t1) r1
      refine ⟨B.hold p (.dK []), G1, θ1, ρ1, S1, s1', r1'.imp fun y G2 θ2 H2 ρ2 S2 l2 t2 _ ⟨s2, h2, r2⟩ w rw' => ?_⟩
      have r2 : Run T B W (evPs P ps >>= fun r => f ((key, y) :: r)) G2 θ2 σ ρ2 S2 Z := by
        rw [Mo.assoc] at r2; exact r2
      refine disp_short ps s2 (h2 l2 t2) r2 fun G' θ' H' ρ' S' kvs kds l t s' h' e1 e2 e3 r' => ?_
      rw [keyV_of hk rv]
      exact fin G' θ' H' ρ' S' ((key, w) :: kvs) ((key, y) :: kds) (l1.trans (l2.trans l)) (t1.trans (t2.trans t)) s' h' (by unfold psN; simp [e1]) (by simp [e2]) (.cons (rw'.mono l t) e3) r'
theorem mergeR : ∀ {more : List (Key × V)} {kds : List (Key × D)} {acc : List (Key × V)} {r : List (Key × D)}, more.map (·.1) = kds.map (·.1) → RepL T G θ (more.map (·.2)) (kds.map (·.2)) → acc.map (·.1) = r.map (·.1) → RepL T G θ (acc.map (·.2)) (r.map (·.2)) →
    (mergeK acc more).map (·.1) = (putAll r kds).map (·.1) ∧ RepL T G θ ((mergeK acc more).map (·.2)) ((putAll r kds).map (·.2))
  | [], [], acc, r, _, _, e, q => ⟨e, q⟩
  | [], _ :: _, _, _, e, _, _, _ => by cases e
  | _ :: _, [], _, _, e, _, _, _ => by cases e
  | (k1, v1) :: more, (k2, d2) :: kds, acc, r, e, rl, e', q => by
    have e1 : k1 = k2 := (List.cons.inj e).1
    subst e1
    cases rl with
    | cons r1 r2 =>
      obtain ⟨p1, p2⟩ := putR (k := k1) e' q r1
      exact mergeR (more := more) (kds := kds) (List.cons.inj e).2 r2 p1 p2
theorem disp_end {p : Addr} {acc : List (Key × V)} {kds : List (Key × D)} {Q : VK} (s : Sim T B G θ σ H ρ S) (h : HldD T B G θ σ H ρ p acc (putAll [] kds)) (r : Run T B W (pure (.nw (dispD kds))) G θ σ ρ S (PV T B σ Q)) : Q (.ref p) H :=
  Run.pure' r s (.ref p) (.nw h.at_ (.dct h.ks h.rep) h.g h.t h.b h.o)
theorem q_disp {keys : List (Option Expr)} {values : List Expr} {pos : Pos} {ps : Ps} (h : LPs X keys values (trsP T W P ps)) (hn : keys.length = psN ps) (h0 : keys ≠ []) (h17 : keys.length < 17) : PE X (.Dict keys values pos) (liftE T B W (do
    let l ← evPs P ps
    pure (.nw (dispD l)))) := by
  have start : ∀ {p : Addr} {G : Hp} {θ : List Addr} {σ : L2.St} {H : Hp} {ρ : Rho} {S : Sto}, Sim T B G θ σ H ρ S → H p = none → Sim T B G θ σ (upd H p (.dK [])) ρ S ∧ HldD T B G θ σ (upd H p (.dK [])) ρ p [] [] := fun {p G θ σ H ρ S} s hp => by
    obtain ⟨nG, nθ, nB, nO⟩ := s.newFree hp
    exact ⟨s.laid hp, upd_same, rfl, .nil, nG, nθ, nB, nO⟩
  by_cases hl : keys.length ≤ 15
  · refine PE.imp (pe_disp h.pps h.shape.1 h.shape.2 h0 hl) fun σ H Q ⟨G, θ, ρ, S, s, r⟩ p hp => ?_
    obtain ⟨s1, h1⟩ := start s hp
    refine disp_short ps s1 h1 r fun G' θ' H' ρ' S' kvs kds l t s' h' e1 e2 e3 r' => ⟨h'.at_, kvs, rfl, by omega, ?_⟩
    obtain ⟨p1, p2⟩ := mergeR e2 e3 (acc := []) (r := []) rfl .nil
    have s2 := s'.other (u := .dK (mergeK [] kvs)) (fun u e => by rw [h'.at_] at e; cases e; exact True.intro) h'.g h'.t h'.b h'.o
    exact disp_end s2 ⟨upd_same, p1, p2, h'.g, h'.t, h'.b, h'.o⟩ r'
  · refine PE.imp (pe_long h (by omega) h17) fun σ H Q ⟨G, θ, ρ, S, s, r⟩ p hp => ?_
    obtain ⟨s1, h1⟩ := start s hp
    refine disp_long ps s1 h1 (by rw [← hn, sizeLine_eq]; simp only [List.length_nil]; omega) r fun G' θ' H' ρ' S' acc' kds l t s' h' r' => disp_end s' h' r'
end
end TM
end
section
set_option Elab.async false
set_option linter.all false
set_option maxRecDepth 100000
set_option maxHeartbeats 4000000
/-! FWO: one's own operators. -/
namespace TM
open PySem PySem.Spec PyProof.Rows L2

/-! ### != of a class that has == alone -/
theorem slot_ne : Slot "object" "__ne__" "object.__ne__" := .of (owner := "object") (n := "__ne__") (by rw [typeLookup_type, builtinLookup_eq_fast]; kernel_rfl) (by decide +kernel) (by decide +kernel) (by decide +kernel) (.inl (by decide +kernel)) (by rw [isSubtype_type]; kernel_rfl)
section
variable {prog : Program} {w : World} {A : Around} {E : Value → Shared → Prop} {s : Shared} {K : PySem.W.Frag} {x C f : Addr} {ox : Obj} {od : Option Obj} {b : Value}
theorem ne_own {Q : Value → Shared → Prop} (hu : A.units + 1 < cLine) (X : K.In s.heap) (I : PySem.W.InstAt s.heap x ox C od) (hb : PySem.W.Looks (model prog w) s.heap (typeOf b) (.ref C)) (hm : PySem.W.mroIn K C (.type "object") = some true)
    (hn : PySem.W.findIn K (.ref C) "__ne__" = some (some (.builtin "object.__ne__"))) (hs : PySem.W.findIn K (.ref C) "__eq__" = some (some (.ref f))) (hf : PySem.W.isFn K (.ref f) = true)
    (h : wpAny (model prog w) A.in1 (call (.ref f) [.ref x, b]) (fun v s' => ∃ k, v = .bool k ∧ Q (.bool (!k)) s') E s) : wpAny (model prog w) A (richCompare .NotEq (.ref x) b) Q E s := by
  have inner : wpAny (model prog w) A (call (.builtin "object.__ne__") [.ref x, b]) (fun v s' => (∃ k, v = .bool (!k)) ∧ Q v s') E s := by
    refine wpAny_call (codeAny_call_builtin slot_ne.plain PySem.F.cmpEntry_ne (PySem.W.check_slot (i := "object.__ne__") (owner := "object") (n := "__ne__") (by decide +kernel) (by decide +kernel) (I.type.andThen (PySem.W.looks_mroIn X hm)) (PySem.F.cmpArgs_ne _ _) ?_))
    unfold Builtin.«object.__ne__»
    refine wpAny_bind (wpAny_pure ?_)
    refine wpAny_bind (m := cRoomFor _ _) (wpAny_cRoomFor hu ?_)
    refine wpAny_bind (m := callSpecialIfBound? (.ref x) (Str.ofString "__eq__") _) (PySem.W.ifBound_K X I hs hf (wpAny_mono h (fun v s' z => ?_) fun _ _ z => z))
    obtain ⟨k, rfl, q⟩ := z
    exact wpAny_bind (m := truthy (.bool k)) (wpAny_truthy_bool (wpAny_pure ⟨⟨k, rfl⟩, q⟩))
  have one : wpAny (model prog w) A (tryCompare (.ref x) (cmpInfo .NotEq).2.1 b) (fun r s' => ∃ v, r = some v ∧ Q v s') E s := by
    unfold tryCompare callSpecialIfBound? bindSpecialIfBound?
    refine wpAny_bind (wpAny_holding (wpAny_bind (wpAny_bind (wpAny_bind (I.type.here ((PySem.W.looks_findIn X hn).here ?_))))))
    refine wpAny_bind (wpAny_askSetting (wpAny_ite ?_))
    have fin : wpAny (model prog w) A (call (.builtin "object.__ne__") ([.ref x] ++ [b]) >>= fun v => pure (some v)) (fun r s' => wpAny (model prog w) A (match r with
      | some .notImplemented | none => pure none
      | some v => pure (some v)) (fun r s' => ∃ v, r = some v ∧ Q v s') E s') E s := wpAny_bind (wpAny_mono inner (fun v s' z => wpAny_pure (by
        obtain ⟨⟨k, rfl⟩, q⟩ := z
        exact wpAny_pure ⟨_, rfl, q⟩)) fun _ _ z => z)
    have bnd : PySem.W.Looks (model prog w) s.heap (bindSpecial (.builtin "object.__ne__") (.ref x)) (.builtin "object.__ne__", [.ref x]) := PySem.W.Looks.of_pure (slot_ne.bind _)
    split
    · exact wpAny_bind (bnd.here (wpAny_pure fin))
    · exact wpAny_tryCatch (wpAny_bind (bnd.here (wpAny_pure fin)))
  unfold richCompare
  simp only [oneThing_ref]
  refine wpAny_holding (wpAny_bind (wpAny_cRoomFor (by omega) ?_))
  refine wpAny_bind (I.type.here (wpAny_bind (hb.here ?_)))
  rw [if_neg (by simp)]
  refine wpAny_bind (wpAny_pure ?_)
  rw [if_neg (by simp)]
  refine wpAny_bind (wpAny_mono one (fun r s' z => ?_) fun _ _ e => e)
  obtain ⟨v, rfl, hq⟩ := z
  exact wpAny_pure hq
end
/-! ### the rules -/
section
variable {T : Tab} {P : Prov} {defs N : List Str} {sc : Scope} {k : Nat} {X : Cx} {W : L2.WX} {B : Base} {e a b : Expr} {m n : Mo D} {pos : Pos} {σ : L2.St} {H : Hp}
/-- a def that an operator calls -/
theorem run_op {A' : Around} (hA : A' = X.A ∨ A' = X.A.in1) {g : Addr} {fd : FuncData} {ps : List Str} {f : List D → Sto → Rc} {j : Nat} (F : FnOk X.prog X.w X.K X.mg X.base (L2.CX X.prog X.w) j g fd ps (spOf T f)) (hr : Room (j + 1) X.A) (hb : Binds X.K fd ps []) (tk : Takes X W)
    {pins : List (Addr × Obj)} {s : Shared} {us : List Value} {vs : List V} {Q : VK} (I : Inv X pins σ H s) (r : Vals vs us) (h : spOf T f vs H Q (WE W σ)) : wpAny (model X.prog X.w) A' (call (.ref g) us) (EP X pins σ Q) X.xe s := by
  have hl : us.length = ps.length := by rw [← r.length]; exact F.len _ _ _ _ h
  have room : Room j A' := by
    rcases hA with z | z
    · rw [z]; exact hr.mono (Nat.le_succ j)
    · rw [z]; exact hr.in1
  have e0 : Env0 X.prog X.w X.K X.mg X.base A' X.stack s H := by
    rcases hA with z | z
    · rw [z]; exact I.env0
    · rw [z]; exact I.env0.in1
  have bd := hb s us I.kIn (by rw [List.append_nil]; exact hl)
  rw [List.append_nil] at bd
  refine wpAny_call (codeAny_mono (F.run A' X.stack s H ⟨us, []⟩ us vs Q (WE W σ) room e0 bd r h) fun res s' hq => ?_)
  cases res with
  | error x => exact passAt tk σ pins H s x s' I hq
  | ok fl =>
    cases fl with
    | ret u => exact I.after hq
    | next => exact hq.elim
    | brk => exact hq.elim
    | cont => exact hq.elim
/-- the instance whose operator it is -/
structure Ows (T : Tab) (k : Nat) (X : Cx) (n : Str) (x : V) (H : Hp) (A a g : Addr) (f : List D → Sto → Rc) (j : Nat) (fd : FuncData) (ps : List Str) : Prop where
  ex : x = .ref a
  at_ : ∃ dx fs, H a = some (.ins A dx fs)
  ek : k = j + 1
  cls : Cls X.K A
  first : PySem.W.selfFirst X.K A = true
  find : PySem.W.findIn X.K (.ref A) n = some (some (.ref g))
  fn : PySem.W.isFn X.K (.ref g) = true
  eq : n = "__eq__" → PySem.W.findIn X.K (.ref A) "__ne__" = some (some (.builtin "object.__ne__")) ∧ PySem.W.mroIn X.K A (.type "object") = some true ∧ ∀ t ∈ ["str", "int", "bool", "NoneType"], PySem.W.subIn X.K (.ref A) (.type t) = some false
  ok : FnOk X.prog X.w X.K X.mg X.base (L2.CX X.prog X.w) j g fd ps (spOf T f)
  bnd : Binds X.K fd ps []
theorem Ctx.ows (C : Ctx T P defs N sc k X W) {G : Hp} {θ : List Addr} {ρ : Rho} {S : Sto} {x : D} {v : V} {c : D} {n : Str} {f : List D → Sto → Rc} (s : Sim T B G θ σ H ρ S) (r : Rep T G θ v x) (hc : deref ρ S x = some c) (hf : ownF P n c = some f) :
    ∃ A a g j fd ps cn fs, c = .ins cn fs ∧ T.cls cn = some A ∧ Ows T k X n v H A a g f j fd ps := by
  have vx := s.view (.of r) hc
  unfold ownF at hf
  split at hf
  · rename_i cn fs
    obtain ⟨a, A, dx, vfs, rfl, ha, hA, _, _⟩ := vx.ins s.sub
    obtain ⟨g, fd, ps, j, h1, h2, h3, h4, h5, h6, h7, h8⟩ := C.w0.own cn A n f hA hf
    exact ⟨A, a, g, j, fd, ps, cn, fs, rfl, hA, rfl, ⟨dx, vfs, ha⟩, h1, h2, h3, h4, h5, h6, h7, h8⟩
  · cases hf
theorem Ows.inst {n : Str} {x : V} {A a g : Addr} {f : List D → Sto → Rc} {j : Nat} {fd : FuncData} {ps : List Str} {pins : List (Addr × Obj)} {s : Shared} (o : Ows T k X n x H A a g f j fd ps) (I : Inv X pins σ H s) : ∃ (dx : Addr) (od : Obj), PySem.W.InstAt s.heap a (PySem.W.instObj A dx) A (some od) := by
  obtain ⟨dx, fs, ha⟩ := o.at_
  obtain ⟨_, J, _⟩ := ins_get I.hok ha
  obtain ⟨od, J, _⟩ := J.look
  exact ⟨_, od, J⟩
/-- what comes of one operand's answer -/
def Fx1 (o : O1) (v : V) (K : V → Prop) : Prop := match o with
  | .neg => K v
  | .len => ∃ i : Int, v = .int i ∧ 0 ≤ i ∧ i < 2 ^ 63 ∧ K v
  | .repr => ∃ x : Str, v = .str x ∧ K v
theorem ow1Key (C : Ctx T P defs N sc k X W) {o : O1} {Q : VK} (h : liftE T B W (mOw1 P o m) σ H Q) : liftP T B W (m >>= persist) σ H fun x H1 => ∃ A a g f j fd ps, Ows T k X (o1N o) x H1 A a g f j fd ps ∧ spOf T f [x] H1 (fun v H2 => Fx1 o v fun z => Q z H2) (WE W σ) := by
  obtain ⟨G, θ, ρ, S, s, r⟩ := h
  unfold mOw1 at r
  refine ⟨G, θ, ρ, S, s, r.bind.imp fun x G1 θ1 H1 ρ1 S1 l1 t1 s1 r1 v rx => ?_⟩
  obtain ⟨c, hc, r2⟩ := r1.look
  obtain ⟨f, hf, r3⟩ := r2.ofO
  obtain ⟨A, a, g, j, fd, ps, cn, fs, _, _, o1⟩ := C.ows s1 rx hc hf
  refine ⟨A, a, g, f, j, fd, ps, o1, Run.call r3.bind s1 (.cons rx .nil) fun d G3 θ3 H3 S3 l3 t3 s3 q w rw' => ?_⟩
  obtain ⟨d', hd, q2⟩ := q.ofO'
  unfold fix1 at hd
  split at hd
  · cases hd; exact fin q2 s3 rw'
  · split at hd
    · rename_i hi
      cases hd; cases rw'
      exact ⟨_, rfl, hi.1, hi.2, fin q2 s3 (.int _)⟩
    · cases hd
  · cases hd; cases rw'
    exact ⟨_, rfl, fin q2 s3 (.str _)⟩
  · cases hd
theorem q_neg (C : Ctx T P defs N sc k X W) (ha : PE X a (liftE T B W m)) : PE X (.UnaryOp .USub a pos) (liftE T B W (mOw1 P .neg m)) := by
  refine ⟨fun pins s σ H Q I h => UnaryOp_ (thn ((pe_P ha).run pins s σ H _ I (ow1Key C h)) fun u s1 ⟨x, H1, I1, rx, A, a', g, f, j, fd, ps, o, q⟩ => ?_)⟩
  have ex := o.ex
  subst ex
  obtain rfl : u = Value.ref a' := rx
  obtain ⟨_, _, J⟩ := o.inst I1
  obtain ⟨mm, hF⟩ := I1.fr
  exact PySem.W.ksp_neg hF I1.ok.mod.kin J o.find o.fn (run_op (.inl rfl) o.ok (by rw [← o.ek]; exact C.room) o.bnd C.tk I1 (vs := [.ref a']) (.cons rfl .nil) q)
theorem own_len (C : Ctx T P defs N sc k X W) {pins : List (Addr × Obj)} {s : Shared} {u : Value} {x : V} {Q : VK} {A a' g : Addr} {f : List D → Sto → Rc} {j : Nat} {fd : FuncData} {ps : List Str} (o : Ows T k X "__len__" x H A a' g f j fd ps) (I : Inv X pins σ H s) (rx : RelV x u)
    (q : spOf T f [x] H (fun v H2 => Fx1 .len v fun z => Q z H2) (WE W σ)) : wpAny (model X.prog X.w) X.A (call (.builtin "len") [u]) (EP X pins σ Q) X.xe s := by
  have ex := o.ex
  subst ex
  obtain rfl : u = Value.ref a' := rx
  obtain ⟨_, _, J⟩ := o.inst I
  obtain ⟨mm, hF⟩ := I.fr
  refine PySem.W.len_K hF I.ok.mod.kin J o.find o.fn (thn (run_op (.inr rfl) o.ok (by rw [← o.ek]; exact C.room) o.bnd C.tk I (vs := [.ref a']) (.cons rfl .nil) q) fun v s2 ⟨y, H2, I2, ry, i, ey, h0, h1, q2⟩ => ?_)
  subst ey
  obtain ⟨t, rfl⟩ := ry
  exact ⟨⟨h0, h1⟩, .int i, H2, I2.tok _, ⟨_, rfl⟩, q2⟩
theorem own_repr (C : Ctx T P defs N sc k X W) {pins : List (Addr × Obj)} {s : Shared} {u : Value} {x : V} {Q : VK} {A a' g : Addr} {f : List D → Sto → Rc} {j : Nat} {fd : FuncData} {ps : List Str} (o : Ows T k X "__repr__" x H A a' g f j fd ps) (I : Inv X pins σ H s) (rx : RelV x u)
    (q : spOf T f [x] H (fun v H2 => Fx1 .repr v fun z => Q z H2) (WE W σ)) : wpAny (model X.prog X.w) X.A (call (.builtin "repr") [u]) (EP X pins σ Q) X.xe s := by
  have ex := o.ex
  subst ex
  obtain rfl : u = Value.ref a' := rx
  obtain ⟨_, _, J⟩ := o.inst I
  obtain ⟨mm, hF⟩ := I.fr
  refine PySem.W.repr_K C.hu hF I.ok.mod.kin J o.find o.fn (thn (run_op (.inr rfl) o.ok (by rw [← o.ek]; exact C.room) o.bnd C.tk I (vs := [.ref a']) (.cons rfl .nil) q) fun v s2 ⟨y, H2, I2, ry, z, ey, q2⟩ => ?_)
  subst ey
  obtain ⟨t, rfl⟩ := ry
  exact ⟨.str z, H2, I2, ⟨t, rfl⟩, q2⟩
/-! ### two operands -/
def Fx2 (o : O2) (v : V) (K : V → Prop) : Prop := match o with
  | .mul => K v
  | .eq => K v
  | .ne => ∃ b, v = .bl b ∧ K (.bl (!b))
  | .isin => ∃ b, v = .bl b ∧ K (.bl b)
  | .notin => ∃ b, v = .bl b ∧ K (.bl (!b))
/-- the other operand -/
def Oth (o : O2) (A : Addr) (y : V) (H : Hp) : Prop := match o with
  | .isin => True
  | .notin => True
  | _ => ∃ b dx fs, y = .ref b ∧ H b = some (.ins A dx fs)
def Ow2R (T : Tab) (k : Nat) (X : Cx) (W : L2.WX) (σ : L2.St) (Q : VK) (o : O2) (x y : V) (H : Hp) : Prop := ∃ A a g f j fd ps, Ows T k X (o2N o) (slf o x y) H A a g f j fd ps ∧ Oth o A (oth o x y) H ∧ spOf T f [slf o x y, oth o x y] H (fun v H2 => Fx2 o v fun z => Q z H2) (WE W σ)
theorem slf_rep {G : Hp} {θ : List Addr} {o : O2} {x y : D} {v w : V} (h1 : Rep T G θ v x) (h2 : Rep T G θ w y) : Rep T G θ (slf o v w) (slf o x y) ∧ Rep T G θ (oth o v w) (oth o x y) := by
  cases o <;> exact ⟨by assumption, by assumption⟩
theorem ow2Key (C : Ctx T P defs N sc k X W) {o : O2} {Q : VK} (h : liftE T B W (mOw2 P o m n) σ H Q) : liftP T B W (m >>= persist) σ H fun x H1 => liftP T B W (n >>= persist) σ H1 fun y H2 => Ow2R T k X W σ Q o x y H2 := by
  obtain ⟨G, θ, ρ, S, s, r⟩ := h
  unfold mOw2 at r
  refine ⟨G, θ, ρ, S, s, r.bind.imp fun x G1 θ1 H1 ρ1 S1 l1 t1 s1 r1 v rx => ⟨G1, θ1, ρ1, S1, s1, r1.bind.imp fun y G2 θ2 H2 ρ2 S2 l2 t2 s2 r2 w ry => ?_⟩⟩
  obtain ⟨c, hc, r3⟩ := r2.look
  obtain ⟨c', hc', r4⟩ := r3.look
  obtain ⟨f, hf, r5⟩ := r4.ofO
  obtain ⟨p1, p2⟩ := slf_rep (o := o) (rx.mono l2 t2) ry
  obtain ⟨A, a, g, j, fd, ps, cn, fs, ec, hA, o1⟩ := C.ows s2 p1 hc hf
  by_cases hs : sameC o c c' = true
  · rw [if_pos hs] at r5
    have other : Oth o A (oth o v w) H2 := by
      have all : (∃ cn' fs', c' = .ins cn' fs' ∧ cn = cn') → ∃ b dx fs, oth o v w = .ref b ∧ H2 b = some (.ins A dx fs) := fun ⟨cn', fs', e1, e2⟩ => by
        subst e1; subst e2
        obtain ⟨b, A', dx, vfs, e3, hb, hA', _, _⟩ := (s2.view (.of p2) hc').ins s2.sub
        rw [hA] at hA'
        cases hA'
        exact ⟨b, dx, vfs, e3, hb⟩
      unfold sameC at hs
      subst ec
      cases o with
      | isin => exact True.intro
      | notin => exact True.intro
      | mul => cases c' with
        | ins cn' fs' => exact all ⟨cn', fs', rfl, of_decide_eq_true hs⟩
        | _ => cases hs
      | eq => cases c' with
        | ins cn' fs' => exact all ⟨cn', fs', rfl, of_decide_eq_true hs⟩
        | _ => cases hs
      | ne => cases c' with
        | ins cn' fs' => exact all ⟨cn', fs', rfl, of_decide_eq_true hs⟩
        | _ => cases hs
    refine ⟨A, a, g, f, j, fd, ps, o1, other, Run.call r5.bind s2 (.cons p1 (.cons p2 .nil)) fun d G3 θ3 H3 S3 l3 t3 s3 q z rz => ?_⟩
    obtain ⟨d', hd, q2⟩ := q.ofO'
    unfold fix2 at hd
    split at hd
    · cases hd; exact fin q2 s3 rz
    · cases hd; exact fin q2 s3 rz
    · cases hd; cases rz; exact ⟨_, rfl, fin q2 s3 (.bl _)⟩
    · cases hd; cases rz; exact ⟨_, rfl, fin q2 s3 (.bl _)⟩
    · cases hd; cases rz; exact ⟨_, rfl, fin q2 s3 (.bl _)⟩
    · cases hd
  · rw [if_neg hs] at r5
    exact r5.elim
theorem cmpBack {pins : List (Addr × Obj)} {Q : VK} {v : Value} {s : Shared} (h : EP X pins σ Q v s) : PySem.W.CmpBack (EP X pins σ Q) v s := by
  have ne : v ≠ .notImplemented := fun z => by
    obtain ⟨x, _, _, r, _⟩ := h
    subst z
    cases x <;> first | exact nomatch (show _ = _ from r) | (obtain ⟨_, r⟩ := r; exact nomatch r)
  cases v <;> first | exact h | exact absurd rfl ne
/-- the operator by the text -/
def o2F : O2 → Value → Value → Sem Value
  | .mul => binaryOp .Mult
  | .eq => compareOp .Eq
  | .ne => compareOp .NotEq
  | .isin => compareOp .In
  | .notin => compareOp .NotIn
theorem own2 (C : Ctx T P defs N sc k X W) {o : O2} {pins : List (Addr × Obj)} {s : Shared} {v u : Value} {x y : V} {Q : VK} (I : Inv X pins σ H s) (rx : RelV x v) (ry : RelV y u) (q : Ow2R T k X W σ Q o x y H) : wpAny (model X.prog X.w) X.A (o2F o v u) (EP X pins σ Q) X.xe s := by
  obtain ⟨A, a, g, f, j, fd, ps, w, ot, q⟩ := q
  obtain ⟨_, _, J⟩ := w.inst I
  obtain ⟨mm, hF⟩ := I.fr
  have room : Room (j + 1) X.A := by rw [← w.ek]; exact C.room
  have ex := w.ex
  have here := fun {Q : VK} {A' : Around} (hA : A' = X.A ∨ A' = X.A.in1) {us : List Value} {vs : List V} (r : Vals vs us) (h : spOf T f vs H Q (WE W σ)) => run_op (pins := pins) (s := s) hA w.ok room w.bnd C.tk I r h
  cases o with
  | mul =>
    obtain ⟨b, dx, fs, ey, hb⟩ := ot
    cases (show x = .ref a from ex)
    cases (show y = .ref b from ey)
    obtain rfl : v = Value.ref a := rx
    obtain rfl : u = Value.ref b := ry
    obtain ⟨_, J', _⟩ := ins_get I.hok hb
    obtain ⟨_, J', _⟩ := J'.look
    exact PySem.W.binop_K (op := .Mult) hF I.ok.mod.kin J J'.type w.first w.find w.fn (thn (here (.inl rfl) (vs := [.ref a, .ref b]) (.cons rfl (.cons rfl .nil)) q) fun _ _ z => cmpBack z)
  | eq =>
    obtain ⟨b, dx, fs, ey, hb⟩ := ot
    cases (show x = .ref a from ex)
    cases (show y = .ref b from ey)
    obtain rfl : v = Value.ref a := rx
    obtain rfl : u = Value.ref b := ry
    obtain ⟨_, J', _⟩ := ins_get I.hok hb
    obtain ⟨_, J', _⟩ := J'.look
    exact PySem.W.cmp_K (op := .Eq) (tb := .ref A) C.room.units0 hF I.ok.mod.kin J J'.type (by simp [PySem.W.notFirst]) w.find w.fn (thn (here (.inl rfl) (vs := [.ref a, .ref b]) (.cons rfl (.cons rfl .nil)) q) fun _ _ z => cmpBack z)
  | ne =>
    obtain ⟨b, dx, fs, ey, hb⟩ := ot
    cases (show x = .ref a from ex)
    cases (show y = .ref b from ey)
    obtain rfl : v = Value.ref a := rx
    obtain rfl : u = Value.ref b := ry
    obtain ⟨_, J', _⟩ := ins_get I.hok hb
    obtain ⟨_, J', _⟩ := J'.look
    obtain ⟨n1, n2, _⟩ := w.eq rfl
    refine ne_own C.hu I.kIn J J'.type n2 n1 w.find w.fn (thn (here (.inr rfl) (vs := [.ref a, .ref b]) (.cons rfl (.cons rfl .nil)) q) fun _ s2 ⟨z, H2, I2, rz, k0, ez, q2⟩ => ?_)
    subst ez
    cases rz
    exact ⟨k0, rfl, .bl _, H2, I2, rfl, q2⟩
  | isin =>
    cases (show y = .ref a from ex)
    obtain rfl : u = Value.ref a := ry
    refine PySem.W.in_K hF I.ok.mod.kin J w.find w.fn (thn (here (.inl rfl) (vs := [.ref a, x]) (.cons rfl (.cons rx .nil)) q) fun _ s2 ⟨z, H2, I2, rz, k0, ez, q2⟩ => ?_)
    subst ez
    cases rz
    exact wpAny_truthy_bool ⟨.bl _, H2, I2, rfl, q2⟩
  | notin =>
    cases (show y = .ref a from ex)
    obtain rfl : u = Value.ref a := ry
    refine PySem.W.notIn_K hF I.ok.mod.kin J w.find w.fn (thn (here (.inl rfl) (vs := [.ref a, x]) (.cons rfl (.cons rx .nil)) q) fun _ s2 ⟨z, H2, I2, rz, k0, ez, q2⟩ => ?_)
    subst ez
    cases rz
    exact wpAny_truthy_bool ⟨.bl _, H2, I2, rfl, q2⟩
theorem q_ow2 (C : Ctx T P defs N sc k X W) {o : O2} (h : xOw2 o e = some (a, b)) (ha : PE X a (liftE T B W m)) (hb : PE X b (liftE T B W n)) : PE X e (liftE T B W (mOw2 P o m n)) := by
  refine ⟨fun pins s σ H Q I q => ?_⟩
  have key := fun {Q' : Value → Shared → Prop} {f : Value → Value → Sem Value} => binT (pe_P ha) (pe_P hb) (Q := Q') (f := f) I (ow2Key C q)
  unfold xOw2 at h
  split at h
  · cases h; exact wpAny_BinOp (key fun v u s2 x y H2 I2 rx ry q => own2 C I2 rx ry q)
  · split at h
    · rename_i hb; cases h; exact wpAny_Compare1 (key fun v u s2 x y H2 I2 rx ry q => own2 C I2 rx ry q) (mark_ok hb)
    · cases h
  · split at h
    · rename_i hb; cases h; exact wpAny_Compare1 (key fun v u s2 x y H2 I2 rx ry q => own2 C I2 rx ry q) (mark_ok hb)
    · cases h
  · split at h
    · rename_i hb; cases h; exact wpAny_Compare1 (key fun v u s2 x y H2 I2 rx ry q => own2 C I2 rx ry q) (mark_ok hb)
    · cases h
  · split at h
    · rename_i hb; cases h; exact wpAny_Compare1 (key fun v u s2 x y H2 I2 rx ry q => own2 C I2 rx ry q) (mark_ok hb)
    · cases h
  · cases h
theorem q_ow2T (C : Ctx T P defs N sc k X W) {o : O2} (hc : isC o = true) (h : xOw2 o e = some (a, b)) (ha : PE X a (liftE T B W m)) (hb : PE X b (liftE T B W n)) : PT X e (liftT T B W (mOw2 P o m n >>= asB)) := by
  refine PT.imp (t := fun σ H Q => liftE T B W (mOw2 P o m n) σ H fun v H' => ∃ k, v = .bl k ∧ Q k H') ⟨fun pins s σ H Q I q => ?_⟩ fun σ H Q q => q_asB q
  have key := fun {Q' : Value → Shared → Prop} {f : Value → Value → Sem Value} => binT (pe_P ha) (pe_P hb) (Q := Q') (f := f) I (ow2Key C q)
  have last : ∀ {o' : O2} {v u : Value} {s2 : Shared} {x y : V} {H2 : Hp}, Inv X pins σ H2 s2 → RelV x v → RelV y u → Ow2R T k X W σ (fun v H' => ∃ k, v = .bl k ∧ Q k H') o' x y H2 → wpAny (model X.prog X.w) X.A (o2F o' v u) (fun c s3 => wpAny (model X.prog X.w) X.A (truthy c) (TP X pins σ Q) X.xe s3) X.xe s2 := fun {o' v u s2 x y H2} I2 rx ry q => thn (own2 C I2 rx ry q) fun c s3 ⟨z, H3, I3, rz, k0, ez, q3⟩ => by
    subst ez
    cases rz
    exact wpAny_truthy_bool ⟨H3, I3, q3⟩
  have key2 := fun {Q' : Value → Shared → Prop} {f : Value → Value → Sem Value} (g : Value → Value → Sem Value) => binT (pe_P ha) (pe_P hb) (Q := Q') (f := f) I (ow2Key C q)
  unfold xOw2 at h
  split at h
  · cases hc
  · split at h
    · rename_i hb'; cases h
      exact wpAny_isTrue_Compare1 (thn ((pe_P ha).run pins s σ H _ I (ow2Key C q)) fun v s1 ⟨x, H1, I1, r1, q1⟩ => thn ((pe_P hb).run pins s1 σ H1 _ I1 q1) fun u s2 ⟨y, H2, I2, r2, q2⟩ => last I2 r1 r2 q2) (mark_ok hb')
    · cases h
  · split at h
    · rename_i hb'; cases h
      exact wpAny_isTrue_Compare1 (thn ((pe_P ha).run pins s σ H _ I (ow2Key C q)) fun v s1 ⟨x, H1, I1, r1, q1⟩ => thn ((pe_P hb).run pins s1 σ H1 _ I1 q1) fun u s2 ⟨y, H2, I2, r2, q2⟩ => last I2 r1 r2 q2) (mark_ok hb')
    · cases h
  · split at h
    · rename_i hb'; cases h
      exact wpAny_isTrue_Compare1 (thn ((pe_P ha).run pins s σ H _ I (ow2Key C q)) fun v s1 ⟨x, H1, I1, r1, q1⟩ => thn ((pe_P hb).run pins s1 σ H1 _ I1 q1) fun u s2 ⟨y, H2, I2, r2, q2⟩ => last I2 r1 r2 q2) (mark_ok hb')
    · cases h
  · split at h
    · rename_i hb'; cases h
      exact wpAny_isTrue_Compare1 (thn ((pe_P ha).run pins s σ H _ I (ow2Key C q)) fun v s1 ⟨x, H1, I1, r1, q1⟩ => thn ((pe_P hb).run pins s1 σ H1 _ I1 q1) fun u s2 ⟨y, H2, I2, r2, q2⟩ => last I2 r1 r2 q2) (mark_ok hb')
    · cases h
  · cases h
theorem q_ow1 (C : Ctx T P defs N sc k X W) {o : O1} (h : xOw1 sc o e = some a) (ha : PE X a (liftE T B W m)) : PE X e (liftE T B W (mOw1 P o m)) := by
  unfold xOw1 at h
  split at h
  · cases h; exact q_neg C ha
  · split at h
    · rename_i hc
      cases h
      simp only [Bool.and_eq_true, decide_eq_true_eq] at hc
      obtain ⟨⟨hx, hg⟩, h1⟩ := hc
      subst hx
      obtain ⟨g1, g2, g3⟩ := C.gl hg
      refine ⟨fun pins s σ H Q I q => wpAny_Call_Name_kw (ld_blt I g1 (C.w0.free "len" (by decide)) (u := .builtin "len") rfl ?_ g3 g2)⟩
      refine PyProof.Rows.callWith_builtin1 (thn ((pa_cons (pe_P ha) pa_nil (star_ok h1)).run _ pins s σ H (fun vs H1 => ∃ x, vs = [x] ∧ ∃ A a g f j fd ps, Ows T k X "__len__" x H1 A a g f j fd ps ∧ spOf T f [x] H1 (fun v H2 => Fx1 .len v fun z => Q z H2) (WE W σ)) I ?_) fun us s1 ⟨vs, H1, I1, r1, x, ev, A, a', g, f, j, fd, ps, w, q1⟩ => ?_) (star_ok h1) rfl
      · obtain ⟨G, θ, ρ, S, s', r⟩ := ow1Key C q
        exact ⟨G, θ, ρ, S, s', r.imp fun x G1 θ1 H1 ρ1 S1 l1 t1 s1 q v rv => ⟨v, rfl, q v rv⟩⟩
      · subst ev
        obtain ⟨u, rfl, rx⟩ := vals1 r1
        exact own_len C w I1 rx q1
    · cases h
  · split at h
    · rename_i hc
      cases h
      simp only [Bool.and_eq_true, decide_eq_true_eq] at hc
      obtain ⟨⟨hx, hg⟩, h1⟩ := hc
      subst hx
      obtain ⟨g1, g2, g3⟩ := C.gl hg
      refine ⟨fun pins s σ H Q I q => wpAny_Call_Name_kw (ld_blt I g1 (C.w0.free "repr" (by decide)) (u := .builtin "repr") rfl ?_ g3 g2)⟩
      refine PyProof.Rows.callWith_builtin1 (thn ((pa_cons (pe_P ha) pa_nil (star_ok h1)).run _ pins s σ H (fun vs H1 => ∃ x, vs = [x] ∧ ∃ A a g f j fd ps, Ows T k X "__repr__" x H1 A a g f j fd ps ∧ spOf T f [x] H1 (fun v H2 => Fx1 .repr v fun z => Q z H2) (WE W σ)) I ?_) fun us s1 ⟨vs, H1, I1, r1, x, ev, A, a', g, f, j, fd, ps, w, q1⟩ => ?_) (star_ok h1) rfl
      · obtain ⟨G, θ, ρ, S, s', r⟩ := ow1Key C q
        exact ⟨G, θ, ρ, S, s', r.imp fun x G1 θ1 H1 ρ1 S1 l1 t1 s1 q v rv => ⟨v, rfl, q v rv⟩⟩
      · subst ev
        obtain ⟨u, rfl, rx⟩ := vals1 r1
        exact own_repr C w I1 rx q1
    · cases h
  · cases h
end
end TM
end
section
set_option Elab.async false
set_option linter.all false
set_option maxRecDepth 100000
set_option maxHeartbeats 4000000
/-! FWQ: x in [..], by x's own == behind that of the items. -/
namespace TM
open PySem PySem.Spec PyProof.Rows L2
open AutoSeq1 (wpAny_loadPart')
open MeetsSeq MeetsSeq2 MeetsSeq3 SeqRoads2
section
theorem str_no (z : Str) (u : Tok) (a : Addr) (o : Obj) : Meets (Builtin.«str.__eq__» ⟨[.str z u, .ref a], []⟩) (fun _ R s => s.heap.get? a = some o ∧ (∀ y, o.data ≠ .prim y) ∧ R (.ok (.ret .notImplemented)) s) :=
  .of_wp fun prog w A R s h => by
    obtain ⟨hp, g, d, tk, os⟩ := s
    obtain ⟨ho, hn, h⟩ := h
    wp_walk using wpAny_load ho
    split
    · rename_i e; exact absurd e (hn _)
    · wp_walk
      exact ⟨_, rfl, h⟩
theorem int_no (i : Int) (u : Tok) (a : Addr) (o : Obj) : Meets (Builtin.«int.__eq__» ⟨[.int i u, .ref a], []⟩) (fun _ R s => s.heap.get? a = some o ∧ (∀ y, o.data ≠ .prim y) ∧ R (.ok (.ret .notImplemented)) s) :=
  .of_wp fun prog w A R s h => by
    obtain ⟨hp, g, d, tk, os⟩ := s
    obtain ⟨ho, hn, h⟩ := h
    wp_walk using wpAny_load ho
    split
    · rename_i e; exact absurd e (hn _)
    · wp_walk
      exact ⟨_, rfl, h⟩
end
section
variable {prog : Program} {w : World} {A : Around} {E : Value → Shared → Prop} {s : Shared} {K : PySem.W.Frag} {x C f : Addr} {ox : Obj} {od : Option Obj}
/-- the item's own == declines -/
inductive NoEq : Value → String → Prop
  | str (z : Str) (u : Tok) : NoEq (.str z u) "str"
  | int (i : Int) (u : Tok) : NoEq (.int i u) "int"
  | non : NoEq .none "NoneType"
theorem item_eq {y : Value} {t : String} {Q : Bool → Shared → Prop} (hu : A.units < cLine) (X : K.In s.heap) (I : PySem.W.InstAt s.heap x ox C od) (hd : ∀ z, ox.data ≠ .prim z) (hy : NoEq y t) (hs : PySem.W.subIn K (.ref C) (.type t) = some false)
    (he : PySem.W.findIn K (.ref C) "__eq__" = some (some (.ref f))) (hf : PySem.W.isFn K (.ref f) = true) (h : wpAny (model prog w) A (call (.ref f) [.ref x, y]) (fun v s' => ∃ k, v = .bool k ∧ Q k s') E s) : wpAny (model prog w) A (eqBool y (.ref x)) Q E s := by
  have hT : s.TypeIs y t := by
    cases hy with
    | str z u => exact typeIs_str s z u
    | int i u => exact typeIs_int s i u
    | non => exact rfl
  have one : wpAny (model prog w) A (tryCompare (.ref x) (cmpInfo .Eq).2.2 y) (fun r s' => ∃ k, r = some (.bool k) ∧ Q k s') E s := by
    unfold tryCompare
    refine wpAny_bind (PySem.W.ifBound_K X I he hf (wpAny_mono h (fun v s' z => ?_) fun _ _ e => e))
    obtain ⟨k, rfl, q⟩ := z
    exact wpAny_pure ⟨k, rfl, q⟩
  have zero : ∀ {Q' : Option Value → Shared → Prop}, Q' none s → wpAny (model prog w) A (tryCompare y (cmpInfo .Eq).2.1 (.ref x)) Q' E s := fun {Q'} q => by
    cases hy with
    | str z u => exact wpAny_tryCompare_declines hT PySem.F.slot_str_eq (call_meets PySem.F.slot_str_eq hT PySem.F.entry_str_eq (PySem.F.args_str_eq_2 _ _) (str_no z u x ox) ⟨I.at_, hd, rfl, q⟩)
    | int i u => exact wpAny_tryCompare_declines hT PySem.F.slot_int_eq (call_meets PySem.F.slot_int_eq hT PySem.F.entry_int_eq (PySem.F.args_int_eq_2 _ _) (int_no i u x ox) ⟨I.at_, hd, rfl, q⟩)
    | non => exact wpAny_tryCompare_declines hT PySem.F.slot_NoneType_eq (call_gives PySem.F.slot_NoneType_eq hT PySem.F.entry_NoneType_eq (PySem.F.args_NoneType_eq_2 _ _) (SeqAt.NoneType___eq___none_ref_0 x) ⟨rfl, q⟩)
  have rc : wpAny (model prog w) A (richCompare .Eq y (.ref x)) (fun v s' => ∃ k, v = .bool k ∧ Q k s') E s := by
    unfold richCompare
    rw [hT.oneThing_none]
    refine wpAny_holding (wpAny_bind (wpAny_cRoomFor hu ?_))
    refine wpAny_bind (wpAny_typeOf hT (wpAny_bind (I.type.here ?_)))
    rw [if_pos (by simp)]
    refine wpAny_bind ((PySem.W.looks_subIn X hs).here ?_)
    simp only [Bool.false_eq_true, if_false]
    refine wpAny_bind (zero ?_)
    simp only [Bool.not_false, if_true]
    refine wpAny_bind (wpAny_mono one (fun r s' z => ?_) fun _ _ e => e)
    obtain ⟨k, rfl, q⟩ := z
    exact wpAny_pure ⟨k, rfl, q⟩
  unfold eqBool
  refine wpAny_holding ?_
  rw [if_neg (by cases hy <;> simp)]
  have last : wpAny (model prog w) A (richCompare .Eq y (.ref x) >>= fun r => truthOfDropped r) Q E s := wpAny_bind (wpAny_mono rc (fun v s' z => by
    obtain ⟨k, rfl, q⟩ := z
    exact wpAny_truthy_bool q) fun _ _ e => e)
  cases hy <;> exact last
end
section
variable {prog : Program} {w : World} {A : Around} {R : Result → Shared → Prop}
theorem in_loop {l : Addr} {x : Value} {n : Nat} (J : Nat → Shared → Prop)
    (turn : ∀ i z, J i z → ∃ (ys : Array Value) (m : Nat), z.heap.get? l = some { cls := .type "list", data := .seq ys m } ∧ ys.size = n ∧ ∀ h1 : i < ys.size, wpAny (model prog w) A.in1 (eqBool ys[i] x) (fun r z' => if r = true then R (.ok (.ret (.bool true))) z' else J (i + 1) z') (fun e z' => R (.error e) z') z)
    (fin : ∀ z, J n z → R (.ok (.ret (.bool false))) z) (k : Nat) : ∀ i : Nat, n - i = k → i ≤ n → ∀ z, J i z →
      wpAny (model prog w) A.in1 (Builtin.«list.__contains__.loop» ⟨[.ref l, x, rawInt i], []⟩) (GQ.FinOf prog w A R) (fun e z' => R (.error e) z') z := by
  induction k with
  | zero =>
    intro i hk hi z h
    obtain ⟨ys, m, hl, hs, _⟩ := turn _ _ h
    have e : i = n := by omega
    have hR : R (.ok (.ret (.bool false))) z := fin z (e ▸ h)
    obtain ⟨hp, g, d, tk, os⟩ := z
    wp_walk using wpAny_loadPart' hl
    have hi1 : ys[((i : Nat) : Int).toNat]? = none := by simp; omega
    rw [hi1]
    wp_walk
    exact hR
  | succ k ih =>
    intro i hk hi z h
    obtain ⟨ys, m, hl, hs, step⟩ := turn _ _ h
    have hlt : i < ys.size := by omega
    have ht := step hlt
    obtain ⟨hp, g, d, tk, os⟩ := z
    wp_walk using wpAny_loadPart' hl
    have hi1 : ys[((i : Nat) : Int).toNat]? = some ys[i] := by simp [hlt]
    rw [hi1]
    refine wpAny_bind (wpAny_mono ht (fun r z2 h2 => ?_) fun _ _ q => q)
    cases r with
    | true =>
      have h2 : R (.ok (.ret (.bool true))) z2 := h2
      obtain ⟨hp2, g2, d2, tk2, os2⟩ := z2
      wp_walk
      exact h2
    | false =>
      have hrec := ih (i + 1) (by omega) (by omega) z2 h2
      have hc : ((i : Int) + 1) = ((i + 1 : Nat) : Int) := by omega
      obtain ⟨hp2, g2, d2, tk2, os2⟩ := z2
      wp_walk
      rw [hc]
      exact ⟨plainId_quiet plain_contains_loop _, codeAny_builtin entry_contains_loop (by
        rw [Around.under_plainId plain_contains_loop _]
        exact hrec)⟩
theorem in_own {E : Value → Shared → Prop} {l : Addr} {x : Value} {n : Nat} {Q : Value → Shared → Prop} (J : Nat → Shared → Prop)
    (turn : ∀ i z, J i z → ∃ (ys : Array Value) (m : Nat), z.heap.get? l = some { cls := .type "list", data := .seq ys m } ∧ ys.size = n ∧ ∀ h1 : i < ys.size, wpAny (model prog w) A.in1 (eqBool ys[i] x) (fun r z' => if r = true then Q (.bool true) z' else J (i + 1) z') E z)
    (fin : ∀ z, J n z → Q (.bool false) z) {s : Shared} (h : J 0 s) : wpAny (model prog w) A (compareOp .In x (.ref l)) Q E s := by
  obtain ⟨ys, m, hl, hs, _⟩ := turn _ _ h
  have hT : s.TypeIs (.ref l) "list" := ⟨_, hl, rfl⟩
  show wpAny _ A (do return .bool (← contains (.ref l) x)) Q E s
  refine wpAny_bind (wpAny_contains_slot (Q := fun b s' => wpAny (model prog w) A (pure (Value.bool b)) Q E s') hT PySem.F.slot_list_contains (wpAny_mono (GQ.call_here (Q := fun v s' => ∃ b, v = .bool b ∧ Q (.bool b) s') PySem.F.slot_list_contains hT PySem.F.entry_list_contains (PySem.F.args_list_contains_2 _ _) ?_) (fun v s' hv => ?_) fun _ _ e => e))
  · have hrec := in_loop (A := A) (R := wants (fun v s' => ∃ b, v = .bool b ∧ Q (.bool b) s') E) (x := x) J (fun i z hz => by
      obtain ⟨ys, m, h1, h2, h3⟩ := turn i z hz
      exact ⟨ys, m, h1, h2, fun q => wpAny_mono (h3 q) (fun r z' hr => by
        cases r with
        | true => exact ⟨true, rfl, hr⟩
        | false => exact hr) fun _ _ e => e⟩) (fun z hz => ⟨false, rfl, fin z hz⟩) _ 0 rfl (Nat.zero_le _) s h
    obtain ⟨hp, g, d, tk, os⟩ := s
    wp_walk using wpAny_loadPart' hl
    exact ⟨plainId_quiet plain_contains_loop _, codeAny_builtin entry_contains_loop (by
      rw [Around.under_plainId plain_contains_loop _]
      exact hrec)⟩
  · obtain ⟨b, rfl, hq⟩ := hv
    exact wpAny_truthy_bool (wpAny_pure hq)
end
section
variable {T : Tab} {P : Prov} {defs N : List Str} {sc : Scope} {k : Nat} {X : Cx} {W : L2.WX} {B : Base} {e a b : Expr} {m n : Mo D} {pos : Pos} {σ : L2.St} {H : Hp}
theorem noEq_of {d : D} {G : Hp} {θ : List Addr} {v : V} {u : Value} (h : noEqD d = true) (r : Rep T G θ v d) (rv : RelV v u) : ∃ t ∈ ["str", "int", "bool", "NoneType"], NoEq u t := by
  unfold noEqD at h
  split at h
  · cases r
    obtain ⟨_, rfl⟩ := rv
    exact ⟨"str", by simp, .str _ _⟩
  · cases r
    obtain ⟨_, rfl⟩ := rv
    exact ⟨"int", by simp, .int _ _⟩
  · cases r
    cases (show u = Value.none from rv)
    exact ⟨"NoneType", by simp, .non⟩
  · cases h
theorem inl_core (C : Ctx T P defs N sc k X W) {pins : List (Addr × Obj)} {s : Shared} {xv : V} {v : Value} {l : Addr} {xs : List V} {G : Hp} {θ : List Addr} {ρ : Rho} {S : Sto} {x : D} {ds : List D} {f : List D → Sto → Rc} {Q : Bool → Hp → Prop} (I : Inv X pins σ H s) (rx : RelV xv v) (sm : Sim T B G θ σ H ρ S) (r : Rep T G θ xv x) (hf : ownF P "__eq__" x = some f)
    (hl : G l = some (.lst xs)) (rl : RepL T G θ xs ds) (run : Run T B W (inlL f x ds) G θ σ ρ S fun b _ _ H' _ _ => Q b H') : wpAny (model X.prog X.w) X.A (compareOp .In v (.ref l)) (fun u s' => ∃ b H', u = .bool b ∧ Inv X pins σ H' s' ∧ Q b H') X.xe s := by
  obtain ⟨cn, fs, ex⟩ : ∃ cn fs, x = .ins cn fs := by
    unfold ownF at hf
    split at hf
    · exact ⟨_, _, rfl⟩
    · cases hf
  have at0 : ∀ {G' : Hp} {θ' : List Addr} {H' : Hp} {ρ' : Rho} {S' : Sto}, Le G G' → Lt θ θ' → Sim T B G' θ' σ H' ρ' S' → ∃ A a g j fd ps, Ows T k X "__eq__" xv H' A a g f j fd ps := fun {G' θ' H' ρ' S'} l' t' s' => by
    obtain ⟨A, a, g, j, fd, ps, _, _, _, _, w⟩ := C.ows s' (r.mono l' t') (c := x) (by subst ex; rfl) hf
    exact ⟨A, a, g, j, fd, ps, w⟩
  obtain ⟨_, a0, _, _, _, _, w0⟩ := at0 (Le.refl _) (Lt.refl _) sm
  have e0 := w0.ex
  subst e0
  obtain rfl : v = Value.ref a0 := rx
  refine in_own (n := ds.length) (fun i z => ∃ G' θ' ρ' S' H', Le G G' ∧ Lt θ θ' ∧ Inv X pins σ H' z ∧ Sim T B G' θ' σ H' ρ' S' ∧ Run T B W (inlL f x (ds.drop i)) G' θ' σ ρ' S' fun b _ _ H' _ _ => Q b H') (fun i z hz => ?_) (fun z hz => ?_) ⟨G, θ, ρ, S, H, Le.refl _, Lt.refl _, I, sm, by rw [List.drop_zero]; exact run⟩
  · obtain ⟨G1, θ1, ρ1, S1, H1, l1, t1, I1, s1, r1⟩ := hz
    have hH : H1 l = some (.lst xs) := (s1.sub l _ (l1 _ _ hl)).plain fun z => z
    obtain ⟨z0, its, k0, rv, eh⟩ := I1.hok l _ hH
    have len : its.length = ds.length := by rw [← rv.length, rl.length]
    refine ⟨its.toArray, k0, eh, by simp [len], fun h1 => ?_⟩
    have hi : i < ds.length := by rw [← len]; simpa using h1
    rw [List.drop_eq_getElem_cons hi] at r1
    unfold inlL at r1
    obtain ⟨w, g1, g2⟩ := rl.get (List.getElem?_eq_getElem hi)
    obtain ⟨u, g3, ru⟩ := rv.get g1
    have eu : its.toArray[i] = u := by
      have hh : i < its.length := by simpa using h1
      have : its[i]? = some its.toArray[i] := by rw [List.getElem?_eq_getElem hh]; simp
      rw [this] at g3
      exact Option.some.inj g3
    rw [eu]
    by_cases hn : noEqD ds[i] = true
    · rw [if_pos hn] at r1
      obtain ⟨t, ht, ne⟩ := noEq_of hn g2 ru
      obtain ⟨A, a, g, j, fd, ps, w1⟩ := at0 l1 t1 s1
      have ea : a0 = a := V.ref.inj w1.ex
      subst ea
      obtain ⟨dx, od, J⟩ := w1.inst I1
      obtain ⟨_, _, subs⟩ := w1.eq rfl
      have sp := Run.call r1.bind s1 (.cons (r.mono l1 t1) (.cons (g2.mono l1 t1) .nil)) (Q := fun y H2 => ∃ b, y = .bl b ∧ if b = true then Q true H2 else ∃ G' θ' ρ' S', Le G G' ∧ Lt θ θ' ∧ Sim T B G' θ' σ H2 ρ' S' ∧ Run T B W (inlL f x (ds.drop (i + 1))) G' θ' σ ρ' S' fun b _ _ H' _ _ => Q b H') fun d G3 θ3 H3 S3 l3 t3 s3 q y ry => by
        cases d with
        | bl b =>
          cases ry
          refine ⟨b, rfl, ?_⟩
          cases b with
          | true => exact Run.pure' q s3
          | false => exact ⟨G3, θ3, ρ1, S3, l1.trans l3, t1.trans t3, s3, q⟩
        | _ => exact (show False from q).elim
      refine item_eq (A := X.A.in1) (by show X.A.units + 1 < cLine; exact C.hu) I1.kIn J (fun z q => nomatch q) ne (subs t ht) w1.find w1.fn (thn (run_op (.inr rfl) w1.ok (by rw [← w1.ek]; exact C.room) w1.bnd C.tk I1 (vs := [.ref a0, w]) (.cons rfl (.cons ru .nil)) sp) fun y s2 ⟨yv, H2, I2, ry, b, eb, q2⟩ => ?_)
      subst eb
      cases ry
      refine ⟨b, rfl, ?_⟩
      cases b with
      | true => exact ⟨true, H2, rfl, I2, q2⟩
      | false =>
        obtain ⟨G', θ', ρ', S', a1, a2, a3, a4⟩ := q2
        exact ⟨G', θ', ρ', S', H2, a1, a2, I2, a3, a4⟩
    · rw [if_neg hn] at r1
      exact r1.elim
  · obtain ⟨G1, θ1, ρ1, S1, H1, l1, t1, I1, s1, r1⟩ := hz
    rw [List.drop_length] at r1
    exact ⟨false, H1, rfl, I1, Run.pure' r1 s1⟩
theorem inlKey {Q : Bool → Hp → Prop} (h : liftT T B W (mInl P m n) σ H Q) : liftP T B W (m >>= persist) σ H fun xv H1 => liftP T B W (n >>= persist) σ H1 fun y H2 => ∃ l xs ds x f G θ ρ S, y = .ref l ∧ Sim T B G θ σ H2 ρ S ∧ Rep T G θ xv x ∧ ownF P "__eq__" x = some f ∧ G l = some (.lst xs) ∧ RepL T G θ xs ds ∧ Run T B W (inlL f x ds) G θ σ ρ S fun b _ _ H' _ _ => Q b H' := by
  obtain ⟨G, θ, ρ, S, s, r⟩ := h
  unfold mInl at r
  refine ⟨G, θ, ρ, S, s, r.bind.imp fun x G1 θ1 H1 ρ1 S1 l1 t1 s1 r1 v rx => ⟨G1, θ1, ρ1, S1, s1, r1.bind.imp fun y G2 θ2 H2 ρ2 S2 l2 t2 s2 r2 w ry => ?_⟩⟩
  cases ry with
  | lst hl rl =>
    obtain ⟨f, hf, r3⟩ := r2.ofO
    exact ⟨_, _, _, x, f, G2, θ2, ρ2, S2, rfl, s2, rx.mono l2 t2, hf, hl, rl, r3⟩
  | _ => exact r2.elim
theorem q_inlT (C : Ctx T P defs N sc k X W) (h : xOw2 .isin e = some (a, b)) (ha : PE X a (liftE T B W m)) (hb : PE X b (liftE T B W n)) : PT X e (liftT T B W (mInl P m n)) := by
  refine ⟨fun pins s σ H Q I q => ?_⟩
  unfold xOw2 at h
  split at h <;> first | contradiction | skip
  split at h
  · rename_i hb'
    cases h
    refine wpAny_isTrue_Compare1 (thn ((pe_P ha).run pins s σ H _ I (inlKey q)) fun v s1 ⟨x, H1, I1, r1, q1⟩ => thn ((pe_P hb).run pins s1 σ H1 _ I1 q1) fun u s2 ⟨y, H2, I2, r2, l, xs, ds, x', f, G, θ, ρ, S, ey, sm, rx, hf, hl, rl, run⟩ => ?_) (mark_ok hb')
    subst ey
    obtain rfl : u = Value.ref l := r2
    refine thn (inl_core C I2 r1 sm rx hf hl rl run) fun c s3 ⟨k0, H3, ec, I3, q3⟩ => ?_
    subst ec
    exact wpAny_truthy_bool ⟨H3, I3, q3⟩
  · cases h
theorem q_inl (C : Ctx T P defs N sc k X W) (h : xOw2 .isin e = some (a, b)) (ha : PE X a (liftE T B W m)) (hb : PE X b (liftE T B W n)) : PE X e (liftE T B W (do
    let k ← mInl P m n
    pure (.bl k))) := by
  refine ⟨fun pins s σ H Q I q => ?_⟩
  have q' : liftT T B W (mInl P m n) σ H fun b H' => Q (.bl b) H' := by
    obtain ⟨G, θ, ρ, S, s', r⟩ := q
    exact ⟨G, θ, ρ, S, s', r.bind.imp fun b G1 θ1 H1 ρ1 S1 l1 t1 s1 r1 => fin r1 s1 (.bl b)⟩
  unfold xOw2 at h
  split at h <;> first | contradiction | skip
  split at h
  · rename_i hb'
    cases h
    refine wpAny_Compare1 (thn ((pe_P ha).run pins s σ H _ I (inlKey q')) fun v s1 ⟨x, H1, I1, r1, q1⟩ => thn ((pe_P hb).run pins s1 σ H1 _ I1 q1) fun u s2 ⟨y, H2, I2, r2, l, xs, ds, x', f, G, θ, ρ, S, ey, sm, rx, hf, hl, rl, run⟩ => ?_) (mark_ok hb')
    subst ey
    obtain rfl : u = Value.ref l := r2
    refine thn (inl_core C I2 r1 sm rx hf hl rl run) fun c s3 ⟨k0, H3, ec, I3, q3⟩ => ?_
    subst ec
    exact ⟨.bl k0, H3, I3, rfl, q3⟩
  · cases h
end
end TM
end
section
set_option Elab.async false
set_option linter.all false
set_option maxRecDepth 100000
set_option maxHeartbeats 4000000
/-! FW10: the checker is sound: expressions. -/
namespace TM
open PySem PySem.Spec PyProof.Rows L2

section
variable {T : Tab} {defs N : List Str}
theorem isEs_ok : ∀ {ms : Es} {es : List Expr} {sc : Scope}, isEs N defs sc ms es = true → es.all okE = true ∧ esN ms = es.length
  | .nil, [], _, _ => ⟨rfl, rfl⟩
  | .nil, _ :: _, _, h => by simp [isEs] at h
  | .cons m ms, [], _, h => by simp [isEs] at h
  | .cons m ms, e :: es, sc, h => by
    simp only [isEs, Bool.and_eq_true] at h
    obtain ⟨⟨h1, h2⟩, h3⟩ := h
    obtain ⟨a, b⟩ := isEs_ok h3
    exact ⟨by simp only [List.all_cons, h1, a, Bool.and_self], by simp only [esN, List.length_cons, b]⟩
mutual
theorem sE : ∀ {P : Prov} {k : Nat} (m : E) {e : Expr} {sc : Scope} {X : Cx} {W : L2.WX} {B : Base}, Ctx T P defs N sc k X W → isE N defs sc m e = true → PE X e (liftE T B W (ev P m))
  | P, k, .var i, e, sc, X, W, B, C, h => by
    simp only [isE] at h
    split at h
    · rename_i x hx
      obtain ⟨pos, rfl⟩ := xName_ok hx
      simp only [Bool.and_eq_true, decide_eq_true_eq] at h
      exact q_var C h.1 h.2
    · cases h
  | P, k, .cst d, e, sc, X, W, B, C, h => by
    simp only [isE] at h
    split at h
    · rename_i c hx
      obtain ⟨j, pos, rfl⟩ := xConst_ok hx
      simp only [ev]
      exact q_cst h
    · cases h
  | P, k, .glo g, e, sc, X, W, B, C, h => by
    simp only [isE] at h
    split at h
    · rename_i x hx
      obtain ⟨pos, rfl⟩ := xName_ok hx
      simp only [Bool.and_eq_true, decide_eq_true_eq] at h
      obtain ⟨h1, h2⟩ := h
      subst h1
      simp only [ev]
      exact q_glo C h2
    · cases h
  | P, k, .p1 o m, e, sc, X, W, B, C, h => by
    simp only [isE] at h
    split at h
    · rename_i a hp
      simp only [Bool.and_eq_true] at h
      simp only [ev]
      exact q_p1 C hp h.1 (sE m C h.2)
    · cases h
  | P, k, .p2 o m n, e, sc, X, W, B, C, h => by
    simp only [isE] at h
    split at h
    · rename_i a b hp
      simp only [Bool.and_eq_true] at h
      obtain ⟨⟨⟨h1, h2⟩, h3⟩, h4⟩ := h
      simp only [ev]
      exact q_p2 C hp h1 h2 (sE m C h3) (sE n C h4)
    · cases h
  | P, k, .p3 o m n l, e, sc, X, W, B, C, h => by
    simp only [isE] at h
    split at h
    · rename_i a b c hp
      simp only [Bool.and_eq_true] at h
      obtain ⟨⟨⟨⟨⟨h1, h2⟩, h3⟩, h4⟩, h5⟩, h6⟩ := h
      simp only [ev]
      exact q_p3 C hp h1 h2 h3 (sE m C h4) (sE n C h5) (sE l C h6)
    · cases h
  | P, k, .sli m n l, e, sc, X, W, B, C, h => by
    simp only [isE] at h
    split at h
    · rename_i a b c hp
      obtain ⟨p, pos, rfl⟩ := xSli_ok hp
      simp only [Bool.and_eq_true] at h
      simp only [ev]
      exact q_sli C (sE m C h.1.1) (sE n C h.1.2) (sE l C h.2)
    · cases h
  | P, k, .dct0, e, sc, X, W, B, C, h => by
    simp only [isE] at h
    obtain ⟨pos, rfl⟩ := xDct0_ok h
    simp only [ev]
    exact q_dct0
  | P, k, .join m n, e, sc, X, W, B, C, h => by
    simp only [isE] at h
    split at h
    · rename_i o nm a hp
      obtain ⟨p, pos, rfl, hl⟩ := xMeth_ok hp
      simp only [Bool.and_eq_true, decide_eq_true_eq] at h
      obtain ⟨⟨⟨⟨h1, h2⟩, h3⟩, h4⟩, h5⟩ := h
      subst h1
      simp only [ev]
      exact q_join h2 hl h3 (sE m C h4) (sE n C h5)
    · cases h
  | P, k, .get2 m n l, e, sc, X, W, B, C, h => by
    simp only [isE] at h
    split at h
    · rename_i o nm a b hp
      obtain ⟨p, pos, rfl, hl⟩ := xMeth_ok hp
      simp only [Bool.and_eq_true, decide_eq_true_eq] at h
      obtain ⟨⟨⟨⟨⟨⟨h1, h2⟩, h3⟩, h4⟩, h5⟩, h6⟩, h7⟩ := h
      subst h1
      simp only [ev]
      exact q_get2 C h2 hl h3 h4 (sE m C h5) (sE n C h6) (sE l C h7)
    · cases h
  | P, k, .chain o o' m n l, e, sc, X, W, B, C, h => by
    simp only [isE] at h
    split at h
    · rename_i p p' a b c hp
      obtain ⟨pos, rfl⟩ := xChain_ok hp
      simp only [Bool.and_eq_true, decide_eq_true_eq] at h
      obtain ⟨⟨⟨⟨⟨⟨h1, h2⟩, h3⟩, h4⟩, h5⟩, h6⟩, h7⟩ := h
      subst h1
      subst h2
      simp only [ev]
      exact q_chain C h3 h4 (sE m C h5) (sE n C h6) (sE l C h7)
    · cases h
  | P, k, .ife t m n, e, sc, X, W, B, C, h => by
    simp only [isE] at h
    split at h
    · rename_i c a b hp
      obtain ⟨pos, rfl⟩ := xIf_ok hp
      simp only [Bool.and_eq_true] at h
      simp only [ev]
      exact q_ife (sT t C h.1.1) (sE m C h.1.2) (sE n C h.2)
    · cases h
  | P, k, .bop o ms, e, sc, X, W, B, C, h => by
    simp only [isE] at h
    split at h
    · rename_i p es hp
      obtain ⟨pos, rfl⟩ := xBool_ok hp
      simp only [Bool.and_eq_true, decide_eq_true_eq] at h
      obtain ⟨h1, h2⟩ := h
      subst h1
      simp only [ev]
      exact sB o ms C h2
    · cases h
  | P, k, .not m, e, sc, X, W, B, C, h => by
    simp only [isE] at h
    split at h
    · rename_i a hp
      obtain ⟨pos, rfl⟩ := xNot_ok hp
      simp only [ev]
      exact q_not (sE m C h)
    · cases h
  | P, k, .tup ms, e, sc, X, W, B, C, h => by
    simp only [isE] at h
    split at h
    · rename_i es hp
      obtain ⟨j, pos, rfl⟩ := xTup_ok hp
      simp only [ev]
      exact q_tup (sEs ms C h)
    · cases h
  | P, k, .lst ms, e, sc, X, W, B, C, h => by
    simp only [isE] at h
    split at h
    · rename_i es hp
      obtain ⟨pos, rfl⟩ := xLst_ok hp
      simp only [ev]
      exact q_lst (sEs ms C h)
    · cases h
  | P, k, .call f ms, e, sc, X, W, B, C, h => by
    simp only [isE] at h
    split at h
    · rename_i x es hp
      obtain ⟨p, pos, rfl⟩ := xCall_ok hp
      simp only [Bool.and_eq_true, decide_eq_true_eq] at h
      obtain ⟨⟨⟨h1, h2⟩, h3⟩, h4⟩ := h
      subst h1
      obtain ⟨k1, k2⟩ := isEs_ok h4
      simp only [ev]
      cases es with
      | nil =>
        cases ms with
        | nil =>
          simp only [evs]
          exact q_call0 C h3 h2
        | cons _ _ => simp [isEs] at h4
      | cons a es =>
        simp only [List.all_cons, Bool.and_eq_true] at k1
        exact q_call C h3 h2 k1.1 k1.2 (sEs ms C h4) _
    · cases h
  | P, k, .mk f ms, e, sc, X, W, B, C, h => by
    simp only [isE] at h
    split at h
    · rename_i x es hp
      obtain ⟨p, pos, rfl⟩ := xCall_ok hp
      simp only [Bool.and_eq_true, decide_eq_true_eq] at h
      obtain ⟨⟨h1, h2⟩, h4⟩ := h
      subst h1
      obtain ⟨k1, k2⟩ := isEs_ok h4
      simp only [ev]
      cases es with
      | nil =>
        cases ms with
        | nil =>
          simp only [evs]
          exact q_mk0 C h2 _
        | cons _ _ => simp [isEs] at h4
      | cons a es =>
        simp only [List.all_cons, Bool.and_eq_true] at k1
        exact q_mk1 C h2 k1.1 k1.2 (sEs ms C h4) _
    · cases h
  | P, k, .meth mn o ms, e, sc, X, W, B, C, h => by
    simp only [isE] at h
    split at h
    · rename_i a nm es hp
      obtain ⟨p, pos, rfl, hl⟩ := xMeth_ok hp
      simp only [Bool.and_eq_true, decide_eq_true_eq] at h
      obtain ⟨⟨⟨⟨h1, h2⟩, h3⟩, h4⟩, h5⟩ := h
      subst h1
      obtain ⟨k1, k2⟩ := isEs_ok h5
      simp only [ev]
      cases es with
      | nil =>
        cases ms with
        | nil =>
          simp only [evs]
          exact q_meth0 C h2 hl (sE o C h4)
        | cons _ _ => simp [isEs] at h5
      | cons a' es =>
        simp only [List.all_cons, Bool.and_eq_true] at k1
        exact q_meth1 C h2 hl k1.1 k1.2 (by simp only [List.length_cons] at h3; omega) (sE o C h4) (sEs ms C h5)
    · cases h
  | P, k, .tried m, e, sc, X, W, B, C, h => by
    simp only [isE] at h
    split at h
    · rename_i x ps b s hp
      obtain ⟨p, lp, pos, rfl⟩ := xTried_ok hp
      simp only [Bool.and_eq_true, decide_eq_true_eq] at h
      obtain ⟨⟨⟨h1, h2⟩, h3⟩, h5⟩ := h
      simp only [ev]
      split at h3
      · rename_i z n hz
        exact q_tried4 C h1 h2 hz h3 fun C' => sE m C' h5
      · simp only [Bool.and_eq_true] at h3
        exact q_tried C h1 h2 h3.1 h3.2 fun C' => sE m C' h5
    · cases h
  | P, k, .isi ts tp m, e, sc, X, W, B, C, h => by
    simp only [isE] at h
    split at h
    · rename_i x a t hp
      obtain ⟨p, pos, rfl⟩ := xCall_ok hp
      simp only [Bool.and_eq_true, decide_eq_true_eq] at h
      obtain ⟨⟨⟨⟨⟨h1, h2⟩, h3⟩, h4⟩, h5⟩, h6⟩ := h
      simp only [ev]
      exact q_isi C h1 h2 h3 h4 h5 (sE m C h6)
    · cases h
  | P, k, .fst m n ms, e, sc, X, W, B, C, h => by
    simp only [isE] at h
    split at h
    · rename_i a b es hp
      obtain ⟨pos, rfl⟩ := xFst_ok hp
      simp only [Bool.and_eq_true] at h
      simp only [ev]
      exact q_fst (pt_of h.1.1 fun a ha => sE m C ha) (pt_of h.1.2 fun a ha => sE n C ha) (sPts ms C h.2)
    · cases h
  | P, k, .newm m, e, sc, X, W, B, C, h => by
    simp only [isE] at h
    simp only [ev]
    exact q_newm (sE m C h)
  | P, k, .mu mu o ms, e, sc, X, W, B, C, h => by
    simp only [isE] at h
    split at h
    · rename_i a nm es hp
      obtain ⟨p, pos, rfl, hl⟩ := xMeth_ok hp
      simp only [Bool.and_eq_true, decide_eq_true_eq] at h
      obtain ⟨⟨⟨⟨⟨h1, h2⟩, h3⟩, h6⟩, h4⟩, h5⟩ := h
      subst h1
      obtain ⟨k1, k2⟩ := isEs_ok h5
      simp only [ev]
      cases es with
      | nil =>
        cases ms with
        | nil =>
          simp only [evs]
          exact q_mu0 h2 hl (sE o C h4)
        | cons _ _ => simp [isEs] at h5
      | cons a' es =>
        simp only [List.all_cons, Bool.and_eq_true] at k1
        by_cases hL : muL mu = true
        · exact q_mu1 (muL_ok hL) h2 hl k1.1 k1.2 (by simp only [List.length_cons] at h3; omega) (sE o C h4) (sEs ms C h5)
        · cases mu <;> first
            | exact absurd rfl hL
            | skip
          · simp [muL, muP] at h6
          · cases es with
            | cons _ _ => simp [muL, muP] at h6
            | nil =>
              cases ms with
              | nil => simp [isEs] at h5
              | cons m1 ms1 =>
                cases ms1 with
                | cons _ _ => simp [isEs] at h5
                | nil =>
                  simp only [isEs, Bool.and_eq_true] at h5
                  simp only [evs]
                  exact q_dpop h2 hl k1.1 (sE o C h4) (sE m1 C h5.1.2)
    · cases h
  | P, k, .lc own tg it cs m, e, sc, X, W, B, C, h => by
    simp only [isE] at h
    split at h
    · rename_i elt t iter ifs scope hp
      obtain ⟨pos, rfl⟩ := xLc_ok hp
      simp only [Bool.and_eq_true] at h
      obtain ⟨⟨⟨⟨⟨⟨h1, h2⟩, h3⟩, h4⟩, h5⟩, h6⟩, h7⟩ := h
      simp only [ev]
      exact q_lc C ⟨h1, h2, sI it C h3, h4, h5, fun X' B' C' => sTs cs C' h6, fun X' B' C' => sE m C' h7⟩
    · cases h
  | P, k, .lcd own tg dk p cs m, e, sc, X, W, B, C, h => by
    simp only [isE] at h
    split at h
    · rename_i elt t iter ifs scope hp
      obtain ⟨pos, rfl⟩ := xLc_ok hp
      simp only [Bool.and_eq_true] at h
      obtain ⟨⟨⟨⟨⟨⟨h1, h2⟩, h3⟩, h4⟩, h5⟩, h6⟩, h7⟩ := h
      simp only [ev]
      exact q_lcd C ⟨h1, h2, h3, h4, h5, fun X' B' C' => sTs cs C' h6⟩ fun X' B' C' => sE m C' h7
    · cases h
  | P, k, .dc own tg it cs mk mv, e, sc, X, W, B, C, h => by
    simp only [isE] at h
    split at h
    · rename_i kx vx t iter ifs scope hp
      obtain ⟨pos, rfl⟩ := xDc_ok hp
      simp only [Bool.and_eq_true] at h
      obtain ⟨⟨⟨⟨⟨⟨⟨h1, h2⟩, h3⟩, h4⟩, h5⟩, h6⟩, h7⟩, h8⟩ := h
      simp only [ev]
      exact q_dc C ⟨h1, h2, sI it C h3, h4, h5, fun X' B' C' => sTs cs C' h6, fun X' B' C' => sE mk C' h7⟩ fun X' B' C' => sE mv C' h8
    · cases h
  | P, k, .dcd own tg dk p cs mk mv, e, sc, X, W, B, C, h => by
    simp only [isE] at h
    split at h
    · rename_i kx vx t iter ifs scope hp
      obtain ⟨pos, rfl⟩ := xDc_ok hp
      simp only [Bool.and_eq_true] at h
      obtain ⟨⟨⟨⟨⟨⟨⟨h1, h2⟩, h3⟩, h4⟩, h5⟩, h6⟩, h7⟩, h8⟩ := h
      simp only [ev]
      exact q_dcd C ⟨h1, h2, h3, h4, h5, fun X' B' C' => sTs cs C' h6⟩ (fun X' B' C' => sE mk C' h7) fun X' B' C' => sE mv C' h8
    · cases h
  | P, k, .disp ps, e, sc, X, W, B, C, h => by
    simp only [isE] at h
    split at h
    · rename_i keys values hp
      obtain ⟨pos, rfl⟩ := xDict_ok hp
      simp only [Bool.and_eq_true, decide_eq_true_eq] at h
      obtain ⟨⟨h1, h2⟩, h3⟩ := h
      obtain ⟨l1, l2⟩ := sPs ps C h3
      simp only [ev]
      exact q_disp l1 l2 h1 h2
    · cases h
  | P, k, .ow1 o m, e, sc, X, W, B, C, h => by
    simp only [isE] at h
    split at h
    · rename_i a hp
      simp only [ev]
      exact q_ow1 C hp (sE m C h)
    · cases h
  | P, k, .ow2 o m n, e, sc, X, W, B, C, h => by
    simp only [isE] at h
    split at h
    · rename_i a b hp
      simp only [Bool.and_eq_true] at h
      simp only [ev]
      exact q_ow2 C hp (sE m C h.1) (sE n C h.2)
    · cases h
  | P, k, .inl m n, e, sc, X, W, B, C, h => by
    simp only [isE] at h
    split at h
    · rename_i a b hp
      simp only [Bool.and_eq_true] at h
      simp only [ev]
      exact q_inl C hp (sE m C h.1) (sE n C h.2)
    · cases h
theorem sPs : ∀ {P : Prov} {k : Nat} (ps : Ps) {keys : List (Option Expr)} {values : List Expr} {sc : Scope} {X : Cx} {W : L2.WX}, Ctx T P defs N sc k X W → isPs N defs sc ps keys values = true → LPs X keys values (trsP T W P ps) ∧ keys.length = psN ps
  | P, k, .nil, [], [], sc, X, W, C, h => ⟨.nil, rfl⟩
  | P, k, .nil, [], _ :: _, sc, X, W, C, h => by simp [isPs] at h
  | P, k, .nil, _ :: _, _, sc, X, W, C, h => by simp [isPs] at h
  | P, k, .cons m n ps, [], _, sc, X, W, C, h => by simp [isPs] at h
  | P, k, .cons m n ps, none :: _, _, sc, X, W, C, h => by simp [isPs] at h
  | P, k, .cons m n ps, some _ :: _, [], sc, X, W, C, h => by simp [isPs] at h
  | P, k, .cons m n ps, some a :: keys, v :: values, sc, X, W, C, h => by
    simp only [isPs, Bool.and_eq_true] at h
    obtain ⟨⟨h1, h2⟩, h3⟩ := h
    obtain ⟨l1, l2⟩ := sPs ps C h3
    exact ⟨.cons (pe_anyL fun B' => pe_P (sE m C h1)) (pe_anyL fun B' => pe_P (sE n C h2)) l1, by simp only [List.length_cons, l2, psN]⟩
theorem sT : ∀ {P : Prov} {k : Nat} (t : TM.T) {e : Expr} {sc : Scope} {X : Cx} {W : L2.WX} {B : Base}, Ctx T P defs N sc k X W → isT N defs sc t e = true → PT X e (liftT T B W (evT P t))
  | P, k, .e m, e, sc, X, W, B, C, h => by
    simp only [isT, Bool.and_eq_true] at h
    simp only [evT]
    exact pt_val' (sE m C h.2) (true_ok h.1)
  | P, k, .cmp o m n, e, sc, X, W, B, C, h => by
    simp only [isT] at h
    split at h
    · rename_i p a b hp
      obtain ⟨pos, rfl⟩ := xCmp_ok hp
      simp only [Bool.and_eq_true, decide_eq_true_eq] at h
      obtain ⟨⟨⟨h1, h2⟩, h3⟩, h4⟩ := h
      subst h1
      simp only [evT]
      exact qt_cmp C h2 (sE m C h3) (sE n C h4)
    · cases h
  | P, k, .chain o o' m n l, e, sc, X, W, B, C, h => by
    simp only [isT] at h
    split at h
    · rename_i p p' a b c hp
      obtain ⟨pos, rfl⟩ := xChain_ok hp
      simp only [Bool.and_eq_true, decide_eq_true_eq] at h
      obtain ⟨⟨⟨⟨⟨⟨h1, h2⟩, h3⟩, h4⟩, h5⟩, h6⟩, h7⟩ := h
      subst h1
      subst h2
      simp only [evT]
      exact qt_chain C h3 h4 (sE m C h5) (sE n C h6) (sE l C h7)
    · cases h
  | P, k, .not t, e, sc, X, W, B, C, h => by
    simp only [isT] at h
    split at h
    · rename_i a hp
      obtain ⟨pos, rfl⟩ := xNot_ok hp
      simp only [evT]
      exact qt_not (sT t C h)
    · cases h
  | P, k, .bop o ts, e, sc, X, W, B, C, h => by
    simp only [isT] at h
    split at h
    · rename_i p es hp
      obtain ⟨pos, rfl⟩ := xBool_ok hp
      simp only [Bool.and_eq_true, decide_eq_true_eq] at h
      obtain ⟨h1, h2⟩ := h
      subst h1
      simp only [evT]
      exact (sTB o ts C h2).pt
    · cases h
  | P, k, .ow o m n, e, sc, X, W, B, C, h => by
    simp only [isT] at h
    split at h
    · rename_i a b hp
      simp only [Bool.and_eq_true] at h
      obtain ⟨⟨h1, h2⟩, h3⟩ := h
      simp only [evT]
      exact q_ow2T C h1 hp (sE m C h2) (sE n C h3)
    · cases h
  | P, k, .inl m n, e, sc, X, W, B, C, h => by
    simp only [isT] at h
    split at h
    · rename_i a b hp
      simp only [Bool.and_eq_true] at h
      simp only [evT]
      exact q_inlT C hp (sE m C h.1) (sE n C h.2)
    · cases h
theorem sEs : ∀ {P : Prov} {k : Nat} (ms : Es) {es : List Expr} {sc : Scope} {X : Cx} {W : L2.WX} {B : Base}, Ctx T P defs N sc k X W → isEs N defs sc ms es = true → PA X es (liftA T B W (evs P ms))
  | P, k, .nil, [], sc, X, W, B, C, h => by
    simp only [evs]
    exact qa_nil
  | P, k, .nil, _ :: _, sc, X, W, B, C, h => by simp [isEs] at h
  | P, k, .cons m ms, [], sc, X, W, B, C, h => by simp [isEs] at h
  | P, k, .cons m ms, e :: es, sc, X, W, B, C, h => by
    simp only [isEs, Bool.and_eq_true] at h
    simp only [evs]
    exact qa_cons h.1.1 (sE m C h.1.2) (sEs ms C h.2)
theorem sPts : ∀ {P : Prov} {k : Nat} (ms : Es) {es : List Expr} {sc : Scope} {X : Cx} {W : L2.WX} {B : Base}, Ctx T P defs N sc k X W → isPts N defs sc ms es = true → PtsOk T B W X (evFs P ms) es
  | P, k, .nil, [], sc, X, W, B, C, h => by
    simp only [evFs]
    exact pts_nil'
  | P, k, .nil, _ :: _, sc, X, W, B, C, h => by simp [isPts] at h
  | P, k, .cons m ms, [], sc, X, W, B, C, h => by simp [isPts] at h
  | P, k, .cons m ms, e :: es, sc, X, W, B, C, h => by
    simp only [isPts, Bool.and_eq_true] at h
    exact pts_cons' (pt_of h.1 fun a ha => sE m C ha) (sPts ms C h.2)
theorem sB : ∀ {P : Prov} {k : Nat} (o : BoolOp) (ms : Es) {es : List Expr} {sc : Scope} {X : Cx} {W : L2.WX} {B : Base} {pos : Pos}, Ctx T P defs N sc k X W → isB N defs sc ms es = true → PE X (.BoolOp o es pos) (liftE T B W (bV (evB P o ms)))
  | P, k, o, .nil, es, sc, X, W, B, pos, C, h => by simp [isB] at h
  | P, k, o, .cons m ms, [], sc, X, W, B, pos, C, h => by simp [isB] at h
  | P, k, o, .cons m ms, [e], sc, X, W, B, pos, C, h => by
    simp only [isB, Bool.and_eq_true, decide_eq_true_eq] at h
    cases ms with
    | nil =>
      simp only [evB]
      exact q_b1 (sE m C h.1)
    | cons _ _ => simp [esN] at h
  | P, k, o, .cons m ms, e :: e' :: es, sc, X, W, B, pos, C, h => by
    simp only [isB, Bool.and_eq_true] at h
    obtain ⟨h1, h2⟩ := h
    have r := sB o ms (B := B) (pos := pos) C h2
    cases ms with
    | nil => simp [isB] at h2
    | cons m' ms' =>
      cases o with
      | And =>
        simp only [evB]
        exact q_and (sE m C h1) r
      | Or =>
        simp only [evB]
        exact q_or (sE m C h1) r
theorem sTB : ∀ {P : Prov} {k : Nat} (o : BoolOp) (ms : Ts) {es : List Expr} {sc : Scope} {X : Cx} {W : L2.WX} {B : Base} {pos : Pos}, Ctx T P defs N sc k X W → isTB N defs sc ms es = true → PW X (.BoolOp o es pos) (liftT T B W (evTB P o ms))
  | P, k, o, .nil, es, sc, X, W, B, pos, C, h => by simp [isTB] at h
  | P, k, o, .cons m ms, [], sc, X, W, B, pos, C, h => by simp [isTB] at h
  | P, k, o, .cons m ms, [e], sc, X, W, B, pos, C, h => by
    simp only [isTB, Bool.and_eq_true] at h
    cases ms with
    | nil =>
      simp only [evTB]
      exact qw_1 (sT m C h.1)
    | cons _ _ => simp at h
  | P, k, o, .cons m ms, e :: e' :: es, sc, X, W, B, pos, C, h => by
    simp only [isTB, Bool.and_eq_true] at h
    obtain ⟨h1, h2⟩ := h
    have r := sTB o ms (B := B) (pos := pos) C h2
    cases ms with
    | nil => simp [isTB] at h2
    | cons m' ms' =>
      cases o with
      | And =>
        simp only [evTB]
        exact qw_and (sT m C h1) r
      | Or =>
        simp only [evTB]
        exact qw_or (sT m C h1) r
theorem sI : ∀ {P : Prov} {k : Nat} (it : I) {e tg : Expr} {sc : Scope} {X : Cx} {W : L2.WX} {B : Base}, Ctx T P defs N sc k X W → isI N defs sc it tg e = true → PI X tg e (liftI T B W (evI P it))
  | P, k, .p1 .seq m, e, tg, sc, X, W, B, C, h => by
    simp only [isI, Bool.and_eq_true] at h
    simp only [evI]
    exact pi_seq (sE m C h.2)
  | P, k, .p1 .rng m, e, tg, sc, X, W, B, C, h => by
    simp only [isI] at h
    split at h
    · rename_i x a hx
      obtain ⟨p, pos, rfl⟩ := xCall_ok hx
      simp only [Bool.and_eq_true, decide_eq_true_eq] at h
      obtain ⟨⟨⟨h1, h2⟩, h3⟩, h4⟩ := h
      subst h1
      simp only [evI]
      exact pi_r1 C h2 h3 (sE m C h4)
    · cases h
  | P, k, .p2 .rng m n, e, tg, sc, X, W, B, C, h => by
    simp only [isI] at h
    split at h
    · rename_i x a b hx
      obtain ⟨p, pos, rfl⟩ := xCall_ok hx
      simp only [Bool.and_eq_true, decide_eq_true_eq] at h
      obtain ⟨⟨⟨⟨⟨h1, h2⟩, h3⟩, h4⟩, h5⟩, h6⟩ := h
      subst h1
      simp only [evI]
      exact pi_r2 C h2 h3 h4 (sE m C h5) (sE n C h6)
    · cases h
  | P, k, .p1 .enum m, e, tg, sc, X, W, B, C, h => by
    simp only [isI] at h
    split at h
    · rename_i x a hx
      obtain ⟨p, pos, rfl⟩ := xCall_ok hx
      simp only [Bool.and_eq_true, decide_eq_true_eq] at h
      obtain ⟨⟨⟨⟨h1, h2⟩, h3⟩, h4⟩, h5⟩ := h
      subst h1
      simp only [evI]
      exact pi_en C h2 h3 h4 (sE m C h5)
    · cases h
  | P, k, .p2 .zip m n, e, tg, sc, X, W, B, C, h => by
    simp only [isI] at h
    split at h
    · rename_i x a b hx
      obtain ⟨p, pos, rfl⟩ := xCall_ok hx
      simp only [Bool.and_eq_true, decide_eq_true_eq] at h
      obtain ⟨⟨⟨⟨⟨⟨h1, h2⟩, h3⟩, h4⟩, h5⟩, h6⟩, h7⟩ := h
      subst h1
      simp only [evI]
      exact pi_zp C h2 h3 h4 h5 (sE m C h6) (sE n C h7)
    · cases h
theorem sTs : ∀ {P : Prov} {k : Nat} (ts : Ts) {es : List Expr} {sc : Scope} {X : Cx} {W : L2.WX} {B : Base}, Ctx T P defs N sc k X W → isTs N defs sc ts es = true → PTs X es (liftT T B W (evTs P ts))
  | P, k, .nil, [], sc, X, W, B, C, h => by
    simp only [evTs]
    exact qts_nil
  | P, k, .nil, _ :: _, sc, X, W, B, C, h => by simp [isTs] at h
  | P, k, .cons t .nil, [e], sc, X, W, B, C, h => by
    simp only [isTs] at h
    simp only [evTs]
    exact pts_one (sT t C h)
  | P, k, .cons t .nil, [], sc, X, W, B, C, h => by simp [isTs] at h
  | P, k, .cons t .nil, _ :: _ :: _, sc, X, W, B, C, h => by simp [isTs] at h
  | P, k, .cons t (.cons _ _), es, sc, X, W, B, C, h => by simp [isTs] at h
end
end
end TM
end
section
set_option Elab.async false
set_option linter.all false
set_option maxRecDepth 100000
set_option maxHeartbeats 4000000
/-! FW13: statements, form by form. -/
namespace TM
open PySem PySem.Spec PyProof.Rows L2

section
variable {T : Tab} {P : Prov} {defs N : List Str} {sc : Scope} {L : Str → Bool} {k : Nat} {X : Cx} {W : L2.WX} {B : Base} {e a b c tg : Expr} {m n l : Mo D} {pos : Pos} {x : Str} {st : Stmt} {ss ss' : List Stmt} {f g : Mo Fl} {t : Mo Bool}
theorem q_pass : PS X (.Pass pos) (liftS T B W (pure .nx)) := PS.imp ps_pass fun Dn σ H ⟨G, θ, ρ, S, s, r⟩ => RunS.pure' r s
theorem q_doc {z : Str} {j : Nat} {p : Pos} : PS X (.Expr (.Constant (.str z) j p) pos) (liftS T B W (pure .nx)) := PS.imp ps_doc fun Dn σ H ⟨G, θ, ρ, S, s, r⟩ => RunS.pure' r s
theorem q_brk : PS X (.Break pos) (liftS T B W (pure .bk)) := PS.imp ps_break fun Dn σ H ⟨G, θ, ρ, S, s, r⟩ => RunS.pure' r s
theorem q_ct : PS X (.Continue pos) (liftS T B W (pure .ct)) := PS.imp ps_continue fun Dn σ H ⟨G, θ, ρ, S, s, r⟩ => RunS.pure' r s
theorem q_never : PS X st (liftS T B W fail) := PS.imp ps_never fun Dn σ H ⟨G, θ, ρ, S, s, r⟩ => r
/-- a value that goes to a target that is no plain name -/
def okU (t e : Expr) : Bool := okV e || (match t with
  | .Name .. => false
  | _ => true)
theorem okU_ok {line : Nat} {env : Env} (h : okU tg e = true) : swapsWith e (some tg) line env = pure false := by
  unfold okU at h
  cases e <;> first
    | rfl
    | (cases tg <;> first
        | rfl
        | cases h)
theorem q_expr (h1 : okV e = true) (he : PE X e (liftE T B W m)) : PS X (.Expr e pos) (liftS T B W (do
    let _ ← m
    pure .nx)) := PS.imp (ps_expr he (swap_ok h1)) fun Dn σ H ⟨G, θ, ρ, S, s, r⟩ => ⟨G, θ, ρ, S, s, r.runBind.imp fun d G1 θ1 H1 ρ1 S1 l1 t1 s1 r1 v o => RunS.pure' r1 s1⟩
theorem q_ret (he : PE X e (liftE T B W m)) : PS X (.Return (some e) pos) (liftS T B W (do
    let d ← m >>= persist
    pure (.ret d))) := PS.imp (ps_ret (pe_P he)) fun Dn σ H ⟨G, θ, ρ, S, s, r⟩ => ⟨G, θ, ρ, S, s, r.runBind.imp fun d G1 θ1 H1 ρ1 S1 l1 t1 s1 r1 v o => RunS.pure' r1 s1 v o⟩
theorem q_retN : PS X (.Return none pos) (liftS T B W (pure (.ret .non))) := PS.imp ps_retN fun Dn σ H ⟨G, θ, ρ, S, s, r⟩ => RunS.pure' r s _ .non
theorem q_set (C : Ctx T P defs N sc k X W) (hs : Stor X L) {i : Nat} (h : slotOk N L i tg = true) (hsw : swapsWith e (some tg) pos.line X.env = pure false) (he : PE X e (liftE T B W m)) : PS X (.Assign [tg] e pos) (liftS T B W (do
    let d ← m
    setSlot i d
    pure .nx)) := by
  obtain ⟨x, p, rfl, g1, g2⟩ := slotOk_ok h
  refine PS.imp (ps_set (by rw [C.eN]; exact C.nd) (by rw [C.eN]; exact g1) (hs x g2).1 he hsw (hs x g2).2) fun Dn σ H ⟨G, θ, ρ, S, s, r⟩ => ⟨G, θ, ρ, S, s, r.runBind.imp fun d G1 θ1 H1 ρ1 S1 l1 t1 s1 r1 v o => ?_⟩
  obtain ⟨G', ρ', S', l, s2, q2⟩ := r1.bind.setSlot s1 o
  exact RunS.pure' q2 s2
/-- a target that is no plain local name -/
def noLoc (sc : Scope) : Expr → Bool
  | .Name id _ => !(sc.names.lookup id == some .local)
  | _ => true
def okSw (sc : Scope) : Expr → Expr → Bool
  | .Tuple ts _ _, .Tuple vs _ _ => !(decide (ts.length = 2) || decide (ts.length = 3)) || ts.any (noLoc sc)
  | .List .., _ => false
  | _, _ => true
theorem filt_lt {α β : Type} {f : α → Option β} : ∀ {l : List α}, (∃ x ∈ l, f x = none) → (l.filterMap f).length < l.length
  | [], h => by obtain ⟨x, hx, _⟩ := h; cases hx
  | a :: l, h => by
    cases e : f a with
    | none =>
      rw [List.filterMap_cons_none e]
      have := List.length_filterMap_le f l
      simp only [List.length_cons]; omega
    | some b =>
      rw [List.filterMap_cons_some e]
      obtain ⟨x, hx, hn⟩ := h
      rcases List.mem_cons.mp hx with rfl | hx
      · rw [e] at hn; cases hn
      · have := filt_lt ⟨x, hx, hn⟩
        simp only [List.length_cons]; omega
theorem okSw_ok {env : Env} (he : env.scope = sc) (h : okSw sc tg e = true) : swappedStores [tg] e env = pure none := by
  subst he
  cases tg <;> first
    | rfl
    | cases h
    | (cases e <;> first
        | rfl
        | (rename_i ts _ _ vs _ _
           have h : (!(decide (ts.length = 2) || decide (ts.length = 3)) || ts.any (noLoc env.scope)) = true := h
           unfold swappedStores
           rcases Bool.or_eq_true_iff.mp h with h | h
           · simp only [Bool.not_eq_true', Bool.or_eq_false_iff, decide_eq_false_iff_not] at h
             simp only [beq_eq_false_iff_ne.mpr h.1, beq_eq_false_iff_ne.mpr h.2, Bool.or_self, Bool.not_false, Bool.true_or, if_true]
           · simp only
             split
             · rfl
             · split
               · rfl
               · rw [if_pos]
                 obtain ⟨t, ht, hn⟩ := List.any_eq_true.mp h
                 have q := filt_lt (l := ts) (f := fun | .Name id pos => if (env.kindOf id == some .local && pos.line == (ts.head?.map (·.pos.line)).getD 0) = true then some id else none | _ => none) ⟨t, ht, by
                   cases t <;> first
                     | rfl
                     | (have hn : (!(env.scope.names.lookup _ == some .local)) = true := hn
                        simp only [Bool.not_eq_true'] at hn
                        show (if (env.scope.names.lookup _ == some .local && _) = true then _ else none) = none
                        rw [hn]
                        rfl)⟩
                 exact Bool.or_eq_true_iff.mpr (.inl (bne_iff_ne.mpr (Nat.ne_of_lt q)))))
theorem q_asg (C : Ctx T P defs N sc k X W) (hs : Stor X L) {g : G} (h : isG N L g tg = true) (h0 : okE tg = true) (h1 : okU tg e = true) (h2 : okSw sc tg e = true) (he : PE X e (liftE T B W m)) : PS X (.Assign [tg] e pos) (liftS T B W (do
    let d ← m >>= persist
    gSet g d
    pure .nx)) := by
  refine PS.imp (ps_asg (pe_P he) (sG g (B := B) C hs h) (okU_ok h1) (okSw_ok C.es h2) (by rw [asg_cons h0]; rfl)) fun Dn σ H ⟨G, θ, ρ, S, s, r⟩ => ⟨G, θ, ρ, S, s, r.runBind.imp fun d G1 θ1 H1 ρ1 S1 l1 t1 s1 r1 v o => ?_⟩
  exact ⟨G1, θ1, ρ1, S1, d, s1, o, r1.bind.imp fun _ G2 θ2 σ2 H2 ρ2 S2 l2 t2 s2 q => RunS.pure' q s2⟩
theorem q_ite (hc : PT X c (liftT T B W t)) (ha : PSs X ss (liftS T B W f)) (hb : PSs X ss' (liftS T B W g)) : PS X (.If c ss ss' pos) (liftS T B W (do
    let k ← t
    if k = true then f else g)) := PS.imp (ps_if hc ha hb) fun Dn σ H ⟨G, θ, ρ, S, s, r⟩ => ⟨G, θ, ρ, S, s, r.runBind.imp fun kb G1 θ1 H1 ρ1 S1 l1 t1 s1 r1 => by
  cases kb with
  | true => exact ⟨G1, θ1, ρ1, S1, s1, r1⟩
  | false => exact ⟨G1, θ1, ρ1, S1, s1, r1⟩⟩
theorem qs_nil : PSs X [] (liftS T B W (pure .nx)) := PSs.imp pss_nil fun Dn σ H ⟨G, θ, ρ, S, s, r⟩ => RunS.pure' r s
theorem qs_cons (h1 : PS X st (liftS T B W f)) (h2 : PSs X ss (liftS T B W g)) : PSs X (st :: ss) (liftS T B W (do
    let r ← f
    match r with
    | .nx => g
    | r => pure r)) := PSs.imp (pss_cons h1 h2) fun Dn σ H ⟨G, θ, ρ, S, s, r⟩ => ⟨G, θ, ρ, S, s, r.bind.imp fun fl G1 θ1 σ1 H1 ρ1 S1 l1 t1 s1 r1 => by
  cases fl with
  | nx => exact ⟨G1, θ1, ρ1, S1, s1, r1⟩
  | bk => exact RunS.pure' r1 s1
  | ct => exact RunS.pure' r1 s1
  | ret d => exact RunS.pure' r1 s1⟩
/-! ### loops -/
theorem q_whl (hp : PassesOwn (model X.prog X.w) X.A X.env X.xe) (hc : PT X c (liftT T B W t)) (hb : PSs X ss (liftS T B W f)) (fuel : Nat) : PS X (.While c ss [] pos) (liftS T B W (whlN t f fuel)) := PS.imp (ps_while hp hc hb) fun Dn σ H h => by
  refine ⟨fun i σ H => ∃ G θ ρ S, Sim T B G θ σ H ρ S ∧ RunS T B W (whlN t f i) G θ ρ S fun fl G' θ' σ' H' _ _ => EndOk T Dn fl G' θ' σ' H', ⟨fuel, h⟩, fun i σ H ⟨G, θ, ρ, S, s, r⟩ => ?_⟩
  cases i with
  | zero => exact r.elim
  | succ i =>
    unfold whlN at r
    refine ⟨G, θ, ρ, S, s, r.runBind.imp fun kb G1 θ1 H1 ρ1 S1 l1 t1 s1 r1 => ?_⟩
    cases kb with
    | false =>
      rw [if_neg (by decide)] at r1 ⊢
      exact RunS.pure' r1 s1
    | true =>
      rw [if_pos rfl] at r1 ⊢
      refine ⟨_, fun σ' H' h => ⟨i, Nat.lt_succ_self i, h⟩, G1, θ1, ρ1, S1, s1, r1.bind.imp fun fl G2 θ2 σ2 H2 ρ2 S2 l2 t2 s2 r2 => ?_⟩
      cases fl with
      | nx => exact ⟨G2, θ2, ρ2, S2, s2, r2⟩
      | ct => exact ⟨G2, θ2, ρ2, S2, s2, r2⟩
      | bk => exact RunS.pure' r2 s2
      | ret d => exact RunS.pure' r2 s2
/-- a turn of a for -/
theorem turn_ok {g : G} (C : Ctx T P defs N sc k X W) (f : Mo Fl) {k2 : Fl → Mo Fl} {G : Hp} {θ : List Addr} {σ : L2.St} {H : Hp} {ρ : Rho} {S : Sto} {v : V} {d : D} {Dn : Ends} {M : L2.St → Hp → Prop} {Q : Fl → Hp → List Addr → L2.St → Hp → Rho → Sto → Prop} (s : Sim T B G θ σ H ρ S) (r : Rep T G θ v d)
    (h : RunS T B W ((do
      gSet g d
      f) >>= k2) G θ ρ S Q) (hk : ∀ fl G' θ' σ' H' ρ' S', Le G G' → Lt θ θ' → Sim T B G' θ' σ' H' ρ' S' → RunS T B W (k2 fl) G' θ' ρ' S' Q → EndOk T { Dn with nx := M, ct := M, bk := Dn.nx } fl G' θ' σ' H') :
    liftG T B W (gSet g) v σ H fun σ2 H2 => liftS T B W f { Dn with nx := M, ct := M, bk := Dn.nx } σ2 H2 := by
  rw [Mo.assoc] at h
  exact ⟨G, θ, ρ, S, d, s, r, h.bind.imp fun _ G1 θ1 σ1 H1 ρ1 S1 l1 t1 s1 r1 => ⟨G1, θ1, ρ1, S1, s1, r1.bind.imp fun fl G2 θ2 σ2 H2 ρ2 S2 l2 t2 s2 r2 => hk fl G2 θ2 σ2 H2 ρ2 S2 (l1.trans l2) (t1.trans t2) s2 r2⟩⟩
/-- the loop over a source that stands, read -/
theorem for_fix {J : It} {L : Hp → Prop} {g : G} (C : Ctx T P defs N sc k X W) {ds : List D} {G0 : Hp} {θ0 : List Addr} {σ : L2.St} {H0 : Hp} {ρ0 : Rho} {S0 : Sto} {Dn : Ends} (w : Wlk T G0 θ0 L J (.fix ds)) (hL : ∀ {G : Hp} {θ : List Addr} {σ : L2.St} {H : Hp} {ρ : Rho} {S : Sto}, Sim T B G θ σ H ρ S → L H) (s0 : Sim T B G0 θ0 σ H0 ρ0 S0)
    (r0 : RunS T B W (forL (fun d => do
      gSet g d
      f) ds) G0 θ0 ρ0 S0 fun fl G' θ' σ' H' _ _ => EndOk T Dn fl G' θ' σ' H') :
    ∃ Wl : Nat → Nat → L2.St → Hp → Prop, (∃ m, Wl 0 m σ H0) ∧ ∀ i m σ H, Wl i m σ H → (J.stop i H ∧ Dn.nx σ H) ∨ (J.go i H ∧ ∃ Nx : L2.St → Hp → Prop, (∀ σ' H', Nx σ' H' → ∃ m', m' < m ∧ Wl (i + 1) m' σ' H') ∧ ∀ v H', J.yld i H v H' → liftG T B W (gSet g) v σ H' fun σ2 H2 => liftS T B W f { Dn with nx := Nx, ct := Nx, bk := Dn.nx } σ2 H2) := by
  refine ⟨fun i m σ H => m = ds.length - i ∧ i ≤ ds.length ∧ ∃ G θ ρ S, Le G0 G ∧ Lt θ0 θ ∧ Sim T B G θ σ H ρ S ∧ RunS T B W (forL (fun d => do
    gSet g d
    f) (ds.drop i)) G θ ρ S fun fl G' θ' σ' H' _ _ => EndOk T Dn fl G' θ' σ' H', ⟨_, rfl, Nat.zero_le _, G0, θ0, ρ0, S0, Le.refl _, Lt.refl _, s0, r0⟩, fun i m σ H hw => ?_⟩
  obtain ⟨rfl, hi, G1, θ1, ρ1, S1, l1, t1, s1, r1⟩ := hw
  obtain ⟨wg, wd⟩ := w B G1 θ1 σ H ρ1 S1 l1 t1 s1 (hL s1) i
  by_cases hl : i < ds.length
  · obtain ⟨go, yl⟩ := wg hl
    refine .inr ⟨go, fun σ' H' => i + 1 ≤ ds.length ∧ ∃ G θ ρ S, Le G0 G ∧ Lt θ0 θ ∧ Sim T B G θ σ' H' ρ S ∧ RunS T B W (forL (fun d => do
      gSet g d
      f) (ds.drop (i + 1))) G θ ρ S fun fl G' θ' σ' H' _ _ => EndOk T Dn fl G' θ' σ' H', fun σ' H' q => ⟨ds.length - (i + 1), by omega, rfl, q⟩, fun x H2 hy => ?_⟩
    obtain ⟨G2, d, l2, s2, hd, rp⟩ := yl x H2 hy
    rw [List.drop_eq_getElem_cons hl] at r1
    have e1 : ds[i] = d := by rw [List.getElem?_eq_getElem hl] at hd; exact Option.some.inj hd
    rw [e1] at r1
    have r1 : RunS T B W (_ >>= _) G1 θ1 ρ1 S1 _ := r1
    refine turn_ok C f s2 rp (r1.mono l2 (Lt.refl _)) fun fl G3 θ3 σ3 H3 ρ3 S3 l3 t3 s3 r3 => ?_
    cases fl with
    | nx => exact ⟨hl, G3, θ3, ρ3, S3, l1.trans (l2.trans l3), t1.trans t3, s3, r3⟩
    | ct => exact ⟨hl, G3, θ3, ρ3, S3, l1.trans (l2.trans l3), t1.trans t3, s3, r3⟩
    | bk => exact RunS.pure' r3 s3
    | ret d => exact RunS.pure' r3 s3
  · have : i = ds.length := by omega
    subst this
    rw [List.drop_length] at r1
    exact .inl ⟨wd (Nat.le_refl _), RunS.pure' r1 s1⟩
theorem q_for (C : Ctx T P defs N sc k X W) (hs : Stor X L) (hp : PassesOwn (model X.prog X.w) X.A X.env X.xe) {g : G} {mi : Mo Src} (h : isG N L g tg = true) (h1 : okE e = true) (hi : PI X tg e (liftI T B W mi)) (hb : PSs X ss (liftS T B W f)) : PS X (.For tg e ss [] pos) (liftS T B W (do
    let s ← mi
    forRun (fun d => do
      gSet g d
      f) s)) := by
  refine PS.imp (ps_for hp C.calm hi (sG g (B := B) C hs h) hb (fun x => by cases e <;> first | rfl | cases h1)) fun Dn σ H ⟨G, θ, ρ, S, s, r⟩ => ⟨G, θ, ρ, S, s, r.runBind.imp fun src G0 θ0 H0 ρ0 S0 l0 t0 s0 r0 J w => ?_⟩
  cases src with
  | fix ds => exact for_fix C w (fun _ => True.intro) s0 r0
  | dyn n =>
    refine ⟨fun i m σ H => ∃ G θ ρ S, Le G0 G ∧ Lt θ0 θ ∧ Sim T B G θ σ H ρ S ∧ RunS T B W (forX (fun d => do
      gSet g d
      f) n m i) G θ ρ S fun fl G' θ' σ' H' _ _ => EndOk T Dn fl G' θ' σ' H', ⟨FUEL, G0, θ0, ρ0, S0, Le.refl _, Lt.refl _, s0, r0⟩, fun i m σ H hw => ?_⟩
    obtain ⟨G1, θ1, ρ1, S1, l1, t1, s1, r1⟩ := hw
    cases m with
    | zero => exact r1.elim
    | succ m =>
      unfold forX at r1
      have r2 := r1
      unfold RunS at r2
      rw [bind_def] at r2
      unfold TM.look at r2
      cases ec : deref ρ1 S1 (.ref n) with
      | none => rw [ec] at r2; exact r2.elim
      | some c =>
        rw [ec] at r2
        cases c with
        | lst ds =>
          obtain ⟨wg, wd⟩ := w B G1 θ1 σ H ρ1 S1 l1 t1 s1 True.intro i ds ec
          simp only at r2
          cases ed : ds[i]? with
          | none =>
            rw [ed] at r2
            have hl : ds.length ≤ i := by simpa using ed
            have r3 : RunS T B W (pure Fl.nx) G1 θ1 ρ1 S1 fun fl G' θ' σ' H' _ _ => EndOk T Dn fl G' θ' σ' H' := r2
            exact .inl ⟨wd hl, RunS.pure' r3 s1⟩
          | some d =>
            rw [ed] at r2
            have hl : i < ds.length := (List.getElem?_eq_some_iff.mp ed).1
            obtain ⟨go, yl⟩ := wg hl
            refine .inr ⟨go, _, fun σ' H' q => ⟨m, Nat.lt_succ_self m, q⟩, fun x H2 hy => ?_⟩
            obtain ⟨G2, d', l2, s2, hd, rp⟩ := yl x H2 hy
            rw [ed] at hd
            cases hd
            have r3 : RunS T B W (_ >>= _) G1 θ1 ρ1 S1 fun fl G' θ' σ' H' _ _ => EndOk T Dn fl G' θ' σ' H' := r2
            refine turn_ok C f s2 rp (r3.mono l2 (Lt.refl _)) fun fl G3 θ3 σ3 H3 ρ3 S3 l3 t3 s3 r3 => ?_
            cases fl with
            | nx => exact ⟨G3, θ3, ρ3, S3, l1.trans (l2.trans l3), t1.trans t3, s3, r3⟩
            | ct => exact ⟨G3, θ3, ρ3, S3, l1.trans (l2.trans l3), t1.trans t3, s3, r3⟩
            | bk => exact RunS.pure' r3 s3
            | ret d => exact RunS.pure' r3 s3
        | _ => exact r2.elim
theorem pss_any {t : Base → TS} (h : ∀ B, PSs X ss (t B)) : PSs X ss (fun D σ H => ∃ B, t B D σ H) := ⟨fun pins s σ H D I ⟨B, q⟩ => (h B).run pins s σ H D I q⟩
theorem for_any {J : It} {Nx0 : Ends} {g : G} {Wl : Nat → Nat → L2.St → Hp → Prop} (B' : Base)
    (h : ∀ i m σ H, Wl i m σ H → (J.stop i H ∧ Nx0.nx σ H) ∨ (J.go i H ∧ ∃ Nx : L2.St → Hp → Prop, (∀ σ' H', Nx σ' H' → ∃ m', m' < m ∧ Wl (i + 1) m' σ' H') ∧ ∀ v H', J.yld i H v H' → liftG T B' W (gSet g) v σ H' fun σ2 H2 => liftS T B' W f { Nx0 with nx := Nx, ct := Nx, bk := Nx0.nx } σ2 H2)) :
    ∀ i m σ H, Wl i m σ H → (J.stop i H ∧ Nx0.nx σ H) ∨ (J.go i H ∧ ∃ Nx : L2.St → Hp → Prop, (∀ σ' H', Nx σ' H' → ∃ m', m' < m ∧ Wl (i + 1) m' σ' H') ∧ ∀ v H', J.yld i H v H' → ∃ B, liftG T B W (gSet g) v σ H' fun σ2 H2 => ∃ B, liftS T B W f { Nx0 with nx := Nx, ct := Nx, bk := Nx0.nx } σ2 H2) := fun i m σ H hw =>
  (h i m σ H hw).imp id fun ⟨go, Nx, n1, n2⟩ => ⟨go, Nx, n1, fun v H' hy => by
    obtain ⟨G, θ, ρ, S, d, s, r, q⟩ := n2 v H' hy
    exact ⟨B', G, θ, ρ, S, d, s, r, q.imp fun _ _ _ _ _ _ _ _ _ _ z => ⟨B', z⟩⟩⟩
/-- a for over the dict of a place -/
theorem q_ford (C : Ctx T P defs N sc k X W) (hs : Stor X L) (hp : PassesOwn (model X.prog X.w) X.A X.env X.xe) {g : G} {p : Pa} {dk : DK} (h : isG N L g tg = true) (h1 : okE e = true) (hd : isDI N sc p tg e dk = true) (hb : ∀ B, PSs X ss (liftS T B W f)) : PS X (.For tg e ss [] pos) (liftS T B W (do
    let kvs ← paM P p
    noex (forL (fun d => do
      gSet g d
      f) (dsrc dk kvs)))) := by
  have base := ps_for (pos := pos) hp C.calm (pi_dk C hd) (pg_any fun B' => sG g (B := B') C hs h) (pss_any hb) (fun x => by cases e <;> first | rfl | cases h1)
  refine ⟨fun pins st σ H Dn I ⟨G, θ, ρ, S, s, r⟩ => ?_⟩
  obtain ⟨kds, hk0, r1⟩ := paM_runS r
  obtain ⟨a, kvs, pa, hG, hk, rl⟩ := s.path C hk0
  have nθ : a ∉ B.θ := fun z => s.settled hG (s.le.mem z)
  rcases s.sub a _ hG with hh | ⟨_, od, hh⟩
  · refine (ps_lock base).run pins st σ H Dn I ⟨a, .dK kvs, hh, True.intro, fun od => ?_⟩
    obtain ⟨Wl, h0, hw⟩ := for_fix C (wlk_dk hk rl) (locked nθ) (s.lock hG hh od) (RunS.lock (.inl rfl) hG (s.entryD hG hh) s.scr r1)
    exact ⟨a, od, kvs, pa.lock hh (fun _ _ _ z => nomatch z), upd_same, Wl, h0, for_any _ hw⟩
  · obtain ⟨s1, ent⟩ := s.lock0 hG hh
    have r2 := RunS.lock (.inr rfl) hG ent s.scr r1
    obtain ⟨Wl, h0, hw⟩ := for_fix (Dn := Dn) C (wlk_dk hk rl) (locked nθ) s1 (r2.imp fun fl _ _ _ _ _ _ _ _ _ z => by
      cases fl with
      | nx => exact (upd_id z.1) ▸ z.2
      | bk => exact (upd_id z.1) ▸ z.2
      | ct => exact (upd_id z.1) ▸ z.2
      | ret d => exact fun v rv => (upd_id (z v rv).1) ▸ (z v rv).2)
    exact base.run pins st σ H Dn I ⟨a, od, kvs, pa, hh, Wl, h0, for_any _ hw⟩
end
end TM
end
section
set_option Elab.async false
set_option linter.all false
set_option maxRecDepth 100000
set_option maxHeartbeats 4000000
/-! FW14: mutable objects are changed. -/
namespace TM
open PySem PySem.Spec PyProof.Rows L2

section
variable {T : Tab} {P : Prov} {defs N : List Str} {sc : Scope} {L : Str → Bool} {k : Nat} {X : Cx} {W : L2.WX} {B : Base} {e a b c tg : Expr} {m n l : Mo D} {pos : Pos} {x : Str} {G : Hp} {θ : List Addr} {σ : L2.St} {H : Hp} {ρ : Rho} {S : Sto}
/-! ### o[i] = v, o.f = v -/
theorem putK_rep {kvs : List (Key × V)} {kds : List (Key × D)} {k : Key} {v : V} {d : D} (e : kvs.map (·.1) = kds.map (·.1)) (r : RepL T G θ (kvs.map (·.2)) (kds.map (·.2))) (rv : Rep T G θ v d) :
    (putK kvs k v).map (·.1) = (putKD kds k d).map (·.1) ∧ RepL T G θ ((putK kvs k v).map (·.2)) ((putKD kds k d).map (·.2)) := by
  have ha : (kvs.any fun kv => decide (kv.1 = k)) = (kds.any fun kv => decide (kv.1 = k)) := by
    have h1 : (kvs.any fun kv => decide (kv.1 = k)) = (kvs.map (·.1)).any fun z => decide (z = k) := by rw [List.any_map]; rfl
    have h2 : (kds.any fun kv => decide (kv.1 = k)) = (kds.map (·.1)).any fun z => decide (z = k) := by rw [List.any_map]; rfl
    rw [h1, h2, e]
  unfold putK putKD
  rw [ha]
  by_cases h : (kds.any fun kv => decide (kv.1 = k)) = true
  · rw [if_pos h, if_pos h]
    clear ha h
    induction kvs generalizing kds with
    | nil =>
      cases kds with
      | nil => exact ⟨rfl, .nil⟩
      | cons _ _ => cases e
    | cons p ps ih =>
      cases kds with
      | nil => cases e
      | cons q qs =>
        have e1 : p.1 = q.1 := (List.cons.inj e).1
        have e2 := (List.cons.inj e).2
        cases r with
        | cons r1 r2 =>
          obtain ⟨i1, i2⟩ := ih e2 r2
          simp only [List.map_cons]
          by_cases hk : p.1 = k
          · rw [if_pos hk, if_pos (e1 ▸ hk)]
            exact ⟨by rw [i1]; simp only [e1], .cons rv i2⟩
          · rw [if_neg hk, if_neg (e1 ▸ hk)]
            exact ⟨by rw [i1, e1], .cons r1 i2⟩
  · rw [if_neg h, if_neg h]
    simp only [List.map_append, List.map_cons, List.map_nil]
    exact ⟨by rw [e], r.snoc rv⟩
theorem putF_rep {f : Str} {v : V} {d : D} : ∀ {fs : List (Str × V)} {fds : List (Str × D)}, fs.map (·.1) = fds.map (·.1) → RepL T G θ (fs.map (·.2)) (fds.map (·.2)) → Rep T G θ v d →
    (putF f v fs).map (·.1) = (putFD f d fds).map (·.1) ∧ RepL T G θ ((putF f v fs).map (·.2)) ((putFD f d fds).map (·.2))
  | [], [], _, _, rv => ⟨rfl, .cons rv .nil⟩
  | [], _ :: _, e, _, _ => by cases e
  | _ :: _, [], e, _, _ => by cases e
  | (g, v') :: fs, (g', d') :: fds, e, r, rv => by
    have e1 : g = g' := (List.cons.inj e).1
    have e2 := (List.cons.inj e).2
    subst e1
    cases r with
    | cons r1 r2 =>
      obtain ⟨i1, i2⟩ := putF_rep (f := f) e2 r2 rv
      unfold putF putFD
      by_cases h : g = f
      · subst h
        rw [if_pos rfl, if_pos rfl]
        exact ⟨by simp only [List.map_cons, e2], .cons rv r2⟩
      · rw [if_neg h, if_neg h]
        exact ⟨by simp only [List.map_cons, i1], .cons r1 i2⟩
theorem sole_ok {line : Nat} {env : Env} (h : okU tg e = true) : swapsWithSole [tg] e line env = pure false := by
  show swapsWith e (some tg) line env = pure false
  exact okU_ok h
theorem q_setIx (C : Ctx T P defs N sc k X W) (h0 : okE b = true) (ha : PE X a (liftE T B W m)) (hb : PE X b (liftE T B W n)) (hc : PE X c (liftE T B W l)) {p : Pos} : PS X (.Assign [.Subscript a b p] c pos) (liftS T B W (do
    let d ← l >>= persist
    let x ← m >>= settle
    let y ← n >>= settle
    let c ← look y
    modC x fun z => putIx z c d
    pure .nx)) := by
  have hset : PSet X fun o i v H Q => rSetL o i v H Q ∨ rSetD o i v H Q := fun pins s σ H o i v ov iv u Q I ro ri rv q => q.elim (set_list pins s σ H o i v ov iv u Q I ro ri rv) (set_dict C.hu pins s σ H o i v ov iv u Q I ro ri rv)
  refine PS.imp (ps_asg (pe_P hc) (pg_sub (pe_O ha) (pe_O hb) hset (fun v => by cases b <;> first | rfl | cases h0)) (sole_ok (by unfold okU; exact Bool.or_true _)) rfl rfl) fun Dn σ H ⟨G, θ, ρ, S, s, r⟩ => ⟨G, θ, ρ, S, s, r.runBind.imp fun d G1 θ1 H1 ρ1 S1 l1 t1 s1 r1 v o => ?_⟩
  refine ⟨G1, θ1, ρ1, S1, s1, r1.runBind.imp fun x G2 θ2 H2 ρ2 S2 l2 t2 s2 r2 v2 o2 => ⟨G2, θ2, ρ2, S2, s2, r2.runBind.imp fun y G3 θ3 H3 ρ3 S3 l3 t3 s3 r3 v3 o3 => ?_⟩⟩
  obtain ⟨cc, hcc, r4⟩ : ∃ c, deref ρ3 S3 y = some c ∧ RunS T B W (do
      modC x fun z => putIx z c d
      pure .nx) G3 θ3 ρ3 S3 fun f G' θ' σ' H' _ _ => EndOk T Dn f G' θ' σ' H' := by
    have r3' := r3
    unfold RunS at r3'
    rw [bind_def] at r3'
    unfold TM.look at r3'
    cases ec : deref ρ3 S3 y with
    | none => rw [ec] at r3'; exact r3'.elim
    | some c => rw [ec] at r3'; exact ⟨c, rfl, r3'⟩
  have vy := s3.view o3 hcc
  have rv : Rep T G3 θ3 v d := (o.mono l2 t2).mono l3 t3
  obtain ⟨a', u, c0, c', rr, rfl, hu, ob, hf, fin'⟩ := r4.modC s3 (o2.mono l3 t3)
  cases ob with
  | @lst xs ds rl =>
    cases cc with
    | int i =>
      obtain ⟨j, hj, he⟩ := Option.map_eq_some_iff.mp (show (ixN ds.length i).map (fun j => (D.lst (ds.set j d), ())) = some (c', rr) from hf)
      cases he
      obtain ⟨ρ4, S4, s4, r5⟩ := fin' (.lst (xs.set j v)) (.lst (rl.set j rv))
      exact .inl ⟨a', xs, i, j, rfl, vy.int, hu, by rw [rl.length]; exact hj, RunS.pure' r5 s4⟩
    | _ => cases hf
  | @dct kvs kds ek rl =>
    have hf : (if kds.length < 16777216 then (asKey cc).map fun k => (D.dct (putKD kds k d), ()) else none) = some (c', rr) := by
      cases cc <;> first | exact hf | (simp [putIx, asKey] at hf ⊢; done)
    split at hf
    · rename_i hl
      obtain ⟨kk, hk, he⟩ := Option.map_eq_some_iff.mp hf
      cases he
      obtain ⟨p1, p2⟩ := putK_rep (k := kk) ek rl rv
      obtain ⟨ρ4, S4, s4, r5⟩ := fin' (.dK (putK kvs kk v)) (.dct p1 p2)
      have hlen : kvs.length = kds.length := by
        have := congrArg List.length ek
        simpa using this
      have ey := asKey_of vy hk
      subst ey
      exact .inr ⟨a', _, rfl, DPut.k hu (by rw [sizeLine_eq, hlen]; exact hl), RunS.pure' r5 s4⟩
    · cases hf
  | dctT _ _ => cases cc <;> cases hf
  | ins _ _ _ => cases cc <;> cases hf
theorem q_setAt (C : Ctx T P defs N sc k X W) (ha : PE X a (liftE T B W m)) (hc : PE X c (liftE T B W l)) {p : Pos} {f : Str} : PS X (.Assign [.Attribute a f p] c pos) (liftS T B W (do
    let d ← l >>= persist
    let x ← m >>= settle
    modC x fun z => putAt P f z d
    pure .nx)) := by
  refine PS.imp (ps_fld (pe_O ha) (pe_P hc) (okU_ok (by unfold okU; exact Bool.or_true _))) fun Dn σ H ⟨G, θ, ρ, S, s, r⟩ => ⟨G, θ, ρ, S, s, r.runBind.imp fun d G1 θ1 H1 ρ1 S1 l1 t1 s1 r1 v o => ?_⟩
  refine ⟨G1, θ1, ρ1, S1, s1, r1.runBind.imp fun x G2 θ2 H2 ρ2 S2 l2 t2 s2 r2 v2 o2 => ?_⟩
  have rv : Rep T G2 θ2 v d := o.mono l2 t2
  obtain ⟨a', u, c0, c', rr, rfl, hu, ob, hf, fin'⟩ := r2.modC s2 o2
  cases ob with
  | @ins A dx cn fs fds hc ek rl =>
    have hf : (if P.fld cn f = true ∧ fds.length < 1000 then some (D.ins cn (putFD f d fds), ()) else none) = some (c', rr) := hf
    split at hf
    · rename_i hl
      cases hf
      obtain ⟨p1, p2⟩ := putF_rep (f := f) ek rl rv
      obtain ⟨ρ4, S4, s4, r5⟩ := fin' (.ins A dx (putF f v fs)) (.ins hc p1 p2)
      have hlen : fs.length = fds.length := by
        have := congrArg List.length ek
        simpa using this
      obtain ⟨c1, c2⟩ := C.w0.fld cn A f hc hl.1
      exact ⟨a', A, dx, fs, rfl, hu, c1, c2, by rw [hlen]; exact hl.2, RunS.pure' r5 s4⟩
    · cases hf
  | lst _ => cases hf
  | dct _ _ => cases hf
  | dctT _ _ => cases hf
/-! ### x.f, x.g = a pair -/
def gAt (K : PySem.W.Frag) (to : TE) (f : Str) : TG := fun v σ H Q => to σ H fun x H2 => ∃ a A dx fs, x = .ref a ∧ H2 a = some (.ins A dx fs) ∧ Cls K A ∧ NoAttr K A f ∧ fs.length < 1000 ∧ Q σ (upd H2 a (.ins A dx (putF f v fs)))
theorem pg_at {to : TE} {f : Str} (ho : PE X a to) : PG X (.Attribute a f pos) (gAt X.K to f) := by
  refine ⟨fun pins s σ H v u Q I r h => ?_⟩
  rw [PySem.assign_Attribute]
  refine wpAny_bind (wpAny_holding (thn (ho.run pins s σ H _ I h) fun ov s1 ⟨x, H1, I1, rx, a', A, dx, fs, ex, ea, c, n, l, q⟩ => ?_))
  subst ex
  obtain rfl : ov = Value.ref a' := rx
  exact wpAny_bind (wpAny_standAt (wpAny_bind (wpAny_holding (setattr_ok I1 ea c n l r fun s2 I2 => wpAny_release ⟨σ, _, I2, q⟩))))
theorem at_step (C : Ctx T P defs N sc k X W) {i : Nat} {f : Str} {d : D} {v : V} {k2 : Unit → Mo Fl} {Z : Fl → Hp → List Addr → L2.St → Hp → Rho → Sto → Prop} {Q : L2.St → Hp → Prop} (s : Sim T B G θ σ H ρ S) (rv : Rep T G θ v d)
    (r : RunS T B W ((ev P (.var i) >>= settle) >>= fun x => (modC x fun z => putAt P f z d) >>= k2) G θ ρ S Z) (next : ∀ G' θ' H' ρ' S', Le G G' → Lt θ θ' → Sim T B G' θ' σ H' ρ' S' → RunS T B W (k2 ()) G' θ' ρ' S' Z → Q σ H') : gAt X.K (liftO T B W (ev P (.var i) >>= settle)) f v σ H Q := by
  refine ⟨G, θ, ρ, S, s, r.runBind.imp fun x G2 θ2 H2 ρ2 S2 l2 t2 s2 r2 v2 o2 => ?_⟩
  have rv := rv.mono l2 t2
  obtain ⟨a', u, c0, c', rr, rfl, hu, ob, hf, fin'⟩ := r2.modC s2 o2
  cases ob with
  | @ins A dx cn fs fds hc ek rl =>
    have hf : (if P.fld cn f = true ∧ fds.length < 1000 then some (D.ins cn (putFD f d fds), ()) else none) = some (c', rr) := hf
    split at hf
    · rename_i hl
      cases hf
      obtain ⟨p1, p2⟩ := putF_rep (f := f) ek rl rv
      obtain ⟨ρ4, S4, s4, r5⟩ := fin' (.ins A dx (putF f v fs)) (.ins hc p1 p2)
      have hlen : fs.length = fds.length := by simpa using congrArg List.length ek
      obtain ⟨c1, c2⟩ := C.w0.fld cn A f hc hl.1
      exact ⟨a', A, dx, fs, rfl, hu, c1, c2, by rw [hlen]; exact hl.2, next G2 θ2 _ ρ4 S4 l2 t2 s4 r5⟩
    · cases hf
  | lst _ => cases hf
  | dct _ _ => cases hf
  | dctT _ _ => cases hf
theorem q_asgAt (C : Ctx T P defs N sc k X W) {i j : Nat} {f g : Str} {e1 e2 : Expr} {p1 p2 tp : Pos} (h1 : PE X e1 (liftE T B W (ev P (.var i)))) (h2 : PE X e2 (liftE T B W (ev P (.var i)))) (hsw : okSw sc (.Tuple [.Attribute e1 f p1, .Attribute e2 g p2] j tp) c = true) (hc : PE X c (liftE T B W l)) :
    PS X (.Assign [.Tuple [.Attribute e1 f p1, .Attribute e2 g p2] j tp] c pos) (liftS T B W (do
      let d ← l >>= persist
      let ds ← itemsM d
      match ds with
      | [a, b] => do
        let x ← ev P (.var i) >>= settle
        modC x fun z => putAt P f z a
        let y ← ev P (.var i) >>= settle
        modC y fun z => putAt P g z b
        pure .nx
      | _ => fail)) := by
  have pgs : PGs X [.Attribute e1 f p1, .Attribute e2 g p2] (fun vs σ H Q => ∃ v w, vs = [v, w] ∧ gAt X.K (liftO T B W (ev P (.var i) >>= settle)) f v σ H fun σ1 H1 => gAt X.K (liftO T B W (ev P (.var i) >>= settle)) g w σ1 H1 Q) := by
    refine ⟨fun pins s σ H vs us Q I r ⟨v, w, ev, q⟩ => ?_⟩
    subst ev
    cases r with
    | cons r1 r => cases r with
      | cons r2 r =>
        cases r
        refine assignInOrder_cons (thn ((pg_at (pe_O h1)).run pins s σ H _ _ _ I r1 q) fun _ s1 ⟨σ1, H1, I1, q1⟩ => ?_)
        refine assignInOrder_cons (thn ((pg_at (pe_O h2)).run pins s1 σ1 H1 _ _ _ I1 r2 q1) fun _ s2 ⟨σ2, H2, I2, q2⟩ => ?_)
        exact assignInOrder_nil ⟨σ2, H2, I2, q2⟩
  refine PS.imp (ps_asg (pe_P hc) (pg_items C.calm pgs (n := 2) rfl rfl) (sole_ok (by unfold okU; exact Bool.or_true _)) (okSw_ok C.es hsw) rfl) fun Dn σ H ⟨G, θ, ρ, S, s, r⟩ => ⟨G, θ, ρ, S, s, r.runBind.imp fun d G1 θ1 H1 ρ1 S1 l1 t1 s1 r1 v o => ?_⟩
  obtain ⟨a', xs, ds, rfl, ha, ra, r2⟩ := items_ok s1 o r1
  cases ra with
  | nil => exact r2.elim
  | @cons va vs da ds' q1 ra =>
    cases ra with
    | nil => exact r2.elim
    | @cons vb vs db ds'' q2 ra =>
      cases ra with
      | cons _ _ => exact r2.elim
      | nil =>
        have r2 : RunS T B W ((ev P (.var i) >>= settle) >>= fun x => (modC x fun z => putAt P f z da) >>= fun _ => (ev P (.var i) >>= settle) >>= fun y => (modC y fun z => putAt P g z db) >>= fun _ => pure Fl.nx) G1 θ1 ρ1 S1 (fun f G' θ' σ' H' _ _ => EndOk T Dn f G' θ' σ' H') := r2
        have key : gAt X.K (liftO T B W (ev P (.var i) >>= settle)) f va σ H1 fun σ1 H2 => gAt X.K (liftO T B W (ev P (.var i) >>= settle)) g vb σ1 H2 fun σ2 H3 => Dn.nx σ2 H3 :=
          at_step C s1 q1 r2 fun G2 θ2 H2 ρ2 S2 l2 t2 s2 r3 => at_step C s2 (q2.mono l2 t2) r3 fun G3 θ3 H3 ρ3 S3 l3 t3 s3 r4 => RunS.pure' r4 s3
        rw [C.w0.eK]
        rw [C.w0.eK] at key
        rcases ha with ha | ha
        · exact .inl ⟨a', _, rfl, ha, rfl, va, vb, rfl, key⟩
        · exact .inr ⟨a', _, rfl, ha, rfl, va, vb, rfl, key⟩
theorem RunS.ofO {α β : Type} {o : Option α} {f : α → Mo β} {Q : β → Hp → List Addr → L2.St → Hp → Rho → Sto → Prop} (h : RunS T B W (TM.ofO o >>= f) G θ ρ S Q) : ∃ a, o = some a ∧ RunS T B W (f a) G θ ρ S Q := by
  cases o with
  | none => exact h.elim
  | some a => exact ⟨a, rfl, h⟩
theorem slotI_ok {i : Nat} (s : Sim T B G θ σ H ρ S) : slotI i ρ S = .bad ∨ ∃ p, slotI i ρ S = .ok p ρ S ∧ σ[i]? = some (some (.int p)) := by
  unfold slotI
  split
  · rename_i pv e1
    obtain ⟨v, q1, q2⟩ := s.val i _ e1
    cases q2
    exact .inr ⟨pv, rfl, q1⟩
  · exact .inl rfl
theorem q_aug (C : Ctx T P defs N sc k X W) (hs : Stor X L) {i : Nat} (h : slotOk N L i tg = true) (he : PE X e (liftE T B W n)) : PS X (.AugAssign tg .Add e pos) (liftS T B W (mAug i n)) := by
  obtain ⟨x, p, rfl, g1, g2⟩ := slotOk_ok h
  refine PS.imp (ps_aug (by rw [C.eN]; exact C.nd) (by rw [C.eN]; exact g1) (hs x g2).1 (pe_O he) ip_add (hs x g2).2) fun Dn σ H ⟨G, θ, ρ, S, s, r⟩ => ?_
  rcases slotI_ok (i := i) s with q | ⟨pv, q, q1⟩
  · unfold mAug RunS at r
    rw [bind_def, q] at r
    exact r.elim
  · have r1 : RunS T B W ((n >>= settle) >>= fun y => TM.ofO (asI y) >>= fun q => setSlot i (.int (pv + q)) >>= fun _ => pure .nx) G θ ρ S fun f G' θ' σ' H' _ _ => EndOk T Dn f G' θ' σ' H' := by
      unfold mAug RunS at r
      rw [bind_def, q] at r
      exact r
    refine ⟨_, q1, G, θ, ρ, S, s, r1.runBind.imp fun y G1 θ1 H1 ρ1 S1 l1 t1 s1 r2 v2 o2 => ?_⟩
    obtain ⟨j, hj, r3⟩ := r2.ofO
    refine ⟨pv, j, rfl, asI_of hj o2, ?_⟩
    obtain ⟨G', ρ', S', l, s2, q⟩ := RunS.setRep r3.bind s1 (.int _)
    exact RunS.pure' q s2
/-- a, b = x, y at once -/
def parC (sc : Scope) (x y : Str) (px py : Pos) (a b : Expr) : Bool := decide (sc.kind = .function) && decide (sc.names.lookup x = some .local) && decide (sc.names.lookup y = some .local) && decide (py.line = px.line) && decide (x ≠ y) && okE a && okE b && !(foldedForSure 8 a && foldedForSure 8 b) && !(constantsAlone 8 a && constantsAlone 8 b)
theorem parC_ok {y : Str} {px py p1 p2 : Pos} {j1 j2 : Nat} {env : Env} (he : env.scope = sc) (h : parC sc x y px py a b = true) : swappedStores [.Tuple [.Name x px, .Name y py] j1 p1] (.Tuple [a, b] j2 p2) env = pure (some [x, y]) := by
  unfold parC at h
  simp only [Bool.and_eq_true, decide_eq_true_eq, Bool.not_eq_true'] at h
  obtain ⟨⟨⟨⟨⟨⟨⟨⟨h1, h2⟩, h3⟩, h4⟩, h5⟩, h6⟩, h7⟩, h8⟩, h9⟩ := h
  have hk : env.blockKind = .function := by
    unfold Env.blockKind
    rw [he, h1]; rfl
  have kx : env.kindOf x = some .local := by unfold Env.kindOf; rw [he]; exact h2
  have ky : env.kindOf y = some .local := by unfold Env.kindOf; rw [he]; exact h3
  have hb : (env.blockKind != .function) = false := by rw [hk]; rfl
  have hl : (py.line == px.line) = true := by rw [h4]; simp
  have hst : ([a, b].any fun | .Starred .. => true | _ => false) = false := by
    have q : ∀ e : Expr, okE e = true → (match e with | .Starred .. => true | _ => false) = false := fun e h => by cases e <;> first | rfl | cases h
    simp only [List.any_cons, List.any_nil, q a h6, q b h7, Bool.or_self]
  unfold swappedStores
  simp only [List.length_cons, List.length_nil, hb, hst, List.head?_cons, Option.map_some, Option.getD_some, Expr.pos, List.filterMap_cons, List.filterMap_nil, kx, ky, hl, beq_self_eq_true, Bool.and_self, if_true, List.all_cons, List.all_nil, Bool.and_true, h8, h9]
  have hd : ([x, y].eraseDups.length != 0 + 1 + 1) = false := by
    have h5' : (y == x) = false := by simpa using Ne.symm h5
    simp [List.eraseDups_cons, h5']
  rw [if_neg (by decide)]
  split
  · rename_i z
    exact absurd (hst.symm.trans z) Bool.false_ne_true
  · rw [hd]
    rfl
theorem frz_ok {G : Hp} {θ : List Addr} {H : Hp} {ρ : Rho} {S : Sto} {i : Nat} {v : V} (s : Sim T B G θ σ H ρ S) (h : σ[i]? = some (some v)) : frz i ρ S = .bad ∨ ∃ d ρ' G', frz i ρ S = .ok d ρ' S ∧ Le G G' ∧ Sim T B G' θ σ H ρ' S ∧ Rep T G' θ v d := by
  unfold frz
  cases e : ρ[i]? with
  | none => exact .inl rfl
  | some x =>
    cases x with
    | no => exact .inl rfl
    | v d =>
      obtain ⟨w, h1, h2⟩ := s.val i d e
      rw [h] at h1
      cases h1
      exact .inr ⟨d, ρ, G, rfl, Le.refl _, s, h2⟩
    | own d =>
      obtain ⟨a, o, h1, l2, h2, s2⟩ := s.freeze e
      rw [h] at h1
      cases h1
      exact .inr ⟨d, _, _, rfl, l2, s2, h2⟩
def Kp (T : Tab) (B : Base) (G : Hp) (θ : List Addr) (σ : L2.St) (H : Hp) (ρ : Rho) (v : V) (d : D) : Prop := (Rep T G θ v d ∧ ∀ c, d ≠ .nw c) ∨ ∃ c, d = .nw c ∧ TRep T B G θ σ H ρ v (.nw c)
theorem keep_ok {G : Hp} {θ : List Addr} {H : Hp} {ρ : Rho} {S : Sto} {v : V} {d : D} (s : Sim T B G θ σ H ρ S) (o : TRep T B G θ σ H ρ v d) : keep d ρ S = .bad ∨ ∃ d' ρ' G', keep d ρ S = .ok d' ρ' S ∧ Le G G' ∧ Sim T B G' θ σ H ρ' S ∧ Kp T B G' θ σ H ρ' v d' := by
  cases o with
  | of o =>
    cases o with
    | of rp =>
      refine .inr ⟨d, ρ, G, ?_, Le.refl _, s, .inl ⟨rp, fun c z => by subst z; cases rp⟩⟩
      cases rp <;> rfl
    | sl h =>
      rcases frz_ok s h with q | ⟨d', ρ', G', q, l, s2, rp⟩
      · exact .inl q
      · exact .inr ⟨d', ρ', G', q, l, s2, .inl ⟨rp, fun c z => by subst z; cases rp⟩⟩
  | nw h1 ob h2 h3 h4 h5 => exact .inr ⟨_, ρ, G, rfl, Le.refl _, s, .inr ⟨_, rfl, .nw h1 ob h2 h3 h4 h5⟩⟩
theorem RunS.keep {α : Type} {G : Hp} {θ : List Addr} {H : Hp} {ρ : Rho} {S : Sto} {v : V} {d : D} {f : D → Mo α} {Q : α → Hp → List Addr → L2.St → Hp → Rho → Sto → Prop} (r : RunS T B W (TM.keep d >>= f) G θ ρ S Q) (s : Sim T B G θ σ H ρ S) (o : TRep T B G θ σ H ρ v d) :
    ∃ d' ρ' G', Le G G' ∧ Sim T B G' θ σ H ρ' S ∧ Kp T B G' θ σ H ρ' v d' ∧ RunS T B W (f d') G' θ ρ' S Q := by
  rcases keep_ok s o with q | ⟨d', ρ', G', q, l, s2, kp⟩
  · unfold RunS at r
    rw [bind_def, q] at r
    exact r.elim
  · refine ⟨d', ρ', G', l, s2, kp, ?_⟩
    have r2 : RunS T B W (f d') G θ ρ' S Q := by
      unfold RunS at r ⊢
      rw [bind_def, q] at r
      exact r
    exact r2.mono l (Lt.refl _)
theorem pe_any {t : Base → TE} (h : ∀ B, PE X b (t B)) : PE X b (fun σ H Q => ∃ B, t B σ H Q) := ⟨fun pins s σ H Q I ⟨B, q⟩ => (h B).run pins s σ H Q I q⟩
theorem pa_two {ta : TE} {tb : TE} (h1 : okE a = true) (h2 : okE b = true) (ha : PE X a ta) (hb : PE X b tb) : PA X [a, b] (tCons ta (tCons tb tNil)) := pa_cons ha (pa_cons hb pa_nil (star_ok h2)) (star_ok h1)
/-- a slot takes a kept value -/
theorem setKeep_ok {i : Nat} {d : D} {v : V} (s : Sim T B G θ σ H ρ S) (hi : i < ρ.length) (h0 : ∀ c, d = .nw c → i ≠ 0) (o : Kp T B G θ σ H ρ v d) : ∃ x, TM.setSlot i d ρ S = .ok () (ρ.set i x) S ∧ Sim T B G θ (σ.set i (some v)) H (ρ.set i x) S ∧ ∀ e, x = .own e → d = .nw e := by
  rcases o with ⟨r, _⟩ | ⟨c, rfl, o⟩
  · refine ⟨.v d, ?_, s.setV hi r, fun e z => by cases z⟩
    unfold TM.setSlot
    rw [if_pos hi]
    cases r <;> rfl
  · cases o with
    | of o => cases o with
      | of r => cases r
    | nw h1 ob h2 h3 h4 h5 =>
      have hz := h0 c rfl
      refine ⟨.own c, ?_, s.setOwn hz hi h1 ob h2 h3 h4 h5, fun e z => by cases z; rfl⟩
      unfold TM.setSlot
      rw [if_pos hi]
      exact if_neg hz
theorem RunS.setKeep {α : Type} {i : Nat} {d : D} {v : V} {f : Unit → Mo α} {Q : α → Hp → List Addr → L2.St → Hp → Rho → Sto → Prop} (h : RunS T B W (TM.setSlot i d >>= f) G θ ρ S Q) (s : Sim T B G θ σ H ρ S) (o : Kp T B G θ σ H ρ v d) :
    ∃ x, Sim T B G θ (σ.set i (some v)) H (ρ.set i x) S ∧ (∀ e, x = .own e → d = .nw e) ∧ i < ρ.length ∧ RunS T B W (f ()) G θ (ρ.set i x) S Q := by
  by_cases hi : i < ρ.length
  · have h0 : ∀ c, d = .nw c → i ≠ 0 := fun c e z => by
      subst e
      unfold RunS at h
      rw [bind_def] at h
      unfold TM.setSlot at h
      rw [if_pos hi] at h
      simp only [if_pos z] at h
    obtain ⟨x, q, s2, k⟩ := setKeep_ok s hi h0 o
    refine ⟨x, s2, k, hi, ?_⟩
    unfold RunS at h ⊢
    rw [bind_def, q] at h
    exact h
  · unfold RunS at h
    rw [bind_def] at h
    unfold TM.setSlot at h
    rw [if_neg hi] at h
    exact h.elim
theorem q_par (C : Ctx T P defs N sc k X W) {i j : Nat} {y : Str} {px py p1 p2 : Pos} {j1 j2 : Nat} (hi : N[i]? = some x) (hj : N[j]? = some y) (hp : parC sc x y px py a b = true) (ha : ∀ B, PE X a (liftE T B W m)) (hb : ∀ B, PE X b (liftE T B W n)) :
    PS X (.Assign [.Tuple [.Name x px, .Name y py] j1 p1] (.Tuple [a, b] j2 p2) pos) (liftS T B W (mPar i j m n)) := by
  have hc := hp
  unfold parC at hc
  simp only [Bool.and_eq_true, decide_eq_true_eq, Bool.not_eq_true'] at hc
  obtain ⟨⟨⟨⟨⟨⟨⟨⟨h1, h2⟩, h3⟩, h4⟩, h5⟩, h6⟩, h7⟩, h8⟩, h9⟩ := hc
  have hij : i ≠ j := fun z => by
    subst z
    rw [hi] at hj
    exact h5 (Option.some.inj hj)
  refine PS.imp (ps_par C.calm (by rw [C.eN]; exact C.nd) (by rw [C.eN]; exact hi) (by rw [C.eN]; exact hj) hij (by rw [C.es]; exact h2) (by rw [C.es]; exact h3) (pa_two h6 h7 (ha B) (pe_any hb)) (parC_ok C.es hp)) fun Dn σ H ⟨G, θ, ρ, S, s, r⟩ => ?_
  unfold mPar at r
  have r : RunS T B W ((m >>= keep) >>= _) G θ ρ S _ := r
  rw [Mo.assoc] at r
  refine ⟨G, θ, ρ, S, s, r.runBind.imp fun d0 G1 θ1 H1 ρ1 S1 l1 t1 s1 r1 v o => ?_⟩
  have r1 : RunS T B W (TM.keep d0 >>= _) G1 θ1 ρ1 S1 _ := r1
  obtain ⟨dx, ρx, Gx, lx, sx, kx, r2⟩ := r1.keep s1 o
  have r2 : RunS T B W ((n >>= TM.keep) >>= fun y => setSlot i dx >>= fun _ => setSlot j y >>= fun _ => pure .nx) Gx θ1 ρx S1 fun f G' θ' σ' H' _ _ => EndOk T Dn f G' θ' σ' H' := r2
  rw [Mo.assoc] at r2
  -- the end of it
  have last : ∀ {G4 : Hp} {θ4 : List Addr} {H4 : Hp} {ρ4 : Rho} {S4 : Sto} {w : V} {dy : D}, Sim T B G4 θ4 σ H4 ρ4 S4 → Kp T B G4 θ4 σ H4 ρ4 v dx → Kp T B G4 θ4 σ H4 ρ4 w dy → (∀ c c', dx = .nw c → dy = .nw c' → v ≠ w) → RunS T B W (setSlot i dx >>= fun _ => setSlot j dy >>= fun _ => pure .nx) G4 θ4 ρ4 S4 (fun f G' θ' σ' H' _ _ => EndOk T Dn f G' θ' σ' H') →
      Dn.nx ((σ.set i (some v)).set j (some w)) H4 := fun {G4 θ4 H4 ρ4 S4 w dy} s4 k1 k2 hne r4 => by
    obtain ⟨x4, s5, k5, hi5, r5⟩ := r4.setKeep s4 k1
    have k2' : Kp T B G4 θ4 (σ.set i (some v)) H4 (ρ4.set i x4) w dy := by
      rcases k2 with k2 | ⟨c', rfl, k2⟩
      · exact .inl k2
      · refine .inr ⟨c', rfl, ?_⟩
        cases k2 with
        | of o => cases o with
          | of r => cases r
        | nw h1 ob h2 h3 h4 h5 =>
          refine .nw h1 ob h2 h3 h4 fun i' e he => ?_
          by_cases hii : i' = i
          · subst hii
            rw [List.getElem?_set_self hi5] at he
            cases he
            rw [List.getElem?_set_self (by rw [s4.slen]; exact hi5)]
            intro z
            exact hne e c' (k5 e rfl) rfl (Option.some.inj (Option.some.inj z))
          · rw [List.getElem?_set_ne (Ne.symm hii)] at he ⊢
            exact h5 i' e he
    obtain ⟨x6, s6, _, _, r6⟩ := r5.setKeep s5 k2'
    exact RunS.pure' r6 s6
  rcases kx with kx | ⟨cx, rfl, kx⟩
  · refine ⟨B, Gx, θ1, ρx, S1, sx, r2.runBind.imp fun d2 G2 θ2 H2 ρ2 S2 l2 t2 s2 r3 w o2 => ?_⟩
    obtain ⟨dy, ρy, Gy, ly, sy, ky, r4⟩ := RunS.keep r3 s2 o2
    exact ⟨v, w, rfl, last sy (.inl ⟨(kx.1.mono l2 t2).mono ly (Lt.refl _), kx.2⟩) ky (fun c c' z => absurd z (kx.2 c)) r4⟩
  · cases kx with
    | of o => cases o with
      | of r => cases r
    | @nw ax ox _ h1 ob h2 h3 h4 h5 =>
      have np := sx.notPr h4
      refine ⟨B.hold ax ox, Gx, θ1, ρx, S1, sx.hold h1 h2 h3 h4 h5, (r2.runBind.hold ob.nt h4 np sx.scr).imp fun d2 G2 θ2 H2 ρ2 S2 l2 t2 s2 r3 w o2 => ?_⟩
      obtain ⟨_, _, r3⟩ := r3
      rcases keep_ok s2 o2 with q | ⟨dy, ρy, Gy, q, ly, sy, ky⟩
      · unfold RunS at r3
        rw [bind_def, q] at r3
        exact r3.elim
      · have r4 : RunS T B W (setSlot i (.nw cx) >>= fun _ => setSlot j dy >>= fun _ => pure .nx) Gy θ2 ρy S2 fun f G' θ' σ' H' _ _ => EndOk T Dn f G' θ' σ' H' := by
          refine RunS.mono (G := G2) (θ := θ2) ?_ ly (Lt.refl _)
          unfold RunS at r3 ⊢
          rw [bind_def, q] at r3
          exact r3
        obtain ⟨s3, f1, f2, f3, f4⟩ := sy.unhold ob.nt h4 np sx.scr
        have kx' : Kp T B Gy θ2 σ H2 ρy (.ref ax) (.nw cx) := .inr ⟨_, rfl, .nw f1 (ob.mono (l2.trans ly) t2) f2 f3 h4 f4⟩
        have back : ∀ {p : Addr}, (B.hold ax ox).H p = none → p ≠ ax ∧ B.H p = none := fun {p} g4 => by
          have g4 : upd B.H ax ox p = none := g4
          by_cases z : p = ax
          · rw [z, upd_same] at g4; cases g4
          · rw [upd_ne z] at g4; exact ⟨z, g4⟩
        have ky' : Kp T B Gy θ2 σ H2 ρy w dy := by
          rcases ky with ky | ⟨c', rfl, ky⟩
          · exact .inl ky
          · refine .inr ⟨c', rfl, ?_⟩
            cases ky with
            | of o => exact .of o
            | nw g1 ob' g2 g3 g4 g5 => exact .nw g1 ob' g2 g3 (back g4).2 g5
        refine ⟨.ref ax, w, rfl, last s3 kx' ky' (fun c c' _ z => ?_) r4⟩
        rcases ky with ky | ⟨c2, z2, ky⟩
        · exact absurd z (ky.2 c')
        · cases ky with
          | of o => cases o with
            | of r => cases r
          | @nw aw ow _ g1 ob' g2 g3 g4 g5 =>
            intro e
            cases e
            exact (back g4).1 rfl
end
end TM
end
section
set_option Elab.async false
set_option linter.all false
set_option maxRecDepth 100000
set_option maxHeartbeats 4000000
/-! FW15: the checker for statements, sound. -/
namespace TM
open PySem PySem.Spec PyProof.Rows L2

/-! ### texts taken apart -/
def yRet : Stmt → Option (Option Expr)
  | .Return e _ => some e
  | _ => none
theorem yRet_ok {s : Stmt} {e : Option Expr} (h : yRet s = some e) : ∃ pos, s = .Return e pos := by
  unfold yRet at h
  split at h <;> cases h
  exact ⟨_, rfl⟩
def yExpr : Stmt → Option Expr
  | .Expr e _ => some e
  | _ => none
theorem yExpr_ok {s : Stmt} {e : Expr} (h : yExpr s = some e) : ∃ pos, s = .Expr e pos := by
  unfold yExpr at h
  split at h <;> cases h
  exact ⟨_, rfl⟩
def yAsg : Stmt → Option (Expr × Expr)
  | .Assign [t] e _ => some (t, e)
  | _ => none
theorem yAsg_ok {s : Stmt} {t e : Expr} (h : yAsg s = some (t, e)) : ∃ pos, s = .Assign [t] e pos := by
  unfold yAsg at h
  split at h <;> cases h
  exact ⟨_, rfl⟩
def yAug : Stmt → Option (Expr × Expr)
  | .AugAssign t .Add e _ => some (t, e)
  | _ => none
theorem yAug_ok {s : Stmt} {t e : Expr} (h : yAug s = some (t, e)) : ∃ pos, s = .AugAssign t .Add e pos := by
  unfold yAug at h
  split at h <;> cases h
  exact ⟨_, rfl⟩
def yIf : Stmt → Option (Expr × List Stmt × List Stmt)
  | .If c a b _ => some (c, a, b)
  | _ => none
theorem yIf_ok {s : Stmt} {c : Expr} {a b : List Stmt} (h : yIf s = some (c, a, b)) : ∃ pos, s = .If c a b pos := by
  unfold yIf at h
  split at h <;> cases h
  exact ⟨_, rfl⟩
def yFor : Stmt → Option (Expr × Expr × List Stmt)
  | .For t e b [] _ => some (t, e, b)
  | _ => none
theorem yFor_ok {s : Stmt} {t e : Expr} {b : List Stmt} (h : yFor s = some (t, e, b)) : ∃ pos, s = .For t e b [] pos := by
  unfold yFor at h
  split at h <;> cases h
  exact ⟨_, rfl⟩
def yWhl : Stmt → Option (Expr × List Stmt)
  | .While c b [] _ => some (c, b)
  | _ => none
theorem yWhl_ok {s : Stmt} {c : Expr} {b : List Stmt} (h : yWhl s = some (c, b)) : ∃ pos, s = .While c b [] pos := by
  unfold yWhl at h
  split at h <;> cases h
  exact ⟨_, rfl⟩
def xSub : Expr → Option (Expr × Expr)
  | .Subscript a b _ => some (a, b)
  | _ => none
theorem xSub_ok {e a b : Expr} (h : xSub e = some (a, b)) : ∃ pos, e = .Subscript a b pos := by
  unfold xSub at h
  split at h <;> cases h
  exact ⟨_, rfl⟩
def xAttr : Expr → Option (Expr × Str)
  | .Attribute a f _ => some (a, f)
  | _ => none
theorem xAttr_ok {e a : Expr} {f : Str} (h : xAttr e = some (a, f)) : ∃ pos, e = .Attribute a f pos := by
  unfold xAttr at h
  split at h <;> cases h
  exact ⟨_, rfl⟩
def yPar : Stmt → Option (Str × Str × Pos × Pos × Expr × Expr)
  | .Assign [.Tuple [.Name x px, .Name y py] _ _] (.Tuple [a, b] _ _) _ => some (x, y, px, py, a, b)
  | _ => none
theorem yPar_ok {s : Stmt} {x y : Str} {px py : Pos} {a b : Expr} (h : yPar s = some (x, y, px, py, a, b)) : ∃ j1 p1 j2 p2 pos, s = .Assign [.Tuple [.Name x px, .Name y py] j1 p1] (.Tuple [a, b] j2 p2) pos := by
  unfold yPar at h
  split at h <;> cases h
  exact ⟨_, _, _, _, _, rfl⟩
def yRaise : Stmt → Option (Str × List Expr)
  | .Raise (some (.Call (.Name x _) es [] _)) none _ => some (x, es)
  | _ => none
theorem yRaise_ok {s : Stmt} {x : Str} {es : List Expr} (h : yRaise s = some (x, es)) : ∃ p pos st, s = .Raise (some (.Call (.Name x p) es [] pos)) none st := by
  unfold yRaise at h
  split at h <;> cases h
  exact ⟨_, _, _, rfl⟩
def yPass : Stmt → Bool
  | .Pass _ => true
  | .Expr (.Constant (.str _) _ _) _ => true
  | _ => false
def yBrk : Stmt → Bool
  | .Break _ => true
  | _ => false
def yCt : Stmt → Bool
  | .Continue _ => true
  | _ => false
section
variable (N : List Str) (defs : List Str)
/-- whether the store of a comprehension is exchanged -/
def swS : Expr → Option (Scope × Pos)
  | .ListComp _ _ s p => some (s, p)
  | .SetComp _ _ s p => some (s, p)
  | .DictComp _ _ _ s p => some (s, p)
  | _ => none
def swB (sc : Scope) (t : Str) (p lp : Pos) (s : Scope) : Bool := (if sc.kind.isAnnotationScope then ScopeKind.function else sc.kind) == .function && sc.names.lookup t == some .local && p.line == lp.line && !(s.names.any fun (n, k) => n == t && (k == .local || k == .cell))
def okW (sc : Scope) (tg e : Expr) : Bool := match swS e with
  | none => true
  | some (s, lp) => match tg with
    | .Name t p => !swB sc t p lp s
    | _ => true
theorem okW_ok {sc : Scope} {tg e : Expr} {env : Env} {line : Nat} (he : env.scope = sc) (h : okW sc tg e = true) : swapsWith e (some tg) line env = pure false := by
  subst he
  unfold okW at h
  cases e <;> first
    | rfl
    | (cases tg <;> first
        | rfl
        | (have h : (!swB _ _ _ _ _) = true := h
           simp only [Bool.not_eq_true'] at h
           unfold swB at h
           show (pure _ : Sem Bool) = pure false
           exact congrArg pure h))
theorem swC_ok {sc : Scope} {elt : Expr} {gens : List Comprehension} {s : Scope} {lp p : Pos} {t : Str} {env : Env} {line : Nat} (he : env.scope = sc) (h : swB sc t p lp s = true) : swapsWith (.ListComp elt gens s lp) (some (.Name t p)) line env = pure true := by
  subst he
  unfold swB at h
  show (pure _ : Sem Bool) = pure true
  exact congrArg pure h
def yLc : Stmt → Option (Str × Pos × Expr × Expr × Expr × List Expr × Scope × Pos)
  | .Assign [.Name y py] (.ListComp elt [⟨tg, iter, ifs, 0⟩] scope pos) _ => some (y, py, elt, tg, iter, ifs, scope, pos)
  | _ => none
theorem yLc_ok {st : Stmt} {y : Str} {py pos : Pos} {elt tg iter : Expr} {ifs : List Expr} {scope : Scope} (h : yLc st = some (y, py, elt, tg, iter, ifs, scope, pos)) : ∃ spos, st = .Assign [.Name y py] (.ListComp elt [⟨tg, iter, ifs, 0⟩] scope pos) spos := by
  unfold yLc at h
  split at h <;> cases h
  exact ⟨_, rfl⟩
def yDc : Stmt → Option (Str × Pos × Expr × Expr × Expr × Expr × List Expr × Scope × Pos)
  | .Assign [.Name y py] (.DictComp kx vx [⟨tg, iter, ifs, 0⟩] scope pos) _ => some (y, py, kx, vx, tg, iter, ifs, scope, pos)
  | _ => none
theorem yDc_ok {st : Stmt} {y : Str} {py pos : Pos} {kx vx tg iter : Expr} {ifs : List Expr} {scope : Scope} (h : yDc st = some (y, py, kx, vx, tg, iter, ifs, scope, pos)) : ∃ spos, st = .Assign [.Name y py] (.DictComp kx vx [⟨tg, iter, ifs, 0⟩] scope pos) spos := by
  unfold yDc at h
  split at h <;> cases h
  exact ⟨_, rfl⟩
def yAt : Stmt → Option (Expr × Str × Expr × Str × Expr × Expr)
  | .Assign [t] e _ => match t with
    | .Tuple [.Attribute e1 f _, .Attribute e2 g _] _ _ => some (e1, f, e2, g, t, e)
    | _ => none
  | _ => none
theorem yAt_ok {s : Stmt} {e1 e2 t e : Expr} {f g : Str} (h : yAt s = some (e1, f, e2, g, t, e)) : ∃ p1 p2 j tp pos, t = .Tuple [.Attribute e1 f p1, .Attribute e2 g p2] j tp ∧ s = .Assign [t] e pos := by
  unfold yAt at h
  split at h
  · split at h
    · cases h
      exact ⟨_, _, _, _, _, rfl, rfl⟩
    · cases h
  · cases h
mutual
def isS (sc : Scope) : S → Stmt → Bool
  | .pass, s => yPass s
  | .expr m, s => match yExpr s with
    | some e => okV e && isE N defs sc m e
    | none => false
  | .ret m, s => match yRet s with
    | some (some e) => isE N defs sc m e
    | _ => false
  | .retN, s => match yRet s with
    | some none => true
    | _ => false
  | .set i m, s => match yAsg s with
    | some (t, e) => slotOk N (loc sc) i t && okW sc t e && isE N defs sc m e
    | none => false
  | .setC i own tg it cs m, s => match yLc s with
    | some (y, py, elt, t, iter, ifs, scope, lp) => decide (N[i]? = some y) && decide (sc.names.lookup y = some .local) && swB sc y py lp scope && okE iter && blkC N sc scope (own.map fun i => (N.getD i Str.empty, i)) && isI N defs sc it t iter && isG N (locL (relS scope sc)) tg t && gIn own tg && isTs N defs (relS scope sc) cs ifs && isE N defs (relS scope sc) m elt
    | none => false
  | .setDcd i own tg dk p cs m n, s => match yDc s with
    | some (y, py, kx, vx, t, iter, ifs, scope, lp) => decide (N[i]? = some y) && decide (sc.names.lookup y = some .local) && swB sc y py lp scope && okE iter && blkC N sc scope (own.map fun i => (N.getD i Str.empty, i)) && isDI N sc p t iter dk && isG N (locL (relS scope sc)) tg t && gIn own tg && isTs N defs (relS scope sc) cs ifs && isE N defs (relS scope sc) m kx && isE N defs (relS scope sc) n vx
    | none => false
  | .ford g dk p b, s => match yFor s with
    | some (t, e, q) => isG N (loc sc) g t && okE e && isDI N sc p t e dk && isSs sc b q
    | none => false
  | .par i j m n, s => match yPar s with
    | some (x, y, px, py, a, b) => decide (N[i]? = some x) && decide (N[j]? = some y) && parC sc x y px py a b && isE N defs sc m a && isE N defs sc n b
    | none => false
  | .asg g m, s => match yAsg s with
    | some (t, e) => isG N (loc sc) g t && okE t && okU t e && okSw sc t e && isE N defs sc m e
    | none => false
  | .asgAt i f g m, s => match yAt s with
    | some (e1, f', e2, g', t, e) => decide (f = f') && decide (g = g') && okSw sc t e && isE N defs sc (.var i) e1 && isE N defs sc (.var i) e2 && isE N defs sc m e
    | none => false
  | .setIx m n l, s => match yAsg s with
    | some (t, e) => (match xSub t with
      | some (a, b) => okE b && isE N defs sc m a && isE N defs sc n b && isE N defs sc l e
      | none => false)
    | none => false
  | .setAt f m l, s => match yAsg s with
    | some (t, e) => (match xAttr t with
      | some (a, g) => decide (f = g) && isE N defs sc m a && isE N defs sc l e
      | none => false)
    | none => false
  | .aug i m, s => match yAug s with
    | some (t, e) => slotOk N (loc sc) i t && isE N defs sc m e
    | none => false
  | .ite t a b, s => match yIf s with
    | some (c, p, q) => isT N defs sc t c && isSs sc a p && isSs sc b q
    | none => false
  | .forr g it b, s => match yFor s with
    | some (t, e, p) => isG N (loc sc) g t && okE e && isI N defs sc it t e && isSs sc b p
    | none => false
  | .whl t b, s => match yWhl s with
    | some (c, p) => isT N defs sc t c && isSs sc b p
    | none => false
  | .brk, s => yBrk s
  | .cont, s => yCt s
  | .raise c ms, s => match yRaise s with
    | some (x, es) => decide (x = c) && glb sc x && isEs N defs sc ms es
    | none => false
  | .never, _ => true
def isSs (sc : Scope) : Ss → List Stmt → Bool
  | .nil, [] => true
  | .cons m ms, s :: ss => isS sc m s && isSs sc ms ss
  | _, _ => false
end
end
section
variable {T : Tab} {P : Prov} {defs N : List Str} {sc : Scope} {k : Nat} {X : Cx} {W : L2.WX} {B : Base}
mutual
theorem sS (C : Ctx T P defs N sc k X W) (hs : Stor X (loc sc)) (hp : PassesOwn (model X.prog X.w) X.A X.env X.xe) : ∀ {B : Base} (m : S) {s : Stmt}, isS N defs sc m s = true → PS X s (liftS T B W (exS P m))
  | B, .pass, s, h => by
    simp only [isS] at h
    simp only [exS]
    unfold yPass at h
    split at h
    · exact q_pass
    · exact q_doc
    · cases h
  | B, .expr m, s, h => by
    simp only [isS] at h
    split at h
    · rename_i e he
      obtain ⟨pos, rfl⟩ := yExpr_ok he
      simp only [Bool.and_eq_true] at h
      simp only [exS]
      exact q_expr h.1 (sE m C h.2)
    · cases h
  | B, .ret m, s, h => by
    simp only [isS] at h
    split at h
    · rename_i e he
      obtain ⟨pos, rfl⟩ := yRet_ok he
      simp only [exS]
      exact q_ret (sE m C h)
    · cases h
  | B, .retN, s, h => by
    simp only [isS] at h
    split at h
    · rename_i he
      obtain ⟨pos, rfl⟩ := yRet_ok he
      simp only [exS]
      exact q_retN
    · cases h
  | B, .set i m, s, h => by
    simp only [isS] at h
    split at h
    · rename_i t e he
      obtain ⟨pos, rfl⟩ := yAsg_ok he
      simp only [Bool.and_eq_true] at h
      simp only [exS]
      exact q_set C hs h.1.1 (okW_ok C.es h.1.2) (sE m C h.2)
    · cases h
  | B, .setC i own tg it cs m, s, h => by
    simp only [isS] at h
    split at h
    · rename_i y py elt t iter ifs scope lp he
      obtain ⟨spos, rfl⟩ := yLc_ok he
      simp only [Bool.and_eq_true, decide_eq_true_eq] at h
      obtain ⟨⟨⟨⟨⟨⟨⟨⟨⟨h0, h1⟩, h2⟩, h3⟩, h4⟩, h5⟩, h6⟩, h7⟩, h8⟩, h9⟩ := h
      simp only [exS]
      exact q_setLc C h0 h1 (swC_ok C.es h2) ⟨h3, h4, sI it C h5, h6, h7, fun X' B' C' => sTs cs C' h8, fun X' B' C' => sE m C' h9⟩
    · cases h
  | B, .setDcd i own tg dk p cs m n, s, h => by
    simp only [isS] at h
    split at h
    · rename_i y py kx vx t iter ifs scope lp he
      obtain ⟨spos, rfl⟩ := yDc_ok he
      simp only [Bool.and_eq_true, decide_eq_true_eq] at h
      obtain ⟨⟨⟨⟨⟨⟨⟨⟨⟨⟨h0, h1⟩, h2⟩, h3⟩, h4⟩, h5⟩, h6⟩, h7⟩, h8⟩, h9⟩, h10⟩ := h
      simp only [exS]
      exact q_setDcd C h0 h1 (swD_true (swC_ok C.es h2)) ⟨h3, h4, h5, h6, h7, fun X' B' C' => sTs cs C' h8⟩ (fun X' B' C' => sE m C' h9) fun X' B' C' => sE n C' h10
    · cases h
  | B, .ford g dk p b, s, h => by
    simp only [isS] at h
    split at h
    · rename_i t e q he
      obtain ⟨pos, rfl⟩ := yFor_ok he
      simp only [Bool.and_eq_true] at h
      obtain ⟨⟨⟨h1, h2⟩, h3⟩, h4⟩ := h
      simp only [exS]
      exact q_ford C hs hp h1 h2 h3 fun B => sSs C hs hp b h4
    · cases h
  | B, .par i j m n, s, h => by
    simp only [isS] at h
    split at h
    · rename_i x y px py a b he
      obtain ⟨j1, p1, j2, p2, pos, rfl⟩ := yPar_ok he
      simp only [Bool.and_eq_true, decide_eq_true_eq] at h
      obtain ⟨⟨⟨⟨h1, h2⟩, h3⟩, h4⟩, h5⟩ := h
      simp only [exS]
      exact q_par C h1 h2 h3 (fun B => sE m C h4) (fun B => sE n C h5)
    · cases h
  | B, .asg g m, s, h => by
    simp only [isS] at h
    split at h
    · rename_i t e he
      obtain ⟨pos, rfl⟩ := yAsg_ok he
      simp only [Bool.and_eq_true] at h
      obtain ⟨⟨⟨⟨h1, h2⟩, h3⟩, h4⟩, h5⟩ := h
      simp only [exS]
      exact q_asg C hs h1 h2 h3 h4 (sE m C h5)
    · cases h
  | B, .asgAt i f g m, s, h => by
    simp only [isS] at h
    split at h
    · rename_i e1 f' e2 g' t e he
      obtain ⟨p1, p2, j, tp, pos, et, rfl⟩ := yAt_ok he
      subst et
      simp only [Bool.and_eq_true, decide_eq_true_eq] at h
      obtain ⟨⟨⟨⟨⟨h1, h2⟩, h3⟩, h4⟩, h5⟩, h6⟩ := h
      subst h1
      subst h2
      simp only [exS]
      exact q_asgAt C (sE (.var i) C h4) (sE (.var i) C h5) h3 (sE m C h6)
    · cases h
  | B, .setIx m n l, s, h => by
    simp only [isS] at h
    split at h
    · rename_i t e he
      obtain ⟨pos, rfl⟩ := yAsg_ok he
      split at h
      · rename_i a b hx
        obtain ⟨p, rfl⟩ := xSub_ok hx
        simp only [Bool.and_eq_true] at h
        obtain ⟨⟨⟨h1, h3⟩, h4⟩, h5⟩ := h
        simp only [exS]
        exact q_setIx C h1 (sE m C h3) (sE n C h4) (sE l C h5)
      · cases h
    · cases h
  | B, .setAt f m l, s, h => by
    simp only [isS] at h
    split at h
    · rename_i t e he
      obtain ⟨pos, rfl⟩ := yAsg_ok he
      split at h
      · rename_i a g hx
        obtain ⟨p, rfl⟩ := xAttr_ok hx
        simp only [Bool.and_eq_true, decide_eq_true_eq] at h
        obtain ⟨⟨h1, h3⟩, h4⟩ := h
        subst h1
        simp only [exS]
        exact q_setAt C (sE m C h3) (sE l C h4)
      · cases h
    · cases h
  | B, .aug i m, s, h => by
    simp only [isS] at h
    split at h
    · rename_i t e he
      obtain ⟨pos, rfl⟩ := yAug_ok he
      simp only [Bool.and_eq_true] at h
      simp only [exS]
      exact q_aug C hs h.1 (sE m C h.2)
    · cases h
  | B, .ite t a b, s, h => by
    simp only [isS] at h
    split at h
    · rename_i c p q he
      obtain ⟨pos, rfl⟩ := yIf_ok he
      simp only [Bool.and_eq_true] at h
      simp only [exS]
      exact q_ite (sT t C h.1.1) (sSs C hs hp a h.1.2) (sSs C hs hp b h.2)
    · cases h
  | B, .forr g it b, s, h => by
    simp only [isS] at h
    split at h
    · rename_i t e p he
      obtain ⟨pos, rfl⟩ := yFor_ok he
      simp only [Bool.and_eq_true] at h
      obtain ⟨⟨⟨h1, h2⟩, h3⟩, h4⟩ := h
      simp only [exS]
      exact q_for C hs hp h1 h2 (sI it C h3) (sSs C hs hp b h4)
    · cases h
  | B, .whl t b, s, h => by
    simp only [isS] at h
    split at h
    · rename_i c p he
      obtain ⟨pos, rfl⟩ := yWhl_ok he
      simp only [Bool.and_eq_true] at h
      simp only [exS]
      exact q_whl hp (sT t C h.1) (sSs C hs hp b h.2) FUEL
    · cases h
  | B, .brk, s, h => by
    simp only [isS] at h
    unfold yBrk at h
    split at h
    · simp only [exS]
      exact q_brk
    · cases h
  | B, .cont, s, h => by
    simp only [isS] at h
    unfold yCt at h
    split at h
    · simp only [exS]
      exact q_ct
    · cases h
  | B, .raise c ms, s, h => by
    simp only [isS] at h
    split at h
    · rename_i x es he
      obtain ⟨p, pos, st, rfl⟩ := yRaise_ok he
      simp only [Bool.and_eq_true, decide_eq_true_eq] at h
      obtain ⟨⟨h1, h2⟩, h3⟩ := h
      subst h1
      obtain ⟨k1, k2⟩ := isEs_ok h3
      simp only [exS]
      refine q_raise C h2 k1 (sEs ms C h3) fun e => ?_
      subst e
      cases ms with
      | nil => simp only [evs]
      | cons _ _ => simp [isEs] at h3
    · cases h
  | B, .never, s, h => by
    simp only [exS]
    exact q_never
theorem sSs (C : Ctx T P defs N sc k X W) (hs : Stor X (loc sc)) (hp : PassesOwn (model X.prog X.w) X.A X.env X.xe) : ∀ {B : Base} (m : Ss) {s : List Stmt}, isSs N defs sc m s = true → PSs X s (liftS T B W (exSs P m))
  | B, .nil, [], h => by
    simp only [exSs]
    exact qs_nil
  | B, .nil, _ :: _, h => by simp [isSs] at h
  | B, .cons _ _, [], h => by simp [isSs] at h
  | B, .cons m ms, s :: ss, h => by
    simp only [isSs, Bool.and_eq_true] at h
    simp only [exSs]
    exact qs_cons (sS C hs hp m h.1) (sSs C hs hp ms h.2)
end
/-- THE RULE for a def, by the checker -/
theorem def_by {prog : Program} {w : World} {K : PySem.W.Frag} {mg : Str → Option Value} {base : Heap} {x qual : Str} {params : Arguments} {body : List Stmt} {scope : Scope} {dvs : List V} {kws : List (Str × V)} {f : Addr} {fd : FuncData} {ps : List Str} {b : Ss}
    (nl : P.lam = false) (w0 : World0 T P defs k prog w K mg base) (F : FunD K x qual params body scope dvs kws f fd) (Sc : FnScope N ps scope) (nd : N.Nodup) (h : isSs N defs scope b body = true) :
    FnOk prog w K mg base (L2.CX prog w) (k + 1) f fd ps (spOf T (runDef P N.length ps.length b)) :=
  def_ok F Sc fun X W B h1 h2 h3 h4 h5 h6 h7 h8 h9 h10 h11 h12 h13 h14 => sSs (B := B) ⟨h1, h7, nd, h8, h12, h13, by rw [h5, h6, h2, h3, h4]; exact w0, fun z => by rw [nl] at z; cases z⟩ (fun y hy => ⟨by rw [h8]; exact loc_ok hy, .inl (h11 y)⟩) h14 b h
/-- THE RULE for an __init__, by the checker -/
theorem init_by {prog : Program} {w : World} {K : PySem.W.Frag} {mg : Str → Option Value} {base : Heap} {x qual : Str} {params : Arguments} {body : List Stmt} {scope : Scope} {dvs : List V} {kws : List (Str × V)} {f : Addr} {fd : FuncData} {ps : List Str} {b : Ss} {c : Str}
    (nl : P.lam = false) (w0 : World0 T P defs k prog w K mg base) (F : FunD K x qual params body scope dvs kws f fd) (Sc : FnScope N ps scope) (nd : N.Nodup) (h : isSs N defs scope b body = true) :
    FnOk prog w K mg base (L2.CX prog w) (k + 1) f fd ps (spInit T c (runInit P c N.length ps.length b)) :=
  init_ok F Sc fun X W B h1 h2 h3 h4 h5 h6 h7 h8 h9 h10 h11 h12 h13 h14 => sSs (B := B) ⟨h1, h7, nd, h8, h12, h13, by rw [h5, h6, h2, h3, h4]; exact w0, fun z => by rw [nl] at z; cases z⟩ (fun y hy => ⟨by rw [h8]; exact loc_ok hy, .inl (h11 y)⟩) h14 b h
end
end TM
end
section
set_option Elab.async false
set_option linter.all false
set_option maxRecDepth 100000
set_option maxHeartbeats 1000000
/-! FW16: a def that makes lambdas (its code object is known). -/
namespace TM
open PySem PySem.Spec PyProof.Rows L2
section
variable {prog : Program} {w : World} {K : PySem.W.Frag} {mg : Str → Option Value} {base : Heap}
/-- THE RULE for a def whose code object is c -/
theorem def_okC {T : Tab} {P : Prov} {x qual : Str} {params : Arguments} {body : List Stmt} {scope : Scope} {f c : Addr} {dV kV doc pm ct oc : Value} {an od : Option Addr} {osl : Array (Option Value)} {N ps : List Str} {k : Nat} {b : Ss}
    (lk : K.lookup f = some ⟨oc, od, .func (PySem.W.fnOf x qual params body scope dV kV doc pm an (.ref c) ct), osl⟩) (hcd : PySem.W.codeIn K (.ref c) qual = true) (Sc : FnScope N ps scope)
    (hbody : ∀ (X : Cx) (W : L2.WX) (B : Base), X.calm = true → X.K = K → X.mg = mg → X.base = base → X.prog = prog → X.w = w → X.N = N → X.env.scope = scope → X.stack = X.env :: X.outer → X.env.frame = some X.env.locals → (∀ y, X.fn y = true) → Room k X.A → Takes X W → PassesOwn (model X.prog X.w) X.A X.env X.xe →
      X.env.code = .ref c → X.env.qual = qual ++ ".<locals>." → PSs X body (liftS T B W (exSs P b))) :
    FnOk prog w K mg base (L2.CX prog w) (k + 1) f (PySem.W.fnOf x qual params body scope dV kV doc pm an (.ref c) ct) ps (spOf T (runDef P N.length ps.length b)) := by
  refine fn_of lk hcd Sc (fun vs H Q E h => ?_) (fun A outer s H vs Q E hr h => ?_)
  · obtain ⟨G, θ, S, ds, _, _, r, h⟩ := h
    by_cases hl : ds.length = ps.length
    · rw [r.length, hl]
    · unfold runDef at h
      rw [if_neg hl] at h
      exact h.elim
  · obtain ⟨G, θ, S, ds, sb, st, r, h⟩ := h
    have hl : ds.length = ps.length := by
      by_cases hl : ds.length = ps.length
      · exact hl
      · unfold runDef at h
        rw [if_neg hl] at h
        exact h.elim
    refine ⟨_, hbody (cxOf (L2.CX prog w) prog w K mg base N qual scope f (.ref c) A outer s H E) (fun cls d _ H => E cls d H) (entry G θ H) rfl rfl rfl rfl rfl rfl rfl rfl rfl rfl (fun _ => rfl) hr (takes_of rfl rfl rfl rfl) (passes_of rfl) rfl rfl, G, θ, startR N.length ds, S, Sim.start sb st r, ?_⟩
    unfold runDef at h
    rw [if_pos hl] at h
    unfold RunS
    cases e : exSs P b (startR N.length ds) S with
    | bad => rw [e] at h; exact h
    | ex c fs ρ' S' =>
      rw [e] at h
      exact fun G' θ' σ' H' cls dx l t s' x => h cls dx H' G' θ' (s'.kept l t) s'.sub s'.stoOk x
    | ok fl ρ' S' =>
      rw [e] at h
      cases fl with
      | nx => exact fun G' θ' σ' H' l t s' => h .non H' G' θ' (s'.kept l t) s'.sub s'.stoOk .non
      | ret d => exact fun G' θ' σ' H' l t s' v rv => h v H' G' θ' (s'.kept l t) s'.sub s'.stoOk rv
      | bk => exact h.elim
      | ct => exact h.elim
/-- THE RULE for a def that makes lambdas, by the checker -/
theorem def_byL {T : Tab} {P PL : Prov} {defs : List Str} {x qual : Str} {params : Arguments} {body : List Stmt} {scope : Scope} {f c Pt : Addr} {dV kV doc pm ct oc : Value} {an od : Option Addr} {osl : Array (Option Value)} {N ps : List Str} {k : Nat} {b : Ss}
    (w0 : World0 T P defs (k + 2) prog w K mg base) (wL : World0 T PL defs k prog w K mg base) (eL : P.lamv = ev PL) (nL : PL.lam = false) (tri : TriedOk K mg T P)
    (TB : LamX.TabB base mg c Pt) (hm : (Pt, qual ++ ".<locals>." ++ "<lambda>") ∈ T.tabs) (hu : ∀ p ∈ T.tabs, p.1 = Pt → p.2 = qual ++ ".<locals>." ++ "<lambda>")
    (lk : K.lookup f = some ⟨oc, od, .func (PySem.W.fnOf x qual params body scope dV kV doc pm an (.ref c) ct), osl⟩) (hcd : PySem.W.codeIn K (.ref c) qual = true) (Sc : FnScope N ps scope) (nd : N.Nodup) (h : isSs N defs scope b body = true) :
    FnOk prog w K mg base (L2.CX prog w) (k + 3) f (PySem.W.fnOf x qual params body scope dV kV doc pm an (.ref c) ct) ps (spOf T (runDef P N.length ps.length b)) :=
  def_okC (k := k + 2) lk hcd Sc fun X W B h1 h2 h3 h4 h5 h6 h7 h8 h9 h10 h11 h12 h13 h14 h15 h16 =>
    sSs (B := B) ⟨h1, h7, nd, h8, h12, h13, by rw [h5, h6, h2, h3, h4]; exact w0, fun _ => ⟨⟨c, Pt, by rw [h4, h3]; exact TB, h15, by rw [h16]; exact hm, by rw [h16]; exact hu⟩, ⟨PL, k, rfl, by rw [h5, h6, h2, h3, h4]; exact wL, eL, nL⟩, by rw [h2, h3]; exact tri⟩⟩ (fun y hy => ⟨by rw [h8]; exact loc_ok hy, .inl (h11 y)⟩) h14 b h
end
end TM
end
section
set_option Elab.async false
set_option linter.all false
set_option maxRecDepth 100000
set_option maxHeartbeats 1000000
/-! FW17: the end of a law's row: what its def computes, joined with the head. -/
namespace TM
open PySem PySem.Spec PyProof.Rows L2
theorem FnOk.some {ι : Type} {P : Program} {w : World} {K : PySem.W.Frag} {mg : Str → Option Value} {base : Heap} {CX : CXT} {k : Nat} {f : Addr} {fd : FuncData} {ps : List Str} {sp : ι → Sp} (h : ∀ i, L2.FnOk P w K mg base CX k f fd ps (sp i)) :
    L2.FnOk P w K mg base CX k f fd ps (fun vs H Q E => ∃ i, sp i vs H Q E) :=
  ⟨fun vs H Q E ⟨i, q⟩ => (h i).len vs H Q E q, fun A outer s H args us vs Q E hr e0 hb r ⟨i, q⟩ => (h i).run A outer s H args us vs Q E hr e0 hb r q⟩
/-- the tables of the defs that make lambdas: code object, table, the lambda's name -/
abbrev Tb := Addr × Addr × Str
/-- what the head gives at the heap h -/
structure LawAtM (prog : Program) (w : World) (K : PySem.W.Frag) (k n : Nat) (x : Str) (mg : Str → Option Value) (fa : Addr) (h : Heap) (fd : FuncData) (cs : List Tb) (T : Addr → List Int → Tab) (f : Addr → List Int → List D → Sto → Rc) : Prop where
  kin : K.In h
  tab : ∀ p ∈ cs, h.get? p.2.1 = some { cls := .none, data := .fields #[] }
  notK : ∀ p ∈ cs, K.lookup p.2.1 = none
  code : ∀ p ∈ cs, PySem.W.CodeHd h p.1 p.2.1
  bind : ∀ (s : Shared) (u : Value), BindsTo s fd ⟨[u], []⟩ [(x, u)]
  eK : ∀ a is, (T a is).K = K
  eS : ∀ a is b js, (T a is).scr b js → b = a ∧ js = is
  eS2 : ∀ a is, (T a is).scr a is
  eT : ∀ a is, (T a is).tabs = cs.map (·.2)
  ok : ∀ base : Heap, K.In base → base.Ns mainGlobals mg → (∀ p ∈ cs, LamX.TabB base mg p.1 p.2.1) → ∀ a is, L2.FnOk prog w K mg base (L2.CX prog w) k fa fd [x] (spOf (T a is) (f a is))
  ans : ∀ a is, is.length ≤ n → (∀ z ∈ is, Builtin.Int.intBits z ≤ 1048576) → ∃ S', f a is [.scr is] [] = .ok (.bl true) S'
theorem rep_true {T : Tab} {G : Hp} {θ : List Addr} {v : V} (h : Rep T G θ v (.bl true)) : v = .bl true := by cases h; rfl
theorem spOf_start {T : Tab} {f : List D → Sto → Rc} {H : Hp} {a : Addr} {is : List Int} {S' : Sto} {E : XK} (h1 : ∀ b js, T.scr b js → b = a ∧ js = is) (h2 : T.scr a is) (ht : ∀ p ∈ T.tabs, H p.1 = some (.tbl #[])) (hS : SqL T.K H a (is.map V.int)) (ha : f [.scr is] [] = .ok (.bl true) S') :
    spOf T f [.ref a] H (fun v _ => v = .bl true) E := by
  refine ⟨fun _ => none, [], [], [.scr is], fun b o z => (by cases z), ⟨.nil, rfl, fun n b c z => (by simp at z), fun b js z => ?_, fun b o z => (by cases z), fun p hp => ?_⟩, .cons (.scr h2) .nil, ?_⟩
  · obtain ⟨rfl, rfl⟩ := h1 b js z
    rcases hS with q | q
    · exact .inl ⟨q, by simp⟩
    · exact .inr fun H' => .inr q
  · exact ⟨#[], ht p hp, by simp [TriplesOk], fun pos cv z => by simp [codeAmong] at z⟩
  · rw [ha]
    exact fun v H' G' θ' _ _ _ r => rep_true r
theorem walk_ofTM {l : PySem.W.OpenLaw} {n k : Nat} {q : Program} {loose : List Str} {XP : (Str → Option Value) → Heap → Prop} {YP : World → Heap → Prop} {d : DefRec} {x : Str}
    (hn : l.most = some n) (hn2 : n ≤ sizeLine) (hdf : d.params.defaults = []) (hr : Room k callerA)
    (F : ∀ (w : World) (mg : Str → Option Value) (fa : Addr) (h : Heap), YP w h → h.Ns mainGlobals mg → mg d.name = some (.ref fa) → ∃ K fd cs T f, LawAtM l.prog w K k n x mg fa h fd cs T f) :
    PySem.W.WalkO q loose XP YP l.row.toRowW d [] (fun f vs => PySem.call f vs) := by
  refine Att.attach_callB hn hdf fun w s₀ s₁ mg mb fa o pm cd doc a vs ns G Y ho hd hcd hmg hobj hints hlen hbits hg => ?_
  obtain ⟨K, fd, cs, T, f, L⟩ := F w mg fa _ Y G.T.g hmg
  have hp : ∀ p ∈ cs.map (fun p => (p.1, p.2.1)), ∃ p' ∈ cs, p = (p'.1, p'.2.1) := fun p hp => by
    obtain ⟨p', h1, h2⟩ := List.mem_map.mp hp
    exact ⟨p', h1, h2.symm⟩
  refine LamX.law_callTs (cs := cs.map (fun p => (p.1, p.2.1))) (CX := L2.CX l.prog w) (sp := fun vs H Q E => ∃ i : Addr × List Int, spOf (T i.1 i.2) (f i.1 i.2) vs H Q E) L.kin G.T.g G.T.b G.T.builtins G.T.nolimit hg (fun p h => ?_) (fun p h => ?_) (fun p h => ?_) G.T.bmain hobj hints (Nat.le_trans hlen hn2) hr (fun base hk hb ht => FnOk.some fun i => L.ok base hk hb (fun p h => ht (p.1, p.2.1) (List.mem_map.mpr ⟨p, h, rfl⟩)) i.1 i.2) L.bind (fun H hH hS => ?_) fun H e s' z => ?_
  · obtain ⟨p', h1, rfl⟩ := hp p h
    exact L.tab p' h1
  · obtain ⟨p', h1, rfl⟩ := hp p h
    exact L.notK p' h1
  · obtain ⟨p', h1, rfl⟩ := hp p h
    exact L.code p' h1
  · obtain ⟨S', e⟩ := L.ans a ns hlen hbits
    refine ⟨(a, ns), spOf_start (L.eS a ns) (L.eS2 a ns) (fun p hp => ?_) (by rw [L.eK]; exact hS) e⟩
    rw [L.eT] at hp
    obtain ⟨p', h1, rfl⟩ := List.mem_map.mp hp
    exact hH (p'.1, p'.2.1) (List.mem_map.mpr ⟨p', h1, rfl⟩)
  · exact (by
      obtain ⟨_, _, z⟩ := z
      simp at z)
end TM
end
section
set_option Elab.async false
set_option linter.all false
set_option maxRecDepth 100000
set_option maxHeartbeats 1000000
/-! FW18: what holds around, level by level. -/
namespace TM
open PySem PySem.Spec PyProof.Rows L2
/-- the program's part that no level changes -/
structure PgI where
  code : Str → Option (Nat × Nat × Ss)
  init : Str → Option (Nat × Nat × Ss)
  meth : Str → Str → Option Str
  con : Str → Str → Option D := fun _ _ => none
  glob : Str → Option D
  dflt : Str → Nat → List D := fun _ _ => []
  fld : Str → Str → Bool
  mks : Str → Bool
  isc : Str → Bool
  xas : Str → Option (Nat × List (Str × XA))
  /-- the key of a class's own operator -/
  own : Str → Str → Option Str
def badF : Str → List D → Sto → Rc := fun _ _ _ => .bad
def PgI.at (I : PgI) (fn mk ow : Str → List D → Sto → Rc) (x : Bool) : Prov where
  fn := fn
  make := mk
  meth := I.meth
  con := I.con
  glob := I.glob
  dflt := I.dflt
  fld := I.fld
  mks := I.mks
  isc := I.isc
  lam := false
  lamv := fun _ => fail
  xas := fun c => if x then I.xas c else none
  own := fun c n => (I.own c n).map ow
def PgI.runF (I : PgI) (P : Prov) (x : Str) (ds : List D) (S : Sto) : Rc := match I.code x with
  | some (m, p, b) => runDef P m p b ds S
  | none => .bad
def PgI.runI (I : PgI) (P : Prov) (c : Str) (ds : List D) (S : Sto) : Rc := match I.init c with
  | some (m, p, b) => runInit P c m p b ds S
  | none => .bad
def PgI.lev (I : PgI) : Nat → Prov
  | 0 => I.at badF badF badF false
  | 1 => I.at (I.runF (I.at badF badF badF false)) badF badF true
  | n + 2 => I.at (I.runF (I.lev (n + 1))) (I.runI (I.lev n)) (I.runF (I.lev n)) true
/-- where lambdas are made -/
def PgI.levL (I : PgI) (n : Nat) : Prov := { I.lev (n + 2) with lam := true, lamv := ev (I.lev n) }
section
variable {T : Tab} {I : PgI} {defs : List Str} {prog : Program} {w : World} {K : PySem.W.Frag} {mg : Str → Option Value} {base : Heap}
/-- what the interpreter's run of a def promises, from what holds around -/
def Good (T : Tab) (I : PgI) (defs : List Str) (prog : Program) (w : World) (K : PySem.W.Frag) (mg : Str → Option Value) (base : Heap) (x : Str) (f : Addr) (fd : FuncData) (ps : List Str) : Prop :=
  ∀ (P : Prov) (k : Nat), P.lam = false → World0 T P defs k prog w K mg base → FnOk prog w K mg base (L2.CX prog w) (k + 1) f fd ps (spOf T (I.runF P x))
def GoodI (T : Tab) (I : PgI) (defs : List Str) (prog : Program) (w : World) (K : PySem.W.Frag) (mg : Str → Option Value) (base : Heap) (c : Str) (f : Addr) (fd : FuncData) (ps : List Str) : Prop :=
  ∀ (P : Prov) (k : Nat), P.lam = false → World0 T P defs k prog w K mg base → FnOk prog w K mg base (L2.CX prog w) (k + 1) f fd ps (spInit T c (I.runI P c))
/-- the head's facts -/
structure HdF (T : Tab) (I : PgI) (defs : List Str) (prog : Program) (w : World) (K : PySem.W.Frag) (mg : Str → Option Value) (base : Heap) : Prop where
  eK : K = T.K
  ew : w = T.w
  free : ∀ n ∈ bltns, mg (Str.ofString n) = none
  glob : ∀ x d, I.glob x = some d → ∃ v u, mg x = some u ∧ RelV v u ∧ ∀ G θ, Rep T G θ v d
  fns : ∀ x ∈ defs, ∃ f fd ps, Good T I defs prog w K mg base x f fd ps ∧ mg x = some (.ref f) ∧ PySem.W.keepIn K (.ref f) = true ∧ ∀ n, ∃ dvs ds, Binds K fd ps ds ∧ Vals dvs ds ∧ ∀ G θ, RepL T G θ dvs (I.dflt x n)
  fld : ∀ c A f, T.cls c = some A → I.fld c f = true → Cls K A ∧ NoAttr K A f
  meths : ∀ c A m key, T.cls c = some A → I.meth c m = some key → Cls K A ∧ ∃ g fd ps, Meth K A m g ∧ Good T I defs prog w K mg base key g fd ps ∧ ∀ n, ∃ dvs ds, Binds K fd ps ds ∧ Vals dvs ds ∧ ∀ G θ, RepL T G θ dvs (I.dflt key n)
  makes : ∀ c, I.mks c = true → ∃ A f fd ps, T.cls c = some A ∧ Mk K A f ∧ GoodI T I defs prog w K mg base c f fd ps ∧ mg c = some (.ref A) ∧ ∀ n, ∃ dvs ds, Binds K fd ps ds ∧ Vals dvs ds ∧ ∀ G θ, RepL T G θ dvs (I.dflt c n)
  isi : ∀ c, I.isc c = true → ∃ A, T.cls c = some A ∧ mg c = some (.ref A) ∧ Cls K A ∧ PySem.W.findIn K (.ref A) "__class__" = some (some (.builtin "object.__class__")) ∧ PySem.W.specialIn K (.builtin "object.__class__") "__get__" = some (some (.builtin "getset_descriptor.__get__")) ∧ PySem.W.takesIn K (.builtin "object.__class__") = some true ∧
    PySem.W.mroIn K A (.type "object") = some true ∧ (∀ t ∈ "NoneType" :: askedTy, PySem.W.kitOne K (.type t) (.ref A) = some false) ∧ ∀ c' A', I.isc c' = true → T.cls c' = some A' → PySem.W.kitOne K (.ref A') (.ref A) = some (decide (c' = c))
  excs : ∀ c n xs, I.xas c = some (n, xs) → ∃ A f fd ps, ps.length = n + 1 ∧ n ≤ 1000 ∧ T.cls c = some A ∧ mg c = some (.ref A) ∧ OexC K A ∧ PySem.W.findIn K (.ref A) "__init__" = some (some (.ref f)) ∧ PySem.W.typeIn K (.ref f) = some (.type "function") ∧ xs ≠ [] ∧
    FnOk prog w K mg base (L2.CX prog w) 1 f fd ps (spX A xs ps.length) ∧ Binds K fd ps []
  own : ∀ c A n key, T.cls c = some A → I.own c n = some key → ∃ g fd ps, Cls K A ∧ PySem.W.selfFirst K A = true ∧ PySem.W.findIn K (.ref A) n = some (some (.ref g)) ∧ PySem.W.isFn K (.ref g) = true ∧
    (n = "__eq__" → PySem.W.findIn K (.ref A) "__ne__" = some (some (.builtin "object.__ne__")) ∧ PySem.W.mroIn K A (.type "object") = some true ∧ ∀ t ∈ ["str", "int", "bool", "NoneType"], PySem.W.subIn K (.ref A) (.type t) = some false) ∧
    Good T I defs prog w K mg base key g fd ps ∧ Binds K fd ps []
theorem fn_bad {k : Nat} {f : Addr} {fd : FuncData} {ps : List Str} {x : Str} : FnOk prog w K mg base (L2.CX prog w) k f fd ps (spOf T (badF x)) :=
  ⟨fun _ _ _ _ ⟨_, _, _, _, _, _, _, h⟩ => h.elim, fun _ _ _ _ _ _ _ _ _ _ _ _ _ ⟨_, _, _, _, _, _, _, h⟩ => h.elim⟩
theorem fn_badI {k : Nat} {f : Addr} {fd : FuncData} {ps : List Str} {c x : Str} : FnOk prog w K mg base (L2.CX prog w) k f fd ps (spInit T c (badF x)) :=
  ⟨fun _ _ _ _ ⟨_, _, _, _, _, _, _, _, _, _, _, _, _, _, _, _, _, _, h⟩ => h.elim, fun _ _ _ _ _ _ _ _ _ _ _ _ _ ⟨_, _, _, _, _, _, _, _, _, _, _, _, _, _, _, _, _, _, h⟩ => h.elim⟩
/-- one level -/
theorem HdF.level (F : HdF T I defs prog w K mg base) {fn mk ow : Str → List D → Sto → Rc} {x : Bool} {k : Nat}
    (hf : ∀ y f fd ps, Good T I defs prog w K mg base y f fd ps → FnOk prog w K mg base (L2.CX prog w) (k + 1) f fd ps (spOf T (fn y)))
    (hm : ∀ y f fd ps, GoodI T I defs prog w K mg base y f fd ps → FnOk prog w K mg base (L2.CX prog w) k f fd ps (spInit T y (mk y)))
    (ho : ∀ y f fd ps, Good T I defs prog w K mg base y f fd ps → FnOk prog w K mg base (L2.CX prog w) k f fd ps (spOf T (ow y)))
    (hx : x = true → 1 ≤ k) : World0 T (I.at fn mk ow x) defs (k + 1) prog w K mg base where
  eK := F.eK
  ew := F.ew
  free := F.free
  glob := F.glob
  fns := fun y hy => by
    obtain ⟨f, fd, ps, g, r⟩ := F.fns y hy
    exact ⟨f, fd, ps, hf y f fd ps g, r⟩
  fld := F.fld
  meths := fun c A m key h1 h2 => by
    obtain ⟨C, g, fd, ps, M, G, r⟩ := F.meths c A m key h1 h2
    exact ⟨C, g, fd, ps, M, hf key g fd ps G, r⟩
  makes := fun c h => by
    obtain ⟨A, f, fd, ps, h1, h2, h3, r⟩ := F.makes c h
    exact ⟨A, f, fd, ps, k, rfl, h1, h2, hm c f fd ps h3, r⟩
  isi := F.isi
  excs := fun c n xs h => by
    cases x with
    | false => cases h
    | true =>
      obtain ⟨A, f, fd, ps, h1, h2, h3, h4, h5, h6, h7, h8, h9, r⟩ := F.excs c n xs h
      exact ⟨A, f, fd, ps, k, rfl, h1, h2, h3, h4, h5, h6, h7, h8, h9.mono (hx rfl), r⟩
  own := fun c A n f h1 h2 => by
    obtain ⟨key, e1, rfl⟩ := Option.map_eq_some_iff.mp (show (I.own c n).map ow = some f from h2)
    obtain ⟨g, fd, ps, a1, a2, a3, a4, a5, a6, a7⟩ := F.own c A n key h1 e1
    exact ⟨g, fd, ps, k, rfl, a1, a2, a3, a4, a5, ho key g fd ps a6, a7⟩
theorem PgI.lev_lam (I : PgI) : ∀ n, (I.lev n).lam = false
  | 0 => rfl
  | 1 => rfl
  | _ + 2 => rfl
theorem HdF.lev (F : HdF T I defs prog w K mg base) : ∀ n, World0 T (I.lev n) defs (n + 1) prog w K mg base
  | 0 => F.level (fun _ _ _ _ _ => fn_bad) (fun _ _ _ _ _ => fn_badI) (fun _ _ _ _ _ => fn_bad) fun z => by cases z
  | 1 => F.level (fun _ _ _ _ g => g _ _ rfl (F.lev 0)) (fun _ _ _ _ _ => fn_badI) (fun _ _ _ _ _ => fn_bad) fun _ => Nat.le_refl _
  | n + 2 => F.level (fun _ _ _ _ g => g _ _ (I.lev_lam _) (F.lev (n + 1))) (fun _ _ _ _ g => (g _ _ (I.lev_lam _) (F.lev n)).mono (Nat.le_refl _)) (fun _ _ _ _ g => (g _ _ (I.lev_lam _) (F.lev n)).mono (Nat.le_refl _)) fun _ => by omega
theorem HdF.levL (F : HdF T I defs prog w K mg base) (n : Nat) : World0 T (I.levL n) defs (n + 3) prog w K mg base :=
  have h := F.lev (n + 2)
  ⟨h.eK, h.ew, h.free, h.glob, h.fns, h.fld, h.meths, h.makes, h.isi, h.excs, h.own⟩
end
end TM
end
section
set_option Elab.async false
set_option linter.all false
set_option maxRecDepth 100000
set_option maxHeartbeats 1000000
/-! FW19: what the head looks at, read as the facts that hold around. -/
namespace TM
open PySem PySem.Spec PyProof.Rows L2
/-! ### looked at -/
def oexB (K : PySem.W.Frag) (C : Addr) : Bool := (match K.lookup C with
  | some ⟨.type t, _, .cls cd, sl⟩ => (match cd.mro, sl.toList with
    | .ref C' :: bm, [_, _, _, _, some (.builtin n), _] => decide (t = "type") && (decide (C' = C) && (decide (n = "ValueError.__new__") && (cd.hasDict && (!cd.hasDel && PySem.HandSPX.refsVE bm))))
    | _, _ => false)
  | _ => false) && (He.eqO (PySem.W.findIn K (.ref C) "__setattr__") (some (some (.builtin "object.__setattr__"))) && (decide (PySem.W.subIn K (.ref C) (.type "BaseException") = some true) && (decide (PySem.W.typeIn K (.ref C) = some (.type "type")) && PySem.W.keepIn K (.ref C))))
theorem oexB_ok {K : PySem.W.Frag} {C : Addr} (h : oexB K C = true) : OexC K C := by
  unfold oexB at h
  obtain ⟨h1, h⟩ := He.ba h
  obtain ⟨h2, h⟩ := He.ba h
  obtain ⟨h3, h⟩ := He.ba h
  obtain ⟨h4, h5⟩ := He.ba h
  refine ⟨?_, He.eqO_ok h2, of_decide_eq_true h3, of_decide_eq_true h4, h5⟩
  split at h1
  · rename_i t dd cd sl lk
    split at h1
    · rename_i C' bm a0 a1 a2 a3 n a5 em es
      obtain ⟨e0, h1⟩ := He.ba h1
      obtain ⟨e1, h1⟩ := He.ba h1
      obtain ⟨e2, h1⟩ := He.ba h1
      obtain ⟨e3, h1⟩ := He.ba h1
      obtain ⟨e4, e5⟩ := He.ba h1
      cases of_decide_eq_true e0
      cases of_decide_eq_true e1
      cases of_decide_eq_true e2
      obtain ⟨nm, bs, mro, ns, q, hd, sn, sub, ab, col, del⟩ := cd
      simp only at em e3 e4
      subst em e3
      simp only [Bool.not_eq_true'] at e4
      subst e4
      obtain ⟨sl⟩ := sl
      simp only at es
      subst es
      exact ⟨nm, q, ns, bs, bm, sn, sub, ab, col, dd, a0, a1, a2, a3, a5, lk, e5⟩
    · cases h1
  · cases h1
/-- isinstance may ask for c; cs: the classes it may ask for -/
def isiB (cs : List Str) (K : PySem.W.Frag) (c : Str) : Bool := He.eqO (PySem.W.findIn K (.ref (He.ga K c)) "__class__") (some (some (.builtin "object.__class__"))) && (He.eqO (PySem.W.specialIn K (.builtin "object.__class__") "__get__") (some (some (.builtin "getset_descriptor.__get__"))) && (decide (PySem.W.takesIn K (.builtin "object.__class__") = some true) &&
  (decide (PySem.W.mroIn K (He.ga K c) (.type "object") = some true) && (("NoneType" :: askedTy).all (fun t => decide (PySem.W.kitOne K (.type t) (.ref (He.ga K c)) = some false)) && cs.all fun c' => decide (PySem.W.kitOne K (.ref (He.ga K c')) (.ref (He.ga K c)) = some (decide (c' = c)))))))
theorem isiB_ok {cs : List Str} {K : PySem.W.Frag} {c : Str} (h : isiB cs K c = true) : PySem.W.findIn K (.ref (He.ga K c)) "__class__" = some (some (.builtin "object.__class__")) ∧ PySem.W.specialIn K (.builtin "object.__class__") "__get__" = some (some (.builtin "getset_descriptor.__get__")) ∧ PySem.W.takesIn K (.builtin "object.__class__") = some true ∧
    PySem.W.mroIn K (He.ga K c) (.type "object") = some true ∧ (∀ t ∈ "NoneType" :: askedTy, PySem.W.kitOne K (.type t) (.ref (He.ga K c)) = some false) ∧ ∀ c' ∈ cs, PySem.W.kitOne K (.ref (He.ga K c')) (.ref (He.ga K c)) = some (decide (c' = c)) := by
  obtain ⟨h1, h⟩ := He.ba h
  obtain ⟨h2, h⟩ := He.ba h
  obtain ⟨h3, h⟩ := He.ba h
  obtain ⟨h4, h⟩ := He.ba h
  obtain ⟨h5, h6⟩ := He.ba h
  exact ⟨He.eqO_ok h1, He.eqO_ok h2, of_decide_eq_true h3, of_decide_eq_true h4, fun t ht => of_decide_eq_true (List.all_eq_true.mp h5 t ht), fun c' hc => of_decide_eq_true (List.all_eq_true.mp h6 c' hc)⟩
/-- c's own operator n -/
def ownB (K : PySem.W.Frag) (c n : Str) : Bool := PySem.W.selfFirst K (He.ga K c) && (He.eqO (PySem.W.findIn K (.ref (He.ga K c)) n) (some (some (.ref (He.ma K (He.ga K c) n)))) && (PySem.W.isFn K (.ref (He.ma K (He.ga K c) n)) && (!decide (n = "__eq__") ||
  (He.eqO (PySem.W.findIn K (.ref (He.ga K c)) "__ne__") (some (some (.builtin "object.__ne__"))) && (decide (PySem.W.mroIn K (He.ga K c) (.type "object") = some true) && ["str", "int", "bool", "NoneType"].all fun t => decide (PySem.W.subIn K (.ref (He.ga K c)) (.type t) = some false))))))
theorem ownB_ok {K : PySem.W.Frag} {c n : Str} (h : ownB K c n = true) : PySem.W.selfFirst K (He.ga K c) = true ∧ PySem.W.findIn K (.ref (He.ga K c)) n = some (some (.ref (He.ma K (He.ga K c) n))) ∧ PySem.W.isFn K (.ref (He.ma K (He.ga K c) n)) = true ∧
    (n = "__eq__" → PySem.W.findIn K (.ref (He.ga K c)) "__ne__" = some (some (.builtin "object.__ne__")) ∧ PySem.W.mroIn K (He.ga K c) (.type "object") = some true ∧ ∀ t ∈ ["str", "int", "bool", "NoneType"], PySem.W.subIn K (.ref (He.ga K c)) (.type t) = some false) := by
  obtain ⟨h1, h⟩ := He.ba h
  obtain ⟨h2, h⟩ := He.ba h
  obtain ⟨h3, h4⟩ := He.ba h
  refine ⟨h1, He.eqO_ok h2, h3, fun e => ?_⟩
  rw [decide_eq_true e, Bool.not_true, Bool.false_or] at h4
  obtain ⟨h5, h⟩ := He.ba h4
  obtain ⟨h6, h7⟩ := He.ba h
  exact ⟨He.eqO_ok h5, of_decide_eq_true h6, fun t ht => of_decide_eq_true (List.all_eq_true.mp h7 t ht)⟩
/-- an own exception: its __init__, the names it keeps (fs) -/
def excB (K : PySem.W.Frag) (c : Str) (fs : List Str) : Bool := oexB K (He.ga K c) && (He.eqO (PySem.W.findIn K (.ref (He.ga K c)) "__init__") (some (some (.ref (He.ma K (He.ga K c) "__init__")))) && (decide (PySem.W.typeIn K (.ref (He.ma K (He.ga K c) "__init__")) = some (.type "function")) &&
  ((fs ++ tellNames).all (fun f => He.eqO (PySem.W.findIn K (.ref (He.ga K c)) f) (some none)) && (xfB K (He.ga K c) && (decide (PySem.W.exmOne K (.ref (He.ga K c)) (.ref (He.ga K "ThreadError")) = some true) || decide (PySem.W.exmOne K (.ref (He.ga K c)) (.ref (He.ga K "ThreadError")) = some false) && decide (PySem.W.exmOne K (.ref (He.ga K c)) (.ref (He.ga K "Missing")) = some true))))))
theorem excB_ok {K : PySem.W.Frag} {c : Str} {fs : List Str} (h : excB K c fs = true) : OexC K (He.ga K c) ∧ PySem.W.findIn K (.ref (He.ga K c)) "__init__" = some (some (.ref (He.ma K (He.ga K c) "__init__"))) ∧ PySem.W.typeIn K (.ref (He.ma K (He.ga K c) "__init__")) = some (.type "function") ∧
    (∀ f ∈ fs, PySem.W.findIn K (.ref (He.ga K c)) f = some none) ∧ XfC K (He.ga K c) ∧ (∀ f ∈ tellNames, PySem.W.findIn K (.ref (He.ga K c)) f = some none) ∧
    (PySem.W.exmOne K (.ref (He.ga K c)) (.ref (He.ga K "ThreadError")) = some true ∨ PySem.W.exmOne K (.ref (He.ga K c)) (.ref (He.ga K "ThreadError")) = some false ∧ PySem.W.exmOne K (.ref (He.ga K c)) (.ref (He.ga K "Missing")) = some true) := by
  obtain ⟨h1, h⟩ := He.ba h
  obtain ⟨h2, h⟩ := He.ba h
  obtain ⟨h3, h⟩ := He.ba h
  obtain ⟨h4, h⟩ := He.ba h
  obtain ⟨h5, h6⟩ := He.ba h
  have a := List.all_eq_true.mp h4
  refine ⟨oexB_ok h1, He.eqO_ok h2, of_decide_eq_true h3, fun f hf => He.eqO_ok (a f (List.mem_append_left _ hf)), xfB_ok h5, fun f hf => He.eqO_ok (a f (List.mem_append_right _ hf)), ?_⟩
  rcases Bool.or_eq_true_iff.mp h6 with q | q
  · exact .inl (of_decide_eq_true q)
  · obtain ⟨q1, q2⟩ := He.ba q
    exact .inr ⟨of_decide_eq_true q1, of_decide_eq_true q2⟩
/-! ### defs -/
section
variable {T : Tab} {I : PgI} {defs : List Str} {prog : Program} {w : World} {K : PySem.W.Frag} {mg : Str → Option Value} {base : Heap} {fa : List He.Fa} {fn : List He.DefD} {x : Str} {d : He.DefD} {N ps : List Str} {b : Ss}
/-- a def of the text, its form -/
structure DfOk (code : Str → Option (Nat × Nat × Ss)) (defs : List Str) (x : Str) (d : He.DefD) (N ps : List Str) (b : Ss) : Prop where
  code : code x = some (N.length, ps.length, b)
  nod : d.dfl = []
  nok : d.kwd = []
  sc : FnScope N ps d.scope
  chk : isSs N defs d.scope b d.body = true
  bind : ∀ (kV doc pm : Value) (an : Option Addr) (cdv ct : Value) (us : List Value), us.length = ps.length → bindArgs (PySem.W.fnOf d.name d.qual d.params d.body d.scope .none kV doc pm an cdv ct) ⟨us, []⟩ = pure (ps.zip us)
theorem keep_of {fd : FuncData} {f : Addr} {dvs : List V} {kws : List (Str × V)} (F : FunD K d.name d.qual d.params d.body d.scope dvs kws f fd) : PySem.W.keepIn K (.ref f) = true := F.kp
theorem DfOk.good (D : DfOk I.code defs x d N ps b) (c : He.SaysD fa fn K) (hd : d ∈ fn) : ∃ fd, Good T I defs prog w K mg base x (He.fAd K d.at_) fd ps ∧ PySem.W.keepIn K (.ref (He.fAd K d.at_)) = true ∧ Binds K fd ps [] ∧ ∀ (s : Shared) (us : List Value), us.length = ps.length → BindsTo s fd ⟨us, []⟩ (ps.zip us) := by
  obtain ⟨fd, F⟩ := c.defs hd
  have e1 : d.dvs K = [] := by unfold He.DefD.dvs; rw [D.nod]; rfl
  have e2 : d.kws K = [] := by unfold He.DefD.kws; rw [D.nok]; rfl
  rw [e1, e2] at F
  refine ⟨fd, fun P k nl w0 => ?_, F.kp, F.bindsN D.bind, fun s us hl => F.bindsA D.bind s us hl⟩
  have e : I.runF P x = runDef P N.length ps.length b := by
    funext ds S
    unfold PgI.runF
    rw [D.code]
  rw [e]
  exact def_by nl w0 F D.sc D.sc.nd D.chk
theorem DfOk.init (D : DfOk I.init defs x d N ps b) (c : He.SaysD fa fn K) (hd : d ∈ fn) : ∃ fd, GoodI T I defs prog w K mg base x (He.fAd K d.at_) fd ps ∧ Binds K fd ps [] := by
  obtain ⟨fd, F⟩ := c.defs hd
  have e1 : d.dvs K = [] := by unfold He.DefD.dvs; rw [D.nod]; rfl
  have e2 : d.kws K = [] := by unfold He.DefD.kws; rw [D.nok]; rfl
  rw [e1, e2] at F
  refine ⟨fd, fun P k nl w0 => ?_, F.bindsN D.bind⟩
  have e : I.runI P x = runInit P x N.length ps.length b := by
    funext ds S
    unfold PgI.runI
    rw [D.code]
  rw [e]
  exact init_by nl w0 F D.sc D.sc.nd D.chk
end
end TM
end
section
set_option Elab.async false
set_option linter.all false
set_option maxRecDepth 100000
set_option maxHeartbeats 1000000
/-! FW20: the written objects, read off the head. -/
namespace TM
open PySem PySem.Spec PyProof.Rows L2
def numsB (K : PySem.W.Frag) (a : Addr) (is : List Int) : Bool := match K.lookup a with
  | some ⟨.type c, _, .seq its _, _⟩ => decide (c = "tuple") && (decide (its.size ≤ sizeLine) && He.relAll (is.map V.int) its.toList)
  | _ => false
theorem numsB_ok {K : PySem.W.Frag} {a : Addr} {is : List Int} (h : numsB K a is = true) (H : Hp) : SqT K H a (is.map V.int) := by
  unfold numsB at h
  split at h
  · rename_i c od its n sl lk
    obtain ⟨h1, h2⟩ := He.ba h
    obtain ⟨h3, h4⟩ := He.ba h2
    exact .inr ⟨_, its, n, lk, congrArg Value.type (of_decide_eq_true h1), rfl, of_decide_eq_true h3, He.relAll_ok h4⟩
  · cases h
def wvB (K : PySem.W.Frag) : Wv → Value → Bool
  | .int i, .int j _ => decide (i = j)
  | .str x, .str y _ => decide (x = y)
  | .nums is, .ref b => numsB K b is
  | _, _ => false
def kdL (K : PySem.W.Frag) : List (Str × Wv) → List DictEntry → Bool
  | [], [] => true
  | (x, v) :: l, e :: es => (match e.key with
    | .str y _ => decide (x = y)
    | _ => false) && (wvB K v e.val && kdL K l es)
  | _, _ => false
def kdB (K : PySem.W.Frag) (a : Addr) (l : List (Str × Wv)) : Bool := match K.lookup a with
  | some ⟨_, _, .dict es _, _⟩ => kdL K l es.toList
  | _ => false
/-- a pair of numbers as a key -/
def pairB (K : PySem.W.Frag) (i j : Int) (b : Addr) : Bool := match K.lookup b with
  | some ⟨.type c, _, .seq its _, _⟩ => decide (c = "tuple") && (match its.toList with
    | [.int i' _, .int j' _] => decide (i' = i) && decide (j' = j)
    | _ => false)
  | _ => false
def pairH (i j : Int) : Int := reduceHash (Builtin.Tuple.tupleHashOf [hashInt i, hashInt j])
def ktL (K : PySem.W.Frag) : List ((Int × Int) × Wv) → List DictEntry → Bool
  | [], [] => true
  | (x, v) :: l, e :: es => (match e.key with
    | .ref b => pairB K x.1 x.2 b
    | _ => false) && (decide (e.hash = pairH x.1 x.2) && (wvB K v e.val && ktL K l es))
  | _, _ => false
def ktB (K : PySem.W.Frag) (a : Addr) (l : List ((Int × Int) × Wv)) : Bool := match K.lookup a with
  | some ⟨.type c, none, .dict es _, sl⟩ => decide (c = "dict") && (sl.isEmpty && (ktL K l es.toList && decide (l.map (·.1)).Nodup))
  | _ => false
/-- what is written at a -/
def wdP (K : PySem.W.Frag) (w : World) (a : Addr) : Wd → Prop
  | .nums is => numsB K a is = true
  | .kd l => kdB K a l = true ∧ ∃ es n, KDict K w a es n
  | .kt l => ktB K a l = true
theorem wvB_ok {K : PySem.W.Frag} {w : World} {x : Wv} {u : Value} (h : wvB K x u = true) : ∃ v, RelV v u ∧ WvOk (wdP K w) x v := by
  unfold wvB at h
  split at h
  · rename_i i j t
    exact ⟨.int i, ⟨t, by rw [of_decide_eq_true h]⟩, rfl⟩
  · rename_i i j t
    exact ⟨.str i, ⟨t, by rw [of_decide_eq_true h]⟩, rfl⟩
  · rename_i is b
    exact ⟨.ref b, rfl, b, rfl, h⟩
  · cases h
theorem kdL_find {K : PySem.W.Frag} {z : Str} : ∀ {l : List (Str × Wv)} {es : List DictEntry}, kdL K l es = true → match l.lookup z with
    | some v => ∃ e, es.find? (·.key.isStr z) = some e ∧ wvB K v e.val = true
    | none => es.find? (·.key.isStr z) = none ∧ es.any (·.refKey) = false
  | [], [], _ => ⟨rfl, rfl⟩
  | [], _ :: _, h => by cases h
  | _ :: _, [], h => by cases h
  | (x, v) :: l, e :: es, h => by
    obtain ⟨h1, h2⟩ := He.ba (show ((match e.key with | .str y _ => decide (x = y) | _ => false) && (wvB K v e.val && kdL K l es)) = true from h)
    obtain ⟨h3, h4⟩ := He.ba h2
    have r := kdL_find (z := z) h4
    split at h1
    · rename_i y t ek
      have exy := of_decide_eq_true h1
      subst exy
      by_cases q : z = x
      · subst q
        rw [List.lookup_cons_self]
        refine ⟨e, ?_, h3⟩
        rw [List.find?_cons, show e.key.isStr z = true from by rw [ek]; exact beq_self_eq_true z]
      · have b1 : (z == x) = false := beq_false_of_ne q
        have b2 : e.key.isStr z = false := by rw [ek]; exact beq_false_of_ne (Ne.symm q)
        rw [List.lookup_cons, b1, List.find?_cons, b2, List.any_cons]
        have rk : e.refKey = false := by unfold DictEntry.refKey; rw [ek]
        rw [rk, Bool.false_or]
        exact r
    · cases h1
theorem kd_ok {K : PySem.W.Frag} {w : World} {a : Addr} {l : List (Str × Wv)} (h : kdB K a l = true) (D : ∃ es n, KDict K w a es n) : WdOk K w (wdP K w) a (.kd l) := by
  obtain ⟨es, n, D⟩ := D
  unfold kdB at h
  rw [D.at_] at h
  intro z
  have r := kdL_find (z := z) h
  cases e : l.lookup z with
  | some x =>
    rw [e] at r
    obtain ⟨en, h1, h2⟩ := r
    obtain ⟨v, h3, h4⟩ := wvB_ok (w := w) h2
    refine ⟨v, ⟨es, n, en.val, D.at_, D.lit, ?_, h3⟩, D.low, h4⟩
    unfold PySem.W.nsIn
    rw [D.at_]
    show (match es.toList.find? (·.key.isStr z) with | some e => some (some e.val) | none => _) = _
    rw [h1]
  | none =>
    rw [e] at r
    obtain ⟨h1, h2⟩ := r
    refine ⟨es, n, D.at_, D.lit, D.low, ?_⟩
    unfold PySem.W.nsIn
    rw [D.at_]
    show (match es.toList.find? (·.key.isStr z) with | some e => some (some e.val) | none => if es.toList.any (·.refKey) then none else some none) = _
    rw [h1, h2]
    rfl
/-- the dict's entries with the keys they stand for -/
def ktX : List ((Int × Int) × Wv) → List DictEntry → List (List Key × Addr × Value)
  | (x, _) :: l, e :: es => ([.inl x.1, .inl x.2], (match e.key with
    | .ref b => b
    | _ => 0), e.val) :: ktX l es
  | _, _ => []
theorem ktX_fst : ∀ {K : PySem.W.Frag} {l : List ((Int × Int) × Wv)} {es : List DictEntry}, ktL K l es = true → (ktX l es).map (·.1) = l.map fun p => [Sum.inl p.1.1, Sum.inl p.1.2]
  | _, [], [], _ => rfl
  | _, [], _ :: _, h => by cases h
  | _, _ :: _, [], h => by cases h
  | K, (x, v) :: l, e :: es, h => by
    obtain ⟨_, h2⟩ := He.ba (show (_ && (decide (e.hash = pairH x.1 x.2) && (wvB K v e.val && ktL K l es))) = true from h)
    obtain ⟨_, h4⟩ := He.ba h2
    obtain ⟨_, h5⟩ := He.ba h4
    unfold ktX
    rw [List.map_cons, List.map_cons, ktX_fst h5]
theorem ktX_entry {prog : Program} {w : World} : ∀ {K : PySem.W.Frag} {l : List ((Int × Int) × Wv)} {es : List DictEntry}, ktL K l es = true → es = (ktX l es).map (entryOfKey (tupleKind (mixKind prog w)))
  | _, [], [], _ => rfl
  | _, [], _ :: _, h => by cases h
  | _, _ :: _, [], h => by cases h
  | K, (x, v) :: l, e :: es, h => by
    obtain ⟨h1, h2⟩ := He.ba (show ((match e.key with | .ref b => pairB K x.1 x.2 b | _ => false) && (decide (e.hash = pairH x.1 x.2) && (wvB K v e.val && ktL K l es))) = true from h)
    obtain ⟨h3, h4⟩ := He.ba h2
    obtain ⟨_, h5⟩ := He.ba h4
    unfold ktX
    rw [List.map_cons, ← ktX_entry h5]
    congr 1
    obtain ⟨eh, ek, ev⟩ := e
    simp only at h1
    split at h1
    · rename_i b
      have q : eh = pairH x.1 x.2 := of_decide_eq_true h3
      rw [q]
      rfl
    · cases h1
theorem pairB_ok {prog : Program} {w : World} {K : PySem.W.Frag} {i j : Int} {b : Addr} {h : Heap} (X : K.In h) (p : pairB K i j b = true) : IsTupleKey (mixKind prog w) h [Sum.inl i, Sum.inl j] b := by
  unfold pairB at p
  split at p
  · rename_i c od its n sl lk
    obtain ⟨p1, p2⟩ := He.ba p
    split at p2
    · rename_i i' t j' t' e
      obtain ⟨p3, p4⟩ := He.ba p2
      refine ⟨_, its, n, X _ _ lk, congrArg Value.type (of_decide_eq_true p1), rfl, ?_⟩
      rw [e, of_decide_eq_true p3, of_decide_eq_true p4]
      exact .cons (beq_self_eq_true (α := Int) _) (.cons (beq_self_eq_true (α := Int) _) .nil)
    · cases p2
  · cases p
theorem ktX_keys {prog : Program} {w : World} : ∀ {K : PySem.W.Frag} {h : Heap} {l : List ((Int × Int) × Wv)} {es : List DictEntry}, K.In h → ktL K l es = true → ∀ x ∈ ktX l es, IsTupleKey (mixKind prog w) h x.1 x.2.1
  | _, _, [], [], _, _, x, hx => by cases hx
  | _, _, [], _ :: _, _, h, _, _ => by cases h
  | _, _, _ :: _, [], _, h, _, _ => by cases h
  | K, hp, (x, v) :: l, e :: es, X, h, y, hy => by
    obtain ⟨h1, h2⟩ := He.ba (show ((match e.key with | .ref b => pairB K x.1 x.2 b | _ => false) && (decide (e.hash = pairH x.1 x.2) && (wvB K v e.val && ktL K l es))) = true from h)
    obtain ⟨_, h4⟩ := He.ba h2
    obtain ⟨_, h5⟩ := He.ba h4
    unfold ktX at hy
    rcases List.mem_cons.mp hy with e1 | hy
    · subst e1
      split at h1
      · rename_i b ek
        simp only [ek]
        exact pairB_ok X h1
      · cases h1
    · exact ktX_keys X h5 y hy
theorem ktX_at {w : World} : ∀ {K : PySem.W.Frag} {l : List ((Int × Int) × Wv)} {es : List DictEntry} {i j : Int} {x : Wv}, ktL K l es = true → l.lookup (i, j) = some x → ∃ p v, atKey (ktX l es) [Sum.inl i, Sum.inl j] = some p ∧ RelV v p.2 ∧ WvOk (wdP K w) x v
  | _, [], _, _, _, _, _, q => by cases q
  | _, _ :: _, [], _, _, _, h, _ => by cases h
  | K, (y, u) :: l, e :: es, i, j, x, h, q => by
    obtain ⟨_, h2⟩ := He.ba (show (_ && (decide (e.hash = pairH y.1 y.2) && (wvB K u e.val && ktL K l es))) = true from h)
    obtain ⟨_, h4⟩ := He.ba h2
    obtain ⟨h3, h5⟩ := He.ba h4
    unfold atKey ktX
    by_cases z : (i, j) = y
    · subst z
      rw [List.lookup_cons_self] at q
      cases q
      obtain ⟨v, r1, r2⟩ := wvB_ok (w := w) h3
      rw [List.find?_cons, show decide (([Sum.inl i, Sum.inl j] : List Key) = [Sum.inl i, Sum.inl j]) = true from decide_eq_true rfl]
      exact ⟨_, v, rfl, r1, r2⟩
    · rw [List.lookup_cons, beq_false_of_ne z] at q
      have ne : ¬ (([Sum.inl y.1, Sum.inl y.2] : List Key) = [Sum.inl i, Sum.inl j]) := fun c => z (by
        injection c with c1 c2
        injection c2 with c3 _
        injection c1 with c1
        injection c3 with c3
        exact (Prod.ext c1 c3).symm)
      rw [List.find?_cons, show decide (([Sum.inl y.1, Sum.inl y.2] : List Key) = [Sum.inl i, Sum.inl j]) = false from decide_eq_false ne]
      exact ktX_at (w := w) h5 q
theorem kt_ok {K : PySem.W.Frag} {w : World} {a : Addr} {l : List ((Int × Int) × Wv)} (h : ktB K a l = true) : WdOk K w (wdP K w) a (.kt l) := by
  unfold ktB at h
  split at h
  · rename_i c es n sl lk
    obtain ⟨h1, h2⟩ := He.ba h
    obtain ⟨h3, h4⟩ := He.ba h2
    obtain ⟨h5, h6⟩ := He.ba h4
    refine ⟨ktX l es.toList, fun prog hp X => ⟨_, es, n, X _ _ lk, ⟨congrArg Value.type (of_decide_eq_true h1), rfl, Array.isEmpty_iff.mp h3⟩, rfl, ktX_entry h5, ktX_keys X h5, ?_⟩, fun i j x q => ktX_at h5 q⟩
    rw [ktX_fst h5]
    have nd := of_decide_eq_true h6
    rw [show (l.map fun p => ([Sum.inl p.1.1, Sum.inl p.1.2] : List Key)) = (l.map (·.1)).map fun p => [Sum.inl p.1, Sum.inl p.2] from by rw [List.map_map]; rfl]
    refine List.Pairwise.map _ (fun p q n c => n ?_) nd
    injection c with c1 c2
    injection c2 with c3 _
    injection c1 with c1
    injection c3 with c3
    exact Prod.ext c1 c3
  · cases h
/-- everything that is written at its place is told rightly -/
theorem wdP_ok {K : PySem.W.Frag} {w : World} (a : Addr) (x : Wd) (h : wdP K w a x) : WdOk K w (wdP K w) a x := by
  cases x with
  | nums is => exact fun H => numsB_ok h H
  | kd l => exact kd_ok h.1 h.2
  | kt l => exact kt_ok h
end TM
end
section
set_option Elab.async false
set_option linter.all false
set_option maxRecDepth 100000
set_option maxHeartbeats 1000000
/-! FW21: the Hook, over a part of the heap that holds the keys of written dicts too. -/
namespace TM
open PySem PySem.Spec PyProof.Rows L2
def keyRefs (o : Obj) : List Addr := match o.data with
  | .dict es _ => es.toList.flatMap fun e => He.refV e.key
  | _ => []
def asM (g : Addr → Option Obj) (n : Nat) : List Addr := He.asD g n ++ (He.asD g n).flatMap fun a => match g a with
  | some o => keyRefs o
  | none => []
def KM (g : Addr → Option Obj) (n : Nat) : PySem.W.Frag := He.frT g (asM g n)
section
variable {n : Nat} {fa : List He.Fa} {fn : List He.DefD} {ts : List He.Tab} {tf : List He.Defn} {ex : PySem.W.Frag → Bool} {w : World} {h : Heap}
def obsM (n : Nat) (fa : List He.Fa) (fn : List He.DefD) (ts : List He.Tab) (tf : List He.Defn) (ex : PySem.W.Frag → Bool) (g : Addr → Option Obj) : He.AlX :=
  (fun K => (He.obsT fa fn ts K, ex K && He.tabsB g tf K)) (KM g n)
theorem tab_here {as : List Addr} {p : He.Defn} (z : He.tabsB h.get? [p] (He.frT h.get? as) = true) : PySem.W.codeHdIn (He.frT h.get? as) (He.cT (He.frT h.get? as) p).1 (He.cT (He.frT h.get? as) p).2 = true ∧ h.get? (He.cT (He.frT h.get? as) p).2 = some { cls := .none, data := .fields #[] } := by
  unfold He.tabsB at z
  rw [List.all_cons] at z
  have z1 := (He.ba z).1
  refine ⟨(He.ba z1).1, ?_⟩
  have z2 := (He.ba z1).2
  cases e : h.get? (He.cT (He.frT h.get? as) p).2 with
  | some o =>
    simp only [e] at z2
    exact congrArg some (He.emptyTab_eq z2)
  | none =>
    simp only [e] at z2
    cases z2
theorem says_here {as : List Addr} (e : He.obsT fa fn ts (He.frT h.get? as) = He.valT fn ts w) (m : (ex (He.frT h.get? as) && He.tabsB h.get? tf (He.frT h.get? as)) = true) : He.SaysX fa fn ts tf ex w h (He.frT h.get? as) := by
  have t : ∀ p ∈ tf, He.tabsB h.get? [p] (He.frT h.get? as) = true := fun p hp => by
    have q := List.all_eq_true.mp (He.ba m).2 p hp
    unfold He.tabsB
    rw [List.all_cons, List.all_nil, Bool.and_true]
    exact q
  exact { t := e, more := (He.ba m).1, hd := fun p hp => (tab_here (t p hp)).1, out := fun p hp => He.frT_none (tab_here (t p hp)).2 rfl, empty := fun p hp => (tab_here (t p hp)).2 }
def hookM (n : Nat) (fa : List He.Fa) (fn : List He.DefD) (ts : List He.Tab) (tf : List He.Defn) (ex : PySem.W.Frag → Bool) : PySem.W.Hook where
  α := He.AlX
  obs s := obsM n fa fn ts tf ex s.heap.get?
  val w := He.valX fn ts w
  says w h := ∃ K : PySem.W.Frag, He.SaysX fa fn ts tf ex w h K ∧ K.In h
  of w s e := ⟨_, says_here (congrArg Prod.fst e) (congrArg Prod.snd e), He.frT_in⟩
  keeps w h h' z k := by
    obtain ⟨K, c, i⟩ := z
    exact ⟨K, { t := c.t, more := c.more, hd := c.hd, out := c.out, empty := fun p hp => k _ _ (c.empty p hp) }, i.keeps k⟩
theorem obsM_eq {g : Addr → Option Obj} {s : Shared} (q : ∀ a, g a = s.heap.get? a) : obsM n fa fn ts tf ex g = (hookM n fa fn ts tf ex).obs s := by
  obtain rfl : g = s.heap.get? := funext q
  rfl
end
end TM
end
section
set_option Elab.async false
set_option linter.all false
set_option maxRecDepth 100000
set_option maxHeartbeats 0
/-! the head of k77: data (printed by genhd.py) -/
namespace TM
open PySem PySem.Spec PyProof.Rows L2
abbrev Pg : Program := PySem.Challenge.pw_threadmark_k77_strings_as_values
abbrev Lw : PySem.W.OpenLaw := PySem.Challenge.rw_threadmark_k77_strings_as_values
def top (i : Nat) : Stmt := Pg.main.body.getD i (.Pass ⟨0, 0, 0, 0⟩)
def clsB : Stmt → List Stmt
  | .ClassDef _ _ _ b _ _ _ _ _ _ _ => b
  | _ => []
def sub (i j : Nat) : Stmt := (clsB (top i)).getD j (.Pass ⟨0, 0, 0, 0⟩)
def lawAt : Nat := 27
def loose : List Str := (["__name__", "ThreadError", "Missing", "InvalidString", "LengthMismatch", "LETTERS", "BITS", "FROM_BITS", "check_string", "split_sign", "joined", "times", "SignedString", "_law_bag", "_law_pull", "_law_of", "_law_same", "_law_field", "_law_tried", "_law_body", "_law_signed", "_law_table_of_products", "_law_times", "_law_times_all", "_law_string"] : List Str)
def hd0 : He.DefD := ⟨("InvalidString", some "__init__"), "__init__", "InvalidString.__init__", defArgs (sub 3 0), defBody (sub 3 0), defScope (sub 3 0), [], []⟩
def hd1 : He.DefD := ⟨("LengthMismatch", some "__init__"), "__init__", "LengthMismatch.__init__", defArgs (sub 4 0), defBody (sub 4 0), defScope (sub 4 0), [], []⟩
def hd2 : He.DefD := ⟨("check_string", none), "check_string", "check_string", defArgs (top 9), defBody (top 9), defScope (top 9), [], []⟩
def hd3 : He.DefD := ⟨("split_sign", none), "split_sign", "split_sign", defArgs (top 10), defBody (top 10), defScope (top 10), [], []⟩
def hd4 : He.DefD := ⟨("joined", none), "joined", "joined", defArgs (top 11), defBody (top 11), defScope (top 11), [], []⟩
def hd5 : He.DefD := ⟨("times", none), "times", "times", defArgs (top 12), defBody (top 12), defScope (top 12), [], []⟩
def hd6 : He.DefD := ⟨("SignedString", some "__init__"), "__init__", "SignedString.__init__", defArgs (sub 13 0), defBody (sub 13 0), defScope (sub 13 0), [], []⟩
def hd7 : He.DefD := ⟨("SignedString", some "__len__"), "__len__", "SignedString.__len__", defArgs (sub 13 1), defBody (sub 13 1), defScope (sub 13 1), [], []⟩
def hd8 : He.DefD := ⟨("SignedString", some "__eq__"), "__eq__", "SignedString.__eq__", defArgs (sub 13 2), defBody (sub 13 2), defScope (sub 13 2), [], []⟩
def hd9 : He.DefD := ⟨("SignedString", some "__repr__"), "__repr__", "SignedString.__repr__", defArgs (sub 13 3), defBody (sub 13 3), defScope (sub 13 3), [], []⟩
def hd10 : He.DefD := ⟨("SignedString", some "__mul__"), "__mul__", "SignedString.__mul__", defArgs (sub 13 4), defBody (sub 13 4), defScope (sub 13 4), [], []⟩
def hd11 : He.DefD := ⟨("SignedString", some "__neg__"), "__neg__", "SignedString.__neg__", defArgs (sub 13 5), defBody (sub 13 5), defScope (sub 13 5), [], []⟩
def hd12 : He.DefD := ⟨("SignedString", some "__contains__"), "__contains__", "SignedString.__contains__", defArgs (sub 13 6), defBody (sub 13 6), defScope (sub 13 6), [], []⟩
def hd13 : He.DefD := ⟨("SignedString", some "text"), "text", "SignedString.text", defArgs (sub 13 7), defBody (sub 13 7), defScope (sub 13 7), [], []⟩
def hd14 : He.DefD := ⟨("_law_bag", none), "_law_bag", "_law_bag", defArgs (top 15), defBody (top 15), defScope (top 15), [], []⟩
def hd15 : He.DefD := ⟨("_law_pull", none), "_law_pull", "_law_pull", defArgs (top 16), defBody (top 16), defScope (top 16), [], []⟩
def hd16 : He.DefD := ⟨("_law_of", none), "_law_of", "_law_of", defArgs (top 17), defBody (top 17), defScope (top 17), [], []⟩
def hd17 : He.DefD := ⟨("_law_same", none), "_law_same", "_law_same", defArgs (top 18), defBody (top 18), defScope (top 18), [], []⟩
def hd18 : He.DefD := ⟨("_law_field", none), "_law_field", "_law_field", defArgs (top 19), defBody (top 19), defScope (top 19), [], []⟩
def hd19 : He.DefD := ⟨("_law_tried", none), "_law_tried", "_law_tried", defArgs (top 20), defBody (top 20), defScope (top 20), [], []⟩
def hd20 : He.DefD := ⟨("_law_body", none), "_law_body", "_law_body", defArgs (top 21), defBody (top 21), defScope (top 21), [], []⟩
def hd21 : He.DefD := ⟨("_law_signed", none), "_law_signed", "_law_signed", defArgs (top 22), defBody (top 22), defScope (top 22), [], []⟩
def hd22 : He.DefD := ⟨("_law_table_of_products", none), "_law_table_of_products", "_law_table_of_products", defArgs (top 23), defBody (top 23), defScope (top 23), [], []⟩
def hd23 : He.DefD := ⟨("_law_times", none), "_law_times", "_law_times", defArgs (top 24), defBody (top 24), defScope (top 24), [], []⟩
def hd24 : He.DefD := ⟨("_law_times_all", none), "_law_times_all", "_law_times_all", defArgs (top 25), defBody (top 25), defScope (top 25), [], []⟩
def hd25 : He.DefD := ⟨("_law_string", none), "_law_string", "_law_string", defArgs (top 26), defBody (top 26), defScope (top 26), [], []⟩
def hd26 : He.DefD := ⟨("law", none), "law", "law", defArgs (top 27), defBody (top 27), defScope (top 27), [], []⟩
def fn : List He.DefD := [hd0, hd1, hd2, hd3, hd4, hd5, hd6, hd7, hd8, hd9, hd10, hd11, hd12, hd13, hd14, hd15, hd16, hd17, hd18, hd19, hd20, hd21, hd22, hd23, hd24, hd25, hd26]
end TM
end
section
set_option Elab.async false
set_option linter.all false
set_option maxRecDepth 100000
set_option maxHeartbeats 0
/-! the checked defs of k77 (printed by gen2.py) -/
namespace TM
open PySem PySem.Spec PyProof.Rows L2
def defs : List Str := (["check_string", "split_sign", "joined", "times", "_law_bag", "_law_pull", "_law_of", "_law_same", "_law_body", "_law_signed", "_law_table_of_products", "_law_times", "_law_times_all", "_law_string"] : List Str)
def b_check_string : Ss := (.cons (.set 1 (.ife (.cmp .Eq (.p2 .sliceTo (.var 0) (.cst (.int 1))) (.cst (.str "-"))) (.p2 .sliceFrom (.var 0) (.cst (.int 1))) (.var 0))) (.cons (.ite (.not (.e (.p1 .allOf (.lc [2] (.nm 2) (.p1 .seq (.var 1)) .nil (.p2 (.cmp .In) (.var 2) (.glo "LETTERS")))))) (.cons (.raise "InvalidString" (.cons (.var 0) .nil)) .nil) .nil) .nil))
def n_check_string : List Str := (["text", "body", "letter"] : List Str)
def p_check_string : List Str := (["text"] : List Str)
def b_split_sign : Ss := (.cons (.ret (.ife (.cmp .Eq (.p2 .sliceTo (.var 0) (.cst (.int 1))) (.cst (.str "-"))) (.tup (.cons (.cst (.int 1)) (.cons (.p2 .sliceFrom (.var 0) (.cst (.int 1))) .nil))) (.tup (.cons (.cst (.int 0)) (.cons (.var 0) .nil))))) .nil)
def n_split_sign : List Str := (["text"] : List Str)
def p_split_sign : List Str := (["text"] : List Str)
def b_joined : Ss := (.cons (.ret (.ife (.cmp .Eq (.p2 (.op .Mod) (.var 0) (.cst (.int 2))) (.cst (.int 1))) (.p2 (.op .Add) (.cst (.str "-")) (.var 1)) (.var 1))) .nil)
def n_joined : List Str := (["sign", "letters"] : List Str)
def p_joined : List Str := (["sign", "letters"] : List Str)
def b_times : Ss := (.cons (.asg (.tup (.cons (.nm 2) (.cons (.nm 3) .nil))) (.call "split_sign" (.cons (.var 0) .nil))) (.cons (.asg (.tup (.cons (.nm 4) (.cons (.nm 5) .nil))) (.call "split_sign" (.cons (.var 1) .nil))) (.cons (.par 2 6 (.p2 (.op .Add) (.var 2) (.var 4)) (.cst (.str ""))) (.cons (.forr (.tup (.cons (.nm 7) (.cons (.nm 8) .nil))) (.p2 .zip (.var 3) (.var 5)) (.cons (.asg (.tup (.cons (.tup (.cons (.nm 9) (.cons (.nm 10) .nil))) (.cons (.tup (.cons (.nm 11) (.cons (.nm 12) .nil))) .nil))) (.tup (.cons (.p2 .idx (.glo "BITS") (.var 7)) (.cons (.p2 .idx (.glo "BITS") (.var 8)) .nil)))) (.cons (.set 2 (.p2 (.op .Add) (.var 2) (.p2 (.op .Mult) (.var 10) (.var 11)))) (.cons (.set 6 (.p2 (.op .Add) (.var 6) (.p2 .idx (.glo "FROM_BITS") (.tup (.cons (.p2 (.op .Mod) (.p2 (.op .Add) (.var 9) (.var 11)) (.cst (.int 2))) (.cons (.p2 (.op .Mod) (.p2 (.op .Add) (.var 10) (.var 12)) (.cst (.int 2))) .nil)))))) .nil)))) (.cons (.ret (.call "joined" (.cons (.var 2) (.cons (.var 6) .nil)))) .nil)))))
def n_times : List Str := (["one", "other", "sign", "first", "turn", "second", "letters", "left", "right", "left_x", "left_z", "right_x", "right_z"] : List Str)
def p_times : List Str := (["one", "other"] : List Str)
def b_SignedString___init__ : Ss := (.cons (.expr (.call "check_string" (.cons (.var 1) .nil))) (.cons (.asgAt 0 "sign" "letters" (.call "split_sign" (.cons (.var 1) .nil))) .nil))
def n_SignedString___init__ : List Str := (["self", "text"] : List Str)
def p_SignedString___init__ : List Str := (["self", "text"] : List Str)
def b_SignedString___len__ : Ss := (.cons (.ret (.p1 .len (.p1 (.attr "letters") (.var 0)))) .nil)
def n_SignedString___len__ : List Str := (["self"] : List Str)
def p_SignedString___len__ : List Str := (["self"] : List Str)
def b_SignedString___eq__ : Ss := (.cons (.ret (.bop .And (.cons (.isi [(.cls "SignedString")] false (.var 1)) (.cons (.p2 (.cmp .Eq) (.p1 (.attr "letters") (.var 0)) (.p1 (.attr "letters") (.var 1))) (.cons (.p2 (.cmp .Eq) (.p1 (.attr "sign") (.var 0)) (.p1 (.attr "sign") (.var 1))) .nil))))) .nil)
def n_SignedString___eq__ : List Str := (["self", "other"] : List Str)
def p_SignedString___eq__ : List Str := (["self", "other"] : List Str)
def b_SignedString___repr__ : Ss := (.cons (.ret (.fst (.cst (.str "SignedString(")) (.meth "text" (.var 0) .nil) (.cons (.cst (.str ")")) .nil))) .nil)
def n_SignedString___repr__ : List Str := (["self"] : List Str)
def p_SignedString___repr__ : List Str := (["self"] : List Str)
def b_SignedString___mul__ : Ss := (.cons (.ite (.cmp .NotEq (.p1 .len (.p1 (.attr "letters") (.var 0))) (.p1 .len (.p1 (.attr "letters") (.var 1)))) (.cons (.raise "LengthMismatch" .nil) .nil) .nil) (.cons (.ret (.mk "SignedString" (.cons (.call "times" (.cons (.call "joined" (.cons (.p1 (.attr "sign") (.var 0)) (.cons (.p1 (.attr "letters") (.var 0)) .nil))) (.cons (.call "joined" (.cons (.p1 (.attr "sign") (.var 1)) (.cons (.p1 (.attr "letters") (.var 1)) .nil))) .nil))) .nil))) .nil))
def n_SignedString___mul__ : List Str := (["self", "other"] : List Str)
def p_SignedString___mul__ : List Str := (["self", "other"] : List Str)
def b_SignedString___neg__ : Ss := (.cons (.ret (.mk "SignedString" (.cons (.call "joined" (.cons (.p2 (.op .Sub) (.cst (.int 1)) (.p1 (.attr "sign") (.var 0))) (.cons (.p1 (.attr "letters") (.var 0)) .nil))) .nil))) .nil)
def n_SignedString___neg__ : List Str := (["self"] : List Str)
def p_SignedString___neg__ : List Str := (["self"] : List Str)
def b_SignedString___contains__ : Ss := (.cons (.ret (.p2 (.cmp .In) (.var 1) (.p1 .listOf (.p1 (.attr "letters") (.var 0))))) .nil)
def n_SignedString___contains__ : List Str := (["self", "letter"] : List Str)
def p_SignedString___contains__ : List Str := (["self", "letter"] : List Str)
def b_SignedString_text : Ss := (.cons (.ret (.call "joined" (.cons (.p1 (.attr "sign") (.var 0)) (.cons (.p1 (.attr "letters") (.var 0)) .nil)))) .nil)
def n_SignedString_text : List Str := (["self"] : List Str)
def p_SignedString_text : List Str := (["self"] : List Str)
def b__law_bag : Ss := (.cons (.set 1 (.cst (.int 3808))) (.cons (.forr (.nm 2) (.p1 .seq (.p2 .sliceTo (.var 0) (.cst (.int 63)))) (.cons (.set 1 (.p2 (.op .Mod) (.p2 (.op .Add) (.p2 (.op .Add) (.p2 (.op .Mult) (.var 1) (.cst (.int 47653))) (.p2 (.op .Mod) (.var 2) (.cst (.int 2147483549)))) (.cst (.int 17))) (.cst (.int 2147483549)))) .nil)) (.cons (.ret (.newm (.lst (.cons (.p1 .listOf (.p2 .sliceTo (.var 0) (.cst (.int 63)))) (.cons (.cst (.int 0)) (.cons (.cst (.int 0)) (.cons (.var 1) .nil))))))) .nil)))
def n__law_bag : List Str := (["_law_script", "_law_salt", "_law_cell"] : List Str)
def p__law_bag : List Str := (["_law_script"] : List Str)
def b__law_pull : Ss := (.cons (.ite (.bop .And (.cons (.cmp .Lt (.p2 .idx (.var 0) (.cst (.int 2))) (.var 1)) (.cons (.cmp .Lt (.p2 .idx (.var 0) (.cst (.int 1))) (.p1 .len (.p2 .idx (.var 0) (.cst (.int 0))))) .nil))) (.cons (.set 3 (.p2 .idx (.p2 .idx (.var 0) (.cst (.int 0))) (.p2 .idx (.var 0) (.cst (.int 1))))) (.cons (.setIx (.var 0) (.cst (.int 1)) (.p2 (.op .Add) (.p2 .idx (.var 0) (.cst (.int 1))) (.cst (.int 1)))) (.cons (.setIx (.var 0) (.cst (.int 2)) (.cst (.int 0))) (.cons (.ite (.cmp .GtE (.var 3) (.p2 (.op .Pow) (.cst (.int 10)) (.cst (.int 18)))) (.cons (.setIx (.var 0) (.cst (.int 2)) (.var 3)) .nil) (.cons (.setIx (.var 0) (.cst (.int 3)) (.p2 (.op .Mod) (.p2 (.op .Add) (.p2 (.op .Add) (.p2 (.op .Mult) (.p2 .idx (.var 0) (.cst (.int 3))) (.cst (.int 52571))) (.p2 (.op .Mult) (.p2 (.op .Mod) (.var 3) (.cst (.int 2147483549))) (.cst (.int 41)))) (.cst (.int 29))) (.cst (.int 2147483549)))) .nil)) .nil)))) .nil) (.cons (.ite (.cmp .GtE (.p2 .idx (.var 0) (.cst (.int 2))) (.var 1)) (.cons (.set 4 (.p2 (.op .Mod) (.p2 .idx (.var 0) (.cst (.int 2))) (.var 1))) (.cons (.setIx (.var 0) (.cst (.int 2)) (.p2 (.op .FloorDiv) (.p2 .idx (.var 0) (.cst (.int 2))) (.var 1))) (.cons (.ret (.var 4)) .nil))) .nil) (.cons (.set 2 (.p2 (.op .Mod) (.p2 (.op .Mult) (.p2 .idx (.var 0) (.cst (.int 3))) (.p2 .idx (.var 0) (.cst (.int 3)))) (.cst (.int 2147483549)))) (.cons (.setIx (.var 0) (.cst (.int 3)) (.p2 (.op .Mod) (.p2 (.op .Add) (.p2 (.op .Add) (.p2 (.op .Mult) (.var 2) (.cst (.int 40699))) (.p2 (.op .Mult) (.p2 .idx (.var 0) (.cst (.int 3))) (.cst (.int 30323)))) (.cst (.int 12347))) (.cst (.int 2147483549)))) (.cons (.ret (.p2 (.op .Mod) (.p2 (.op .Add) (.p2 (.op .FloorDiv) (.p2 .idx (.var 0) (.cst (.int 3))) (.cst (.int 53))) (.p2 (.op .Mult) (.p2 (.op .Mod) (.p2 .idx (.var 0) (.cst (.int 3))) (.cst (.int 7919))) (.cst (.int 31)))) (.var 1))) .nil)))))
def n__law_pull : List Str := (["_law_bag_here", "_law_many", "_law_square", "_law_cell", "_law_digit"] : List Str)
def p__law_pull : List Str := (["_law_bag_here", "_law_many"] : List Str)
def b__law_of : Ss := (.cons (.ret (.p2 .idx (.var 1) (.call "_law_pull" (.cons (.var 0) (.cons (.p1 .len (.var 1)) .nil))))) .nil)
def n__law_of : List Str := (["_law_bag_here", "_law_things"] : List Str)
def p__law_of : List Str := (["_law_bag_here", "_law_things"] : List Str)
def b__law_same : Ss := (.cons (.ite (.bop .Or (.cons (.cmp .Is (.var 1) (.cst .non)) (.cons (.cmp .Is (.var 0) (.cst .non)) .nil))) (.cons (.ret (.bop .And (.cons (.p2 (.cmp .Is) (.var 0) (.cst .non)) (.cons (.p2 (.cmp .Is) (.var 1) (.cst .non)) .nil)))) .nil) .nil) (.cons (.ite (.e (.isi [(.ty "dict")] false (.var 1))) (.cons (.ite (.bop .Or (.cons (.not (.e (.isi [(.ty "dict")] false (.var 0)))) (.cons (.cmp .NotEq (.p1 .sortedOf (.p1 .listOf (.var 0))) (.p1 .sortedOf (.p1 .listOf (.var 1)))) .nil))) (.cons (.ret (.cst (.bl false))) .nil) .nil) (.cons (.ret (.p1 .allOf (.lc [2] (.nm 2) (.p1 .seq (.var 1)) .nil (.call "_law_same" (.cons (.p2 .idx (.var 0) (.var 2)) (.cons (.p2 .idx (.var 1) (.var 2)) .nil)))))) .nil)) .nil) (.cons (.ite (.e (.isi [(.ty "list"), (.ty "tuple")] true (.var 1))) (.cons (.ite (.bop .Or (.cons (.cmp .NotEq (.isi [(.ty "list")] false (.var 0)) (.isi [(.ty "list")] false (.var 1))) (.cons (.cmp .NotEq (.isi [(.ty "tuple")] false (.var 0)) (.isi [(.ty "tuple")] false (.var 1))) .nil))) (.cons (.ret (.cst (.bl false))) .nil) .nil) (.cons (.ret (.bop .And (.cons (.p2 (.cmp .Eq) (.p1 .len (.var 0)) (.p1 .len (.var 1))) (.cons (.p1 .allOf (.lc [2, 3] (.tup (.cons (.nm 2) (.cons (.nm 3) .nil))) (.p2 .zip (.var 0) (.var 1)) .nil (.call "_law_same" (.cons (.var 2) (.cons (.var 3) .nil))))) .nil)))) .nil)) .nil) (.cons (.ite (.bop .Or (.cons (.cmp .NotEq (.isi [(.ty "bool")] false (.var 0)) (.isi [(.ty "bool")] false (.var 1))) (.cons (.cmp .NotEq (.isi [(.ty "int")] false (.var 0)) (.isi [(.ty "int")] false (.var 1))) .nil))) (.cons (.ret (.cst (.bl false))) .nil) .nil) (.cons (.ret (.bop .And (.cons (.p2 (.cmp .Eq) (.isi [(.ty "str")] false (.var 0)) (.isi [(.ty "str")] false (.var 1))) (.cons (.p2 (.cmp .Eq) (.var 0) (.var 1)) .nil)))) .nil)))))
def n__law_same : List Str := (["_law_found", "_law_due", "_law_one", "_law_other"] : List Str)
def p__law_same : List Str := (["_law_found", "_law_due"] : List Str)
def b__law_body : Ss := (.cons (.ret (.ife (.cmp .Eq (.p2 .sliceTo (.var 0) (.cst (.int 1))) (.cst (.str "-"))) (.p2 .sliceFrom (.var 0) (.cst (.int 1))) (.var 0))) .nil)
def n__law_body : List Str := (["_law_text"] : List Str)
def p__law_body : List Str := (["_law_text"] : List Str)
def b__law_signed : Ss := (.cons (.ret (.p2 (.op .Add) (.ife (.cmp .Eq (.p2 (.op .Mod) (.var 0) (.cst (.int 2))) (.cst (.int 1))) (.cst (.str "-")) (.cst (.str ""))) (.var 1))) .nil)
def n__law_signed : List Str := (["_law_mturned", "_law_body_here"] : List Str)
def p__law_signed : List Str := (["_law_mturned", "_law_body_here"] : List Str)
def b__law_table_of_products : Ss := (.cons (.ret (.disp (.cons (.cst (.str "11")) (.cst (.str "1")) (.cons (.cst (.str "1X")) (.cst (.str "X")) (.cons (.cst (.str "1Z")) (.cst (.str "Z")) (.cons (.cst (.str "1W")) (.cst (.str "W")) (.cons (.cst (.str "X1")) (.cst (.str "X")) (.cons (.cst (.str "XX")) (.cst (.str "1")) (.cons (.cst (.str "XZ")) (.cst (.str "W")) (.cons (.cst (.str "XW")) (.cst (.str "Z")) (.cons (.cst (.str "Z1")) (.cst (.str "Z")) (.cons (.cst (.str "ZX")) (.cst (.str "-W")) (.cons (.cst (.str "ZZ")) (.cst (.str "1")) (.cons (.cst (.str "ZW")) (.cst (.str "-X")) (.cons (.cst (.str "W1")) (.cst (.str "W")) (.cons (.cst (.str "WX")) (.cst (.str "-Z")) (.cons (.cst (.str "WZ")) (.cst (.str "X")) (.cons (.cst (.str "WW")) (.cst (.str "-1")) .nil)))))))))))))))))) .nil)
def n__law_table_of_products : List Str := ([] : List Str)
def p__law_table_of_products : List Str := ([] : List Str)
def b__law_times : Ss := (.cons (.par 3 4 (.call "_law_table_of_products" .nil) (.cst (.str ""))) (.cons (.set 2 (.p2 (.op .Add) (.p1 .intOf (.p2 (.cmp .Eq) (.p2 .sliceTo (.var 0) (.cst (.int 1))) (.cst (.str "-")))) (.p1 .intOf (.p2 (.cmp .Eq) (.p2 .sliceTo (.var 1) (.cst (.int 1))) (.cst (.str "-")))))) (.cons (.forr (.tup (.cons (.nm 5) (.cons (.nm 6) .nil))) (.p2 .zip (.call "_law_body" (.cons (.var 0) .nil)) (.call "_law_body" (.cons (.var 1) .nil))) (.cons (.set 7 (.p2 .idx (.var 3) (.p2 (.op .Add) (.var 5) (.var 6)))) (.cons (.set 4 (.p2 (.op .Add) (.var 4) (.p2 .idx (.var 7) (.p1 .neg (.cst (.int 1)))))) (.cons (.set 2 (.p2 (.op .Add) (.var 2) (.p1 .intOf (.p2 (.cmp .Eq) (.p2 .sliceTo (.var 7) (.cst (.int 1))) (.cst (.str "-")))))) .nil)))) (.cons (.ret (.call "_law_signed" (.cons (.var 2) (.cons (.var 4) .nil)))) .nil))))
def n__law_times : List Str := (["_law_first", "_law_last", "_law_mturned", "_law_known", "_law_found", "_law_one", "_law_other", "_law_sign"] : List Str)
def p__law_times : List Str := (["_law_first", "_law_last"] : List Str)
def b__law_times_all : Ss := (.cons (.set 2 (.p2 (.op .Mult) (.cst (.str "1")) (.var 1))) (.cons (.forr (.nm 3) (.p1 .seq (.var 0)) (.cons (.set 2 (.call "_law_times" (.cons (.var 2) (.cons (.var 3) .nil)))) .nil)) (.cons (.ret (.var 2)) .nil)))
def n__law_times_all : List Str := (["_law_strings_in", "_law_size", "_law_found", "_law_one"] : List Str)
def p__law_times_all : List Str := (["_law_strings_in", "_law_size"] : List Str)
def b__law_string : Ss := (.cons (.ret (.call "_law_signed" (.cons (.call "_law_pull" (.cons (.var 0) (.cons (.cst (.int 2)) .nil))) (.cons (.join (.cst (.str "")) (.lc [2] (.nm 2) (.p1 .rng (.var 1)) .nil (.call "_law_of" (.cons (.var 0) (.cons (.cst (.str "11XZW")) .nil))))) .nil)))) .nil)
def n__law_string : List Str := (["_law_bag_here", "_law_size", "_law_k"] : List Str)
def p__law_string : List Str := (["_law_bag_here", "_law_size"] : List Str)
def b_law : Ss := (.cons (.set 1 (.call "_law_bag" (.cons (.var 0) .nil))) (.cons (.forr (.nm 2) (.p1 .rng (.cst (.int 6))) (.cons (.set 3 (.call "_law_pull" (.cons (.var 1) (.cons (.cst (.int 9)) .nil)))) (.cons (.set 4 (.lc [16] (.nm 16) (.p1 .rng (.cst (.int 3))) .nil (.call "_law_string" (.cons (.var 1) (.cons (.var 3) .nil))))) (.cons (.asg (.tup (.cons (.nm 13) (.cons (.nm 14) (.cons (.nm 15) .nil)))) (.lc [17] (.nm 17) (.p1 .seq (.var 4)) .nil (.mk "SignedString" (.cons (.var 17) .nil)))) (.cons (.set 5 (.lst (.cons (.meth "text" (.ow2 .mul (.var 13) (.var 14)) .nil) (.cons (.meth "text" (.ow1 .neg (.var 13)) .nil) (.cons (.meth "text" (.ow2 .mul (.ow2 .mul (.var 13) (.var 14)) (.var 15)) .nil) .nil))))) (.cons (.set 5 (.p2 (.op .Add) (.var 5) (.lst (.cons (.meth "text" (.ow2 .mul (.ow1 .neg (.var 13)) (.ow1 .neg (.var 14))) .nil) (.cons (.ow1 .len (.var 13)) (.cons (.ow1 .repr (.var 14)) .nil)))))) (.cons (.set 6 (.call "_law_signed" (.cons (.p2 (.op .Add) (.cst (.int 1)) (.p1 .intOf (.p2 (.cmp .Eq) (.p2 .sliceTo (.p2 .idx (.var 4) (.cst (.int 0))) (.cst (.int 1))) (.cst (.str "-"))))) (.cons (.call "_law_body" (.cons (.p2 .idx (.var 4) (.cst (.int 0))) .nil)) .nil)))) (.cons (.set 7 (.lst (.cons (.call "_law_times" (.cons (.p2 .idx (.var 4) (.cst (.int 0))) (.cons (.p2 .idx (.var 4) (.cst (.int 1))) .nil))) (.cons (.var 6) (.cons (.call "_law_times_all" (.cons (.var 4) (.cons (.var 3) .nil))) .nil))))) (.cons (.set 7 (.p2 (.op .Add) (.var 7) (.lst (.cons (.p2 .idx (.var 7) (.cst (.int 0))) (.cons (.var 3) (.cons (.p2 (.op .Add) (.p2 (.op .Add) (.cst (.str "SignedString(")) (.p2 .idx (.var 4) (.cst (.int 1)))) (.cst (.str ")"))) .nil)))))) (.cons (.ite (.bop .Or (.cons (.not (.e (.call "_law_same" (.cons (.var 5) (.cons (.var 7) .nil))))) (.cons (.cmp .NotEq (.lst (.cons (.meth "text" (.var 13) .nil) (.cons (.meth "text" (.var 14) .nil) (.cons (.meth "text" (.var 15) .nil) .nil)))) (.var 4)) .nil))) (.cons (.ret (.cst (.bl false))) .nil) .nil) (.cons (.set 8 (.p2 (.cmp .Eq) (.p2 .idx (.var 4) (.cst (.int 0))) (.p2 .idx (.var 4) (.cst (.int 1))))) (.cons (.set 9 (.lst (.cons (.ow2 .eq (.var 13) (.var 14)) (.cons (.ow2 .ne (.var 13) (.var 14)) (.cons (.ow2 .eq (.var 13) (.mk "SignedString" (.cons (.p2 .idx (.var 4) (.cst (.int 0))) .nil))) (.cons (.ow2 .eq (.var 13) (.ow1 .neg (.ow1 .neg (.var 13)))) .nil)))))) (.cons (.ite (.not (.e (.call "_law_same" (.cons (.var 9) (.cons (.lst (.cons (.var 8) (.cons (.not (.var 8)) (.cons (.cst (.bl true)) (.cons (.cst (.bl true)) .nil))))) .nil))))) (.cons (.ret (.cst (.bl false))) .nil) .nil) (.cons (.ite (.bop .Or (.cons (.inl (.var 13) (.lst (.cons (.p2 .idx (.var 4) (.cst (.int 0))) (.cons (.cst .non) (.cons (.cst (.int 0)) .nil))))) (.cons (.ow .eq (.var 13) (.ow1 .neg (.var 13))) .nil))) (.cons (.ret (.cst (.bl false))) .nil) .nil) (.cons (.set 10 (.lst (.cons (.cst (.str "1")) (.cons (.cst (.str "X")) (.cons (.cst (.str "Z")) (.cons (.cst (.str "W")) (.cons (.cst (.str "Y")) (.cons (.cst (.str "-")) (.cons (.cst (.str "")) (.cons (.cst (.str "XZ")) (.cons (.p2 .idx (.var 4) (.cst (.int 0))) .nil))))))))))) (.cons (.setC 9 [18] (.nm 18) (.p1 .seq (.var 10)) .nil (.ow2 .isin (.var 18) (.var 13))) (.cons (.ite (.not (.e (.call "_law_same" (.cons (.var 9) (.cons (.lc [18] (.nm 18) (.p1 .seq (.var 10)) .nil (.p2 (.cmp .In) (.var 18) (.p1 .listOf (.call "_law_body" (.cons (.p2 .idx (.var 4) (.cst (.int 0))) .nil))))) .nil))))) (.cons (.ret (.cst (.bl false))) .nil) .nil) (.cons (.set 11 (.mk "SignedString" (.cons (.p2 (.op .Add) (.p2 .idx (.var 4) (.cst (.int 1))) (.cst (.str "Z"))) .nil))) (.cons (.set 12 (.lst (.cons (.tried (.ow2 .mul (.var 13) (.var 11))) (.cons (.tried (.mk "SignedString" (.cons (.p2 (.op .Add) (.p2 .idx (.var 4) (.cst (.int 0))) (.cst (.str "Y"))) .nil))) .nil)))) (.cons (.ite (.cmp .NotEq (.var 12) (.lst (.cons (.tup (.cons (.cst (.str "lengthmismatch")) (.cons (.cst .non) .nil))) (.cons (.tup (.cons (.cst (.str "invalidstring")) (.cons (.p2 (.op .Add) (.p2 .idx (.var 4) (.cst (.int 0))) (.cst (.str "Y"))) .nil))) .nil)))) (.cons (.ret (.cst (.bl false))) .nil) .nil) .nil)))))))))))))))))))) (.cons (.ret (.bop .And (.cons (.p2 (.cmp .Eq) (.ow1 .len (.mk "SignedString" (.cons (.cst (.str "-")) .nil))) (.cst (.int 0))) (.cons (.p2 (.cmp .Eq) (.meth "text" (.ow1 .neg (.mk "SignedString" (.cons (.cst (.str "")) .nil))) .nil) (.cst (.str "-"))) (.cons (.ow2 .ne (.mk "SignedString" (.cons (.cst (.str "X")) .nil)) (.mk "SignedString" (.cons (.cst (.str "-X")) .nil))) .nil))))) .nil)))
def n_law : List Str := (["_law_script", "_law_bag_here", "_law_turn", "_law_size", "_law_texts", "_law_found", "_law_rear", "_law_due", "_law_same_here", "_law_told", "_law_signs", "_law_longer", "_law_words", "_law_one", "_law_two", "_law_three", "_law_k", "_law_text", "_law_sign"] : List Str)
def p_law : List Str := (["_law_script"] : List Str)
def codeL : List (Str × (Nat × Nat × Ss)) := ([("check_string", (n_check_string.length, p_check_string.length, b_check_string)), ("split_sign", (n_split_sign.length, p_split_sign.length, b_split_sign)), ("joined", (n_joined.length, p_joined.length, b_joined)), ("times", (n_times.length, p_times.length, b_times)), ("SignedString.__len__", (n_SignedString___len__.length, p_SignedString___len__.length, b_SignedString___len__)), ("SignedString.__eq__", (n_SignedString___eq__.length, p_SignedString___eq__.length, b_SignedString___eq__)), ("SignedString.__repr__", (n_SignedString___repr__.length, p_SignedString___repr__.length, b_SignedString___repr__)), ("SignedString.__mul__", (n_SignedString___mul__.length, p_SignedString___mul__.length, b_SignedString___mul__)), ("SignedString.__neg__", (n_SignedString___neg__.length, p_SignedString___neg__.length, b_SignedString___neg__)), ("SignedString.__contains__", (n_SignedString___contains__.length, p_SignedString___contains__.length, b_SignedString___contains__)), ("SignedString.text", (n_SignedString_text.length, p_SignedString_text.length, b_SignedString_text)), ("_law_bag", (n__law_bag.length, p__law_bag.length, b__law_bag)), ("_law_pull", (n__law_pull.length, p__law_pull.length, b__law_pull)), ("_law_of", (n__law_of.length, p__law_of.length, b__law_of)), ("_law_same", (n__law_same.length, p__law_same.length, b__law_same)), ("_law_body", (n__law_body.length, p__law_body.length, b__law_body)), ("_law_signed", (n__law_signed.length, p__law_signed.length, b__law_signed)), ("_law_table_of_products", (n__law_table_of_products.length, p__law_table_of_products.length, b__law_table_of_products)), ("_law_times", (n__law_times.length, p__law_times.length, b__law_times)), ("_law_times_all", (n__law_times_all.length, p__law_times_all.length, b__law_times_all))] : List (Str × (Nat × Nat × Ss))) ++ ([("_law_string", (n__law_string.length, p__law_string.length, b__law_string)), ("law", (n_law.length, p_law.length, b_law))] : List (Str × (Nat × Nat × Ss)))
def initL : List (Str × (Nat × Nat × Ss)) := ([("SignedString", (n_SignedString___init__.length, p_SignedString___init__.length, b_SignedString___init__))] : List (Str × (Nat × Nat × Ss)))
def code (x : Str) : Option (Nat × Nat × Ss) := codeL.lookup x
def init (x : Str) : Option (Nat × Nat × Ss) := initL.lookup x
theorem o_check_string : DfOk code defs "check_string" hd2 n_check_string p_check_string b_check_string := ⟨by kernel_rfl, rfl, rfl, ⟨rfl, rfl, rfl, by decide +kernel, rfl, by decide +kernel, by decide +kernel⟩, by kernel_rfl, fun _ _ _ _ _ _ us hl => match us, hl with | [_], _ => rfl⟩
theorem o_split_sign : DfOk code defs "split_sign" hd3 n_split_sign p_split_sign b_split_sign := ⟨by kernel_rfl, rfl, rfl, ⟨rfl, rfl, rfl, by decide +kernel, rfl, by decide +kernel, by decide +kernel⟩, by kernel_rfl, fun _ _ _ _ _ _ us hl => match us, hl with | [_], _ => rfl⟩
theorem o_joined : DfOk code defs "joined" hd4 n_joined p_joined b_joined := ⟨by kernel_rfl, rfl, rfl, ⟨rfl, rfl, rfl, by decide +kernel, rfl, by decide +kernel, by decide +kernel⟩, by kernel_rfl, fun _ _ _ _ _ _ us hl => match us, hl with | [_, _], _ => rfl⟩
theorem o_times : DfOk code defs "times" hd5 n_times p_times b_times := ⟨by kernel_rfl, rfl, rfl, ⟨rfl, rfl, rfl, by decide +kernel, rfl, by decide +kernel, by decide +kernel⟩, by kernel_rfl, fun _ _ _ _ _ _ us hl => match us, hl with | [_, _], _ => rfl⟩
theorem o_SignedString___init__ : DfOk init defs "SignedString" hd6 n_SignedString___init__ p_SignedString___init__ b_SignedString___init__ := ⟨by kernel_rfl, rfl, rfl, ⟨rfl, rfl, rfl, by decide +kernel, rfl, by decide +kernel, by decide +kernel⟩, by kernel_rfl, fun _ _ _ _ _ _ us hl => match us, hl with | [_, _], _ => rfl⟩
theorem o_SignedString___len__ : DfOk code defs "SignedString.__len__" hd7 n_SignedString___len__ p_SignedString___len__ b_SignedString___len__ := ⟨by kernel_rfl, rfl, rfl, ⟨rfl, rfl, rfl, by decide +kernel, rfl, by decide +kernel, by decide +kernel⟩, by kernel_rfl, fun _ _ _ _ _ _ us hl => match us, hl with | [_], _ => rfl⟩
theorem o_SignedString___eq__ : DfOk code defs "SignedString.__eq__" hd8 n_SignedString___eq__ p_SignedString___eq__ b_SignedString___eq__ := ⟨by kernel_rfl, rfl, rfl, ⟨rfl, rfl, rfl, by decide +kernel, rfl, by decide +kernel, by decide +kernel⟩, by kernel_rfl, fun _ _ _ _ _ _ us hl => match us, hl with | [_, _], _ => rfl⟩
theorem o_SignedString___repr__ : DfOk code defs "SignedString.__repr__" hd9 n_SignedString___repr__ p_SignedString___repr__ b_SignedString___repr__ := ⟨by kernel_rfl, rfl, rfl, ⟨rfl, rfl, rfl, by decide +kernel, rfl, by decide +kernel, by decide +kernel⟩, by kernel_rfl, fun _ _ _ _ _ _ us hl => match us, hl with | [_], _ => rfl⟩
theorem o_SignedString___mul__ : DfOk code defs "SignedString.__mul__" hd10 n_SignedString___mul__ p_SignedString___mul__ b_SignedString___mul__ := ⟨by kernel_rfl, rfl, rfl, ⟨rfl, rfl, rfl, by decide +kernel, rfl, by decide +kernel, by decide +kernel⟩, by kernel_rfl, fun _ _ _ _ _ _ us hl => match us, hl with | [_, _], _ => rfl⟩
theorem o_SignedString___neg__ : DfOk code defs "SignedString.__neg__" hd11 n_SignedString___neg__ p_SignedString___neg__ b_SignedString___neg__ := ⟨by kernel_rfl, rfl, rfl, ⟨rfl, rfl, rfl, by decide +kernel, rfl, by decide +kernel, by decide +kernel⟩, by kernel_rfl, fun _ _ _ _ _ _ us hl => match us, hl with | [_], _ => rfl⟩
theorem o_SignedString___contains__ : DfOk code defs "SignedString.__contains__" hd12 n_SignedString___contains__ p_SignedString___contains__ b_SignedString___contains__ := ⟨by kernel_rfl, rfl, rfl, ⟨rfl, rfl, rfl, by decide +kernel, rfl, by decide +kernel, by decide +kernel⟩, by kernel_rfl, fun _ _ _ _ _ _ us hl => match us, hl with | [_, _], _ => rfl⟩
theorem o_SignedString_text : DfOk code defs "SignedString.text" hd13 n_SignedString_text p_SignedString_text b_SignedString_text := ⟨by kernel_rfl, rfl, rfl, ⟨rfl, rfl, rfl, by decide +kernel, rfl, by decide +kernel, by decide +kernel⟩, by kernel_rfl, fun _ _ _ _ _ _ us hl => match us, hl with | [_], _ => rfl⟩
theorem o__law_bag : DfOk code defs "_law_bag" hd14 n__law_bag p__law_bag b__law_bag := ⟨by kernel_rfl, rfl, rfl, ⟨rfl, rfl, rfl, by decide +kernel, rfl, by decide +kernel, by decide +kernel⟩, by kernel_rfl, fun _ _ _ _ _ _ us hl => match us, hl with | [_], _ => rfl⟩
theorem o__law_pull : DfOk code defs "_law_pull" hd15 n__law_pull p__law_pull b__law_pull := ⟨by kernel_rfl, rfl, rfl, ⟨rfl, rfl, rfl, by decide +kernel, rfl, by decide +kernel, by decide +kernel⟩, by kernel_rfl, fun _ _ _ _ _ _ us hl => match us, hl with | [_, _], _ => rfl⟩
theorem o__law_of : DfOk code defs "_law_of" hd16 n__law_of p__law_of b__law_of := ⟨by kernel_rfl, rfl, rfl, ⟨rfl, rfl, rfl, by decide +kernel, rfl, by decide +kernel, by decide +kernel⟩, by kernel_rfl, fun _ _ _ _ _ _ us hl => match us, hl with | [_, _], _ => rfl⟩
theorem o__law_same : DfOk code defs "_law_same" hd17 n__law_same p__law_same b__law_same := ⟨by kernel_rfl, rfl, rfl, ⟨rfl, rfl, rfl, by decide +kernel, rfl, by decide +kernel, by decide +kernel⟩, by kernel_rfl, fun _ _ _ _ _ _ us hl => match us, hl with | [_, _], _ => rfl⟩
theorem o__law_body : DfOk code defs "_law_body" hd20 n__law_body p__law_body b__law_body := ⟨by kernel_rfl, rfl, rfl, ⟨rfl, rfl, rfl, by decide +kernel, rfl, by decide +kernel, by decide +kernel⟩, by kernel_rfl, fun _ _ _ _ _ _ us hl => match us, hl with | [_], _ => rfl⟩
theorem o__law_signed : DfOk code defs "_law_signed" hd21 n__law_signed p__law_signed b__law_signed := ⟨by kernel_rfl, rfl, rfl, ⟨rfl, rfl, rfl, by decide +kernel, rfl, by decide +kernel, by decide +kernel⟩, by kernel_rfl, fun _ _ _ _ _ _ us hl => match us, hl with | [_, _], _ => rfl⟩
theorem o__law_table_of_products : DfOk code defs "_law_table_of_products" hd22 n__law_table_of_products p__law_table_of_products b__law_table_of_products := ⟨by kernel_rfl, rfl, rfl, ⟨rfl, rfl, rfl, by decide +kernel, rfl, by decide +kernel, by decide +kernel⟩, by kernel_rfl, fun _ _ _ _ _ _ us hl => match us, hl with | [], _ => rfl⟩
theorem o__law_times : DfOk code defs "_law_times" hd23 n__law_times p__law_times b__law_times := ⟨by kernel_rfl, rfl, rfl, ⟨rfl, rfl, rfl, by decide +kernel, rfl, by decide +kernel, by decide +kernel⟩, by kernel_rfl, fun _ _ _ _ _ _ us hl => match us, hl with | [_, _], _ => rfl⟩
theorem o__law_times_all : DfOk code defs "_law_times_all" hd24 n__law_times_all p__law_times_all b__law_times_all := ⟨by kernel_rfl, rfl, rfl, ⟨rfl, rfl, rfl, by decide +kernel, rfl, by decide +kernel, by decide +kernel⟩, by kernel_rfl, fun _ _ _ _ _ _ us hl => match us, hl with | [_, _], _ => rfl⟩
theorem o__law_string : DfOk code defs "_law_string" hd25 n__law_string p__law_string b__law_string := ⟨by kernel_rfl, rfl, rfl, ⟨rfl, rfl, rfl, by decide +kernel, rfl, by decide +kernel, by decide +kernel⟩, by kernel_rfl, fun _ _ _ _ _ _ us hl => match us, hl with | [_, _], _ => rfl⟩
theorem cLaw : isSs n_law defs (defScope (top 27)) b_law (defBody (top 27)) = true := by kernel_rfl
theorem scLaw : FnScope n_law p_law (defScope (top 27)) := ⟨rfl, rfl, rfl, by decide +kernel, rfl, by decide +kernel, by decide +kernel⟩
theorem kLaw : code "law" = some (n_law.length, p_law.length, b_law) := by kernel_rfl
end TM
end
section
set_option Elab.async false
set_option linter.all false
set_option maxRecDepth 100000
set_option maxHeartbeats 0
/-! the head of k77: what is looked at, the run. -/
namespace TM
open PySem PySem.Spec PyProof.Rows L2
def gloL : List Str := (["check_string", "split_sign", "joined", "times", "_law_bag", "_law_pull", "_law_of", "_law_same", "_law_body", "_law_signed", "_law_table_of_products", "_law_times", "_law_times_all", "_law_string", "law", "_law_tried", "_law_field", "SignedString", "InvalidString", "LengthMismatch", "ThreadError", "Missing", "BITS", "FROM_BITS"] : List Str)
def fa : List He.Fa := bltns.map (fun n => .free (Str.ofString n)) ++ gloL.map .glo ++ [.str "LETTERS" "1XZW", .cls "SignedString", .mkr "SignedString", .meth "SignedString" "text", .noat "SignedString" "sign", .noat "SignedString" "letters"]
def ts : List He.Tab := [(fun K => He.ga K "BITS", ["1", "X", "Z", "W"])]
def tf : List He.Defn := [("law", none)]
def bitsL : List (Str × Wv) := [("1", .nums [0, 0]), ("X", .nums [1, 0]), ("Z", .nums [0, 1]), ("W", .nums [1, 1])]
def fromL : List ((Int × Int) × Wv) := [((0, 0), .str "1"), ((1, 0), .str "X"), ((0, 1), .str "Z"), ((1, 1), .str "W")]
def ownL : List Str := (["__mul__", "__neg__", "__eq__", "__len__", "__contains__", "__repr__"] : List Str)
def exB (K : PySem.W.Frag) : Bool := isiB ["SignedString"] K "SignedString" && (ownL.all (ownB K "SignedString") && (excB K "InvalidString" ["value", "code"] && (excB K "LengthMismatch" ["code"] && (kdB K (He.ga K "BITS") bitsL && ktB K (He.ga K "FROM_BITS") fromL))))
abbrev R : PySem.W.OpenRow := PySem.W.OpenLaw.row Lw
abbrev hk : PySem.W.Hook := hookM 5 fa fn ts tf exB
def ob (s : PySem.W.SharedT) : He.AlX := obsM 5 fa fn ts tf exB (HandSHeadRun.getT s)
theorem ob_eq (s : PySem.W.SharedT) : ob s = hk.obs s.abs := obsM_eq (HandSHeadRun.getT_eq s)
theorem runF (w : World) : HandSHeadRun.RunEq R (PySem.W.view R.prog [lawAt]) hk ob 6000 loose (w.withFollow "special-get-raises" false) := by
  intro os
  kernel_rfl
theorem runT (w : World) : HandSHeadRun.RunEq R (PySem.W.view R.prog [lawAt]) hk ob 6000 loose (w.withFollow "special-get-raises" true) := by
  intro os
  kernel_rfl
theorem run (w : World) : HandSHeadRun.RunEq R (PySem.W.view R.prog [lawAt]) hk ob 6000 loose w :=
  PySem.W.byRow2 "special-get-raises" (P := fun w => HandSHeadRun.RunEq R (PySem.W.view R.prog [lawAt]) hk ob 6000 loose w) runF runT w
end TM
end
section
set_option Elab.async false
set_option linter.all false
set_option maxRecDepth 100000
set_option maxHeartbeats 1000000
/-! what holds around k77's defs. -/
namespace TM
open PySem PySem.Spec PyProof.Rows L2
def globL : List (Str × D) := [("LETTERS", .str "1XZW"), ("BITS", .wd (.kd bitsL)), ("FROM_BITS", .wd (.kt fromL))]
def xasL : List (Str × (Nat × List (Str × XA))) := [("InvalidString", (1, [("value", .par 0), ("code", .txt "invalidstring")])), ("LengthMismatch", (0, [("code", .txt "lengthmismatch")]))]
def clsL : List Str := (["SignedString", "InvalidString", "LengthMismatch"] : List Str)
def SS : Str := "SignedString"
def ownK : List (Str × Str) := [("__mul__", "SignedString.__mul__"), ("__neg__", "SignedString.__neg__"), ("__eq__", "SignedString.__eq__"), ("__len__", "SignedString.__len__"), ("__contains__", "SignedString.__contains__"), ("__repr__", "SignedString.__repr__")]
def I77 : PgI where
  code := code
  init := init
  meth c m := if c = SS ∧ m = "text" then some "SignedString.text" else none
  glob x := globL.lookup x
  fld c f := decide (c = SS) && (decide (f = "sign") || decide (f = "letters"))
  mks c := decide (c = SS)
  isc c := decide (c = SS)
  xas c := xasL.lookup c
  own c n := if c = SS then ownK.lookup n else none
def T77 (K : PySem.W.Frag) (w : World) (a : Addr) (is : List Int) : Tab where
  K := K
  w := w
  fn := fun _ => none
  cls := fun c => if c ∈ clsL then some (He.ga K c) else none
  scr := fun b js => b = a ∧ js = is
  tabs := [((He.cT K ("law", none)).2, "law.<locals>.<lambda>")]
  wd := wdP K w
  wo := wdP_ok
theorem T77_cls {K : PySem.W.Frag} {w : World} {a : Addr} {is : List Int} {c : Str} {A : Addr} (h : (T77 K w a is).cls c = some A) : c ∈ clsL ∧ A = He.ga K c := by
  have h2 : (if c ∈ clsL then some (He.ga K c) else none) = some A := h
  split at h2
  · cases h2
    exact ⟨by assumption, rfl⟩
  · cases h2
section
variable {K : PySem.W.Frag} {w : World} {h : Heap} {mg : Str → Option Value} {base : Heap} {a : Addr} {is : List Int} {prog : Program}
theorem fn_mem {d : He.DefD} (i : Nat) (e : fn[i]? = some d := by rfl) : d ∈ fn := List.mem_of_getElem? e
theorem fa_at (c : He.SaysX fa fn ts tf exB w h K) {f : He.Fa} (m : f ∈ fa) : f.ok K = true := c.t.d.facts m
theorem glo_at (X : K.In h) (G : h.Ns mainGlobals mg) (c : He.SaysX fa fn ts tf exB w h K) {x : Str} (m : x ∈ gloL) : mg x = some (.ref (He.ga K x)) :=
  He.glo_ok X G (fa_at c (List.mem_append_left _ (List.mem_append_right _ (List.mem_map.mpr ⟨x, m, rfl⟩))))
structure Ex (K : PySem.W.Frag) : Prop where
  isi : isiB ["SignedString"] K "SignedString" = true
  own : ∀ n ∈ ownL, ownB K "SignedString" n = true
  x1 : excB K "InvalidString" ["value", "code"] = true
  x2 : excB K "LengthMismatch" ["code"] = true
  kd : kdB K (He.ga K "BITS") bitsL = true
  kt : ktB K (He.ga K "FROM_BITS") fromL = true
theorem ex_at (c : He.SaysX fa fn ts tf exB w h K) : Ex K := by
  obtain ⟨h1, h2⟩ := He.ba c.more
  obtain ⟨h2, h3⟩ := He.ba h2
  obtain ⟨h3, h4⟩ := He.ba h3
  obtain ⟨h4, h5⟩ := He.ba h4
  obtain ⟨h5, h6⟩ := He.ba h5
  exact ⟨h1, List.all_eq_true.mp h2, h3, h4, h5, h6⟩
/-- a def by its name -/
theorem fn_at {x : Str} {d : He.DefD} {N ps : List Str} {b : Ss} (D : DfOk code defs x d N ps b) (hd : d ∈ fn) (e : He.fAd K d.at_ = He.ga K x) (m : x ∈ gloL) (X : K.In h) (G : h.Ns mainGlobals mg) (c : He.SaysX fa fn ts tf exB w h K) :
    ∃ f fd ps, Good (T77 K w a is) I77 defs prog w K mg base x f fd ps ∧ mg x = some (.ref f) ∧ PySem.W.keepIn K (.ref f) = true ∧ ∀ n, ∃ dvs ds, Binds K fd ps ds ∧ Vals dvs ds ∧ ∀ G θ, RepL (T77 K w a is) G θ dvs (I77.dflt x n) := by
  obtain ⟨fd, g, kp, b, _⟩ := DfOk.good (T := T77 K w a is) (I := I77) (prog := prog) (w := w) (mg := mg) (base := base) D c.t.d hd
  exact ⟨_, fd, ps, g, by rw [e]; exact glo_at X G c m, kp, fun n => ⟨[], [], b, .nil, fun _ _ => .nil⟩⟩
theorem fns77 (X : K.In h) (G : h.Ns mainGlobals mg) (c : He.SaysX fa fn ts tf exB w h K) : ∀ x ∈ defs, ∃ f fd ps, Good (T77 K w a is) I77 defs prog w K mg base x f fd ps ∧ mg x = some (.ref f) ∧ PySem.W.keepIn K (.ref f) = true ∧ ∀ n, ∃ dvs ds, Binds K fd ps ds ∧ Vals dvs ds ∧ ∀ G θ, RepL (T77 K w a is) G θ dvs (I77.dflt x n) := by
  unfold defs
  simp only [List.forall_mem_cons]
  exact ⟨fn_at o_check_string (fn_mem 2) rfl (by decide +kernel) X G c, fn_at o_split_sign (fn_mem 3) rfl (by decide +kernel) X G c, fn_at o_joined (fn_mem 4) rfl (by decide +kernel) X G c, fn_at o_times (fn_mem 5) rfl (by decide +kernel) X G c, fn_at o__law_bag (fn_mem 14) rfl (by decide +kernel) X G c, fn_at o__law_pull (fn_mem 15) rfl (by decide +kernel) X G c, fn_at o__law_of (fn_mem 16) rfl (by decide +kernel) X G c, fn_at o__law_same (fn_mem 17) rfl (by decide +kernel) X G c, fn_at o__law_body (fn_mem 20) rfl (by decide +kernel) X G c, fn_at o__law_signed (fn_mem 21) rfl (by decide +kernel) X G c, fn_at o__law_table_of_products (fn_mem 22) rfl (by decide +kernel) X G c, fn_at o__law_times (fn_mem 23) rfl (by decide +kernel) X G c, fn_at o__law_times_all (fn_mem 24) rfl (by decide +kernel) X G c, fn_at o__law_string (fn_mem 25) rfl (by decide +kernel) X G c, fun _ z => nomatch z⟩

theorem cls_SS (c : He.SaysX fa fn ts tf exB w h K) : Cls K (He.ga K SS) := He.cls_ok (fa_at c (f := .cls "SignedString") (List.mem_append_right _ (by simp)))
theorem mem_ss : SS ∈ clsL := by decide +kernel
theorem cls_eq {x : Str} (m : x ∈ clsL) : (T77 K w a is).cls x = some (He.ga K x) := if_pos m
theorem glob77 (X : K.In h) (G : h.Ns mainGlobals mg) (c : He.SaysX fa fn ts tf exB w h K) (x : Str) (d : D) (e : I77.glob x = some d) : ∃ v u, mg x = some u ∧ RelV v u ∧ ∀ G θ, Rep (T77 K w a is) G θ v d := by
  have m := PySem.mem_of_lookup (show globL.lookup x = some d from e)
  have q := ex_at c
  simp only [globL, List.mem_cons, Prod.mk.injEq, List.not_mem_nil, or_false] at m
  rcases m with ⟨rfl, rfl⟩ | ⟨rfl, rfl⟩ | ⟨rfl, rfl⟩
  · obtain ⟨t, z⟩ := He.str_ok X G (fa_at c (f := .str "LETTERS" "1XZW") (List.mem_append_right _ (by simp)))
    exact ⟨.str _, _, z, ⟨t, rfl⟩, fun _ _ => .str _⟩
  · obtain ⟨es, n, k⟩ := c.t.tab 0 (t := (fun K => He.ga K "BITS", ["1", "X", "Z", "W"])) rfl
    exact ⟨.ref _, _, glo_at X G c (by decide +kernel), rfl, fun _ _ => .wd (show wdP K w _ (.kd bitsL) from ⟨q.kd, es, n, k⟩)⟩
  · exact ⟨.ref _, _, glo_at X G c (by decide +kernel), rfl, fun _ _ => .wd (show wdP K w _ (.kt fromL) from q.kt)⟩
theorem fld77 (c : He.SaysX fa fn ts tf exB w h K) (x : Str) (A : Addr) (f : Str) (h1 : (T77 K w a is).cls x = some A) (h2 : I77.fld x f = true) : Cls K A ∧ NoAttr K A f := by
  obtain ⟨_, rfl⟩ := T77_cls h1
  obtain ⟨e1, e2⟩ := He.ba (show (decide (x = SS) && (decide (f = "sign") || decide (f = "letters"))) = true from h2)
  cases of_decide_eq_true e1
  refine ⟨cls_SS c, ?_⟩
  rcases Bool.or_eq_true_iff.mp e2 with e | e
  · cases of_decide_eq_true e
    exact He.noat_ok (fa_at c (f := .noat "SignedString" "sign") (List.mem_append_right _ (by simp)))
  · cases of_decide_eq_true e
    exact He.noat_ok (fa_at c (f := .noat "SignedString" "letters") (List.mem_append_right _ (by simp)))
theorem meth77 (c : He.SaysX fa fn ts tf exB w h K) (x : Str) (A : Addr) (m key : Str) (h1 : (T77 K w a is).cls x = some A) (h2 : I77.meth x m = some key) : Cls K A ∧ ∃ g fd ps, Meth K A m g ∧ Good (T77 K w a is) I77 defs prog w K mg base key g fd ps ∧ ∀ n, ∃ dvs ds, Binds K fd ps ds ∧ Vals dvs ds ∧ ∀ G θ, RepL (T77 K w a is) G θ dvs (I77.dflt key n) := by
  obtain ⟨_, rfl⟩ := T77_cls h1
  have h3 : (if x = SS ∧ m = "text" then some ("SignedString.text" : Str) else none) = some key := h2
  split at h3
  · rename_i q
    obtain ⟨rfl, rfl⟩ := q
    cases h3
    obtain ⟨fd, g, _, b, _⟩ := DfOk.good (T := T77 K w a is) (I := I77) (prog := prog) (w := w) (mg := mg) (base := base) o_SignedString_text c.t.d (fn_mem 13)
    exact ⟨cls_SS c, _, fd, _, He.meth_ok (fa_at c (f := .meth "SignedString" "text") (List.mem_append_right _ (by simp))), g, fun n => ⟨[], [], b, .nil, fun _ _ => .nil⟩⟩
  · cases h3
theorem make77 (X : K.In h) (G : h.Ns mainGlobals mg) (c : He.SaysX fa fn ts tf exB w h K) (x : Str) (e : I77.mks x = true) : ∃ A f fd ps, (T77 K w a is).cls x = some A ∧ Mk K A f ∧ GoodI (T77 K w a is) I77 defs prog w K mg base x f fd ps ∧ mg x = some (.ref A) ∧ ∀ n, ∃ dvs ds, Binds K fd ps ds ∧ Vals dvs ds ∧ ∀ G θ, RepL (T77 K w a is) G θ dvs (I77.dflt x n) := by
  cases of_decide_eq_true (show decide (x = SS) = true from e)
  obtain ⟨fd, g, b⟩ := DfOk.init (T := T77 K w a is) (I := I77) (prog := prog) (w := w) (mg := mg) (base := base) o_SignedString___init__ c.t.d (fn_mem 6)
  exact ⟨_, _, fd, _, cls_eq mem_ss, He.mkr_ok (fa_at c (f := .mkr "SignedString") (List.mem_append_right _ (by simp))), g, glo_at X G c (by decide +kernel), fun n => ⟨[], [], b, .nil, fun _ _ => .nil⟩⟩
end
end TM
end
section
set_option Elab.async false
set_option linter.all false
set_option maxRecDepth 100000
set_option maxHeartbeats 1000000
/-! what holds around k77's defs: classes, exceptions; all of it. -/
namespace TM
open PySem PySem.Spec PyProof.Rows L2
section
variable {K : PySem.W.Frag} {w : World} {h : Heap} {mg : Str → Option Value} {base : Heap} {a : Addr} {is : List Int} {prog : Program}
theorem isi77 (X : K.In h) (G : h.Ns mainGlobals mg) (c : He.SaysX fa fn ts tf exB w h K) (x : Str) (e : I77.isc x = true) : ∃ A, (T77 K w a is).cls x = some A ∧ mg x = some (.ref A) ∧ Cls K A ∧ PySem.W.findIn K (.ref A) "__class__" = some (some (.builtin "object.__class__")) ∧ PySem.W.specialIn K (.builtin "object.__class__") "__get__" = some (some (.builtin "getset_descriptor.__get__")) ∧ PySem.W.takesIn K (.builtin "object.__class__") = some true ∧
    PySem.W.mroIn K A (.type "object") = some true ∧ (∀ t ∈ "NoneType" :: askedTy, PySem.W.kitOne K (.type t) (.ref A) = some false) ∧ ∀ c' A', I77.isc c' = true → (T77 K w a is).cls c' = some A' → PySem.W.kitOne K (.ref A') (.ref A) = some (decide (c' = x)) := by
  cases of_decide_eq_true (show decide (x = SS) = true from e)
  obtain ⟨h1, h2, h3, h4, h5, h6⟩ := isiB_ok (ex_at c).isi
  refine ⟨_, cls_eq mem_ss, glo_at X G c (by decide +kernel), cls_SS c, h1, h2, h3, h4, h5, fun c' A' e1 e2 => ?_⟩
  cases of_decide_eq_true (show decide (c' = SS) = true from e1)
  obtain ⟨_, rfl⟩ := T77_cls e2
  exact h6 _ (by simp [SS])
theorem own77 (c : He.SaysX fa fn ts tf exB w h K) (x : Str) (A : Addr) (n key : Str) (h1 : (T77 K w a is).cls x = some A) (h2 : I77.own x n = some key) : ∃ g fd ps, Cls K A ∧ PySem.W.selfFirst K A = true ∧ PySem.W.findIn K (.ref A) n = some (some (.ref g)) ∧ PySem.W.isFn K (.ref g) = true ∧
    (n = "__eq__" → PySem.W.findIn K (.ref A) "__ne__" = some (some (.builtin "object.__ne__")) ∧ PySem.W.mroIn K A (.type "object") = some true ∧ ∀ t ∈ ["str", "int", "bool", "NoneType"], PySem.W.subIn K (.ref A) (.type t) = some false) ∧
    Good (T77 K w a is) I77 defs prog w K mg base key g fd ps ∧ Binds K fd ps [] := by
  obtain ⟨_, rfl⟩ := T77_cls h1
  have h3 : (if x = SS then ownK.lookup n else none) = some key := h2
  split at h3
  · rename_i e
    subst e
    have m := PySem.mem_of_lookup h3
    have q := (ex_at c).own
    simp only [ownK, List.mem_cons, Prod.mk.injEq, List.not_mem_nil, or_false] at m
    rcases m with ⟨rfl, rfl⟩ | ⟨rfl, rfl⟩ | ⟨rfl, rfl⟩ | ⟨rfl, rfl⟩ | ⟨rfl, rfl⟩ | ⟨rfl, rfl⟩
    · obtain ⟨q1, q2, q3, q4⟩ := ownB_ok (q "__mul__" (by decide +kernel))
      obtain ⟨fd, g, _, b, _⟩ := DfOk.good (T := T77 K w a is) (I := I77) (prog := prog) (w := w) (mg := mg) (base := base) o_SignedString___mul__ c.t.d (fn_mem 10)
      exact ⟨_, fd, _, cls_SS c, q1, q2, q3, q4, g, b⟩
    · obtain ⟨q1, q2, q3, q4⟩ := ownB_ok (q "__neg__" (by decide +kernel))
      obtain ⟨fd, g, _, b, _⟩ := DfOk.good (T := T77 K w a is) (I := I77) (prog := prog) (w := w) (mg := mg) (base := base) o_SignedString___neg__ c.t.d (fn_mem 11)
      exact ⟨_, fd, _, cls_SS c, q1, q2, q3, q4, g, b⟩
    · obtain ⟨q1, q2, q3, q4⟩ := ownB_ok (q "__eq__" (by decide +kernel))
      obtain ⟨fd, g, _, b, _⟩ := DfOk.good (T := T77 K w a is) (I := I77) (prog := prog) (w := w) (mg := mg) (base := base) o_SignedString___eq__ c.t.d (fn_mem 8)
      exact ⟨_, fd, _, cls_SS c, q1, q2, q3, q4, g, b⟩
    · obtain ⟨q1, q2, q3, q4⟩ := ownB_ok (q "__len__" (by decide +kernel))
      obtain ⟨fd, g, _, b, _⟩ := DfOk.good (T := T77 K w a is) (I := I77) (prog := prog) (w := w) (mg := mg) (base := base) o_SignedString___len__ c.t.d (fn_mem 7)
      exact ⟨_, fd, _, cls_SS c, q1, q2, q3, q4, g, b⟩
    · obtain ⟨q1, q2, q3, q4⟩ := ownB_ok (q "__contains__" (by decide +kernel))
      obtain ⟨fd, g, _, b, _⟩ := DfOk.good (T := T77 K w a is) (I := I77) (prog := prog) (w := w) (mg := mg) (base := base) o_SignedString___contains__ c.t.d (fn_mem 12)
      exact ⟨_, fd, _, cls_SS c, q1, q2, q3, q4, g, b⟩
    · obtain ⟨q1, q2, q3, q4⟩ := ownB_ok (q "__repr__" (by decide +kernel))
      obtain ⟨fd, g, _, b, _⟩ := DfOk.good (T := T77 K w a is) (I := I77) (prog := prog) (w := w) (mg := mg) (base := base) o_SignedString___repr__ c.t.d (fn_mem 9)
      exact ⟨_, fd, _, cls_SS c, q1, q2, q3, q4, g, b⟩
  · cases h3
theorem exc77 (X : K.In h) (G : h.Ns mainGlobals mg) (c : He.SaysX fa fn ts tf exB w h K) (x : Str) (n : Nat) (xs : List (Str × XA)) (e : I77.xas x = some (n, xs)) : ∃ A f fd ps, ps.length = n + 1 ∧ n ≤ 1000 ∧ (T77 K w a is).cls x = some A ∧ mg x = some (.ref A) ∧ OexC K A ∧ PySem.W.findIn K (.ref A) "__init__" = some (some (.ref f)) ∧ PySem.W.typeIn K (.ref f) = some (.type "function") ∧ xs ≠ [] ∧
    FnOk prog w K mg base (L2.CX prog w) 1 f fd ps (spX A xs ps.length) ∧ Binds K fd ps [] := by
  have m := PySem.mem_of_lookup (show xasL.lookup x = some (n, xs) from e)
  simp only [xasL, List.mem_cons, Prod.mk.injEq, List.not_mem_nil, or_false] at m
  rcases m with ⟨rfl, rfl, rfl⟩ | ⟨rfl, rfl, rfl⟩
  · obtain ⟨q1, q2, q3, q4, _⟩ := excB_ok (ex_at c).x1
    obtain ⟨fd, F⟩ := c.t.d.def_ 0 (d := hd0) rfl
    exact ⟨_, _, fd, ["self", "value"], rfl, by decide, cls_eq (by decide +kernel), glo_at X G c (by decide +kernel), q1, q2, q3, by simp,
      xinit_ok (N := ["self", "value"]) (ps := ["self", "value"]) F ⟨rfl, rfl, rfl, by decide +kernel, rfl, by decide +kernel, by decide +kernel⟩ q1 (fun p hp => q4 _ (by
        simp only [List.mem_cons, List.not_mem_nil, or_false] at hp
        rcases hp with rfl | rfl <;> simp)) (by decide) (by kernel_rfl), FunD.bindsN F fun _ _ _ _ _ _ us hl => match us, hl with | [_, _], _ => rfl⟩
  · obtain ⟨q1, q2, q3, q4, _⟩ := excB_ok (ex_at c).x2
    obtain ⟨fd, F⟩ := c.t.d.def_ 1 (d := hd1) rfl
    exact ⟨_, _, fd, ["self"], rfl, by decide, cls_eq (by decide +kernel), glo_at X G c (by decide +kernel), q1, q2, q3, by simp,
      xinit_ok (N := ["self"]) (ps := ["self"]) F ⟨rfl, rfl, rfl, by decide +kernel, rfl, by decide +kernel, by decide +kernel⟩ q1 (fun p hp => q4 _ (by
        simp only [List.mem_cons, List.not_mem_nil, or_false] at hp
        subst hp
        simp)) (by decide) (by kernel_rfl), FunD.bindsN F fun _ _ _ _ _ _ us hl => match us, hl with | [_], _ => rfl⟩
theorem hd77 (X : K.In h) (G : h.Ns mainGlobals mg) (c : He.SaysX fa fn ts tf exB w h K) : HdF (T77 K w a is) I77 defs prog w K mg base where
  eK := rfl
  ew := rfl
  free := fun n hn => He.free_ok X G (fa_at c (List.mem_append_left _ (List.mem_append_left _ (List.mem_map.mpr ⟨n, hn, rfl⟩))))
  glob := glob77 X G c
  fns := fns77 X G c
  fld := fld77 c
  meths := meth77 c
  makes := make77 X G c
  isi := isi77 X G c
  excs := exc77 X G c
  own := own77 c
end
end TM
end
section
set_option Elab.async false
set_option linter.all false
set_option maxRecDepth 100000
set_option maxHeartbeats 1000000
/-! k77: the trial, the law's def, the row's end from the plain law. -/
namespace TM
open PySem PySem.Spec PyProof.Rows L2
section
variable {K : PySem.W.Frag} {w : World} {h : Heap} {mg : Str → Option Value} {base : Heap} {a : Addr} {is : List Int} {prog : Program} {P : Prov}
theorem tri77 (X : K.In h) (G : h.Ns mainGlobals mg) (c : He.SaysX fa fn ts tf exB w h K) (hP : P.xas = I77.xas) : TriedOk K mg (T77 K w a is) P where
  def1 := by
    obtain ⟨fd, F⟩ := c.t.d.def_ 19 (d := hd19) rfl
    have b := FunD.bindsN (ps := ["_law_ask"]) F fun _ _ _ _ _ _ us hl => match us, hl with | [_], _ => rfl
    have kp := F.kp
    obtain ⟨oc, od, dV, kV, doc, pm, an, cdv, ct, osl, rfl, lk, hcd, _, _⟩ := F.ex
    exact ⟨_, _, _, _, dV, kV, doc, pm, cdv, ct, oc, an, od, osl, glo_at X G c (by decide +kernel), kp, lk, hcd, b, ⟨rfl, rfl, rfl, by decide +kernel, rfl, by decide +kernel, by decide +kernel⟩, by kernel_rfl, by kernel_rfl, by kernel_rfl, by kernel_rfl, by kernel_rfl, by kernel_rfl⟩
  def2 := by
    obtain ⟨fd, F⟩ := c.t.d.def_ 18 (d := hd18) rfl
    have b := FunD.bindsN (ps := ["_law_e"]) F fun _ _ _ _ _ _ us hl => match us, hl with | [_], _ => rfl
    have kp := F.kp
    obtain ⟨oc, od, dV, kV, doc, pm, an, cdv, ct, osl, rfl, lk, hcd, _, _⟩ := F.ex
    exact ⟨_, _, _, _, dV, kV, doc, pm, cdv, ct, oc, an, od, osl, glo_at X G c (by decide +kernel), kp, lk, hcd, b, ⟨rfl, rfl, rfl, by decide +kernel, rfl, by decide +kernel, by decide +kernel⟩, by kernel_rfl, by kernel_rfl⟩
  ex := by
    refine ⟨_, _, glo_at X G c (by decide +kernel), glo_at X G c (by decide +kernel), fun x n xs A e hA => ?_⟩
    obtain ⟨_, rfl⟩ := T77_cls hA
    rw [hP] at e
    have m := PySem.mem_of_lookup (show xasL.lookup x = some (n, xs) from e)
    simp only [xasL, List.mem_cons, Prod.mk.injEq, List.not_mem_nil, or_false] at m
    rcases m with ⟨rfl, _⟩ | ⟨rfl, _⟩
    · obtain ⟨_, _, _, _, q1, q2, q3⟩ := excB_ok (ex_at c).x1
      exact ⟨q1, q2, q3⟩
    · obtain ⟨_, _, _, _, q1, q2, q3⟩ := excB_ok (ex_at c).x2
      exact ⟨q1, q2, q3⟩
theorem qLaw : (hd26.qual ++ ".<locals>." ++ "<lambda>" : Str) = "law.<locals>.<lambda>" := by decide +kernel
/-- the law at the head's heap, from the plain law -/
theorem law77 {m : Nat} (pure : ∀ is : List Int, is.length ≤ 63 → ∃ S', runDef (I77.levL m) n_law.length p_law.length b_law [.scr is] [] = .ok (.bl true) S') (X : K.In h) (G : h.Ns mainGlobals mg) (c : He.SaysX fa fn ts tf exB w h K) :
    ∃ fd, LawAtM prog w K (m + 4) 63 "_law_script" mg (He.ga K "law") h fd [((He.cT K ("law", none)).1, (He.cT K ("law", none)).2, "law.<locals>.<lambda>")] (T77 K w) fun _ _ => runDef (I77.levL m) n_law.length p_law.length b_law := by
  obtain ⟨fd, F⟩ := c.t.d.def_ 26 (d := hd26) rfl
  have b := fun s (us : List Value) (hl : us.length = 1) => FunD.bindsA (ps := ["_law_script"]) F (fun _ _ _ _ _ _ us hl => match us, hl with | [_], _ => rfl) s us hl
  obtain ⟨oc, od, dV, kV, doc, pm, an, cdv, ct, osl, rfl, lk, hcd, _, _⟩ := F.ex
  obtain ⟨co, rfl⟩ := He.codeIn_ref hcd
  have ec : (He.cT K ("law", none)).1 = co := He.codeOf_eq lk rfl
  refine ⟨_, X, fun p hp => ?_, fun p hp => ?_, fun p hp => ?_, fun s u => b s [u] rfl, fun _ _ => rfl, fun _ _ _ _ z => z, fun _ _ => ⟨rfl, rfl⟩, fun _ _ => rfl, fun base hK hB hT a is => ?_, fun a is hl _ => pure is hl⟩
  · rw [List.mem_singleton] at hp; subst hp
    exact c.empty ("law", none) (List.mem_singleton.mpr rfl)
  · rw [List.mem_singleton] at hp; subst hp
    exact c.out ("law", none) (List.mem_singleton.mpr rfl)
  · rw [List.mem_singleton] at hp; subst hp
    exact PySem.W.codeHd_of_K X (c.hd ("law", none) (List.mem_singleton.mpr rfl))
  · have H := hd77 (a := a) (is := is) (prog := prog) (base := base) X G c
    have TB := hT _ (List.mem_singleton.mpr rfl)
    simp only [ec] at TB
    exact def_byL (k := m + 1) (P := I77.levL m) (PL := I77.lev m) (H.levL m) (H.lev m) rfl (I77.lev_lam m) (tri77 X G c (by cases m <;> rfl)) TB (by rw [qLaw]; exact List.mem_singleton.mpr rfl) (fun p hp _ => by rw [qLaw, List.mem_singleton.mp hp]) lk hcd scLaw scLaw.nd cLaw
end
end TM
end
section
set_option Elab.async false
set_option linter.all false
set_option maxRecDepth 100000
set_option maxHeartbeats 0
/-! k77: the row, from the plain law. -/
open PySem PySem.W PySem.Calls PyProof.Rows
theorem TM.row77 {m : Nat} (hm : L2.Room (m + 4) callerA) (pure : ∀ is : List Int, is.length ≤ 63 → ∃ S', TM.runDef (TM.I77.levL m) TM.n_law.length TM.p_law.length TM.b_law [.scr is] [] = .ok (.bl true) S') : PySem.Challenge.rw_threadmark_k77_strings_as_values.Holds := by
  w_on; o_law
  refine HandSHeadRun.head_any (r := OpenLaw.row PySem.Challenge.rw_threadmark_k77_strings_as_values) (q := view (OpenLaw.row PySem.Challenge.rw_threadmark_k77_strings_as_values).prog [27]) (H := TM.hk) (ob := TM.ob) (M := 6000) (loose := TM.loose) (d := HandSHeadRun.topDef (OpenLaw.row PySem.Challenge.rw_threadmark_k77_strings_as_values).prog 27) (kwd := []) TM.ob_eq
    (by kernel_rfl) (fun s => by kernel_rfl) TM.run (by kernel_rfl) (by kernel_rfl) (by kernel_rfl) (by rfl) (by first | assumption | decide +kernel) (by decide +kernel) ⟨rfl, rfl, rfl, rfl, rfl, by decide +kernel⟩ ?hw ?hc
  case hw => w_witness2
  case hc =>
    refine TM.walk_ofTM (l := PySem.Challenge.rw_threadmark_k77_strings_as_values) (n := 63) (k := m + 4) (x := "_law_script") rfl (by decide) (by kernel_rfl) hm ?F
    intro w mg fa h Y G hmg0
    obtain ⟨K, c, X⟩ := Y
    have hmg : mg ("law" : PySem.Str) = some (.ref fa) := by
      have e : (HandSHeadRun.topDef (OpenLaw.row PySem.Challenge.rw_threadmark_k77_strings_as_values).prog 27).name = ("law" : PySem.Str) := by kernel_rfl
      rw [← e]
      exact hmg0
    have e2 := hmg.symm.trans (TM.glo_at X G c (x := "law") (by decide +kernel))
    cases e2
    obtain ⟨fd, L⟩ := TM.law77 (prog := (PySem.Challenge.rw_threadmark_k77_strings_as_values).prog) (w := w) pure X G c
    exact ⟨K, fd, _, _, _, L⟩
end
section
set_option Elab.async false
set_option linter.all false
set_option maxRecDepth 100000
set_option maxHeartbeats 1000000
/-! PL0: the interpreter's runs, by simp: texts, the bag of drawn numbers. -/
namespace TM
open PySem PySem.Spec PyProof.Rows L2
def mkS (l : List Nat) : Str := ⟨l.toArray⟩
theorem mkS_len (l : List Nat) : (mkS l).length = l.length := by simp [mkS, Str.length]
theorem mkS_app (a b : List Nat) : mkS a ++ mkS b = mkS (a ++ b) := by
  show Str.append _ _ = _
  simp [mkS, Str.append]
theorem mkS_inj {a b : List Nat} : mkS a = mkS b ↔ a = b := by simp [mkS]
theorem mkS_cps (a : List Nat) : (mkS a).cps.toList = a := by simp [mkS]
theorem mkS_of (z : Str) : mkS z.cps.toList = z := by simp [mkS]
theorem toS (l : List Nat) : (⟨l.toArray⟩ : Str) = mkS l := rfl
theorem cut_to {α : Type} (l : List α) : cutD l none (some 1) = l.take 1 := by
  have e : HT.sIx l.length l.length (some 1) = min 1 l.length := HT.sIx_nat l.length l.length 1
  unfold cutD
  rw [HT.sIx_none, e]
  cases l <;> simp
theorem cut_from {α : Type} (l : List α) : cutD l (some 1) none = l.drop 1 := by
  have e : HT.sIx l.length 0 (some 1) = min 1 l.length := HT.sIx_nat l.length 0 1
  unfold cutD
  rw [HT.sIx_none, e]
  cases l <;> simp
theorem fits_le {n : Nat} (h : n ≤ 16777216) : fits n = true := decide_eq_true h
theorem to_mk {l : List Nat} (h : fits l.length = true) : sliceD (.str (mkS l)) none (some 1) = some (.str (mkS (l.take 1))) := by
  simp only [sliceD, mkS_len, h, if_true, mkS_cps, cut_to, toS]
theorem from_mk {l : List Nat} (h : fits l.length = true) : sliceD (.str (mkS l)) (some 1) none = some (.str (mkS (l.drop 1))) := by
  simp only [sliceD, mkS_len, h, if_true, mkS_cps, cut_from, toS]
theorem signs_mk (l : List Nat) : signsD (mkS l) = l.map fun c => .str (mkS [c]) := by simp only [signsD, mkS_cps]; rfl
theorem eq_str (x y : Str) : eqD (.str x) (.str y) = some (decide (x = y)) := rfl
theorem eq_int (x y : Int) : eqD (.int x) (.int y) = some (decide (x = y)) := rfl
theorem eq_bl (x y : Bool) : eqD (.bl x) (.bl y) = some (decide (x = y)) := rfl
theorem add_mk {a b : List Nat} (h : fits (a.length + b.length) = true) : opD .Add (.str (mkS a)) (.str (mkS b)) = some (.str (mkS (a ++ b))) := by
  simp only [opD, mkS_len, h, if_true, mkS_app]

/-! ### the bag of drawn numbers -/
structure Bag where
  its : List Int
  p : Int
  q : Int
  s : Int
def Bag.d (b : Bag) : D := .lst [.lst (b.its.map .int), .int b.p, .int b.q, .int b.s]
def Bag.c (b : Bag) : Cell := ⟨b.d, false⟩
structure Bag.Ok (b : Bag) : Prop where
  p0 : 0 ≤ b.p
  q0 : 0 ≤ b.q
  s0 : 0 ≤ b.s
  s1 : b.s < 2147483549
theorem Bag.get {S : Sto} {n : Nat} {b : Bag} (h : S[n]? = some b.c) : n < S.length := (List.getElem?_eq_some_iff.mp h).1
theorem run_pos {P : Prov} {n np : Nat} {b : Ss} {ds : List D} {S : Sto} (h : ds.length = np) : runDef P n np b ds S = (match exSs P b (startR n ds) S with
    | .ok .nx _ S' => .ok .non S'
    | .ok (.ret d) _ S' => .ok d S'
    | .ex c fs _ S' => .ex c fs S'
    | _ => .bad) := by
  unfold runDef
  rw [if_pos h] <;> rfl
theorem run_pos1 {P : Prov} {n : Nat} {b : Ss} {x : D} {S : Sto} : runDef P n 1 b [x] S = (match exSs P b (startR n [x]) S with
    | .ok .nx _ S' => .ok .non S'
    | .ok (.ret d) _ S' => .ok d S'
    | .ex c fs _ S' => .ex c fs S'
    | _ => .bad) := run_pos rfl
theorem run_pos2 {P : Prov} {n : Nat} {b : Ss} {x y : D} {S : Sto} : runDef P n 2 b [x, y] S = (match exSs P b (startR n [x, y]) S with
    | .ok .nx _ S' => .ok .non S'
    | .ok (.ret d) _ S' => .ok d S'
    | .ex c fs _ S' => .ex c fs S'
    | _ => .bad) := run_pos rfl
theorem exSs_cons {P : Prov} {a : S} {r : Ss} {ρ ρ' : Rho} {S S' : Sto} (h : exS P a ρ S = .ok .nx ρ' S') : exSs P (.cons a r) ρ S = exSs P r ρ' S' := by
  rw [exSs, bind_def, h]
end TM
end
section
set_option Elab.async false
set_option linter.all false
set_option maxRecDepth 100000
set_option maxHeartbeats 1000000
/-! PLB: loops and comprehensions of the interpreter, by what holds between turns. -/
namespace TM
open PySem PySem.Spec PyProof.Rows L2
def nthS : Ss → Nat → S
  | .nil, _ => .pass
  | .cons a _, 0 => a
  | .cons _ r, n + 1 => nthS r n
theorem setSlot_v {i : Nat} {d : D} {ρ : Rho} {S : Sto} (hi : i < ρ.length) (h : isOp d = false) : setSlot i d ρ S = .ok () (ρ.set i (.v d)) S := by
  unfold setSlot
  rw [if_pos hi]
  cases d <;> first | rfl | cases h
theorem forL_nx {f : D → Mo Fl} {d : D} {ds : List D} {ρ ρ' : Rho} {S S' : Sto} (h : f d ρ S = .ok .nx ρ' S') : forL f (d :: ds) ρ S = forL f ds ρ' S' := by
  rw [forL, bind_def, h]
theorem exS_forr {P : Prov} {g : G} {it : I} {b : Ss} {ds : List D} {ρ ρ1 ρ2 : Rho} {S S1 S2 : Sto} (h1 : evI P it ρ S = .ok (.fix ds) ρ1 S1) (h2 : forL (fun d => (do
      gSet g d
      exSs P b : Mo Fl)) ds ρ1 S1 = .ok .nx ρ2 S2) : exS P (.forr g it b) ρ S = .ok .nx ρ2 S2 := by
  rw [exS, bind_def, h1]
  exact h2
theorem forL_ind {f : D → Mo Fl} {Q : Nat → Rho → Sto → Prop} : ∀ {ds : List D} {ρ : Rho} {S : Sto} (n : Nat), (∀ k d ρ S, ds[k]? = some d → Q (n + k) ρ S → ∃ ρ' S', f d ρ S = .ok .nx ρ' S' ∧ Q (n + k + 1) ρ' S') → Q n ρ S → ∃ ρ' S', forL f ds ρ S = .ok .nx ρ' S' ∧ Q (n + ds.length) ρ' S'
  | [], ρ, S, n, _, q => ⟨ρ, S, rfl, q⟩
  | d :: ds, ρ, S, n, step, q => by
    obtain ⟨ρ1, S1, e, q1⟩ := step 0 d ρ S rfl q
    obtain ⟨ρ2, S2, e2, q2⟩ := forL_ind (f := f) (Q := Q) (ds := ds) (ρ := ρ1) (S := S1) (n + 1) (fun k d ρ S h q => by
      have := step (k + 1) d ρ S h (by rw [show n + (k + 1) = n + 1 + k by omega]; exact q)
      rw [show n + 1 + k + 1 = n + (k + 1) + 1 by omega]; exact this) q1
    refine ⟨ρ2, S2, ?_, by rw [List.length_cons, show n + (ds.length + 1) = n + 1 + ds.length by omega]; exact q2⟩
    rw [forL, bind_def, e]
    exact e2
theorem lcFix_ind {f : D → Mo (List D)} {Q : Nat → List D → Rho → Sto → Prop} : ∀ {ds acc : List D} {ρ : Rho} {S : Sto} (n : Nat), (∀ k d acc ρ S, ds[k]? = some d → Q (n + k) acc ρ S → ∃ r ρ' S', f d ρ S = .ok r ρ' S' ∧ Q (n + k + 1) (acc ++ r) ρ' S') → Q n acc ρ S → ∃ r ρ' S', lcFix f ds acc ρ S = .ok r ρ' S' ∧ Q (n + ds.length) r ρ' S'
  | [], acc, ρ, S, n, _, q => ⟨acc, ρ, S, rfl, q⟩
  | d :: ds, acc, ρ, S, n, step, q => by
    obtain ⟨r, ρ1, S1, e, q1⟩ := step 0 d acc ρ S rfl q
    obtain ⟨r2, ρ2, S2, e2, q2⟩ := lcFix_ind (f := f) (Q := Q) (ds := ds) (acc := acc ++ r) (ρ := ρ1) (S := S1) (n + 1) (fun k d acc ρ S h q => by
      have := step (k + 1) d acc ρ S h (by rw [show n + (k + 1) = n + 1 + k by omega]; exact q)
      rw [show n + 1 + k + 1 = n + (k + 1) + 1 by omega]; exact this) q1
    refine ⟨r2, ρ2, S2, ?_, by rw [List.length_cons, show n + (ds.length + 1) = n + 1 + ds.length by omega]; exact q2⟩
    rw [lcFix, bind_def, e]
    exact e2
theorem lcTurn_ok {P : Prov} {g : D → Mo Unit} {m : Mo D} {d v : D} {ρ ρ1 ρ2 : Rho} {S S1 S2 : Sto} (h1 : g d ρ S = .ok () ρ1 S1) (h2 : (m >>= persist) ρ1 S1 = .ok v ρ2 S2) : lcTurn g (evTs P .nil) m d ρ S = .ok [v] ρ2 S2 := by
  unfold lcTurn
  simp only [evTs]
  rw [bind_def, h1]
  show ((m >>= persist) >>= fun y => pure [y]) ρ1 S1 = _
  rw [bind_def, h2]
  rfl
/-- [e for x in ..], the name not yet bound -/
theorem lc_one {P : Prov} {i : Nat} {it : I} {e : E} {ds : List D} {ρ : Rho} {S S0 : Sto} {Q : Nat → List D → Sto → Prop} (hi : ρ[i]? = some .no) (hs : evI P it ρ S = .ok (.fix ds) ρ S0) (hp : ∀ d ∈ ds, isOp d = false) (q0 : Q 0 [] S0)
    (step : ∀ k d vs S, ds[k]? = some d → Q k vs S → vs.length = k → ∃ v S', (ev P e >>= persist) (ρ.set i (.v d)) S = .ok v (ρ.set i (.v d)) S' ∧ Q (k + 1) (vs ++ [v]) S') (hn : ds.length ≤ 16777216) :
    ∃ vs S', vs.length = ds.length ∧ ev P (.lc [i] (.nm i) it .nil e) ρ S = .ok (.nw (.lst vs)) ρ S' ∧ Q ds.length vs S' := by
  have hl : i < ρ.length := (List.getElem?_eq_some_iff.mp hi).1
  have hw : ρ.set i .no = ρ := by
    apply List.ext_getElem?
    intro k
    by_cases h : i = k
    · subst h; rw [List.getElem?_set_self hl, hi]
    · rw [List.getElem?_set_ne h]
  obtain ⟨vs, ρ2, S2, e2, q2, er, hk⟩ := lcFix_ind (f := fun d => turnB [i] (lcTurn (gSet (.nm i)) (evTs P .nil) (ev P e) d)) (ds := ds) (acc := []) (ρ := ρ) (S := S0)
    (Q := fun k vs ρ' S => Q k vs S ∧ ρ' = ρ ∧ vs.length = k) 0 (fun k d acc ρ' S h ⟨q, er, el⟩ => by
      subst er
      rw [Nat.zero_add] at q el ⊢
      obtain ⟨v, S', e1, q1⟩ := step k d acc S h q el
      refine ⟨[v], ρ', S', ?_, q1, rfl, by simp [el]⟩
      have e2 := lcTurn_ok (P := P) (g := gSet (.nm i)) (d := d) (show gSet (.nm i) d ρ' S = .ok () (ρ'.set i (.v d)) S by rw [gSet]; exact setSlot_v hl (hp d (List.mem_of_getElem? h))) e1
      unfold turnB
      rw [e2]
      show Rs.ok [v] (wipeR (ρ'.set i (.v d)) [i]) S' = _
      rw [show wipeR (ρ'.set i (.v d)) [i] = ρ' by
        show (ρ'.set i (.v d)).set i .no = ρ'
        rw [List.set_set, hw]]) ⟨q0, rfl, rfl⟩
  rw [Nat.zero_add] at q2 hk
  rw [er] at e2
  refine ⟨vs, S2, hk, ?_, q2⟩
  rw [ev, mLc, bind_def, hs]
  show (inBlk [i] (lcRun (fun d => turnB [i] (lcTurn (gSet (.nm i)) (evTs P .nil) (ev P e) d)) (.fix ds)) >>= fun r => (pure (D.nw (.lst r)) : Mo D)) ρ S0 = _
  rw [bind_def]
  unfold inBlk
  rw [show wipeR ρ [i] = ρ from hw]
  simp only [lcRun]
  rw [e2]
  simp only [fits_le (show vs.length ≤ 16777216 by omega), if_true]
  show Rs.ok (D.nw (.lst vs)) (ρ.set i (keepSl (ρ.getD i .no))) S2 = _
  rw [List.getD_eq_getElem?_getD, hi]
  show Rs.ok (D.nw (.lst vs)) (ρ.set i .no) S2 = _
  rw [hw]
/-- [e for targets in ..], the names not yet bound -/
theorem mlc_gen {P : Prov} {own : List Nat} {tg : G} {it : I} {e : E} {ds : List D} {ρ ρ0 : Rho} {S S0 : Sto} {Q : Nat → List D → Sto → Prop} (hw : wipeR ρ0 own = ρ0) (hb : backR ρ0 ρ0 own = ρ0) (hs : evI P it ρ S = .ok (.fix ds) ρ0 S0) (q0 : Q 0 [] S0)
    (step : ∀ k d vs S, ds[k]? = some d → Q k vs S → vs.length = k → ∃ v ρ1 ρ2 S1 S', gSet tg d ρ0 S = .ok () ρ1 S1 ∧ (ev P e >>= persist) ρ1 S1 = .ok v ρ2 S' ∧ wipeR ρ2 own = ρ0 ∧ Q (k + 1) (vs ++ [v]) S') (hn : ds.length ≤ 16777216) :
    ∃ vs S', vs.length = ds.length ∧ mLc own tg (evI P it) (evTs P .nil) (ev P e) ρ S = .ok (.nw (.lst vs)) ρ0 S' ∧ Q ds.length vs S' := by
  obtain ⟨vs, ρ2, S2, e2, q2, er, hk⟩ := lcFix_ind (f := fun d => turnB own (lcTurn (gSet tg) (evTs P .nil) (ev P e) d)) (ds := ds) (acc := []) (ρ := ρ0) (S := S0)
    (Q := fun k vs ρ' S => Q k vs S ∧ ρ' = ρ0 ∧ vs.length = k) 0 (fun k d acc ρ' S h ⟨q, er, el⟩ => by
      subst er
      rw [Nat.zero_add] at q el ⊢
      obtain ⟨v, ρ1, ρ2, S1, S', g1, e1, w1, q1⟩ := step k d acc S h q el
      refine ⟨[v], ρ', S', ?_, q1, rfl, by simp [el]⟩
      have e2 := lcTurn_ok (P := P) (g := gSet tg) (d := d) g1 e1
      unfold turnB
      rw [e2]
      show Rs.ok [v] (wipeR ρ2 own) S' = _
      rw [w1]) ⟨q0, rfl, rfl⟩
  rw [Nat.zero_add] at q2 hk
  rw [er] at e2
  refine ⟨vs, S2, hk, ?_, q2⟩
  rw [mLc, bind_def, hs]
  show (inBlk own (lcRun (fun d => turnB own (lcTurn (gSet tg) (evTs P .nil) (ev P e) d)) (.fix ds)) >>= fun r => (pure (D.nw (.lst r)) : Mo D)) ρ0 S0 = _
  rw [bind_def]
  unfold inBlk
  rw [hw]
  simp only [lcRun]
  rw [e2]
  simp only [fits_le (show vs.length ≤ 16777216 by omega), if_true]
  rw [hb]
  rfl
theorem lc_gen {P : Prov} {own : List Nat} {tg : G} {it : I} {e : E} {ds : List D} {ρ ρ0 : Rho} {S S0 : Sto} {Q : Nat → List D → Sto → Prop} (hw : wipeR ρ0 own = ρ0) (hb : backR ρ0 ρ0 own = ρ0) (hs : evI P it ρ S = .ok (.fix ds) ρ0 S0) (q0 : Q 0 [] S0)
    (step : ∀ k d vs S, ds[k]? = some d → Q k vs S → vs.length = k → ∃ v ρ1 ρ2 S1 S', gSet tg d ρ0 S = .ok () ρ1 S1 ∧ (ev P e >>= persist) ρ1 S1 = .ok v ρ2 S' ∧ wipeR ρ2 own = ρ0 ∧ Q (k + 1) (vs ++ [v]) S') (hn : ds.length ≤ 16777216) :
    ∃ vs S', vs.length = ds.length ∧ ev P (.lc own tg it .nil e) ρ S = .ok (.nw (.lst vs)) ρ0 S' ∧ Q ds.length vs S' := by
  obtain ⟨vs, S', h1, h2, h3⟩ := mlc_gen hw hb hs q0 step hn
  exact ⟨vs, S', h1, by rw [ev]; exact h2, h3⟩
end TM
end
section
set_option Elab.async false
set_option linter.all false
set_option maxRecDepth 100000
set_option maxHeartbeats 1000000
/-! PL1: the bag's defs. -/
namespace TM
open PySem PySem.Spec PyProof.Rows L2
theorem fdiv_pos (a b : Int) (h : 0 < b) : a.fdiv b = a / b := Int.fdiv_eq_ediv_of_nonneg a (by omega)
theorem fmod_pos (a b : Int) (h : 0 < b) : a.fmod b = a % b := Int.fmod_eq_emod_of_nonneg a (by omega)
theorem at_its {l : List Int} {p : Int} (h0 : 0 ≤ p) (h1 : p < l.length) : atI (l.map D.int) p = some (.int (l[p.toNat]'(by omega))) := by
  unfold atI ixN
  simp [h0, h1]
theorem at4_0 (a b c d : D) : atI [a, b, c, d] 0 = some a := rfl
theorem at4_1 (a b c d : D) : atI [a, b, c, d] 1 = some b := rfl
theorem at4_2 (a b c d : D) : atI [a, b, c, d] 2 = some c := rfl
theorem at4_3 (a b c d : D) : atI [a, b, c, d] 3 = some d := rfl
theorem ix4_1 : ixN 4 1 = some 1 := rfl
theorem ix4_2 : ixN 4 2 = some 2 := rfl
theorem ix4_3 : ixN 4 3 = some 3 := rfl
theorem add_int (i j : Int) : opD .Add (.int i) (.int j) = some (.int (i + j)) := rfl
theorem pow18 : opD .Pow (.int 10) (.int 18) = some (.int (10 ^ 18)) := rfl
theorem mulOk_of {i j : Int} (h : -(2 ^ 64) < j ∧ j < 2 ^ 64) : mulOk i j = true := by
  unfold mulOk
  simp
  omega
theorem mul_r {i j : Int} (h : -(2 ^ 64) < j) (h' : j < 2 ^ 64) : opD .Mult (.int i) (.int j) = some (.int (i * j)) := by
  simp only [opD, mulOk_of ⟨h, h'⟩, if_true]
theorem mod_p {i j : Int} (h : 0 < j) : opD .Mod (.int i) (.int j) = some (.int (i % j)) := by
  simp only [opD]
  rw [if_neg (by omega), fmod_pos _ _ h]
theorem div_p {i j : Int} (h : 0 < j) (h' : j < 1073741824) : opD .FloorDiv (.int i) (.int j) = some (.int (i / j)) := by
  simp only [opD]
  rw [if_pos (by omega), fdiv_pos _ _ h]
theorem pull_first {P : Prov} {b : Bag} {m : Int} {n : Nat} {S : Sto} (hb : b.Ok) (hS : S[n]? = some b.c) :
    ∃ (b1 : Bag) (j : Sl), b1.Ok ∧ exS P (nthS b__law_pull 0) [.v (.ref n), .v (.int m), .no, .no, .no] S = .ok .nx [.v (.ref n), .v (.int m), .no, j, .no] (S.set n b1.c) := by
  obtain ⟨p0, q0, s0, s1⟩ := hb
  have hn := Bag.get hS
  have hg : S[n]'hn = b.c := (List.getElem?_eq_some_iff.mp hS).2
  have hl : (S.set n b.c) = S := by
    apply List.ext_getElem?
    intro k
    by_cases e : n = k
    · subst e; rw [List.getElem?_set_self hn, hS]
    · rw [List.getElem?_set_ne e]
  by_cases h1 : b.q < m
  · by_cases h2 : b.p < b.its.length
    · have e := at_its p0 h2
      generalize b.its[b.p.toNat]'(by omega) = c at e
      by_cases h3 : (1000000000000000000 : Int) ≤ c
      · refine ⟨⟨b.its, b.p + 1, c, b.s⟩, .v (.int c), ⟨by show 0 ≤ b.p + 1; omega, by show 0 ≤ c; omega, s0, s1⟩, ?_⟩
        simp [exSs, exS, ev, evT, evs, evTs, evI, evB, evTB, evPs, m1, m2, m3, msl, mch, ofO, d1, d2, d3, look, deref, derefS, settle, persist, keep, frz, setSlot, modC, bind_def, pure_def, TM.fail, asB, tst, truD, asI, asS, callM, cmpD, cmpD0, scalD, eqD, negD, lenD, intD, idxD, gSet, gSets, gsN, itemsM, mSeq, srcD, srcV, mR1, mR2, forRun, mPar, putIx, nthS, b__law_pull, hg, Bag.c, Bag.d, at4_0, at4_1, at4_2, at4_3, ix4_1, ix4_2, ix4_3, e, h1, h2, h3, add_int, pow18, hn]
      · refine ⟨⟨b.its, b.p + 1, 0, (b.s * 52571 + c % 2147483549 * 41 + 29) % 2147483549⟩, .v (.int c), ⟨by show 0 ≤ b.p + 1; omega, by show (0 : Int) ≤ 0; omega, by show 0 ≤ (b.s * 52571 + c % 2147483549 * 41 + 29) % 2147483549; omega, by show (b.s * 52571 + c % 2147483549 * 41 + 29) % 2147483549 < _; omega⟩, ?_⟩
        simp [exSs, exS, ev, evT, evs, evTs, evI, evB, evTB, evPs, m1, m2, m3, msl, mch, ofO, d1, d2, d3, look, deref, derefS, settle, persist, keep, frz, setSlot, modC, bind_def, pure_def, TM.fail, asB, tst, truD, asI, asS, callM, cmpD, cmpD0, scalD, eqD, negD, lenD, intD, idxD, gSet, gSets, gsN, itemsM, mSeq, srcD, srcV, mR1, mR2, forRun, mPar, putIx, nthS, b__law_pull, hg, Bag.c, Bag.d, at4_0, at4_1, at4_2, at4_3, ix4_1, ix4_2, ix4_3, e, h1, h2, h3, add_int, pow18, hn, mul_r, mod_p]
    · refine ⟨b, .no, ⟨p0, q0, s0, s1⟩, ?_⟩
      simp [exSs, exS, ev, evT, evs, evTs, evI, evB, evTB, evPs, m1, m2, m3, msl, mch, ofO, d1, d2, d3, look, deref, derefS, settle, persist, keep, frz, setSlot, modC, bind_def, pure_def, TM.fail, asB, tst, truD, asI, asS, callM, cmpD, cmpD0, scalD, eqD, negD, lenD, intD, idxD, gSet, gSets, gsN, itemsM, mSeq, srcD, srcV, mR1, mR2, forRun, mPar, putIx, nthS, b__law_pull, hg, Bag.c, Bag.d, at4_0, at4_1, at4_2, at4_3, h1, h2, hn]
      exact hl.symm
  · refine ⟨b, .no, ⟨p0, q0, s0, s1⟩, ?_⟩
    simp [exSs, exS, ev, evT, evs, evTs, evI, evB, evTB, evPs, m1, m2, m3, msl, mch, ofO, d1, d2, d3, look, deref, derefS, settle, persist, keep, frz, setSlot, modC, bind_def, pure_def, TM.fail, asB, tst, truD, asI, asS, callM, cmpD, cmpD0, scalD, eqD, negD, lenD, intD, idxD, gSet, gSets, gsN, itemsM, mSeq, srcD, srcV, mR1, mR2, forRun, mPar, putIx, nthS, b__law_pull, hg, Bag.c, Bag.d, at4_0, at4_1, at4_2, at4_3, h1, hn]
    exact hl.symm
/-- what a draw promises -/
def PullOk (f : List D → Sto → Rc) : Prop := ∀ (b : Bag) (m : Int) (n : Nat) (S : Sto), b.Ok → 0 < m → m < 1073741824 → S[n]? = some b.c → ∃ (r : Int) (b' : Bag), 0 ≤ r ∧ r < m ∧ b'.Ok ∧ f [.ref n, .int m] S = .ok (.int r) (S.set n b'.c)
theorem pull_run {P : Prov} : PullOk (runDef P n__law_pull.length p__law_pull.length b__law_pull) := fun b m n S hb h0 h1 hS => by
  obtain ⟨b1, j, hb1, e1⟩ := pull_first (P := P) (m := m) hb hS
  have hn := Bag.get hS
  obtain ⟨p0, q0, s0, s1⟩ := hb1
  have e : b__law_pull = .cons (nthS b__law_pull 0) (.cons (nthS b__law_pull 1) (.cons (nthS b__law_pull 2) (.cons (nthS b__law_pull 3) (.cons (nthS b__law_pull 4) .nil)))) := rfl
  have e2 : startR n__law_pull.length [D.ref n, D.int m] = [.v (.ref n), .v (.int m), .no, .no, .no] := rfl
  by_cases h : m ≤ b1.q
  · have h3 := Int.emod_nonneg b1.q (show m ≠ 0 by omega)
    have h4 := Int.emod_lt_of_pos b1.q h0
    have h5 := Int.ediv_nonneg q0 (show 0 ≤ m by omega)
    refine ⟨b1.q % m, ⟨b1.its, b1.p, b1.q / m, b1.s⟩, h3, h4, ⟨p0, h5, s0, s1⟩, ?_⟩
    refine (run_pos rfl).trans ?_
    rw [e, e2, exSs_cons e1]
    simp [exSs, exS, ev, evT, evs, evTs, evI, evB, evTB, evPs, m1, m2, m3, msl, mch, ofO, d1, d2, d3, look, deref, derefS, settle, persist, keep, frz, setSlot, modC, bind_def, pure_def, TM.fail, asB, tst, truD, asI, asS, callM, cmpD, cmpD0, scalD, eqD, negD, lenD, intD, idxD, gSet, gSets, gsN, itemsM, mSeq, srcD, srcV, mR1, mR2, forRun, mPar, putIx, nthS, b__law_pull, Bag.c, Bag.d, at4_0, at4_1, at4_2, at4_3, ix4_1, ix4_2, ix4_3, h, add_int, hn, mod_p h0, div_p h0 h1]
  · have hs : opD .Mult (.int b1.s) (.int b1.s) = some (.int (b1.s * b1.s)) := mul_r (by omega) (by omega)
    generalize hx : (b1.s * b1.s % 2147483549 * 40699 + b1.s * 30323 + 12347) % 2147483549 = x
    have hx0 : 0 ≤ x ∧ x < 2147483549 := by omega
    have h3 := Int.emod_nonneg (x / 53 + x % 7919 * 31) (show m ≠ 0 by omega)
    have h4 := Int.emod_lt_of_pos (x / 53 + x % 7919 * 31) h0
    refine ⟨(x / 53 + x % 7919 * 31) % m, ⟨b1.its, b1.p, b1.q, x⟩, h3, h4, ⟨p0, q0, hx0.1, hx0.2⟩, ?_⟩
    refine (run_pos rfl).trans ?_
    rw [e, e2, exSs_cons e1]
    simp [exSs, exS, ev, evT, evs, evTs, evI, evB, evTB, evPs, m1, m2, m3, msl, mch, ofO, d1, d2, d3, look, deref, derefS, settle, persist, keep, frz, setSlot, modC, bind_def, pure_def, TM.fail, asB, tst, truD, asI, asS, callM, cmpD, cmpD0, scalD, eqD, negD, lenD, intD, idxD, gSet, gSets, gsN, itemsM, mSeq, srcD, srcV, mR1, mR2, forRun, mPar, putIx, nthS, b__law_pull, Bag.c, Bag.d, at4_0, at4_1, at4_2, at4_3, ix4_1, ix4_2, ix4_3, h, add_int, hn, hs, hx, mod_p h0, mod_p, div_p, mul_r]
end TM
end
section
set_option Elab.async false
set_option linter.all false
set_option maxRecDepth 100000
set_option maxHeartbeats 1000000
/-! PL2: signed strings by the interpreter. -/
namespace TM
open PySem PySem.Spec PyProof.Rows L2
def Lt4 (l : List Nat) : Prop := ∀ c ∈ l, c = 49 ∨ c = 88 ∨ c = 90 ∨ c = 87
def sg (i : Int) (l : List Nat) : List Nat := if i % 2 = 1 then 45 :: l else l
def bx (c : Nat) : Int := if c = 88 ∨ c = 87 then 1 else 0
def bz (c : Nat) : Int := if c = 90 ∨ c = 87 then 1 else 0
def lt (x z : Int) : Nat := if x % 2 = 1 then (if z % 2 = 1 then 87 else 88) else (if z % 2 = 1 then 90 else 49)
def mulC (a b : Nat) : Nat := lt (bx a + bx b) (bz a + bz b)
def mulS (a b : Nat) : Int := bz a * bx b
def prodL : List Nat → List Nat → List Nat
  | a :: l, b :: r => mulC a b :: prodL l r
  | _, _ => []
def prodS : List Nat → List Nat → Int
  | a :: l, b :: r => mulS a b + prodS l r
  | _, _ => 0
theorem lt_ok (x z : Int) : lt x z = 49 ∨ lt x z = 88 ∨ lt x z = 90 ∨ lt x z = 87 := by
  unfold lt
  split <;> split <;> simp
theorem prodL_ok : ∀ l r, Lt4 (prodL l r)
  | [], _ => fun _ h => nomatch h
  | _ :: _, [] => fun _ h => nomatch h
  | a :: l, b :: r => fun c h => by
    rcases List.mem_cons.mp h with rfl | h
    · exact lt_ok _ _
    · exact prodL_ok l r c h
theorem prodL_len : ∀ l r : List Nat, l.length = r.length → (prodL l r).length = l.length
  | [], [], _ => rfl
  | a :: l, b :: r, h => by simp only [prodL, List.length_cons, prodL_len l r (by simpa using h)]
theorem sg_len (i : Int) (l : List Nat) : (sg i l).length ≤ l.length + 1 := by
  unfold sg
  split <;> simp
theorem sg_mod (i : Int) (l : List Nat) : sg (i % 2) l = sg i l := by
  unfold sg
  simp
theorem take_sg {i : Int} {l : List Nat} (h : Lt4 l) : (sg i l).take 1 = [45] ↔ i % 2 = 1 := by
  unfold sg
  split
  · simp [*]
  · cases l with
    | nil => simp [*]
    | cons a l =>
      have := h a (by simp)
      simp [*]
      rintro rfl
      omega
theorem s_m : (("-" : String) : Str) = mkS [45] := by decide +kernel
theorem s_e : (("" : String) : Str) = mkS [] := by decide +kernel
theorem s_1 : (("1" : String) : Str) = mkS [49] := by decide +kernel
theorem s_X : (("X" : String) : Str) = mkS [88] := by decide +kernel
theorem s_Z : (("Z" : String) : Str) = mkS [90] := by decide +kernel
theorem s_W : (("W" : String) : Str) = mkS [87] := by decide +kernel
theorem s_L : (("1XZW" : String) : Str) = mkS [49, 88, 90, 87] := by decide +kernel
/-- the text before a cut -/
theorem r_split {P : Prov} {i : Int} {l : List Nat} {S : Sto} (h : Lt4 l) (hl : l.length ≤ 1000) : runDef P n_split_sign.length p_split_sign.length b_split_sign [.str (mkS (sg i l))] S = .ok (.tup [.int (i % 2), .str (mkS l)]) S := by
  have hf : fits (sg i l).length = true := fits_le (by have := sg_len i l; omega)
  have ht := take_sg (i := i) h
  refine (run_pos rfl).trans ?_
  by_cases e : i % 2 = 1
  · have := ht.mpr e
    simp [exSs, exS, ev, evT, evs, evTs, evI, evB, evTB, evPs, m1, m2, m3, msl, mch, ofO, d1, d2, d3, look, deref, derefS, settle, persist, keep, frz, setSlot, modC, bind_def, pure_def, TM.fail, asB, tst, truD, asI, asS, callM, cmpD, cmpD0, scalD, eqD, negD, lenD, intD, idxD, gSet, gSets, gsN, itemsM, mSeq, srcD, srcV, mR1, mR2, forRun, mPar, putIx, b_split_sign, startR, n_split_sign, toD, fromD, to_mk hf, from_mk hf, s_m, mkS_inj, this, fits, e]
    simp [sg, e]
  · have e0 : i % 2 = 0 := by omega
    have : ¬ (sg i l).take 1 = [45] := fun z => e (ht.mp z)
    simp [exSs, exS, ev, evT, evs, evTs, evI, evB, evTB, evPs, m1, m2, m3, msl, mch, ofO, d1, d2, d3, look, deref, derefS, settle, persist, keep, frz, setSlot, modC, bind_def, pure_def, TM.fail, asB, tst, truD, asI, asS, callM, cmpD, cmpD0, scalD, eqD, negD, lenD, intD, idxD, gSet, gSets, gsN, itemsM, mSeq, srcD, srcV, mR1, mR2, forRun, mPar, putIx, b_split_sign, startR, n_split_sign, toD, fromD, to_mk hf, from_mk hf, s_m, mkS_inj, this, fits, e0]
    simp [sg, e]
theorem r_body {P : Prov} {i : Int} {l : List Nat} {S : Sto} (h : Lt4 l) (hl : l.length ≤ 1000) : runDef P n__law_body.length p__law_body.length b__law_body [.str (mkS (sg i l))] S = .ok (.str (mkS l)) S := by
  have hf : fits (sg i l).length = true := fits_le (by have := sg_len i l; omega)
  have ht := take_sg (i := i) h
  refine (run_pos rfl).trans ?_
  by_cases e : i % 2 = 1
  · have := ht.mpr e
    simp [exSs, exS, ev, evT, evs, evTs, evI, evB, evTB, evPs, m1, m2, m3, msl, mch, ofO, d1, d2, d3, look, deref, derefS, settle, persist, keep, frz, setSlot, modC, bind_def, pure_def, TM.fail, asB, tst, truD, asI, asS, callM, cmpD, cmpD0, scalD, eqD, negD, lenD, intD, idxD, gSet, gSets, gsN, itemsM, mSeq, srcD, srcV, mR1, mR2, forRun, mPar, putIx, b__law_body, startR, n__law_body, toD, fromD, to_mk hf, from_mk hf, s_m, mkS_inj, this, fits, e]
    simp [sg, e]
  · have : ¬ (sg i l).take 1 = [45] := fun z => e (ht.mp z)
    simp [exSs, exS, ev, evT, evs, evTs, evI, evB, evTB, evPs, m1, m2, m3, msl, mch, ofO, d1, d2, d3, look, deref, derefS, settle, persist, keep, frz, setSlot, modC, bind_def, pure_def, TM.fail, asB, tst, truD, asI, asS, callM, cmpD, cmpD0, scalD, eqD, negD, lenD, intD, idxD, gSet, gSets, gsN, itemsM, mSeq, srcD, srcV, mR1, mR2, forRun, mPar, putIx, b__law_body, startR, n__law_body, toD, fromD, to_mk hf, from_mk hf, s_m, mkS_inj, this, fits]
    simp [sg, e]
theorem mod2 (i : Int) : opD .Mod (.int i) (.int 2) = some (.int (i % 2)) := by
  simp only [opD]
  rw [if_neg (by decide), Int.fmod_eq_emod_of_nonneg _ (by decide)]
theorem r_joined {P : Prov} {i : Int} {l : List Nat} {S : Sto} (hl : l.length ≤ 1000) : runDef P n_joined.length p_joined.length b_joined [.int i, .str (mkS l)] S = .ok (.str (mkS (sg i l))) S := by
  have hf : fits ([45].length + l.length) = true := fits_le (by simp; omega)
  refine (run_pos rfl).trans ?_
  by_cases e : i % 2 = 1
  · simp [exSs, exS, ev, evT, evs, evTs, evI, evB, evTB, evPs, m1, m2, m3, msl, mch, ofO, d1, d2, d3, look, deref, derefS, settle, persist, keep, frz, setSlot, modC, bind_def, pure_def, TM.fail, asB, tst, truD, asI, asS, callM, cmpD, cmpD0, scalD, eqD, negD, lenD, intD, idxD, gSet, gSets, gsN, itemsM, mSeq, srcD, srcV, mR1, mR2, forRun, mPar, putIx, b_joined, startR, n_joined, mod2, s_m, add_mk hf, e, sg]
  · simp [exSs, exS, ev, evT, evs, evTs, evI, evB, evTB, evPs, m1, m2, m3, msl, mch, ofO, d1, d2, d3, look, deref, derefS, settle, persist, keep, frz, setSlot, modC, bind_def, pure_def, TM.fail, asB, tst, truD, asI, asS, callM, cmpD, cmpD0, scalD, eqD, negD, lenD, intD, idxD, gSet, gSets, gsN, itemsM, mSeq, srcD, srcV, mR1, mR2, forRun, mPar, putIx, b_joined, startR, n_joined, mod2, s_m, e, sg]
theorem r_signed {P : Prov} {i : Int} {l : List Nat} {S : Sto} (hl : l.length ≤ 1000) : runDef P n__law_signed.length p__law_signed.length b__law_signed [.int i, .str (mkS l)] S = .ok (.str (mkS (sg i l))) S := by
  have hf : fits ([45].length + l.length) = true := fits_le (by simp; omega)
  have hg : fits (([] : List Nat).length + l.length) = true := fits_le (by simp; omega)
  refine (run_pos rfl).trans ?_
  by_cases e : i % 2 = 1
  · simp [exSs, exS, ev, evT, evs, evTs, evI, evB, evTB, evPs, m1, m2, m3, msl, mch, ofO, d1, d2, d3, look, deref, derefS, settle, persist, keep, frz, setSlot, modC, bind_def, pure_def, TM.fail, asB, tst, truD, asI, asS, callM, cmpD, cmpD0, scalD, eqD, negD, lenD, intD, idxD, gSet, gSets, gsN, itemsM, mSeq, srcD, srcV, mR1, mR2, forRun, mPar, putIx, b__law_signed, startR, n__law_signed, mod2, s_m, s_e, add_mk hf, e, sg]
  · simp [exSs, exS, ev, evT, evs, evTs, evI, evB, evTB, evPs, m1, m2, m3, msl, mch, ofO, d1, d2, d3, look, deref, derefS, settle, persist, keep, frz, setSlot, modC, bind_def, pure_def, TM.fail, asB, tst, truD, asI, asS, callM, cmpD, cmpD0, scalD, eqD, negD, lenD, intD, idxD, gSet, gSets, gsN, itemsM, mSeq, srcD, srcV, mR1, mR2, forRun, mPar, putIx, b__law_signed, startR, n__law_signed, mod2, s_m, s_e, add_mk hg, e, sg]
end TM
end
section
set_option Elab.async false
set_option linter.all false
set_option maxRecDepth 100000
set_option maxHeartbeats 1000000
/-! PL3: products by the interpreter. -/
namespace TM
open PySem PySem.Spec PyProof.Rows L2
abbrev L4 (c : Nat) : Prop := c = 49 ∨ c = 88 ∨ c = 90 ∨ c = 87
def bitD (c : Nat) : D := .wd (.nums [bx c, bz c])
theorem bits_at {c : Nat} (h : L4 c) : idxD (.wd (.kd bitsL)) (.str (mkS [c])) = some (bitD c) := by
  rcases h with rfl | rfl | rfl | rfl <;> rfl
theorem from_at {x z : Int} : idxD (.wd (.kt fromL)) (.tup [.int (x % 2), .int (z % 2)]) = some (.str (mkS [lt x z])) := by
  have h1 : x % 2 = 0 ∨ x % 2 = 1 := by omega
  have h2 : z % 2 = 0 ∨ z % 2 = 1 := by omega
  unfold lt
  rcases h1 with e1 | e1 <;> rcases h2 with e2 | e2 <;> rw [e1, e2] <;> rfl
theorem bz_mul (x y : Nat) : opD .Mult (.int (bz x)) (.int (bx y)) = some (.int (mulS x y)) := by
  unfold mulS bz bx
  split <;> split <;> rfl
def tB : Ss := match nthS b_times 3 with
  | .forr _ _ b => b
  | _ => .nil
theorem times_step {P : Prov} (hB : P.glob "BITS" = some (.wd (.kd bitsL))) (hF : P.glob "FROM_BITS" = some (.wd (.kt fromL))) {a b : D} {c d e j7 j8 j9 j10 j11 j12 : Sl} {s : Int} {acc : List Nat} {x y : Nat} {S : Sto} (hx : L4 x) (hy : L4 y) (hl : acc.length + 1 ≤ 1000) :
    (do
      gSet (.tup (.cons (.nm 7) (.cons (.nm 8) .nil))) (.tup [.str (mkS [x]), .str (mkS [y])])
      exSs P tB : Mo Fl) [.v a, .v b, .v (.int s), c, d, e, .v (.str (mkS acc)), j7, j8, j9, j10, j11, j12] S =
    .ok .nx [.v a, .v b, .v (.int (s + mulS x y)), c, d, e, .v (.str (mkS (acc ++ [mulC x y]))), .v (.str (mkS [x])), .v (.str (mkS [y])), .v (.int (bx x)), .v (.int (bz x)), .v (.int (bx y)), .v (.int (bz y))] S := by
  have hf : fits (acc.length + [mulC x y].length) = true := fits_le (by simp; omega)
  have h1 := bits_at hx
  have h2 := bits_at hy
  have h3 := from_at (x := bx x + bx y) (z := bz x + bz y)
  rw [show lt (bx x + bx y) (bz x + bz y) = mulC x y from rfl] at h3
  have h4 := bz_mul x y
  have h5 := add_mk hf
  simp only [d2, idxD] at h1 h2 h3
  simp [exSs, exS, ev, evT, evs, evTs, evI, evB, evTB, evPs, m1, m2, m3, msl, mch, ofO, d1, d2, d3, look, deref, derefS, settle, persist, keep, frz, setSlot, modC, bind_def, pure_def, TM.fail, asB, tst, truD, asI, asS, callM, cmpD, cmpD0, scalD, eqD, negD, lenD, intD, idxD, gSet, gSets, gsN, itemsM, mSeq, srcD, srcV, mR1, mR2, forRun, mPar, putIx, tB, nthS, b_times, hB, hF, h1, h2, h3, h4, h5, mod2, bitD, add_int, fits]
theorem times_loop {P : Prov} (hB : P.glob "BITS" = some (.wd (.kd bitsL))) (hF : P.glob "FROM_BITS" = some (.wd (.kt fromL))) {a b : D} {c d e : Sl} {S : Sto} : ∀ (xs ys acc : List Nat) (s : Int) (j7 j8 j9 j10 j11 j12 : Sl), Lt4 xs → Lt4 ys → xs.length = ys.length → acc.length + xs.length ≤ 1000 →
    ∃ k7 k8 k9 k10 k11 k12, forL (fun d => (do
      gSet (.tup (.cons (.nm 7) (.cons (.nm 8) .nil))) d
      exSs P tB : Mo Fl)) (zipD (xs.map fun c => .str (mkS [c])) (ys.map fun c => .str (mkS [c]))) [.v a, .v b, .v (.int s), c, d, e, .v (.str (mkS acc)), j7, j8, j9, j10, j11, j12] S =
    .ok .nx [.v a, .v b, .v (.int (s + prodS xs ys)), c, d, e, .v (.str (mkS (acc ++ prodL xs ys))), k7, k8, k9, k10, k11, k12] S
  | [], [], acc, s, j7, j8, j9, j10, j11, j12, _, _, _, _ => ⟨j7, j8, j9, j10, j11, j12, by simp [zipD, forL, pure_def, prodS, prodL]⟩
  | x :: xs, y :: ys, acc, s, j7, j8, j9, j10, j11, j12, hx, hy, hl, ha => by
    have e1 := times_step hB hF (a := a) (b := b) (c := c) (d := d) (e := e) (j7 := j7) (j8 := j8) (j9 := j9) (j10 := j10) (j11 := j11) (j12 := j12) (s := s) (acc := acc) (S := S) (hx x (by simp)) (hy y (by simp)) (by simp at ha; omega)
    obtain ⟨k7, k8, k9, k10, k11, k12, e2⟩ := times_loop hB hF (a := a) (b := b) (c := c) (d := d) (e := e) (S := S) xs ys (acc ++ [mulC x y]) (s + mulS x y) (.v (.str (mkS [x]))) (.v (.str (mkS [y]))) (.v (.int (bx x))) (.v (.int (bz x))) (.v (.int (bx y))) (.v (.int (bz y))) (fun c h => hx c (by simp [h])) (fun c h => hy c (by simp [h])) (by simpa using hl) (by simp at ha ⊢; omega)
    refine ⟨k7, k8, k9, k10, k11, k12, ?_⟩
    simp only [List.map_cons, zipD, List.zipWith_cons_cons]
    rw [forL_nx e1]
    simp only [zipD] at e2
    rw [e2]
    simp [prodS, prodL, Int.add_assoc]
theorem sg_congr {i j : Int} (l : List Nat) (h : i % 2 = j % 2) : sg i l = sg j l := by rw [← sg_mod i, ← sg_mod j, h]
def SplitOk (P : Prov) : Prop := ∀ (i : Int) (l : List Nat) (S : Sto), Lt4 l → l.length ≤ 1000 → P.fn "split_sign" [.str (mkS (sg i l))] S = .ok (.tup [.int (i % 2), .str (mkS l)]) S
def JoinOk (P : Prov) (x : Str) : Prop := ∀ (i : Int) (l : List Nat) (S : Sto), l.length ≤ 1000 → P.fn x [.int i, .str (mkS l)] S = .ok (.str (mkS (sg i l))) S
theorem r_times {P : Prov} (hd : ∀ x n, P.dflt x n = []) (hB : P.glob "BITS" = some (.wd (.kd bitsL))) (hF : P.glob "FROM_BITS" = some (.wd (.kt fromL))) (hs : SplitOk P) (hj : JoinOk P "joined") {i j : Int} {xs ys : List Nat} {S : Sto} (hx : Lt4 xs) (hy : Lt4 ys) (hl : xs.length = ys.length) (hn : xs.length ≤ 1000) :
    runDef P n_times.length p_times.length b_times [.str (mkS (sg i xs)), .str (mkS (sg j ys))] S = .ok (.str (mkS (sg (i + j + prodS xs ys) (prodL xs ys)))) S := by
  refine (run_pos rfl).trans ?_
  obtain ⟨k7, k8, k9, k10, k11, k12, e⟩ := times_loop hB hF (a := .str (mkS (sg i xs))) (b := .str (mkS (sg j ys))) (c := .v (.str (mkS xs))) (d := .v (.int (j % 2))) (e := .v (.str (mkS ys))) (S := S) xs ys [] (i % 2 + j % 2) .no .no .no .no .no .no hx hy hl (by simpa using hn)
  have e1 := hs i xs S hx hn
  have e2 := hs j ys S hy (by omega)
  have e3 := hj (i % 2 + j % 2 + prodS xs ys) (prodL xs ys) S (by rw [prodL_len xs ys hl]; exact hn)
  rw [show sg (i % 2 + j % 2 + prodS xs ys) (prodL xs ys) = sg (i + j + prodS xs ys) (prodL xs ys) from sg_congr _ (by omega)] at e3
  rw [show b_times = .cons (nthS b_times 0) (.cons (nthS b_times 1) (.cons (nthS b_times 2) (.cons (.forr (.tup (.cons (.nm 7) (.cons (.nm 8) .nil))) (.p2 .zip (.var 3) (.var 5)) tB) (.cons (nthS b_times 4) .nil)))) from rfl]
  have e4 : startR n_times.length [D.str (mkS (sg i xs)), D.str (mkS (sg j ys))] = [.v (.str (mkS (sg i xs))), .v (.str (mkS (sg j ys))), .no, .no, .no, .no, .no, .no, .no, .no, .no, .no, .no] := rfl
  rw [e4]
  have q1 : exS P (nthS b_times 0) [.v (.str (mkS (sg i xs))), .v (.str (mkS (sg j ys))), .no, .no, .no, .no, .no, .no, .no, .no, .no, .no, .no] S = .ok .nx [.v (.str (mkS (sg i xs))), .v (.str (mkS (sg j ys))), .v (.int (i % 2)), .v (.str (mkS xs)), .no, .no, .no, .no, .no, .no, .no, .no, .no] S := by
    simp [exSs, exS, ev, evT, evs, evTs, evI, evB, evTB, evPs, m1, m2, m3, msl, mch, ofO, d1, d2, d3, look, deref, derefS, settle, persist, keep, frz, setSlot, modC, bind_def, pure_def, TM.fail, asB, tst, truD, asI, asS, callM, cmpD, cmpD0, scalD, eqD, negD, lenD, intD, idxD, gSet, gSets, gsN, itemsM, mSeq, srcD, srcV, mR1, mR2, forRun, mPar, putIx, nthS, b_times, hd, e1]
  have q2 : exS P (nthS b_times 1) [.v (.str (mkS (sg i xs))), .v (.str (mkS (sg j ys))), .v (.int (i % 2)), .v (.str (mkS xs)), .no, .no, .no, .no, .no, .no, .no, .no, .no] S = .ok .nx [.v (.str (mkS (sg i xs))), .v (.str (mkS (sg j ys))), .v (.int (i % 2)), .v (.str (mkS xs)), .v (.int (j % 2)), .v (.str (mkS ys)), .no, .no, .no, .no, .no, .no, .no] S := by
    simp [exSs, exS, ev, evT, evs, evTs, evI, evB, evTB, evPs, m1, m2, m3, msl, mch, ofO, d1, d2, d3, look, deref, derefS, settle, persist, keep, frz, setSlot, modC, bind_def, pure_def, TM.fail, asB, tst, truD, asI, asS, callM, cmpD, cmpD0, scalD, eqD, negD, lenD, intD, idxD, gSet, gSets, gsN, itemsM, mSeq, srcD, srcV, mR1, mR2, forRun, mPar, putIx, nthS, b_times, hd, e2]
  have q3 : exS P (nthS b_times 2) [.v (.str (mkS (sg i xs))), .v (.str (mkS (sg j ys))), .v (.int (i % 2)), .v (.str (mkS xs)), .v (.int (j % 2)), .v (.str (mkS ys)), .no, .no, .no, .no, .no, .no, .no] S = .ok .nx [.v (.str (mkS (sg i xs))), .v (.str (mkS (sg j ys))), .v (.int (i % 2 + j % 2)), .v (.str (mkS xs)), .v (.int (j % 2)), .v (.str (mkS ys)), .v (.str (mkS [])), .no, .no, .no, .no, .no, .no] S := by
    simp [exSs, exS, ev, evT, evs, evTs, evI, evB, evTB, evPs, m1, m2, m3, msl, mch, ofO, d1, d2, d3, look, deref, derefS, settle, persist, keep, frz, setSlot, modC, bind_def, pure_def, TM.fail, asB, tst, truD, asI, asS, callM, cmpD, cmpD0, scalD, eqD, negD, lenD, intD, idxD, gSet, gSets, gsN, itemsM, mSeq, srcD, srcV, mR1, mR2, forRun, mPar, putIx, nthS, b_times, hd, add_int, s_e]
  rw [exSs_cons q1, exSs_cons q2, exSs_cons q3]
  rw [exSs_cons (exS_forr (ρ1 := [.v (.str (mkS (sg i xs))), .v (.str (mkS (sg j ys))), .v (.int (i % 2 + j % 2)), .v (.str (mkS xs)), .v (.int (j % 2)), .v (.str (mkS ys)), .v (.str (mkS [])), .no, .no, .no, .no, .no, .no]) (S1 := S) (by simp [exSs, exS, ev, evT, evs, evTs, evI, evB, evTB, evPs, m1, m2, m3, msl, mch, ofO, d1, d2, d3, look, deref, derefS, settle, persist, keep, frz, setSlot, modC, bind_def, pure_def, TM.fail, asB, tst, truD, asI, asS, callM, cmpD, cmpD0, scalD, eqD, negD, lenD, intD, idxD, gSet, gSets, gsN, itemsM, mSeq, srcD, srcV, mR1, mR2, forRun, mPar, putIx, mZip, zipS, signs_mk]) e)]
  simp [exSs, exS, ev, evT, evs, evTs, evI, evB, evTB, evPs, m1, m2, m3, msl, mch, ofO, d1, d2, d3, look, deref, derefS, settle, persist, keep, frz, setSlot, modC, bind_def, pure_def, TM.fail, asB, tst, truD, asI, asS, callM, cmpD, cmpD0, scalD, eqD, negD, lenD, intD, idxD, gSet, gSets, gsN, itemsM, mSeq, srcD, srcV, mR1, mR2, forRun, mPar, putIx, nthS, b_times, hd, e3]
end TM
end
section
set_option Elab.async false
set_option linter.all false
set_option maxRecDepth 100000
set_option maxHeartbeats 1000000
/-! PL4: strings made and refused, operators. -/
namespace TM
open PySem PySem.Spec PyProof.Rows L2
def isL (c : Nat) : Bool := decide (L4 c)
theorem in_L {c : Nat} : inD (.str (mkS [c])) (.str "1XZW") = some (isL c) := by
  rw [s_L]
  show some (decide (c ∈ (mkS [49, 88, 90, 87]).cps.toList)) = _
  rw [mkS_cps]
  simp [isL, L4]
theorem okc_iff {l : List Nat} : (l.map isL).all id = true ↔ Lt4 l := by simp [isL, Lt4, List.all_map]
/-- the letters asked one by one -/
theorem check_lc {P : Prov} (hg : P.glob "LETTERS" = some (.str "1XZW")) {t : D} {l : List Nat} {S : Sto} (hl : l.length ≤ 1000) :
    ev P (.lc [2] (.nm 2) (.p1 .seq (.var 1)) .nil (.p2 (.cmp .In) (.var 2) (.glo "LETTERS"))) [.v t, .v (.str (mkS l)), .no] S = .ok (.nw (.lst (l.map fun c => .bl (isL c)))) [.v t, .v (.str (mkS l)), .no] S := by
  obtain ⟨vs, S', hv, e, rfl, e2⟩ := lc_one (P := P) (i := 2) (it := .p1 .seq (.var 1)) (e := .p2 (.cmp .In) (.var 2) (.glo "LETTERS")) (ds := l.map fun c => .str (mkS [c])) (ρ := [.v t, .v (.str (mkS l)), .no]) (S := S) (S0 := S)
    (Q := fun k vs S' => S' = S ∧ vs = (l.take k).map fun c => .bl (isL c)) rfl (by simp [exSs, exS, ev, evT, evs, evTs, evI, evB, evTB, evPs, m1, m2, m3, msl, mch, ofO, d1, d2, d3, look, deref, derefS, settle, persist, keep, frz, setSlot, modC, bind_def, pure_def, TM.fail, asB, tst, truD, asI, asS, callM, cmpD, cmpD0, scalD, eqD, negD, lenD, intD, idxD, gSet, gSets, gsN, itemsM, mSeq, srcD, srcV, mR1, mR2, forRun, mPar, putIx, mkS_cps]; exact fun _ _ => rfl) (fun d h => by
      obtain ⟨c, _, rfl⟩ := List.mem_map.mp h
      rfl) ⟨rfl, rfl⟩ (fun k d vs S1 h ⟨e1, e2⟩ _ => by
      subst e1
      rw [List.getElem?_map] at h
      cases hc : l[k]? with
      | none => rw [hc] at h; cases h
      | some c =>
        rw [hc] at h
        cases h
        refine ⟨.bl (isL c), S1, ?_, rfl, ?_⟩
        · have := in_L (c := c)
          simp [exSs, exS, ev, evT, evs, evTs, evI, evB, evTB, evPs, m1, m2, m3, msl, mch, ofO, d1, d2, d3, look, deref, derefS, settle, persist, keep, frz, setSlot, modC, bind_def, pure_def, TM.fail, asB, tst, truD, asI, asS, callM, cmpD, cmpD0, scalD, eqD, negD, lenD, intD, idxD, gSet, gSets, gsN, itemsM, mSeq, srcD, srcV, mR1, mR2, forRun, mPar, putIx, hg, this]
        · rw [e2, List.take_succ, hc]
          simp) (by simp; omega)
  rw [e, e2]
  simp
theorem bls_map {α : Type} (f : α → Bool) : ∀ l : List α, blsD (l.map fun c => .bl (f c)) = some (l.map f)
  | [] => rfl
  | a :: l => by simp [blsD, bls_map f l]
theorem r_check {P : Prov} (hg : P.glob "LETTERS" = some (.str "1XZW")) {i : Int} {l : List Nat} {S : Sto} (h : Lt4 l) (hl : l.length ≤ 900) :
    runDef P n_check_string.length p_check_string.length b_check_string [.str (mkS (sg i l))] S = .ok .non S := by
  refine (run_pos rfl).trans ?_
  have hf : fits (sg i l).length = true := fits_le (by have := sg_len i l; omega)
  have ht := take_sg (i := i) h
  have q1 : exS P (nthS b_check_string 0) [.v (.str (mkS (sg i l))), .no, .no] S = .ok .nx [.v (.str (mkS (sg i l))), .v (.str (mkS l)), .no] S := by
    by_cases e : i % 2 = 1
    · have := ht.mpr e
      simp [exSs, exS, ev, evT, evs, evTs, evI, evB, evTB, evPs, m1, m2, m3, msl, mch, ofO, d1, d2, d3, look, deref, derefS, settle, persist, keep, frz, setSlot, modC, bind_def, pure_def, TM.fail, asB, tst, truD, asI, asS, callM, cmpD, cmpD0, scalD, eqD, negD, lenD, intD, idxD, gSet, gSets, gsN, itemsM, mSeq, srcD, srcV, mR1, mR2, forRun, mPar, putIx, nthS, b_check_string, toD, fromD, to_mk hf, from_mk hf, s_m, mkS_inj, this, fits, e]
      simp [sg, e]
    · have : ¬ (sg i l).take 1 = [45] := fun z => e (ht.mp z)
      simp [exSs, exS, ev, evT, evs, evTs, evI, evB, evTB, evPs, m1, m2, m3, msl, mch, ofO, d1, d2, d3, look, deref, derefS, settle, persist, keep, frz, setSlot, modC, bind_def, pure_def, TM.fail, asB, tst, truD, asI, asS, callM, cmpD, cmpD0, scalD, eqD, negD, lenD, intD, idxD, gSet, gSets, gsN, itemsM, mSeq, srcD, srcV, mR1, mR2, forRun, mPar, putIx, nthS, b_check_string, toD, fromD, to_mk hf, from_mk hf, s_m, mkS_inj, this, fits]
      simp [sg, e]
  have q2 : exS P (nthS b_check_string 1) [.v (.str (mkS (sg i l))), .v (.str (mkS l)), .no] S = .ok .nx [.v (.str (mkS (sg i l))), .v (.str (mkS l)), .no] S := by
    have e := check_lc (P := P) hg (t := .str (mkS (sg i l))) (l := l) (S := S) (by omega)
    have ha : allD (.lst (l.map fun c => .bl (isL c))) = some (.bl true) := by
      simp only [allD, bls_map]
      have hh := okc_iff.mpr h
      show some (D.bl ((l.map isL).all id)) = _
      rw [hh]
    rw [show nthS b_check_string 1 = .ite (.not (.e (.p1 .allOf (.lc [2] (.nm 2) (.p1 .seq (.var 1)) .nil (.p2 (.cmp .In) (.var 2) (.glo "LETTERS")))))) (.cons (.raise "InvalidString" (.cons (.var 0) .nil)) .nil) .nil from rfl]
    generalize E.lc [2] (.nm 2) (.p1 .seq (.var 1)) .nil (.p2 (.cmp .In) (.var 2) (.glo "LETTERS")) = eL at e ⊢
    simp [exSs, exS, ev, evT, evs, evTs, evI, evB, evTB, evPs, m1, m2, m3, msl, mch, ofO, d1, d2, d3, look, deref, derefS, settle, persist, keep, frz, setSlot, modC, bind_def, pure_def, TM.fail, asB, tst, truD, asI, asS, callM, cmpD, cmpD0, scalD, eqD, negD, lenD, intD, idxD, gSet, gSets, gsN, itemsM, mSeq, srcD, srcV, mR1, mR2, forRun, mPar, putIx, e, ha]
  rw [show b_check_string = .cons (nthS b_check_string 0) (.cons (nthS b_check_string 1) .nil) from rfl]
  rw [show startR n_check_string.length [D.str (mkS (sg i l))] = [.v (.str (mkS (sg i l))), .no, .no] from rfl, exSs_cons q1, exSs_cons q2]
  simp [exSs, exS, ev, evT, evs, evTs, evI, evB, evTB, evPs, m1, m2, m3, msl, mch, ofO, d1, d2, d3, look, deref, derefS, settle, persist, keep, frz, setSlot, modC, bind_def, pure_def, TM.fail, asB, tst, truD, asI, asS, callM, cmpD, cmpD0, scalD, eqD, negD, lenD, intD, idxD, gSet, gSets, gsN, itemsM, mSeq, srcD, srcV, mR1, mR2, forRun, mPar, putIx, if_true]
end TM
end
section
set_option Elab.async false
set_option linter.all false
set_option maxRecDepth 100000
set_option maxHeartbeats 1000000
/-! PL5: instances and their operators. -/
namespace TM
open PySem PySem.Spec PyProof.Rows L2
def NM (l : List Nat) : Prop := ∀ c ∈ l, c ≠ 45
theorem Lt4.nm {l : List Nat} (h : Lt4 l) : NM l := fun c hc => by
  have := h c hc
  omega
theorem take_nm {i : Int} {l : List Nat} (h : NM l) : (sg i l).take 1 = [45] ↔ i % 2 = 1 := by
  unfold sg
  split
  · simp [*]
  · cases l with
    | nil => simp [*]
    | cons a l =>
      have := h a (by simp)
      simp [*]
theorem r_check_bad {P : Prov} (hg : P.glob "LETTERS" = some (.str "1XZW")) (hx : P.xas "InvalidString" = some (1, [(("value" : Str), XA.par 0), (("code" : Str), XA.txt "invalidstring")])) {i : Int} {l : List Nat} {S : Sto} (h : NM l) (hb : ¬ Lt4 l) (hl : l.length ≤ 900) :
    runDef P n_check_string.length p_check_string.length b_check_string [.str (mkS (sg i l))] S = .ex "InvalidString" [("code", .str "invalidstring"), ("value", .str (mkS (sg i l)))] S := by
  refine (run_pos rfl).trans ?_
  have hf : fits (sg i l).length = true := fits_le (by have := sg_len i l; omega)
  have ht := take_nm (i := i) h
  have q1 : exS P (nthS b_check_string 0) [.v (.str (mkS (sg i l))), .no, .no] S = .ok .nx [.v (.str (mkS (sg i l))), .v (.str (mkS l)), .no] S := by
    by_cases e : i % 2 = 1
    · have := ht.mpr e
      simp [exSs, exS, ev, evT, evs, evTs, evI, evB, evTB, evPs, m1, m2, m3, msl, mch, ofO, d1, d2, d3, look, deref, derefS, settle, persist, keep, frz, setSlot, modC, bind_def, pure_def, TM.fail, asB, tst, truD, asI, asS, callM, cmpD, cmpD0, scalD, eqD, negD, lenD, intD, idxD, gSet, gSets, gsN, itemsM, mSeq, srcD, srcV, mR1, mR2, forRun, mPar, putIx, nthS, b_check_string, toD, fromD, to_mk hf, from_mk hf, s_m, mkS_inj, this, fits, e]
      simp [sg, e]
    · have : ¬ (sg i l).take 1 = [45] := fun z => e (ht.mp z)
      simp [exSs, exS, ev, evT, evs, evTs, evI, evB, evTB, evPs, m1, m2, m3, msl, mch, ofO, d1, d2, d3, look, deref, derefS, settle, persist, keep, frz, setSlot, modC, bind_def, pure_def, TM.fail, asB, tst, truD, asI, asS, callM, cmpD, cmpD0, scalD, eqD, negD, lenD, intD, idxD, gSet, gSets, gsN, itemsM, mSeq, srcD, srcV, mR1, mR2, forRun, mPar, putIx, nthS, b_check_string, toD, fromD, to_mk hf, from_mk hf, s_m, mkS_inj, this, fits]
      simp [sg, e]
  have q2 : exS P (nthS b_check_string 1) [.v (.str (mkS (sg i l))), .v (.str (mkS l)), .no] S = .ex "InvalidString" [("code", .str "invalidstring"), ("value", .str (mkS (sg i l)))] [.v (.str (mkS (sg i l))), .v (.str (mkS l)), .no] S := by
    have e := check_lc (P := P) hg (t := .str (mkS (sg i l))) (l := l) (S := S) (by omega)
    have ha : allD (.lst (l.map fun c => .bl (isL c))) = some (.bl false) := by
      simp only [allD, bls_map]
      have hh : (l.map isL).all id = false := by
        cases q : (l.map isL).all id with
        | true => exact (hb (okc_iff.mp q)).elim
        | false => rfl
      show some (D.bl ((l.map isL).all id)) = _
      rw [hh]
    rw [show nthS b_check_string 1 = .ite (.not (.e (.p1 .allOf (.lc [2] (.nm 2) (.p1 .seq (.var 1)) .nil (.p2 (.cmp .In) (.var 2) (.glo "LETTERS")))))) (.cons (.raise "InvalidString" (.cons (.var 0) .nil)) .nil) .nil from rfl]
    generalize E.lc [2] (.nm 2) (.p1 .seq (.var 1)) .nil (.p2 (.cmp .In) (.var 2) (.glo "LETTERS")) = eL at e ⊢
    simp [exSs, exS, ev, evT, evs, evTs, evI, evB, evTB, evPs, m1, m2, m3, msl, mch, ofO, d1, d2, d3, look, deref, derefS, settle, persist, keep, frz, setSlot, modC, bind_def, pure_def, TM.fail, asB, tst, truD, asI, asS, callM, cmpD, cmpD0, scalD, eqD, negD, lenD, intD, idxD, gSet, gSets, gsN, itemsM, mSeq, srcD, srcV, mR1, mR2, forRun, mPar, putIx, e, ha, mRaise, hx, xaFs, xaD, raiseM]
  rw [show b_check_string = .cons (nthS b_check_string 0) (.cons (nthS b_check_string 1) .nil) from rfl]
  rw [show startR n_check_string.length [D.str (mkS (sg i l))] = [.v (.str (mkS (sg i l))), .no, .no] from rfl, exSs_cons q1]
  rw [exSs, bind_def, q2]
def ssD (s : Int) (l : List Nat) : D := .ins SS [("sign", .int s), ("letters", .str (mkS l))]
theorem ne_sl : ¬ (Str.ofString "sign" = Str.ofString "letters") := by decide +kernel
theorem r_init {P : Prov} (hd : ∀ x n, P.dflt x n = []) (h1 : P.fld SS "sign" = true) (h2 : P.fld SS "letters" = true) (hs : SplitOk P) {i : Int} {l : List Nat} {S : Sto} (hc : P.fn "check_string" [.str (mkS (sg i l))] S = .ok .non S) (h : Lt4 l) (hl : l.length ≤ 900) :
    runInit P SS n_SignedString___init__.length p_SignedString___init__.length b_SignedString___init__ [.str (mkS (sg i l))] S = .ok (ssD (i % 2) l) S := by
  unfold runInit
  rw [if_pos (show [D.str (mkS (sg i l))].length + 1 = p_SignedString___init__.length from rfl)]
  have := hs i l S h (by omega)
  simp [exSs, exS, ev, evT, evs, evTs, evI, evB, evTB, evPs, m1, m2, m3, msl, mch, ofO, d1, d2, d3, look, deref, derefS, settle, persist, keep, frz, setSlot, modC, bind_def, pure_def, TM.fail, asB, tst, truD, asI, asS, callM, cmpD, cmpD0, scalD, eqD, negD, lenD, intD, idxD, gSet, gSets, gsN, itemsM, mSeq, srcD, srcV, mR1, mR2, forRun, mPar, putIx, b_SignedString___init__, startI, n_SignedString___init__, hd, hc, this, putAt, h1, h2, putFD, selfOf, ssD, ne_sl]
theorem r_init_bad {P : Prov} (hd : ∀ x n, P.dflt x n = []) {z : Str} {S : Sto} {c : Str} {fs : List (Str × D)} (hc : P.fn "check_string" [.str z] S = .ex c fs S) :
    runInit P SS n_SignedString___init__.length p_SignedString___init__.length b_SignedString___init__ [.str z] S = .ex c fs S := by
  unfold runInit
  rw [if_pos (show [D.str z].length + 1 = p_SignedString___init__.length from rfl)]
  simp [exSs, exS, ev, evT, evs, evTs, evI, evB, evTB, evPs, m1, m2, m3, msl, mch, ofO, d1, d2, d3, look, deref, derefS, settle, persist, keep, frz, setSlot, modC, bind_def, pure_def, TM.fail, asB, tst, truD, asI, asS, callM, cmpD, cmpD0, scalD, eqD, negD, lenD, intD, idxD, gSet, gSets, gsN, itemsM, mSeq, srcD, srcV, mR1, mR2, forRun, mPar, putIx, b_SignedString___init__, startI, n_SignedString___init__, hd, hc]
/-! ### operators -/
structure FldOk (P : Prov) : Prop where
  h1 : P.fld SS "sign" = true
  h2 : P.fld SS "letters" = true
theorem at_sign {P : Prov} (F : FldOk P) (s : Int) (l : List Nat) : attrD P "sign" (ssD s l) = some (.int s) := by
  simp only [attrD, ssD, F.h1, if_true]
  rfl
theorem at_letters {P : Prov} (F : FldOk P) (s : Int) (l : List Nat) : attrD P "letters" (ssD s l) = some (.str (mkS l)) := by
  simp only [attrD, ssD, F.h2, if_true]
  rfl
theorem r_len {P : Prov} (F : FldOk P) {s : Int} {l : List Nat} {S : Sto} (hl : l.length ≤ 1000) : runDef P n_SignedString___len__.length p_SignedString___len__.length b_SignedString___len__ [ssD s l] S = .ok (.int l.length) S := by
  refine (run_pos rfl).trans ?_
  have h2 := at_letters F s l
  have hf : fits l.length = true := fits_le (by omega)
  simp only [ssD] at h2 ⊢
  simp [exSs, exS, ev, evT, evs, evTs, evI, evB, evTB, evPs, m1, m2, m3, msl, mch, ofO, d1, d2, d3, look, deref, derefS, settle, persist, keep, frz, setSlot, modC, bind_def, pure_def, TM.fail, asB, tst, truD, asI, asS, callM, cmpD, cmpD0, scalD, eqD, negD, lenD, intD, idxD, gSet, gSets, gsN, itemsM, mSeq, srcD, srcV, mR1, mR2, forRun, mPar, putIx, b_SignedString___len__, startR, n_SignedString___len__, h2, mkS_len, hf]
theorem r_text {P : Prov} (hd : ∀ x n, P.dflt x n = []) (F : FldOk P) (hj : JoinOk P "joined") {s : Int} {l : List Nat} {S : Sto} (hl : l.length ≤ 1000) : runDef P n_SignedString_text.length p_SignedString_text.length b_SignedString_text [ssD s l] S = .ok (.str (mkS (sg s l))) S := by
  refine (run_pos rfl).trans ?_
  have h1 := at_sign F s l
  have h2 := at_letters F s l
  have h3 := hj s l S hl
  simp only [ssD] at h1 h2 ⊢
  simp [exSs, exS, ev, evT, evs, evTs, evI, evB, evTB, evPs, m1, m2, m3, msl, mch, ofO, d1, d2, d3, look, deref, derefS, settle, persist, keep, frz, setSlot, modC, bind_def, pure_def, TM.fail, asB, tst, truD, asI, asS, callM, cmpD, cmpD0, scalD, eqD, negD, lenD, intD, idxD, gSet, gSets, gsN, itemsM, mSeq, srcD, srcV, mR1, mR2, forRun, mPar, putIx, b_SignedString_text, startR, n_SignedString_text, h1, h2, hd, h3]
def MakeOk (P : Prov) : Prop := P.mks SS = true ∧ ∀ (i : Int) (l : List Nat) (S : Sto), Lt4 l → l.length ≤ 900 → P.make SS [.str (mkS (sg i l))] S = .ok (ssD (i % 2) l) S
theorem r_neg {P : Prov} (hd : ∀ x n, P.dflt x n = []) (F : FldOk P) (hj : JoinOk P "joined") (hm : MakeOk P) {s : Int} {l : List Nat} {S : Sto} (h : Lt4 l) (hl : l.length ≤ 900) : runDef P n_SignedString___neg__.length p_SignedString___neg__.length b_SignedString___neg__ [ssD s l] S = .ok (ssD ((1 - s) % 2) l) S := by
  refine (run_pos rfl).trans ?_
  have h1 := at_sign F s l
  have h2 := at_letters F s l
  have h3 := hj (1 - s) l S (by omega)
  have h4 := hm.2 (1 - s) l S h hl
  have h5 := hm.1
  have h6 : opD .Sub (.int 1) (.int s) = some (.int (1 - s)) := rfl
  simp only [ssD, SS] at h1 h2 h4 h5 ⊢
  simp [exSs, exS, ev, evT, evs, evTs, evI, evB, evTB, evPs, m1, m2, m3, msl, mch, ofO, d1, d2, d3, look, deref, derefS, settle, persist, keep, frz, setSlot, modC, bind_def, pure_def, TM.fail, asB, tst, truD, asI, asS, callM, cmpD, cmpD0, scalD, eqD, negD, lenD, intD, idxD, gSet, gSets, gsN, itemsM, mSeq, srcD, srcV, mR1, mR2, forRun, mPar, putIx, b_SignedString___neg__, startR, n_SignedString___neg__, h1, h2, h6, hd, h3, mMake, h5, h4]
def TimesOk (P : Prov) (x : Str) : Prop := ∀ (i j : Int) (xs ys : List Nat) (S : Sto), Lt4 xs → Lt4 ys → xs.length = ys.length → xs.length ≤ 900 → P.fn x [.str (mkS (sg i xs)), .str (mkS (sg j ys))] S = .ok (.str (mkS (sg (i + j + prodS xs ys) (prodL xs ys)))) S
theorem r_mul {P : Prov} (hd : ∀ x n, P.dflt x n = []) (F : FldOk P) (hj : JoinOk P "joined") (hm : MakeOk P) (ht : TimesOk P "times") {i j : Int} {xs ys : List Nat} {S : Sto} (hx : Lt4 xs) (hy : Lt4 ys) (hl : xs.length = ys.length) (hn : xs.length ≤ 900) : runDef P n_SignedString___mul__.length p_SignedString___mul__.length b_SignedString___mul__ [ssD i xs, ssD j ys] S = .ok (ssD ((i + j + prodS xs ys) % 2) (prodL xs ys)) S := by
  refine (run_pos rfl).trans ?_
  have h1 := at_sign F i xs
  have h2 := at_letters F i xs
  have h1' := at_sign F j ys
  have h2' := at_letters F j ys
  have h3 := hj i xs S (by omega)
  have h3' := hj j ys S (by omega)
  have h4 := hm.2 (i + j + prodS xs ys) (prodL xs ys) S (prodL_ok _ _) (by rw [prodL_len _ _ hl]; exact hn)
  have h5 := hm.1
  have h6 := ht i j xs ys S hx hy hl hn
  have hf : fits xs.length = true := fits_le (by omega)
  have hf' : fits ys.length = true := fits_le (by omega)
  simp only [ssD, SS] at h1 h2 h1' h2' h4 h5 ⊢
  simp [exSs, exS, ev, evT, evs, evTs, evI, evB, evTB, evPs, m1, m2, m3, msl, mch, ofO, d1, d2, d3, look, deref, derefS, settle, persist, keep, frz, setSlot, modC, bind_def, pure_def, TM.fail, asB, tst, truD, asI, asS, callM, cmpD, cmpD0, scalD, eqD, negD, lenD, intD, idxD, gSet, gSets, gsN, itemsM, mSeq, srcD, srcV, mR1, mR2, forRun, mPar, putIx, b_SignedString___mul__, startR, n_SignedString___mul__, h1, h2, h1', h2', hd, h3, h3', mMake, h5, h4, h6, mkS_len, hf, hf', hl]
theorem r_mul_bad {P : Prov} (F : FldOk P) (hx : P.xas "LengthMismatch" = some (0, [(("code" : Str), XA.txt "lengthmismatch")])) {i j : Int} {xs ys : List Nat} {S : Sto} (hl : xs.length ≠ ys.length) (hn : xs.length ≤ 900) (hn' : ys.length ≤ 900) : runDef P n_SignedString___mul__.length p_SignedString___mul__.length b_SignedString___mul__ [ssD i xs, ssD j ys] S = .ex "LengthMismatch" [("code", .str "lengthmismatch")] S := by
  refine (run_pos rfl).trans ?_
  have h2 := at_letters F i xs
  have h2' := at_letters F j ys
  have hf : fits xs.length = true := fits_le (by omega)
  have hf' : fits ys.length = true := fits_le (by omega)
  have hl' : ¬ ((xs.length : Int) = (ys.length : Int)) := by omega
  simp only [ssD] at h2 h2' ⊢
  simp [exSs, exS, ev, evT, evs, evTs, evI, evB, evTB, evPs, m1, m2, m3, msl, mch, ofO, d1, d2, d3, look, deref, derefS, settle, persist, keep, frz, setSlot, modC, bind_def, pure_def, TM.fail, asB, tst, truD, asI, asS, callM, cmpD, cmpD0, scalD, eqD, negD, lenD, intD, idxD, gSet, gSets, gsN, itemsM, mSeq, srcD, srcV, mR1, mR2, forRun, mPar, putIx, b_SignedString___mul__, startR, n_SignedString___mul__, h2, h2', mkS_len, hf, hf', hl', mRaise, hx, xaFs, xaD, raiseM]
theorem r_eq {P : Prov} (F : FldOk P) (hi : P.isc SS = true) {i j : Int} {xs ys : List Nat} {S : Sto} : runDef P n_SignedString___eq__.length p_SignedString___eq__.length b_SignedString___eq__ [ssD i xs, ssD j ys] S = .ok (.bl (decide (xs = ys) && decide (i = j))) S := by
  refine (run_pos rfl).trans ?_
  have h1 := at_sign F i xs
  have h2 := at_letters F i xs
  have h1' := at_sign F j ys
  have h2' := at_letters F j ys
  have h3 : clsKn P [.cls "SignedString"] = true := by simp [clsKn]; exact hi
  have h4 : isAnyD P (ssD j ys) [.cls "SignedString"] = some true := by
    have hi' : P.isc "SignedString" = true := hi
    simp [isAnyD, isD, ssD, SS, hi']
  simp only [ssD] at h1 h2 h1' h2' h4 ⊢
  by_cases e : xs = ys
  · subst e
    simp [exSs, exS, ev, evT, evs, evTs, evI, evB, evTB, evPs, m1, m2, m3, msl, mch, ofO, d1, d2, d3, look, deref, derefS, settle, persist, keep, frz, setSlot, modC, bind_def, pure_def, TM.fail, asB, tst, truD, asI, asS, callM, cmpD, cmpD0, scalD, eqD, negD, lenD, intD, idxD, gSet, gSets, gsN, itemsM, mSeq, srcD, srcV, mR1, mR2, forRun, mPar, putIx, b_SignedString___eq__, startR, n_SignedString___eq__, h1, h2, h1', h2', h3, h4, mkS_inj]
  · simp [exSs, exS, ev, evT, evs, evTs, evI, evB, evTB, evPs, m1, m2, m3, msl, mch, ofO, d1, d2, d3, look, deref, derefS, settle, persist, keep, frz, setSlot, modC, bind_def, pure_def, TM.fail, asB, tst, truD, asI, asS, callM, cmpD, cmpD0, scalD, eqD, negD, lenD, intD, idxD, gSet, gSets, gsN, itemsM, mSeq, srcD, srcV, mR1, mR2, forRun, mPar, putIx, b_SignedString___eq__, startR, n_SignedString___eq__, h1, h2, h1', h2', h3, h4, mkS_inj, e]
theorem r_eq_other {P : Prov} (hi : P.isc SS = true) {i : Int} {xs : List Nat} {d : D} {S : Sto} (h : noEqD d = true) : runDef P n_SignedString___eq__.length p_SignedString___eq__.length b_SignedString___eq__ [ssD i xs, d] S = .ok (.bl false) S := by
  refine (run_pos rfl).trans ?_
  have h3 : clsKn P [.cls "SignedString"] = true := by simp [clsKn]; exact hi
  have hi' : P.isc "SignedString" = true := hi
  have h4 : isAnyD P d [.cls "SignedString"] = some false := by
    cases d <;> first | exact (Bool.false_ne_true h).elim | simp [isAnyD, isD, hi', kindD]
  simp only [ssD]
  cases d <;> first | exact (Bool.false_ne_true h).elim | simp [exSs, exS, ev, evT, evs, evTs, evI, evB, evTB, evPs, m1, m2, m3, msl, mch, ofO, d1, d2, d3, look, deref, derefS, settle, persist, keep, frz, setSlot, modC, bind_def, pure_def, TM.fail, asB, tst, truD, asI, asS, callM, cmpD, cmpD0, scalD, eqD, negD, lenD, intD, idxD, gSet, gSets, gsN, itemsM, mSeq, srcD, srcV, mR1, mR2, forRun, mPar, putIx, b_SignedString___eq__, startR, n_SignedString___eq__, h3, h4]
end TM
end
section
set_option Elab.async false
set_option linter.all false
set_option maxRecDepth 100000
set_option maxHeartbeats 1000000
/-! PL6: the law's own products; the rest of the operators. -/
namespace TM
open PySem PySem.Spec PyProof.Rows L2
def hasC (z : Str) (l : List Nat) : Bool := (l.map fun c => D.str (mkS [c])).any fun y => eqFD y (.str z)
theorem in_lst (x : D) (xs : List D) : inD x (.lst xs) = (if flatD x && xs.all flatD then some (xs.any fun y => eqFD y x) else none) := by
  unfold inD
  split <;> first | rfl | (rename_i h; cases h; rfl) | (rename_i h _; cases h; rfl) | skip
  all_goals simp_all
theorem in_signs (z : Str) (l : List Nat) : inD (.str z) (.lst (l.map fun c => D.str (mkS [c]))) = some (hasC z l) := by
  rw [in_lst, if_pos]
  · rfl
  · simp [flatD]
theorem list_mk {l : List Nat} (h : l.length ≤ 1000) : listD (.str (mkS l)) = some (.nw (.lst (l.map fun c => .str (mkS [c])))) := by
  simp only [listD, mkS_len, fits_le (show l.length ≤ 16777216 by omega), if_true, signs_mk]
theorem r_contains {P : Prov} (F : FldOk P) {s : Int} {l : List Nat} {z : Str} {S : Sto} (hl : l.length ≤ 1000) : runDef P n_SignedString___contains__.length p_SignedString___contains__.length b_SignedString___contains__ [ssD s l, .str z] S = .ok (.bl (hasC z l)) S := by
  refine (run_pos rfl).trans ?_
  have h2 := at_letters F s l
  have h3 := list_mk hl
  have h4 := in_signs z l
  simp only [ssD] at h2 ⊢
  simp [exSs, exS, ev, evT, evs, evTs, evI, evB, evTB, evPs, m1, m2, m3, msl, mch, ofO, d1, d2, d3, look, deref, derefS, settle, persist, keep, frz, setSlot, modC, bind_def, pure_def, TM.fail, asB, tst, truD, asI, asS, callM, cmpD, cmpD0, scalD, eqD, negD, lenD, intD, idxD, gSet, gSets, gsN, itemsM, mSeq, srcD, srcV, mR1, mR2, forRun, mPar, putIx, b_SignedString___contains__, startR, n_SignedString___contains__, h2, h3, h4]
theorem s_cl : ((")" : String) : Str) = mkS [41] := by decide +kernel
def pre : List Nat := [83, 105, 103, 110, 101, 100, 83, 116, 114, 105, 110, 103, 40]
theorem s_SS : (("SignedString(" : String) : Str) = mkS pre := by decide +kernel
theorem r_repr {P : Prov} (hd : ∀ x n, P.dflt x n = []) (hm : P.meth SS "text" = some ("SignedString.text" : Str)) {s : Int} {l : List Nat} {S : Sto} (ht : P.fn "SignedString.text" [ssD s l] S = .ok (.str (mkS (sg s l))) S) (hl : l.length ≤ 1000) : runDef P n_SignedString___repr__.length p_SignedString___repr__.length b_SignedString___repr__ [ssD s l] S = .ok (.str (mkS (pre ++ (sg s l ++ [41])))) S := by
  refine (run_pos rfl).trans ?_
  have hk : ([("sign", .int s), ("letters", .str (mkS l))] : List (Str × D)).lookup (Str.ofString "text") = none := rfl
  have := sg_len s l
  have f1 : fits (sg s l).length = true := fits_le (by omega)
  have f2 : fits (pre.length + (sg s l).length) = true := fits_le (by simp [pre]; omega)
  have f3 : fits (pre.length + ((sg s l).length + 1)) = true := fits_le (by simp [pre]; omega)
  have f0 : fits pre.length = true := by decide
  have f4 : fits 1 = true := by decide
  have e1 : (Str.empty : Str) = mkS [] := rfl
  simp only [ssD] at ht ⊢
  simp [exSs, exS, ev, evT, evs, evTs, evI, evB, evTB, evPs, m1, m2, m3, msl, mch, ofO, d1, d2, d3, look, deref, derefS, settle, persist, keep, frz, setSlot, modC, bind_def, pure_def, TM.fail, asB, tst, truD, asI, asS, callM, cmpD, cmpD0, scalD, eqD, negD, lenD, intD, idxD, gSet, gSets, gsN, itemsM, mSeq, srcD, srcV, mR1, mR2, forRun, mPar, putIx, b_SignedString___repr__, startR, n_SignedString___repr__, hd, hm, ht, mMeth, hk, evF, evFs, fmtD, s_SS, s_cl, mkS_len, e1, mkS_app, f0, f1, f2, f3, f4]
/-! ### the law's products -/
def tabK : List (Key × D) := [(.inr "11", .str "1"), (.inr "1X", .str "X"), (.inr "1Z", .str "Z"), (.inr "1W", .str "W"), (.inr "X1", .str "X"), (.inr "XX", .str "1"), (.inr "XZ", .str "W"), (.inr "XW", .str "Z"),
  (.inr "Z1", .str "Z"), (.inr "ZX", .str "-W"), (.inr "ZZ", .str "1"), (.inr "ZW", .str "-X"), (.inr "W1", .str "W"), (.inr "WX", .str "-Z"), (.inr "WZ", .str "X"), (.inr "WW", .str "-1")]
theorem r_table {P : Prov} {S : Sto} : runDef P n__law_table_of_products.length p__law_table_of_products.length b__law_table_of_products [] S = .ok (.dct tabK) S := by kernel_rfl
theorem tab_at {x y : Nat} (hx : L4 x) (hy : L4 y) : idxD (.dct tabK) (.str (mkS [x, y])) = some (.str (mkS (sg (mulS x y) [mulC x y]))) := by
  rcases hx with rfl | rfl | rfl | rfl <;> rcases hy with rfl | rfl | rfl | rfl <;> kernel_rfl
theorem last_mk {k : Int} {c : Nat} : idxD (.str (mkS (sg k [c]))) (.int (-1)) = some (.str (mkS [c])) := by
  unfold sg
  split <;> rfl
theorem mulS_01 (x y : Nat) : mulS x y = 0 ∨ mulS x y = 1 := by
  unfold mulS bz bx
  split <;> split <;> simp
theorem mulC_L4 (x y : Nat) : L4 (mulC x y) := lt_ok _ _
theorem take_tab (x y : Nat) : (if (sg (mulS x y) [mulC x y]).take 1 = [45] then (1 : Int) else 0) = mulS x y := by
  have h : Lt4 [mulC x y] := fun c hc => by rw [List.mem_singleton.mp hc]; exact lt_ok _ _
  have := take_sg (i := mulS x y) h
  rcases mulS_01 x y with e | e
  · rw [if_neg (fun z => by have := this.mp z; omega), e]
  · rw [if_pos (this.mpr (by omega)), e]
def lB : Ss := match nthS b__law_times 2 with
  | .forr _ _ b => b
  | _ => .nil
theorem law_step {P : Prov} {a b : D} {j5 j6 j7 : Sl} {s : Int} {acc : List Nat} {x y : Nat} {S : Sto} (hx : L4 x) (hy : L4 y) (hl : acc.length + 1 ≤ 1000) :
    (do
      gSet (.tup (.cons (.nm 5) (.cons (.nm 6) .nil))) (.tup [.str (mkS [x]), .str (mkS [y])])
      exSs P lB : Mo Fl) [.v a, .v b, .v (.int s), .v (.dct tabK), .v (.str (mkS acc)), j5, j6, j7] S =
    .ok .nx [.v a, .v b, .v (.int (s + mulS x y)), .v (.dct tabK), .v (.str (mkS (acc ++ [mulC x y]))), .v (.str (mkS [x])), .v (.str (mkS [y])), .v (.str (mkS (sg (mulS x y) [mulC x y])))] S := by
  have h1 := tab_at hx hy
  have h2 := last_mk (k := mulS x y) (c := mulC x y)
  have h3 := add_mk (a := [x]) (b := [y]) (fits_le (by simp))
  have h4 := add_mk (a := acc) (b := [mulC x y]) (fits_le (by simp; omega))
  have hf : fits (sg (mulS x y) [mulC x y]).length = true := fits_le (by have := sg_len (mulS x y) [mulC x y]; simp at this; omega)
  have h5 := take_tab x y
  generalize sg (mulS x y) [mulC x y] = z at h1 h2 hf h5 ⊢
  generalize mulS x y = q at h5 ⊢
  simp only [idxD, List.singleton_append] at h1 h2 h3
  simp [exSs, exS, ev, evT, evs, evTs, evI, evB, evTB, evPs, m1, m2, m3, msl, mch, ofO, d1, d2, d3, look, deref, derefS, settle, persist, keep, frz, setSlot, modC, bind_def, pure_def, TM.fail, asB, tst, truD, asI, asS, callM, cmpD, cmpD0, scalD, eqD, negD, lenD, intD, idxD, gSet, gSets, gsN, itemsM, mSeq, srcD, srcV, mR1, mR2, forRun, mPar, putIx, lB, nthS, b__law_times, h1, h2, h3, h4, toD, to_mk hf, s_m, mkS_inj, add_int, h5]
theorem law_loop {P : Prov} {a b : D} {S : Sto} : ∀ (xs ys acc : List Nat) (s : Int) (j5 j6 j7 : Sl), Lt4 xs → Lt4 ys → xs.length = ys.length → acc.length + xs.length ≤ 1000 →
    ∃ k5 k6 k7, forL (fun d => (do
      gSet (.tup (.cons (.nm 5) (.cons (.nm 6) .nil))) d
      exSs P lB : Mo Fl)) (zipD (xs.map fun c => .str (mkS [c])) (ys.map fun c => .str (mkS [c]))) [.v a, .v b, .v (.int s), .v (.dct tabK), .v (.str (mkS acc)), j5, j6, j7] S =
    .ok .nx [.v a, .v b, .v (.int (s + prodS xs ys)), .v (.dct tabK), .v (.str (mkS (acc ++ prodL xs ys))), k5, k6, k7] S
  | [], [], acc, s, j5, j6, j7, _, _, _, _ => ⟨j5, j6, j7, by simp [zipD, forL, pure_def, prodS, prodL]⟩
  | x :: xs, y :: ys, acc, s, j5, j6, j7, hx, hy, hl, ha => by
    have e1 := law_step (P := P) (a := a) (b := b) (j5 := j5) (j6 := j6) (j7 := j7) (s := s) (acc := acc) (S := S) (hx x (by simp)) (hy y (by simp)) (by simp at ha; omega)
    obtain ⟨k5, k6, k7, e2⟩ := law_loop (P := P) (a := a) (b := b) (S := S) xs ys (acc ++ [mulC x y]) (s + mulS x y) (.v (.str (mkS [x]))) (.v (.str (mkS [y]))) (.v (.str (mkS (sg (mulS x y) [mulC x y])))) (fun c h => hx c (by simp [h])) (fun c h => hy c (by simp [h])) (by simpa using hl) (by simp at ha ⊢; omega)
    refine ⟨k5, k6, k7, ?_⟩
    simp only [List.map_cons, zipD, List.zipWith_cons_cons]
    rw [forL_nx e1]
    simp only [zipD] at e2
    rw [e2]
    simp [prodS, prodL, Int.add_assoc]
def BodyOk (P : Prov) : Prop := ∀ (i : Int) (l : List Nat) (S : Sto), Lt4 l → l.length ≤ 1000 → P.fn "_law_body" [.str (mkS (sg i l))] S = .ok (.str (mkS l)) S
theorem sgn_of {i : Int} {l : List Nat} (h : Lt4 l) : (if (sg i l).take 1 = [45] then (1 : Int) else 0) = i % 2 := by
  have := take_sg (i := i) h
  by_cases e : i % 2 = 1
  · rw [if_pos (this.mpr e), e]
  · rw [if_neg (fun z => e (this.mp z))]; omega
theorem r_law_times {P : Prov} (hd : ∀ x n, P.dflt x n = []) (htab : ∀ S, P.fn "_law_table_of_products" [] S = .ok (.dct tabK) S) (hb : BodyOk P) (hj : JoinOk P "_law_signed") {i j : Int} {xs ys : List Nat} {S : Sto} (hx : Lt4 xs) (hy : Lt4 ys) (hl : xs.length = ys.length) (hn : xs.length ≤ 900) :
    runDef P n__law_times.length p__law_times.length b__law_times [.str (mkS (sg i xs)), .str (mkS (sg j ys))] S = .ok (.str (mkS (sg (i + j + prodS xs ys) (prodL xs ys)))) S := by
  refine (run_pos rfl).trans ?_
  obtain ⟨k5, k6, k7, e⟩ := law_loop (P := P) (a := .str (mkS (sg i xs))) (b := .str (mkS (sg j ys))) (S := S) xs ys [] (i % 2 + j % 2) .no .no .no hx hy hl (by simp; omega)
  have e1 := hb i xs S hx (by omega)
  have e2 := hb j ys S hy (by omega)
  have e3 := hj (i % 2 + j % 2 + prodS xs ys) (prodL xs ys) S (by rw [prodL_len xs ys hl]; omega)
  rw [show sg (i % 2 + j % 2 + prodS xs ys) (prodL xs ys) = sg (i + j + prodS xs ys) (prodL xs ys) from sg_congr _ (by omega)] at e3
  have f1 : fits (sg i xs).length = true := fits_le (by have := sg_len i xs; omega)
  have f2 : fits (sg j ys).length = true := fits_le (by have := sg_len j ys; omega)
  have g1 := sgn_of (i := i) hx
  have g2 := sgn_of (i := j) hy
  generalize sg i xs = t1 at *
  generalize sg j ys = t2 at *
  rw [show b__law_times = .cons (nthS b__law_times 0) (.cons (nthS b__law_times 1) (.cons (.forr (.tup (.cons (.nm 5) (.cons (.nm 6) .nil))) (.p2 .zip (.call "_law_body" (.cons (.var 0) .nil)) (.call "_law_body" (.cons (.var 1) .nil))) lB) (.cons (nthS b__law_times 3) .nil))) from rfl]
  have e4 : startR n__law_times.length [D.str (mkS t1), D.str (mkS t2)] = [.v (.str (mkS t1)), .v (.str (mkS t2)), .no, .no, .no, .no, .no, .no] := rfl
  rw [e4]
  have q1 : exS P (nthS b__law_times 0) [.v (.str (mkS t1)), .v (.str (mkS t2)), .no, .no, .no, .no, .no, .no] S = .ok .nx [.v (.str (mkS t1)), .v (.str (mkS t2)), .no, .v (.dct tabK), .v (.str (mkS [])), .no, .no, .no] S := by
    simp [exSs, exS, ev, evT, evs, evTs, evI, evB, evTB, evPs, m1, m2, m3, msl, mch, ofO, d1, d2, d3, look, deref, derefS, settle, persist, keep, frz, setSlot, modC, bind_def, pure_def, TM.fail, asB, tst, truD, asI, asS, callM, cmpD, cmpD0, scalD, eqD, negD, lenD, intD, idxD, gSet, gSets, gsN, itemsM, mSeq, srcD, srcV, mR1, mR2, forRun, mPar, putIx, nthS, b__law_times, hd, htab, s_e]
  have q2 : exS P (nthS b__law_times 1) [.v (.str (mkS t1)), .v (.str (mkS t2)), .no, .v (.dct tabK), .v (.str (mkS [])), .no, .no, .no] S = .ok .nx [.v (.str (mkS t1)), .v (.str (mkS t2)), .v (.int (i % 2 + j % 2)), .v (.dct tabK), .v (.str (mkS [])), .no, .no, .no] S := by
    simp [exSs, exS, ev, evT, evs, evTs, evI, evB, evTB, evPs, m1, m2, m3, msl, mch, ofO, d1, d2, d3, look, deref, derefS, settle, persist, keep, frz, setSlot, modC, bind_def, pure_def, TM.fail, asB, tst, truD, asI, asS, callM, cmpD, cmpD0, scalD, eqD, negD, lenD, intD, idxD, gSet, gSets, gsN, itemsM, mSeq, srcD, srcV, mR1, mR2, forRun, mPar, putIx, nthS, b__law_times, toD, to_mk f1, to_mk f2, s_m, mkS_inj, add_int, g1, g2]
  rw [exSs_cons q1, exSs_cons q2]
  rw [exSs_cons (exS_forr (ρ1 := [.v (.str (mkS t1)), .v (.str (mkS t2)), .v (.int (i % 2 + j % 2)), .v (.dct tabK), .v (.str (mkS [])), .no, .no, .no]) (S1 := S) (by simp [exSs, exS, ev, evT, evs, evTs, evI, evB, evTB, evPs, m1, m2, m3, msl, mch, ofO, d1, d2, d3, look, deref, derefS, settle, persist, keep, frz, setSlot, modC, bind_def, pure_def, TM.fail, asB, tst, truD, asI, asS, callM, cmpD, cmpD0, scalD, eqD, negD, lenD, intD, idxD, gSet, gSets, gsN, itemsM, mSeq, srcD, srcV, mR1, mR2, forRun, mPar, putIx, mZip, zipS, signs_mk, hd, e1, e2]) e)]
  simp [exSs, exS, ev, evT, evs, evTs, evI, evB, evTB, evPs, m1, m2, m3, msl, mch, ofO, d1, d2, d3, look, deref, derefS, settle, persist, keep, frz, setSlot, modC, bind_def, pure_def, TM.fail, asB, tst, truD, asI, asS, callM, cmpD, cmpD0, scalD, eqD, negD, lenD, intD, idxD, gSet, gSets, gsN, itemsM, mSeq, srcD, srcV, mR1, mR2, forRun, mPar, putIx, nthS, b__law_times, hd, e3]
end TM
end
section
set_option Elab.async false
set_option linter.all false
set_option maxRecDepth 100000
set_option maxHeartbeats 1000000
/-! PL7: the law's own helpers. -/
namespace TM
open PySem PySem.Spec PyProof.Rows L2
def ones (n : Nat) : List Nat := List.replicate n 49
theorem ones_ok (n : Nat) : Lt4 (ones n) := fun c h => .inl (List.mem_replicate.mp h).2
theorem ones_len (n : Nat) : (ones n).length = n := List.length_replicate
theorem mulC_one {c : Nat} (h : L4 c) : mulC 49 c = c := by
  rcases h with rfl | rfl | rfl | rfl <;> rfl
theorem prodL_one : ∀ l : List Nat, Lt4 l → prodL (ones l.length) l = l
  | [], _ => rfl
  | c :: l, h => by
    show mulC 49 c :: prodL (ones l.length) l = _
    rw [mulC_one (h c (by simp)), prodL_one l fun a q => h a (by simp [q])]
theorem prodS_one : ∀ l : List Nat, prodS (ones l.length) l = 0
  | [] => rfl
  | c :: l => by
    show mulS 49 c + prodS (ones l.length) l = _
    rw [prodS_one l]
    simp [mulS, bz]
theorem rep_one (n : Nat) : rep (n : Int) [49] = ones n := by
  simp [rep, ones]
theorem ones_mul {n : Nat} (h : n ≤ 1000) : opD .Mult (.str (mkS [49])) (.int n) = some (.str (mkS (ones n))) := by
  simp only [opD, mkS_len, mkS_cps]
  rw [rep_one, if_pos]
  · rfl
  · refine ⟨by omega, by omega, fits_le ?_⟩
    simp
    omega
theorem r_all {P : Prov} (hd : ∀ x n, P.dflt x n = []) (ht : TimesOk P "_law_times") {i0 i1 i2 : Int} {l0 l1 l2 : List Nat} {n : Nat} {z : Int} {S : Sto} (hz : z = n) (h0 : Lt4 l0) (h1 : Lt4 l1) (h2 : Lt4 l2) (n0 : l0.length = n) (n1 : l1.length = n) (n2 : l2.length = n) (hn : n ≤ 900) :
    runDef P n__law_times_all.length p__law_times_all.length b__law_times_all [.lst [.str (mkS (sg i0 l0)), .str (mkS (sg i1 l1)), .str (mkS (sg i2 l2))], .int z] S = .ok (.str (mkS (sg (i0 + i1 + prodS l0 l1 + i2 + prodS (prodL l0 l1) l2) (prodL (prodL l0 l1) l2)))) S := by
  subst n0
  refine run_pos2.trans ?_
  have q0 := ones_mul (n := l0.length) (by omega)
  rw [← hz] at q0
  have q1 := ht 0 i0 (ones l0.length) l0 S (ones_ok _) h0 (ones_len _) (by rw [ones_len]; exact hn)
  rw [prodL_one l0 h0, prodS_one l0, show (0 + i0 + 0 : Int) = i0 by omega, show sg 0 (ones l0.length) = ones l0.length from rfl] at q1
  have q2 := ht i0 i1 l0 l1 S h0 h1 n1.symm hn
  have q3 := ht (i0 + i1 + prodS l0 l1) i2 (prodL l0 l1) l2 S (prodL_ok _ _) h2 (by rw [prodL_len _ _ n1.symm, n2]) (by rw [prodL_len _ _ n1.symm]; exact hn)
  simp [exSs, exS, ev, evT, evs, evTs, evI, evB, evTB, evPs, m1, m2, m3, msl, mch, ofO, d1, d2, d3, look, deref, derefS, settle, persist, keep, frz, setSlot, modC, bind_def, pure_def, TM.fail, asB, tst, truD, asI, asS, callM, cmpD, cmpD0, scalD, eqD, negD, lenD, intD, idxD, gSet, gSets, gsN, itemsM, mSeq, srcD, srcV, mR1, mR2, forRun, mPar, putIx, b__law_times_all, startR, n__law_times_all, forL, hd, s_1, q0, q1, q2, q3]
/-- one of the four letters, drawn -/
def OfOk (P : Prov) : Prop := ∀ (b : Bag) (n : Nat) (S : Sto), b.Ok → S[n]? = some b.c → ∃ (c : Nat) (b' : Bag), L4 c ∧ b'.Ok ∧ P.fn "_law_of" [.ref n, .str "11XZW"] S = .ok (.str (mkS [c])) (S.set n b'.c)
theorem s_5 : (("11XZW" : String) : Str) = mkS [49, 49, 88, 90, 87] := by decide +kernel
theorem r_of {P : Prov} (hd : ∀ x n, P.dflt x n = []) (hp : PullOk (P.fn "_law_pull")) (b : Bag) (n : Nat) (S : Sto) (hb : b.Ok) (hS : S[n]? = some b.c) : ∃ (c : Nat) (b' : Bag), L4 c ∧ b'.Ok ∧ runDef P n__law_of.length p__law_of.length b__law_of [.ref n, .str "11XZW"] S = .ok (.str (mkS [c])) (S.set n b'.c) := by
  obtain ⟨r, b', r0, r1, hb', e⟩ := hp b 5 n S hb (by decide) (by decide) hS
  have hc : ∃ c, L4 c ∧ idxD (.str (mkS [49, 49, 88, 90, 87])) (.int r) = some (.str (mkS [c])) := by
    have : r = 0 ∨ r = 1 ∨ r = 2 ∨ r = 3 ∨ r = 4 := by omega
    rcases this with rfl | rfl | rfl | rfl | rfl
    · exact ⟨49, .inl rfl, rfl⟩
    · exact ⟨49, .inl rfl, rfl⟩
    · exact ⟨88, .inr (.inl rfl), rfl⟩
    · exact ⟨90, .inr (.inr (.inl rfl)), rfl⟩
    · exact ⟨87, .inr (.inr (.inr rfl)), rfl⟩
  obtain ⟨c, h1, h2⟩ := hc
  refine ⟨c, b', h1, hb', run_pos2.trans ?_⟩
  have f5 : fits 5 = true := by decide
  simp only [idxD, mkS_len, show ([49, 49, 88, 90, 87] : List Nat).length = 5 from rfl, f5, if_true] at h2
  simp [exSs, exS, ev, evT, evs, evTs, evI, evB, evTB, evPs, m1, m2, m3, msl, mch, ofO, d1, d2, d3, look, deref, derefS, settle, persist, keep, frz, setSlot, modC, bind_def, pure_def, TM.fail, asB, tst, truD, asI, asS, callM, cmpD, cmpD0, scalD, eqD, negD, lenD, intD, idxD, gSet, gSets, gsN, itemsM, mSeq, srcD, srcV, mR1, mR2, forRun, mPar, putIx, b__law_of, startR, n__law_of, hd, s_5, mkS_len, f5, e, h2]
theorem join_signs (l : List Nat) : PySem.Txt.join (mkS []) (l.map fun c => mkS [c]) = mkS l := by
  rw [TL.join_eq]
  induction l with
  | nil => rfl
  | cons a l ih =>
    cases l with
    | nil => rfl
    | cons b l =>
      simp only [List.map_cons, Str.join] at ih ⊢
      rw [ih, mkS_app, mkS_app]
      rfl
theorem strs_map {α : Type} (f : α → Str) : ∀ l : List α, strsD (l.map fun c => .str (f c)) = some (l.map f)
  | [] => rfl
  | a :: l => by simp [strsD, strs_map f l]
theorem r_string {P : Prov} (hd : ∀ x n, P.dflt x n = []) (hp : PullOk (P.fn "_law_pull")) (ho : OfOk P) (hj : JoinOk P "_law_signed") (b : Bag) (k n : Nat) (z : Int) (S : Sto) (hz : z = n) (hb : b.Ok) (hS : S[k]? = some b.c) (hn : n ≤ 900) :
    ∃ (i : Int) (l : List Nat) (b' : Bag), (i = 0 ∨ i = 1) ∧ Lt4 l ∧ l.length = n ∧ b'.Ok ∧ runDef P n__law_string.length p__law_string.length b__law_string [.ref k, .int z] S = .ok (.str (mkS (sg i l))) (S.set k b'.c) := by
  obtain ⟨i, b1, i0, i1, hb1, e1⟩ := hp b 2 k S hb (by decide) (by decide) hS
  have hk := Bag.get hS
  obtain ⟨vs, S2, hv, e2, l, b2, hb2, rfl, hL, rfl⟩ := lc_one (P := P) (i := 2) (it := .p1 .rng (.var 1)) (e := .call "_law_of" (.cons (.var 0) (.cons (.cst (.str "11XZW")) .nil))) (ds := rngD 0 n) (ρ := [.v (.ref k), .v (.int z), .no]) (S := S.set k b1.c) (S0 := S.set k b1.c)
    (Q := fun m vs S' => ∃ (l : List Nat) (b' : Bag), b'.Ok ∧ S' = S.set k b'.c ∧ Lt4 l ∧ vs = l.map fun c => .str (mkS [c])) rfl (by
      have : okRng z = true := by unfold okRng; exact decide_eq_true (by omega)
      have hn : z.toNat = n := by omega
      simp [exSs, exS, ev, evT, evs, evTs, evI, evB, evTB, evPs, m1, m2, m3, msl, mch, ofO, d1, d2, d3, look, deref, derefS, settle, persist, keep, frz, setSlot, modC, bind_def, pure_def, TM.fail, asB, tst, truD, asI, asS, callM, cmpD, cmpD0, scalD, eqD, negD, lenD, intD, idxD, gSet, gSets, gsN, itemsM, mSeq, srcD, srcV, mR1, mR2, forRun, mPar, putIx, this, hn]) (fun d h => by
      obtain ⟨c, _, rfl⟩ := List.mem_map.mp h
      rfl) ⟨[], b1, hb1, rfl, fun _ h => (nomatch h), rfl⟩ (fun m d vs S1 h ⟨l, b', hb', e3, hL, e4⟩ _ => by
      subst e3
      obtain ⟨c, b2, hc, hb2, e5⟩ := ho b' k (S.set k b'.c) hb' (List.getElem?_set_self hk)
      rw [List.set_set] at e5
      have hop : ∃ j, d = .int j := by
        obtain ⟨q, hq⟩ := List.getElem?_eq_some_iff.mp h
        exact ⟨_, hq.symm.trans (List.getElem_map _)⟩
      obtain ⟨j, rfl⟩ := hop
      refine ⟨.str (mkS [c]), S.set k b2.c, ?_, l ++ [c], b2, hb2, rfl, fun a ha => ?_, by rw [e4]; simp⟩
      · simp [exSs, exS, ev, evT, evs, evTs, evI, evB, evTB, evPs, m1, m2, m3, msl, mch, ofO, d1, d2, d3, look, deref, derefS, settle, persist, keep, frz, setSlot, modC, bind_def, pure_def, TM.fail, asB, tst, truD, asI, asS, callM, cmpD, cmpD0, scalD, eqD, negD, lenD, intD, idxD, gSet, gSets, gsN, itemsM, mSeq, srcD, srcV, mR1, mR2, forRun, mPar, putIx, hd, e5]
      · rcases List.mem_append.mp ha with h | h
        · exact hL a h
        · rw [List.mem_singleton.mp h]; exact hc) (by simp [rngD]; omega)
  have hlen : l.length = n := by simpa [rngD] using hv
  have hsum : ((l.map fun c => mkS [c]).map (·.length)).sum = l.length := by
    rw [List.map_map]
    clear hv e2 hL hlen
    induction l with
    | nil => rfl
    | cons a l ih => rw [List.map_cons, List.sum_cons, ih]; simp [mkS_len]; omega
  have hjo : joinD (mkS []) (.lst (l.map fun c => .str (mkS [c]))) = some (.str (mkS l)) := by
    simp only [joinD, strs_map]
    show (if ((l.map fun c => mkS [c]).map (·.length)).sum + (l.map fun c => mkS [c]).length * (mkS []).length ≤ 16777216 then some (D.str (PySem.Txt.join (mkS []) (l.map fun c => mkS [c]))) else none) = _
    rw [if_pos (by rw [hsum, mkS_len]; simp; omega), join_signs]
  have e3 := hj i l (S.set k b2.c) (by omega)
  refine ⟨i, l, b2, by omega, hL, hlen, hb2, run_pos2.trans ?_⟩
  rw [show b__law_string = .cons (.ret (.call "_law_signed" (.cons (.call "_law_pull" (.cons (.var 0) (.cons (.cst (.int 2)) .nil))) (.cons (.join (.cst (.str "")) (.lc [2] (.nm 2) (.p1 .rng (.var 1)) .nil (.call "_law_of" (.cons (.var 0) (.cons (.cst (.str "11XZW")) .nil))))) .nil)))) .nil from rfl]
  rw [show startR n__law_string.length [D.ref k, D.int z] = [.v (.ref k), .v (.int z), .no] from rfl]
  generalize E.lc [2] (.nm 2) (.p1 .rng (.var 1)) .nil (.call "_law_of" (.cons (.var 0) (.cons (.cst (.str "11XZW")) .nil))) = eL at e2 ⊢
  simp [exSs, exS, ev, evT, evs, evTs, evI, evB, evTB, evPs, m1, m2, m3, msl, mch, ofO, d1, d2, d3, look, deref, derefS, settle, persist, keep, frz, setSlot, modC, bind_def, pure_def, TM.fail, asB, tst, truD, asI, asS, callM, cmpD, cmpD0, scalD, eqD, negD, lenD, intD, idxD, gSet, gSets, gsN, itemsM, mSeq, srcD, srcV, mR1, mR2, forRun, mPar, putIx, hd, e1, mJoin, e2, hjo, s_e, e3]
end TM
end
section
set_option Elab.async false
set_option linter.all false
set_option maxRecDepth 100000
set_option maxHeartbeats 1000000
/-! PL8: the bag is made; equal lists are the same. -/
namespace TM
open PySem PySem.Spec PyProof.Rows L2
theorem cut63 {l : List D} (h : l.length ≤ 63) : cutD l none (some 63) = l := by
  have e : HT.sIx l.length l.length (some 63) = min 63 l.length := HT.sIx_nat l.length l.length 63
  unfold cutD
  rw [HT.sIx_none, e, Nat.min_eq_right h]
  simp
theorem bag_step {P : Prov} {t : D} {s c : Int} {j : Sl} {S : Sto} : (do
    gSet (.nm 2) (.int c)
    exSs P (.cons (.set 1 (.p2 (.op .Mod) (.p2 (.op .Add) (.p2 (.op .Add) (.p2 (.op .Mult) (.var 1) (.cst (.int 47653))) (.p2 (.op .Mod) (.var 2) (.cst (.int 2147483549)))) (.cst (.int 17))) (.cst (.int 2147483549)))) .nil) : Mo Fl) [.v t, .v (.int s), j] S = .ok .nx [.v t, .v (.int ((s * 47653 + c % 2147483549 + 17) % 2147483549)), .v (.int c)] S := by
  simp [exSs, exS, ev, evT, evs, evTs, evI, evB, evTB, evPs, m1, m2, m3, msl, mch, ofO, d1, d2, d3, look, deref, derefS, settle, persist, keep, frz, setSlot, modC, bind_def, pure_def, TM.fail, asB, tst, truD, asI, asS, callM, cmpD, cmpD0, scalD, eqD, negD, lenD, intD, idxD, gSet, gSets, gsN, itemsM, mSeq, srcD, srcV, mR1, mR2, forRun, mPar, putIx, mul_r, mod_p, add_int]
theorem r_bag {P : Prov} {is : List Int} {S : Sto} (h : is.length ≤ 63) : ∃ b : Bag, b.Ok ∧ runDef P n__law_bag.length p__law_bag.length b__law_bag [.scr is] S = .ok (.ref S.length) (S ++ [b.c]) := by
  have hc : sliceD (.scr is) none (some 63) = some (.nw (.lst (is.map D.int))) := by
    show some (D.nw (.lst (cutD (is.map D.int) none (some 63)))) = _
    rw [cut63 (by simpa using h)]
  obtain ⟨ρ2, S2, e2, e3, s, j, s0, s1, e4⟩ := forL_ind (f := fun d => (do
      gSet (.nm 2) d
      exSs P (.cons (.set 1 (.p2 (.op .Mod) (.p2 (.op .Add) (.p2 (.op .Add) (.p2 (.op .Mult) (.var 1) (.cst (.int 47653))) (.p2 (.op .Mod) (.var 2) (.cst (.int 2147483549)))) (.cst (.int 17))) (.cst (.int 2147483549)))) .nil) : Mo Fl)) (ds := is.map D.int) (ρ := [.v (.scr is), .v (.int 3808), .no]) (S := S)
    (Q := fun _ ρ S' => S' = S ∧ ∃ (s : Int) (j : Sl), 0 ≤ s ∧ s < 2147483549 ∧ ρ = [.v (.scr is), .v (.int s), j]) 0 (fun k d ρ S1 hd ⟨q1, s, j, s0, s1, q2⟩ => by
      subst q1
      subst q2
      obtain ⟨q, hq⟩ := List.getElem?_eq_some_iff.mp hd
      rw [List.getElem_map] at hq
      subst hq
      exact ⟨_, _, bag_step, rfl, _, _, by omega, by omega, rfl⟩) ⟨rfl, 3808, .no, by decide, by decide, rfl⟩
  subst e3
  subst e4
  refine ⟨⟨is, 0, 0, s⟩, ⟨by show (0 : Int) ≤ 0; omega, by show (0 : Int) ≤ 0; omega, s0, s1⟩, run_pos1.trans ?_⟩
  rw [show b__law_bag = .cons (nthS b__law_bag 0) (.cons (.forr (.nm 2) (.p1 .seq (.p2 .sliceTo (.var 0) (.cst (.int 63)))) (.cons (.set 1 (.p2 (.op .Mod) (.p2 (.op .Add) (.p2 (.op .Add) (.p2 (.op .Mult) (.var 1) (.cst (.int 47653))) (.p2 (.op .Mod) (.var 2) (.cst (.int 2147483549)))) (.cst (.int 17))) (.cst (.int 2147483549)))) .nil)) (.cons (nthS b__law_bag 2) .nil)) from rfl]
  rw [show startR n__law_bag.length [D.scr is] = [.v (.scr is), .no, .no] from rfl]
  have q1 : exS P (nthS b__law_bag 0) [.v (.scr is), .no, .no] S2 = .ok .nx [.v (.scr is), .v (.int 3808), .no] S2 := by
    simp [exSs, exS, ev, evT, evs, evTs, evI, evB, evTB, evPs, m1, m2, m3, msl, mch, ofO, d1, d2, d3, look, deref, derefS, settle, persist, keep, frz, setSlot, modC, bind_def, pure_def, TM.fail, asB, tst, truD, asI, asS, callM, cmpD, cmpD0, scalD, eqD, negD, lenD, intD, idxD, gSet, gSets, gsN, itemsM, mSeq, srcD, srcV, mR1, mR2, forRun, mPar, putIx, nthS, b__law_bag]
  rw [exSs_cons q1, exSs_cons (exS_forr (S1 := S2) (ρ1 := [.v (.scr is), .v (.int 3808), .no]) (by simp [exSs, exS, ev, evT, evs, evTs, evI, evB, evTB, evPs, m1, m2, m3, msl, mch, ofO, d1, d2, d3, look, deref, derefS, settle, persist, keep, frz, setSlot, modC, bind_def, pure_def, TM.fail, asB, tst, truD, asI, asS, callM, cmpD, cmpD0, scalD, eqD, negD, lenD, intD, idxD, gSet, gSets, gsN, itemsM, mSeq, srcD, srcV, mR1, mR2, forRun, mPar, putIx, toD, hc]) e2)]
  have f4 : fits 4 = true := by decide
  simp [exSs, exS, ev, evT, evs, evTs, evI, evB, evTB, evPs, m1, m2, m3, msl, mch, ofO, d1, d2, d3, look, deref, derefS, settle, persist, keep, frz, setSlot, modC, bind_def, pure_def, TM.fail, asB, tst, truD, asI, asS, callM, cmpD, cmpD0, scalD, eqD, negD, lenD, intD, idxD, gSet, gSets, gsN, itemsM, mSeq, srcD, srcV, mR1, mR2, forRun, mPar, putIx, nthS, b__law_bag, toD, hc, listD, f4, Bag.c, Bag.d]
/-! ### equal lists of scalars -/
def scalar : D → Bool
  | .int _ => true
  | .str _ => true
  | .bl _ => true
  | _ => false
def SameOk (P : Prov) : Prop := ∀ (d : D) (S : Sto), scalar d = true → P.fn "_law_same" [d, d] S = .ok (.bl true) S
theorem isA {P : Prov} {c : D} {k : String} (h : kindD c = some k) : ∀ ts : List String, (∀ t ∈ ts, t ∈ askedTy) → isAnyD P c (ts.map TyN.ty) = some (ts.any fun t => kindIs k t)
  | [], _ => rfl
  | t :: ts, hs => by
    rw [List.map_cons, isAnyD, isA h ts fun t m => hs t (by simp [m])]
    simp only [isD, hs t (by simp), if_true, h]
    rfl
theorem isA1 {P : Prov} {c : D} {k : String} (h : kindD c = some k) (t : String) (ht : t ∈ askedTy) : isAnyD P c [.ty t] = some (kindIs k t) := by
  have := isA (P := P) h [t] (by simpa using ht)
  simpa using this
theorem kn1 {P : Prov} (t : String) : clsKn P [.ty t] = true := rfl
theorem kn2 {P : Prov} (t u : String) : clsKn P [.ty t, .ty u] = true := rfl
theorem st_n : settle .non = pure .non := rfl
theorem st_b (b : Bool) : settle (.bl b) = pure (.bl b) := rfl
theorem pe_b (b : Bool) : persist (.bl b) = pure (.bl b) := rfl
theorem de_n (ρ : Rho) (S : Sto) : deref ρ S .non = some .non := rfl
theorem de_b (ρ : Rho) (S : Sto) (b : Bool) : deref ρ S (.bl b) = some (.bl b) := rfl
theorem r_same_sc {P : Prov} {d : D} {S : Sto} (h : scalar d = true) : runDef P n__law_same.length p__law_same.length b__law_same [d, d] S = .ok (.bl true) S := by
  refine run_pos2.trans ?_
  have hk : ∃ k, kindD d = some k ∧ (k = "int" ∨ k = "str" ∨ k = "bool") := by
    cases d <;> first | exact (Bool.false_ne_true h).elim | exact ⟨_, rfl, by simp⟩
  obtain ⟨k, hk, ho⟩ := hk
  have a1 := isA1 (P := P) hk "dict" (by decide)
  have a2 : isAnyD P d [.ty "list", .ty "tuple"] = some (kindIs k "list" || kindIs k "tuple") := by
    have := isA (P := P) hk ["list", "tuple"] (by decide)
    simpa using this
  have a3 := isA1 (P := P) hk "bool" (by decide)
  have a4 := isA1 (P := P) hk "int" (by decide)
  have a5 := isA1 (P := P) hk "str" (by decide)
  have b1 : kindIs k "dict" = false := by rcases ho with rfl | rfl | rfl <;> decide
  have b2 : (kindIs k "list" || kindIs k "tuple") = false := by rcases ho with rfl | rfl | rfl <;> decide
  rw [b1] at a1
  rw [b2] at a2
  generalize kindIs k "bool" = q3 at a3
  generalize kindIs k "int" = q4 at a4
  generalize kindIs k "str" = q5 at a5
  have e1 : cmpD0 .Is d .non = some (.bl false) := by
    cases d <;> first | exact (Bool.false_ne_true h).elim | rfl
  have e2 : eqD d d = some true := by
    cases d <;> first | exact (Bool.false_ne_true h).elim | simp [eqD, scalD]
  have e3 : ∀ ρ S', deref ρ S' d = some d := fun ρ S' => by
    cases d <;> first | exact (Bool.false_ne_true h).elim | rfl
  have e4 : settle d = pure d := by
    cases d <;> first | exact (Bool.false_ne_true h).elim | rfl
  have e5 : ∀ b c : Bool, eqD (.bl b) (.bl c) = some (decide (b = c)) := fun _ _ => rfl
  simp [b__law_same, exSs, exS, ev, evT, evB, evTB, m1, m2, ofO, d1, d2, look, bind_def, pure_def, asB, tst, truD, cmpD, startR, n__law_same, e1, e2, e3, e4, e5, a1, a2, a3, a4, a5, kn1, kn2, st_n, st_b, pe_b, de_n, de_b]
/-- lists of scalars, one with itself -/
theorem r_same_l {P : Prov} (hd : ∀ x n, P.dflt x n = []) (hs : SameOk P) {ds : List D} {S : Sto} (h : ∀ d ∈ ds, scalar d = true) (hl : ds.length ≤ 1000) : runDef P n__law_same.length p__law_same.length b__law_same [.lst ds, .lst ds] S = .ok (.bl true) S := by
  refine run_pos2.trans ?_
  have hk : kindD (.lst ds) = some "list" := rfl
  have a1 := isA1 (P := P) hk "dict" (by decide)
  have a2 : isAnyD P (.lst ds) [.ty "list", .ty "tuple"] = some true := (isA (P := P) hk ["list", "tuple"] (by decide)).trans (by decide)
  have a3 := isA1 (P := P) hk "list" (by decide)
  have a4 := isA1 (P := P) hk "tuple" (by decide)
  have e1 : cmpD0 .Is (.lst ds) .non = some (.bl false) := rfl
  have e3 : ∀ ρ S', deref ρ S' (.lst ds) = some (.lst ds) := fun _ _ => rfl
  have e4 : settle (.lst ds) = pure (.lst ds) := rfl
  have e5 : ∀ b c : Bool, eqD (.bl b) (.bl c) = some (decide (b = c)) := fun _ _ => rfl
  have e6 : persist (.lst ds) = pure (.lst ds) := rfl
  have e7 : lenD (.lst ds) = some (.int ds.length) := rfl
  generalize (ds.length : Int) = z at e7
  have e8 : ∀ ρ S', deref ρ S' (.int z) = some (.int z) := fun _ _ => rfl
  have e9 : settle (.int z) = pure (.int z) := rfl
  have e10 : eqD (.int z) (.int z) = some true := by simp [eqD, scalD]
  obtain ⟨vs, S', hv, e, rfl, rfl⟩ := lc_gen (P := P) (own := [2, 3]) (tg := .tup (.cons (.nm 2) (.cons (.nm 3) .nil))) (it := .p2 .zip (.var 0) (.var 1)) (e := .call "_law_same" (.cons (.var 2) (.cons (.var 3) .nil))) (ds := zipD ds ds) (ρ := [.v (.lst ds), .v (.lst ds), .no, .no]) (ρ0 := [.v (.lst ds), .v (.lst ds), .no, .no]) (S := S) (S0 := S)
    (Q := fun k vs S' => S' = S ∧ vs = List.replicate k (D.bl true)) rfl rfl (by simp [exSs, exS, ev, evT, evs, evTs, evI, evB, evTB, evPs, m1, m2, m3, msl, mch, ofO, d1, d2, d3, look, deref, derefS, settle, persist, keep, frz, setSlot, modC, bind_def, pure_def, TM.fail, asB, tst, truD, asI, asS, callM, cmpD, cmpD0, scalD, eqD, negD, lenD, intD, idxD, gSet, gSets, gsN, itemsM, mSeq, srcD, srcV, mR1, mR2, forRun, mPar, putIx, mZip, zipS, zipQ]) ⟨rfl, rfl⟩ (fun k d vs S1 hd1 ⟨q1, q2⟩ _ => by
      subst q1
      subst q2
      obtain ⟨x, hx, rfl⟩ : ∃ x, x ∈ ds ∧ d = .tup [x, x] := by
        have hh := List.mem_of_getElem? hd1
        unfold zipD at hh
        rw [List.zipWith_self] at hh
        obtain ⟨x, hx, e⟩ := List.mem_map.mp hh
        exact ⟨x, hx, e.symm⟩
      have hsx := h x hx
      have hsm := hs x S1 hsx
      have t1 : setSlot 2 x [.v (.lst ds), .v (.lst ds), .no, .no] S1 = .ok () [.v (.lst ds), .v (.lst ds), .v x, .no] S1 := by
        cases x <;> first | exact (Bool.false_ne_true hsx).elim | rfl
      have t2 : setSlot 3 x [.v (.lst ds), .v (.lst ds), .v x, .no] S1 = .ok () [.v (.lst ds), .v (.lst ds), .v x, .v x] S1 := by
        cases x <;> first | exact (Bool.false_ne_true hsx).elim | rfl
      have t3 : persist x = pure x := by
        cases x <;> first | exact (Bool.false_ne_true hsx).elim | rfl
      refine ⟨.bl true, [.v (.lst ds), .v (.lst ds), .v x, .v x], [.v (.lst ds), .v (.lst ds), .v x, .v x], S1, S1, ?_, ?_, rfl, rfl, by rw [List.replicate_succ']⟩
      · simp [gSet, gSets, gsN, itemsM, look, deref, derefS, bind_def, pure_def, t1, t2]
      · simp [ev, evs, bind_def, pure_def, t3, hd, callM, hsm, pe_b]) (by simp [zipD]; omega)
  have ha : allD (.lst (List.replicate (zipD ds ds).length (.bl true))) = some (.bl true) := by
    have : ∀ n, blsD (List.replicate n (.bl true)) = some (List.replicate n true) := fun n => by
      induction n with
      | zero => rfl
      | succ n ih => rw [List.replicate_succ, blsD, ih]; rfl
    simp [allD, this]
  generalize List.replicate (zipD ds ds).length (D.bl true) = vs at e ha
  rw [show b__law_same = .cons (nthS b__law_same 0) (.cons (nthS b__law_same 1) (.cons (.ite (.e (.isi [(.ty "list"), (.ty "tuple")] true (.var 1))) (.cons (.ite (.bop .Or (.cons (.cmp .NotEq (.isi [(.ty "list")] false (.var 0)) (.isi [(.ty "list")] false (.var 1))) (.cons (.cmp .NotEq (.isi [(.ty "tuple")] false (.var 0)) (.isi [(.ty "tuple")] false (.var 1))) .nil))) (.cons (.ret (.cst (.bl false))) .nil) .nil) (.cons (.ret (.bop .And (.cons (.p2 (.cmp .Eq) (.p1 .len (.var 0)) (.p1 .len (.var 1))) (.cons (.p1 .allOf (.lc [2, 3] (.tup (.cons (.nm 2) (.cons (.nm 3) .nil))) (.p2 .zip (.var 0) (.var 1)) .nil (.call "_law_same" (.cons (.var 2) (.cons (.var 3) .nil))))) .nil)))) .nil)) .nil) (.cons (nthS b__law_same 3) (.cons (nthS b__law_same 4) .nil)))) from rfl]
  rw [show startR n__law_same.length [D.lst ds, D.lst ds] = [.v (.lst ds), .v (.lst ds), .no, .no] from rfl]
  generalize E.lc [2, 3] (.tup (.cons (.nm 2) (.cons (.nm 3) .nil))) (.p2 .zip (.var 0) (.var 1)) .nil (.call "_law_same" (.cons (.var 2) (.cons (.var 3) .nil))) = eL at e ⊢
  have s1 : settle (.nw (.lst vs)) = pure (.lst vs) := rfl
  have s2 : ∀ ρ S', deref ρ S' (.lst vs) = some (.lst vs) := fun _ _ => rfl
  simp [nthS, b__law_same, exSs, exS, ev, evT, evB, evTB, m1, m2, ofO, d1, d2, look, bind_def, pure_def, asB, tst, truD, cmpD, e1, e3, e4, e5, e6, e7, e8, e9, e10, a1, a2, a3, a4, kn1, kn2, st_n, st_b, pe_b, de_n, de_b, kindIs, e, ha, s1, s2]
end TM
end
section
set_option Elab.async false
set_option linter.all false
set_option maxRecDepth 100000
set_option maxHeartbeats 1000000
/-! PL9: what holds at the levels. -/
namespace TM
open PySem PySem.Spec PyProof.Rows L2
theorem fn_lev {x : Str} {m p : Nat} {b : Ss} (h : code x = some (m, p, b)) (n : Nat) (ds : List D) (S : Sto) : (I77.lev (n + 1)).fn x ds S = runDef (I77.lev n) m p b ds S := by
  have e : (I77.lev (n + 1)).fn x = I77.runF (I77.lev n) x := by cases n <;> rfl
  rw [e]
  show (match code x with
    | some (m, p, b) => runDef (I77.lev n) m p b ds S
    | none => .bad) = _
  rw [h]
theorem mk_lev (n : Nat) (ds : List D) (S : Sto) : (I77.lev (n + 2)).make SS ds S = runInit (I77.lev n) SS n_SignedString___init__.length p_SignedString___init__.length b_SignedString___init__ ds S := by
  show (match init SS with
    | some (m, p, b) => runInit (I77.lev n) SS m p b ds S
    | none => .bad) = _
  rw [show init SS = some (n_SignedString___init__.length, p_SignedString___init__.length, b_SignedString___init__) by kernel_rfl]
theorem own_lev (n : Nat) (x : Str) : (I77.lev (n + 2)).own SS x = (I77.own SS x).map (I77.runF (I77.lev n)) := rfl
theorem dflt_lev (n : Nat) : ∀ x k, (I77.lev n).dflt x k = [] := by
  match n with
  | 0 => exact fun _ _ => rfl
  | 1 => exact fun _ _ => rfl
  | _ + 2 => exact fun _ _ => rfl
theorem glob_lev (n : Nat) : (I77.lev n).glob = I77.glob := by
  match n with
  | 0 => rfl
  | 1 => rfl
  | _ + 2 => rfl
theorem fld_lev (n : Nat) : (I77.lev n).fld = I77.fld := by
  match n with
  | 0 => rfl
  | 1 => rfl
  | _ + 2 => rfl
theorem isc_lev (n : Nat) : (I77.lev n).isc = I77.isc := by
  match n with
  | 0 => rfl
  | 1 => rfl
  | _ + 2 => rfl
theorem mks_lev (n : Nat) : (I77.lev n).mks = I77.mks := by
  match n with
  | 0 => rfl
  | 1 => rfl
  | _ + 2 => rfl
theorem meth_lev (n : Nat) : (I77.lev n).meth = I77.meth := by
  match n with
  | 0 => rfl
  | 1 => rfl
  | _ + 2 => rfl
theorem xas_lev (n : Nat) : (I77.lev (n + 1)).xas = I77.xas := by
  match n with
  | 0 => rfl
  | _ + 1 => rfl
theorem g_L : I77.glob "LETTERS" = some (.str "1XZW") := by kernel_rfl
theorem g_B : I77.glob "BITS" = some (.wd (.kd bitsL)) := by kernel_rfl
theorem g_F : I77.glob "FROM_BITS" = some (.wd (.kt fromL)) := by kernel_rfl
theorem x_1 : I77.xas "InvalidString" = some (1, [(("value" : Str), XA.par 0), (("code" : Str), XA.txt "invalidstring")]) := by kernel_rfl
theorem x_2 : I77.xas "LengthMismatch" = some (0, [(("code" : Str), XA.txt "lengthmismatch")]) := by kernel_rfl
theorem F_lev (n : Nat) : FldOk (I77.lev n) := ⟨by rw [fld_lev]; decide +kernel, by rw [fld_lev]; decide +kernel⟩
theorem isc_SS (n : Nat) : (I77.lev n).isc SS = true := by rw [isc_lev]; decide +kernel
theorem mks_SS (n : Nat) : (I77.lev n).mks SS = true := by rw [mks_lev]; decide +kernel
theorem meth_SS (n : Nat) : (I77.lev n).meth SS "text" = some ("SignedString.text" : Str) := by rw [meth_lev]; kernel_rfl
theorem l_split (n : Nat) : SplitOk (I77.lev (n + 1)) := fun i l S h hl => (fn_lev (by kernel_rfl) n _ S).trans (r_split h hl)
theorem l_joined (n : Nat) : JoinOk (I77.lev (n + 1)) "joined" := fun i l S hl => (fn_lev (by kernel_rfl) n _ S).trans (r_joined hl)
theorem l_signed (n : Nat) : JoinOk (I77.lev (n + 1)) "_law_signed" := fun i l S hl => (fn_lev (by kernel_rfl) n _ S).trans (r_signed hl)
theorem l_body (n : Nat) : BodyOk (I77.lev (n + 1)) := fun i l S h hl => (fn_lev (by kernel_rfl) n _ S).trans (r_body h hl)
theorem l_table (n : Nat) (S : Sto) : (I77.lev (n + 1)).fn "_law_table_of_products" [] S = .ok (.dct tabK) S := (fn_lev (by kernel_rfl) n _ S).trans r_table
theorem l_pull (n : Nat) : PullOk ((I77.lev (n + 1)).fn "_law_pull") := fun b m k S hb h0 h1 hS => by
  obtain ⟨r, b', a1, a2, a3, e⟩ := pull_run (P := I77.lev n) b m k S hb h0 h1 hS
  exact ⟨r, b', a1, a2, a3, (fn_lev (by kernel_rfl) n _ S).trans e⟩
theorem l_bag (n : Nat) {is : List Int} {S : Sto} (h : is.length ≤ 63) : ∃ b : Bag, b.Ok ∧ (I77.lev (n + 1)).fn "_law_bag" [.scr is] S = .ok (.ref S.length) (S ++ [b.c]) := by
  obtain ⟨b, hb, e⟩ := r_bag (P := I77.lev n) (S := S) h
  exact ⟨b, hb, (fn_lev (by kernel_rfl) n _ S).trans e⟩
theorem l_same (n : Nat) : SameOk (I77.lev (n + 1)) := fun d S h => (fn_lev (by kernel_rfl) n _ S).trans (r_same_sc h)
theorem l_same_l (n : Nat) {ds : List D} {S : Sto} (h : ∀ d ∈ ds, scalar d = true) (hl : ds.length ≤ 1000) : (I77.lev (n + 2)).fn "_law_same" [.lst ds, .lst ds] S = .ok (.bl true) S := (fn_lev (by kernel_rfl) (n + 1) _ S).trans (r_same_l (dflt_lev _) (l_same n) h hl)
theorem l_check (n : Nat) (i : Int) (l : List Nat) (S : Sto) (h : Lt4 l) (hl : l.length ≤ 900) : (I77.lev (n + 2)).fn "check_string" [.str (mkS (sg i l))] S = .ok .non S := (fn_lev (by kernel_rfl) (n + 1) _ S).trans (r_check (by rw [glob_lev]; exact g_L) h hl)
theorem l_check_bad (n : Nat) (i : Int) (l : List Nat) (S : Sto) (h : NM l) (hb : ¬ Lt4 l) (hl : l.length ≤ 900) : (I77.lev (n + 2)).fn "check_string" [.str (mkS (sg i l))] S = .ex "InvalidString" [("code", .str "invalidstring"), ("value", .str (mkS (sg i l)))] S := (fn_lev (by kernel_rfl) (n + 1) _ S).trans (r_check_bad (by rw [glob_lev]; exact g_L) (by rw [xas_lev]; exact x_1) h hb hl)
theorem l_times (n : Nat) : TimesOk (I77.lev (n + 2)) "times" := fun i j xs ys S hx hy hl hn => (fn_lev (by kernel_rfl) (n + 1) _ S).trans (r_times (dflt_lev _) (by rw [glob_lev]; exact g_B) (by rw [glob_lev]; exact g_F) (l_split n) (l_joined n) hx hy hl (by omega))
theorem l_law_times (n : Nat) : TimesOk (I77.lev (n + 2)) "_law_times" := fun i j xs ys S hx hy hl hn => (fn_lev (by kernel_rfl) (n + 1) _ S).trans (r_law_times (dflt_lev _) (l_table n) (l_body n) (l_signed n) hx hy hl hn)
theorem l_of (n : Nat) : OfOk (I77.lev (n + 2)) := fun b k S hb hS => by
  obtain ⟨c, b', h1, h2, e⟩ := r_of (P := I77.lev (n + 1)) (dflt_lev _) (l_pull n) b k S hb hS
  exact ⟨c, b', h1, h2, (fn_lev (by kernel_rfl) (n + 1) _ S).trans e⟩
theorem l_text (n : Nat) (s : Int) (l : List Nat) (S : Sto) (hl : l.length ≤ 1000) : (I77.lev (n + 2)).fn "SignedString.text" [ssD s l] S = .ok (.str (mkS (sg s l))) S := (fn_lev (by kernel_rfl) (n + 1) _ S).trans (r_text (dflt_lev _) (F_lev _) (l_joined n) hl)
theorem l_all (n : Nat) {i0 i1 i2 : Int} {l0 l1 l2 : List Nat} {k : Nat} {z : Int} {S : Sto} (hz : z = k) (h0 : Lt4 l0) (h1 : Lt4 l1) (h2 : Lt4 l2) (n0 : l0.length = k) (n1 : l1.length = k) (n2 : l2.length = k) (hn : k ≤ 900) :
    (I77.lev (n + 3)).fn "_law_times_all" [.lst [.str (mkS (sg i0 l0)), .str (mkS (sg i1 l1)), .str (mkS (sg i2 l2))], .int z] S = .ok (.str (mkS (sg (i0 + i1 + prodS l0 l1 + i2 + prodS (prodL l0 l1) l2) (prodL (prodL l0 l1) l2)))) S := (fn_lev (by kernel_rfl) (n + 2) _ S).trans (r_all (dflt_lev _) (l_law_times n) hz h0 h1 h2 n0 n1 n2 hn)
theorem l_string (n : Nat) (b : Bag) (k m : Nat) (z : Int) (S : Sto) (hz : z = m) (hb : b.Ok) (hS : S[k]? = some b.c) (hn : m ≤ 900) :
    ∃ (i : Int) (l : List Nat) (b' : Bag), (i = 0 ∨ i = 1) ∧ Lt4 l ∧ l.length = m ∧ b'.Ok ∧ (I77.lev (n + 3)).fn "_law_string" [.ref k, .int z] S = .ok (.str (mkS (sg i l))) (S.set k b'.c) := by
  obtain ⟨i, l, b', h1, h2, h3, h4, e⟩ := r_string (P := I77.lev (n + 2)) (dflt_lev _) (l_pull (n + 1)) (l_of n) (l_signed (n + 1)) b k m z S hz hb hS hn
  exact ⟨i, l, b', h1, h2, h3, h4, (fn_lev (by kernel_rfl) (n + 2) _ S).trans e⟩
theorem l_make (n : Nat) : MakeOk (I77.lev (n + 4)) := ⟨mks_SS _, fun i l S h hl => (mk_lev (n + 2) _ S).trans (r_init (dflt_lev _) (F_lev _).h1 (F_lev _).h2 (l_split (n + 1)) (l_check n i l S h hl) h hl)⟩
theorem l_make_bad (n : Nat) (i : Int) (l : List Nat) (S : Sto) (h : NM l) (hb : ¬ Lt4 l) (hl : l.length ≤ 900) : (I77.lev (n + 4)).make SS [.str (mkS (sg i l))] S = .ex "InvalidString" [("code", .str "invalidstring"), ("value", .str (mkS (sg i l)))] S := (mk_lev (n + 2) _ S).trans (r_init_bad (dflt_lev _) (l_check_bad n i l S h hb hl))
/-- one's own operator, found -/
theorem own_at (n : Nat) {x y : Str} {m p : Nat} {b : Ss} (h1 : I77.own SS x = some y) (h2 : code y = some (m, p, b)) : (I77.lev (n + 2)).own SS x = some (runDef (I77.lev n) m p b) := by
  rw [own_lev, h1]
  show some (I77.runF (I77.lev n) y) = _
  congr 1
  funext ds S
  show (match code y with
    | some (m, p, b) => runDef (I77.lev n) m p b ds S
    | none => .bad) = _
  rw [h2]
end TM
end
section
set_option Elab.async false
set_option linter.all false
set_option maxRecDepth 100000
set_option maxHeartbeats 1000000
/-! PL10: the law's turn, statement by statement (printed by genturn.py). -/
namespace TM
open PySem PySem.Spec PyProof.Rows L2
def tnB : Ss := match nthS b_law 1 with
  | .forr _ _ b => b
  | _ => .nil
theorem ft2 : fits 2 = true := by decide
theorem f3 : fits 3 = true := by decide
theorem f4 : fits 4 = true := by decide
theorem f6 : fits 6 = true := by decide
theorem f9 : fits 9 = true := by decide
theorem i0 (a b c : D) : atI [a, b, c] 0 = some a := rfl
theorem i1 (a b c : D) : atI [a, b, c] 1 = some b := rfl
theorem add_lst3 (a b c d e f : D) : opD .Add (.lst [a, b, c]) (.lst [d, e, f]) = some (.nw (.lst [a, b, c, d, e, f])) := rfl
theorem eq3 {a b c : Str} (ha : PyData.strOk a = true) (hb : PyData.strOk b = true) (hc : PyData.strOk c = true) : eqD (.lst [.str a, .str b, .str c]) (.lst [.str a, .str b, .str c]) = some true := by
  simp [eqD, scalD, toPy, toPys, SeqAt.shaped, PyData.canLay0, PyData.depth, PyData.eqv, PyData.eqvAll, PyData.canLayAll0, PyData.depthAll, ha, hb, hc]
theorem eqt {a b c : Str} (ha : PyData.strOk a = true) (hb : PyData.strOk b = true) (hc : PyData.strOk c = true) : eqD (.lst [.tup [.str a, .non], .tup [.str b, .str c]]) (.lst [.tup [.str a, .non], .tup [.str b, .str c]]) = some true := by
  simp [eqD, scalD, toPy, toPys, SeqAt.shaped, PyData.canLay0, PyData.depth, PyData.eqv, PyData.eqvAll, PyData.canLayAll0, PyData.depthAll, ha, hb, hc]
structure TF (P P' : Prov) (S : Sto) (z q : Int) (e01 : Bool) (s0 s1 s2 t01 tn0 t012 rp b0 u y c0 w1 : Str) (lb : List D) (f0 f1 f2 f01 fn0 fn1 f012 fL : List (Str × D)) (M N Ln Rp Eq Cn M' : List D → Sto → Rc) (hC : Str → Bool) : Prop where
  hd : ∀ x n, P.dflt x n = []
  hd' : ∀ x n, P'.dflt x n = []
  mks : P.mks "SignedString" = true
  mks' : P'.mks "SignedString" = true
  mk0 : P.make "SignedString" [.str s0] S = .ok (.ins "SignedString" f0) S
  mk1 : P.make "SignedString" [.str s1] S = .ok (.ins "SignedString" f1) S
  mk2 : P.make "SignedString" [.str s2] S = .ok (.ins "SignedString" f2) S
  mkL : P.make "SignedString" [.str u] S = .ok (.ins "SignedString" fL) S
  mkb : P'.make "SignedString" [.str y] S = .ex "InvalidString" [("code", .str "invalidstring"), ("value", .str y)] S
  hM : P.own "SignedString" "__mul__" = some M
  hN : P.own "SignedString" "__neg__" = some N
  hLn : P.own "SignedString" "__len__" = some Ln
  hRp : P.own "SignedString" "__repr__" = some Rp
  hEq : P.own "SignedString" "__eq__" = some Eq
  hCn : P.own "SignedString" "__contains__" = some Cn
  hM' : P'.own "SignedString" "__mul__" = some M'
  m01 : M [.ins "SignedString" f0, .ins "SignedString" f1] S = .ok (.ins "SignedString" f01) S
  m012 : M [.ins "SignedString" f01, .ins "SignedString" f2] S = .ok (.ins "SignedString" f012) S
  nn : M [.ins "SignedString" fn0, .ins "SignedString" fn1] S = .ok (.ins "SignedString" f01) S
  mb : M' [.ins "SignedString" f0, .ins "SignedString" fL] S = .ex "LengthMismatch" [("code", .str "lengthmismatch")] S
  n0 : N [.ins "SignedString" f0] S = .ok (.ins "SignedString" fn0) S
  n1 : N [.ins "SignedString" f1] S = .ok (.ins "SignedString" fn1) S
  nn0 : N [.ins "SignedString" fn0] S = .ok (.ins "SignedString" f0) S
  ln : Ln [.ins "SignedString" f0] S = .ok (.int z) S
  hrp : Rp [.ins "SignedString" f1] S = .ok (.str rp) S
  z0 : 0 ≤ z
  z1 : z < 9223372036854775808
  tx : P.meth "SignedString" "text" = some ("SignedString.text" : Str)
  l01 : f01.lookup ("text" : Str) = none
  ln0 : fn0.lookup ("text" : Str) = none
  l012 : f012.lookup ("text" : Str) = none
  lo0 : f0.lookup ("text" : Str) = none
  lo1 : f1.lookup ("text" : Str) = none
  lo2 : f2.lookup ("text" : Str) = none
  x01 : P.fn "SignedString.text" [.ins "SignedString" f01] S = .ok (.str t01) S
  xn0 : P.fn "SignedString.text" [.ins "SignedString" fn0] S = .ok (.str tn0) S
  x012 : P.fn "SignedString.text" [.ins "SignedString" f012] S = .ok (.str t012) S
  x0 : P.fn "SignedString.text" [.ins "SignedString" f0] S = .ok (.str s0) S
  x1 : P.fn "SignedString.text" [.ins "SignedString" f1] S = .ok (.str s1) S
  x2 : P.fn "SignedString.text" [.ins "SignedString" f2] S = .ok (.str s2) S
  bo : P.fn "_law_body" [.str s0] S = .ok (.str b0) S
  sgn : P.fn "_law_signed" [.int q, .str b0] S = .ok (.str tn0) S
  sl : sliceD (.str s0) none (some 1) = some (.str c0)
  hc : (c0 = "-" ∧ q = 2) ∨ (c0 ≠ "-" ∧ q = 1)
  ti : P.fn "_law_times" [.str s0, .str s1] S = .ok (.str t01) S
  al : P.fn "_law_times_all" [.lst [.str s0, .str s1, .str s2], .int z] S = .ok (.str t012) S
  r1 : opD .Add (.str "SignedString(") (.str s1) = some (.str w1)
  r2 : opD .Add (.str w1) (.str ")") = some (.str rp)
  sm1 : P.fn "_law_same" [.lst [.str t01, .str tn0, .str t012, .str t01, .int z, .str rp], .lst [.str t01, .str tn0, .str t012, .str t01, .int z, .str rp]] S = .ok (.bl true) S
  q3 : eqD (.lst [.str s0, .str s1, .str s2]) (.lst [.str s0, .str s1, .str s2]) = some true
  he : eqD (.str s0) (.str s1) = some e01
  E01 : Eq [.ins "SignedString" f0, .ins "SignedString" f1] S = .ok (.bl e01) S
  E00 : Eq [.ins "SignedString" f0, .ins "SignedString" f0] S = .ok (.bl true) S
  E0s : Eq [.ins "SignedString" f0, .str s0] S = .ok (.bl false) S
  E0n : Eq [.ins "SignedString" f0, .non] S = .ok (.bl false) S
  E0i : Eq [.ins "SignedString" f0, .int 0] S = .ok (.bl false) S
  E0m : Eq [.ins "SignedString" f0, .ins "SignedString" fn0] S = .ok (.bl false) S
  sm2 : P.fn "_law_same" [.lst [.bl e01, .bl (!e01), .bl true, .bl true], .lst [.bl e01, .bl (!e01), .bl true, .bl true]] S = .ok (.bl true) S
  cn : ∀ w, Cn [.ins "SignedString" f0, .str w] S = .ok (.bl (hC w)) S
  li : listD (.str b0) = some (.nw (.lst lb))
  inb : ∀ w, inD (.str w) (.lst lb) = some (hC w)
  sm3 : ∀ ds : List Bool, ds.length ≤ 1000 → P.fn "_law_same" [.lst (ds.map .bl), .lst (ds.map .bl)] S = .ok (.bl true) S
  au : opD .Add (.str s1) (.str "Z") = some (.str u)
  ay : opD .Add (.str s0) (.str "Y") = some (.str y)
  lam : P.lam = true
  lamv : P.lamv = ev P'
  t1 : tellD P "LengthMismatch" [("code", .str "lengthmismatch")] = some (("lengthmismatch" : Str), D.non)
  t2 : tellD P "InvalidString" [("code", .str "invalidstring"), ("value", .str y)] = some (("invalidstring" : Str), D.str y)
  q4 : eqD (.lst [.tup [.str "lengthmismatch", .non], .tup [.str "invalidstring", .str y]]) (.lst [.tup [.str "lengthmismatch", .non], .tup [.str "invalidstring", .str y]]) = some true
section
variable {P P' : Prov} {S : Sto} {is : List Int} {k z q i0' : Int} {e01 : Bool} {s0 s1 s2 t01 tn0 t012 rp b0 u y c0 w1 : Str} {lb : List D} {f0 f1 f2 f01 fn0 fn1 f012 fL : List (Str × D)} {M N Ln Rp Eq Cn M' : List D → Sto → Rc} {hC : Str → Bool}
variable (h : TF P P' S z q e01 s0 s1 s2 t01 tn0 t012 rp b0 u y c0 w1 lb f0 f1 f2 f01 fn0 fn1 f012 fL M N Ln Rp Eq Cn M' hC)
include h
theorem turn_2 {j5 j6 j7 j8 j9 j10 j11 j12 j13 j14 j15 : Sl} : exS P (nthS tnB 2) [.v (.scr is), .v (.ref 0), .v (.int k), .v (.int z), .own (.lst [.str s0, .str s1, .str s2]), j5, j6, j7, j8, j9, j10, j11, j12, j13, j14, j15, .no, .no, .no] S = .ok .nx [.v (.scr is), .v (.ref 0), .v (.int k), .v (.int z), .v (.lst [.str s0, .str s1, .str s2]), j5, j6, j7, j8, j9, j10, j11, j12, .v (.ins "SignedString" f0), .v (.ins "SignedString" f1), .v (.ins "SignedString" f2), .no, .no, .no] S := by
  simp [nthS, tnB, b_law, exSs, exS, ev, evT, evs, evTs, evI, evB, evTB, evPs, m1, m2, m3, msl, mch, ofO, d1, d2, d3, look, deref, derefS, settle, persist, keep, frz, setSlot, modC, bind_def, pure_def, TM.fail, asB, tst, truD, asI, asS, callM, cmpD, cmpD0, scalD, eqD, negD, lenD, intD, idxD, gSet, gSets, gsN, itemsM, mSeq, srcD, srcV, mR1, mR2, forRun, mPar, putIx, mLc, lcRun, lcFix, lcTurn, turnB, inBlk, wipeR, backR, keepSl, mMake, h.hd, h.mks, h.mk0, h.mk1, h.mk2, f3]
theorem turn_3 {j5 j6 j7 j8 j9 j10 j11 j12 : Sl} : exS P (nthS tnB 3) [.v (.scr is), .v (.ref 0), .v (.int k), .v (.int z), .v (.lst [.str s0, .str s1, .str s2]), j5, j6, j7, j8, j9, j10, j11, j12, .v (.ins "SignedString" f0), .v (.ins "SignedString" f1), .v (.ins "SignedString" f2), .no, .no, .no] S = .ok .nx [.v (.scr is), .v (.ref 0), .v (.int k), .v (.int z), .v (.lst [.str s0, .str s1, .str s2]), .own (.lst [.str t01, .str tn0, .str t012]), j6, j7, j8, j9, j10, j11, j12, .v (.ins "SignedString" f0), .v (.ins "SignedString" f1), .v (.ins "SignedString" f2), .no, .no, .no] S := by
  simp [nthS, tnB, b_law, exSs, exS, ev, evT, evs, evTs, evI, evB, evTB, evPs, m1, m2, m3, msl, mch, ofO, d1, d2, d3, look, deref, derefS, settle, persist, keep, frz, setSlot, modC, bind_def, pure_def, TM.fail, asB, tst, truD, asI, asS, callM, cmpD, cmpD0, scalD, eqD, negD, lenD, intD, idxD, gSet, gSets, gsN, itemsM, mSeq, srcD, srcV, mR1, mR2, forRun, mPar, putIx, mMeth, mOw1, mOw2, ownF, h.hM, h.hN, h.m01, h.m012, h.n0, slf, oth, sameC, fix1, fix2, o1N, o2N, h.hd, h.tx, h.l01, h.ln0, h.l012, h.x01, h.xn0, h.x012, f3]
theorem turn_4 {j6 j7 j8 j9 j10 j11 j12 : Sl} : exS P (nthS tnB 4) [.v (.scr is), .v (.ref 0), .v (.int k), .v (.int z), .v (.lst [.str s0, .str s1, .str s2]), .own (.lst [.str t01, .str tn0, .str t012]), j6, j7, j8, j9, j10, j11, j12, .v (.ins "SignedString" f0), .v (.ins "SignedString" f1), .v (.ins "SignedString" f2), .no, .no, .no] S = .ok .nx [.v (.scr is), .v (.ref 0), .v (.int k), .v (.int z), .v (.lst [.str s0, .str s1, .str s2]), .own (.lst [.str t01, .str tn0, .str t012, .str t01, .int z, .str rp]), j6, j7, j8, j9, j10, j11, j12, .v (.ins "SignedString" f0), .v (.ins "SignedString" f1), .v (.ins "SignedString" f2), .no, .no, .no] S := by
  simp [nthS, tnB, b_law, exSs, exS, ev, evT, evs, evTs, evI, evB, evTB, evPs, m1, m2, m3, msl, mch, ofO, d1, d2, d3, look, deref, derefS, settle, persist, keep, frz, setSlot, modC, bind_def, pure_def, TM.fail, asB, tst, truD, asI, asS, callM, cmpD, cmpD0, scalD, eqD, negD, lenD, intD, idxD, gSet, gSets, gsN, itemsM, mSeq, srcD, srcV, mR1, mR2, forRun, mPar, putIx, mMeth, mOw1, mOw2, ownF, h.hM, h.hN, h.nn, h.n0, h.n1, h.hLn, h.ln, h.hRp, h.hrp, slf, oth, sameC, fix1, fix2, o1N, o2N, h.hd, h.tx, h.l01, h.x01, h.z0, h.z1, f3, add_lst3, f6]
theorem turn_5 {j6 j7 j8 j9 j10 j11 j12 : Sl} : exS P (nthS tnB 5) [.v (.scr is), .v (.ref 0), .v (.int k), .v (.int z), .v (.lst [.str s0, .str s1, .str s2]), .own (.lst [.str t01, .str tn0, .str t012, .str t01, .int z, .str rp]), j6, j7, j8, j9, j10, j11, j12, .v (.ins "SignedString" f0), .v (.ins "SignedString" f1), .v (.ins "SignedString" f2), .no, .no, .no] S = .ok .nx [.v (.scr is), .v (.ref 0), .v (.int k), .v (.int z), .v (.lst [.str s0, .str s1, .str s2]), .own (.lst [.str t01, .str tn0, .str t012, .str t01, .int z, .str rp]), .v (.str tn0), j7, j8, j9, j10, j11, j12, .v (.ins "SignedString" f0), .v (.ins "SignedString" f1), .v (.ins "SignedString" f2), .no, .no, .no] S := by
  rcases h.hc with ⟨hc, hq⟩ | ⟨hc, hq⟩ <;> subst hq <;> simp [nthS, tnB, b_law, exSs, exS, ev, evT, evs, evTs, evI, evB, evTB, evPs, m1, m2, m3, msl, mch, ofO, d1, d2, d3, look, deref, derefS, settle, persist, keep, frz, setSlot, modC, bind_def, pure_def, TM.fail, asB, tst, truD, asI, asS, callM, cmpD, cmpD0, scalD, eqD, negD, lenD, intD, idxD, gSet, gSets, gsN, itemsM, mSeq, srcD, srcV, mR1, mR2, forRun, mPar, putIx, h.hd, h.bo, h.sgn, toD, h.sl, i0, add_int, hc]
theorem turn_6 {j7 j8 j9 j10 j11 j12 : Sl} : exS P (nthS tnB 6) [.v (.scr is), .v (.ref 0), .v (.int k), .v (.int z), .v (.lst [.str s0, .str s1, .str s2]), .own (.lst [.str t01, .str tn0, .str t012, .str t01, .int z, .str rp]), .v (.str tn0), j7, j8, j9, j10, j11, j12, .v (.ins "SignedString" f0), .v (.ins "SignedString" f1), .v (.ins "SignedString" f2), .no, .no, .no] S = .ok .nx [.v (.scr is), .v (.ref 0), .v (.int k), .v (.int z), .v (.lst [.str s0, .str s1, .str s2]), .own (.lst [.str t01, .str tn0, .str t012, .str t01, .int z, .str rp]), .v (.str tn0), .own (.lst [.str t01, .str tn0, .str t012]), j8, j9, j10, j11, j12, .v (.ins "SignedString" f0), .v (.ins "SignedString" f1), .v (.ins "SignedString" f2), .no, .no, .no] S := by
  simp [nthS, tnB, b_law, exSs, exS, ev, evT, evs, evTs, evI, evB, evTB, evPs, m1, m2, m3, msl, mch, ofO, d1, d2, d3, look, deref, derefS, settle, persist, keep, frz, setSlot, modC, bind_def, pure_def, TM.fail, asB, tst, truD, asI, asS, callM, cmpD, cmpD0, scalD, eqD, negD, lenD, intD, idxD, gSet, gSets, gsN, itemsM, mSeq, srcD, srcV, mR1, mR2, forRun, mPar, putIx, h.hd, h.ti, h.al, i0, i1, f3]
theorem turn_7 {j8 j9 j10 j11 j12 : Sl} : exS P (nthS tnB 7) [.v (.scr is), .v (.ref 0), .v (.int k), .v (.int z), .v (.lst [.str s0, .str s1, .str s2]), .own (.lst [.str t01, .str tn0, .str t012, .str t01, .int z, .str rp]), .v (.str tn0), .own (.lst [.str t01, .str tn0, .str t012]), j8, j9, j10, j11, j12, .v (.ins "SignedString" f0), .v (.ins "SignedString" f1), .v (.ins "SignedString" f2), .no, .no, .no] S = .ok .nx [.v (.scr is), .v (.ref 0), .v (.int k), .v (.int z), .v (.lst [.str s0, .str s1, .str s2]), .own (.lst [.str t01, .str tn0, .str t012, .str t01, .int z, .str rp]), .v (.str tn0), .own (.lst [.str t01, .str tn0, .str t012, .str t01, .int z, .str rp]), j8, j9, j10, j11, j12, .v (.ins "SignedString" f0), .v (.ins "SignedString" f1), .v (.ins "SignedString" f2), .no, .no, .no] S := by
  simp [nthS, tnB, b_law, exSs, exS, ev, evT, evs, evTs, evI, evB, evTB, evPs, m1, m2, m3, msl, mch, ofO, d1, d2, d3, look, deref, derefS, settle, persist, keep, frz, setSlot, modC, bind_def, pure_def, TM.fail, asB, tst, truD, asI, asS, callM, cmpD, cmpD0, scalD, eqD, negD, lenD, intD, idxD, gSet, gSets, gsN, itemsM, mSeq, srcD, srcV, mR1, mR2, forRun, mPar, putIx, i0, i1, h.r1, h.r2, f3, add_lst3, f6]
theorem turn_8 {j8 j9 j10 j11 j12 : Sl} : exS P (nthS tnB 8) [.v (.scr is), .v (.ref 0), .v (.int k), .v (.int z), .v (.lst [.str s0, .str s1, .str s2]), .own (.lst [.str t01, .str tn0, .str t012, .str t01, .int z, .str rp]), .v (.str tn0), .own (.lst [.str t01, .str tn0, .str t012, .str t01, .int z, .str rp]), j8, j9, j10, j11, j12, .v (.ins "SignedString" f0), .v (.ins "SignedString" f1), .v (.ins "SignedString" f2), .no, .no, .no] S = .ok .nx [.v (.scr is), .v (.ref 0), .v (.int k), .v (.int z), .v (.lst [.str s0, .str s1, .str s2]), .v (.lst [.str t01, .str tn0, .str t012, .str t01, .int z, .str rp]), .v (.str tn0), .v (.lst [.str t01, .str tn0, .str t012, .str t01, .int z, .str rp]), j8, j9, j10, j11, j12, .v (.ins "SignedString" f0), .v (.ins "SignedString" f1), .v (.ins "SignedString" f2), .no, .no, .no] S := by
  simp [nthS, tnB, b_law, exSs, exS, ev, evT, evs, evTs, evI, evB, evTB, evPs, m1, m2, m3, msl, mch, ofO, d1, d2, d3, look, deref, derefS, settle, persist, keep, frz, setSlot, modC, bind_def, pure_def, TM.fail, asB, tst, truD, asI, asS, callM, cmpD, cmpD0, negD, lenD, intD, idxD, gSet, gSets, gsN, itemsM, mSeq, srcD, srcV, mR1, mR2, forRun, mPar, putIx, h.hd, h.sm1, mMeth, h.tx, h.lo0, h.lo1, h.lo2, h.x0, h.x1, h.x2, f3, h.q3]
theorem turn_9 {j8 j9 j10 j11 j12 : Sl} : exS P (nthS tnB 9) [.v (.scr is), .v (.ref 0), .v (.int k), .v (.int z), .v (.lst [.str s0, .str s1, .str s2]), .v (.lst [.str t01, .str tn0, .str t012, .str t01, .int z, .str rp]), .v (.str tn0), .v (.lst [.str t01, .str tn0, .str t012, .str t01, .int z, .str rp]), j8, j9, j10, j11, j12, .v (.ins "SignedString" f0), .v (.ins "SignedString" f1), .v (.ins "SignedString" f2), .no, .no, .no] S = .ok .nx [.v (.scr is), .v (.ref 0), .v (.int k), .v (.int z), .v (.lst [.str s0, .str s1, .str s2]), .v (.lst [.str t01, .str tn0, .str t012, .str t01, .int z, .str rp]), .v (.str tn0), .v (.lst [.str t01, .str tn0, .str t012, .str t01, .int z, .str rp]), .v (.bl e01), j9, j10, j11, j12, .v (.ins "SignedString" f0), .v (.ins "SignedString" f1), .v (.ins "SignedString" f2), .no, .no, .no] S := by
  simp [nthS, tnB, b_law, exSs, exS, ev, evT, evs, evTs, evI, evB, evTB, evPs, m1, m2, m3, msl, mch, ofO, d1, d2, d3, look, deref, derefS, settle, persist, keep, frz, setSlot, modC, bind_def, pure_def, TM.fail, asB, tst, truD, asI, asS, callM, cmpD, cmpD0, negD, lenD, intD, idxD, gSet, gSets, gsN, itemsM, mSeq, srcD, srcV, mR1, mR2, forRun, mPar, putIx, i0, i1, h.he]
theorem turn_10 {j9 j10 j11 j12 : Sl} : exS P (nthS tnB 10) [.v (.scr is), .v (.ref 0), .v (.int k), .v (.int z), .v (.lst [.str s0, .str s1, .str s2]), .v (.lst [.str t01, .str tn0, .str t012, .str t01, .int z, .str rp]), .v (.str tn0), .v (.lst [.str t01, .str tn0, .str t012, .str t01, .int z, .str rp]), .v (.bl e01), j9, j10, j11, j12, .v (.ins "SignedString" f0), .v (.ins "SignedString" f1), .v (.ins "SignedString" f2), .no, .no, .no] S = .ok .nx [.v (.scr is), .v (.ref 0), .v (.int k), .v (.int z), .v (.lst [.str s0, .str s1, .str s2]), .v (.lst [.str t01, .str tn0, .str t012, .str t01, .int z, .str rp]), .v (.str tn0), .v (.lst [.str t01, .str tn0, .str t012, .str t01, .int z, .str rp]), .v (.bl e01), .own (.lst [.bl e01, .bl (!e01), .bl true, .bl true]), j10, j11, j12, .v (.ins "SignedString" f0), .v (.ins "SignedString" f1), .v (.ins "SignedString" f2), .no, .no, .no] S := by
  simp [nthS, tnB, b_law, exSs, exS, ev, evT, evs, evTs, evI, evB, evTB, evPs, m1, m2, m3, msl, mch, ofO, d1, d2, d3, look, deref, derefS, settle, persist, keep, frz, setSlot, modC, bind_def, pure_def, TM.fail, asB, tst, truD, asI, asS, callM, cmpD, cmpD0, scalD, eqD, negD, lenD, intD, idxD, gSet, gSets, gsN, itemsM, mSeq, srcD, srcV, mR1, mR2, forRun, mPar, putIx, mOw1, mOw2, mMake, ownF, h.hN, h.hEq, h.E01, h.E00, h.n0, h.nn0, h.mks, h.mk0, h.hd, slf, oth, sameC, fix1, fix2, o1N, o2N, f4, i0]
theorem turn_11 {j10 j11 j12 : Sl} : exS P (nthS tnB 11) [.v (.scr is), .v (.ref 0), .v (.int k), .v (.int z), .v (.lst [.str s0, .str s1, .str s2]), .v (.lst [.str t01, .str tn0, .str t012, .str t01, .int z, .str rp]), .v (.str tn0), .v (.lst [.str t01, .str tn0, .str t012, .str t01, .int z, .str rp]), .v (.bl e01), .own (.lst [.bl e01, .bl (!e01), .bl true, .bl true]), j10, j11, j12, .v (.ins "SignedString" f0), .v (.ins "SignedString" f1), .v (.ins "SignedString" f2), .no, .no, .no] S = .ok .nx [.v (.scr is), .v (.ref 0), .v (.int k), .v (.int z), .v (.lst [.str s0, .str s1, .str s2]), .v (.lst [.str t01, .str tn0, .str t012, .str t01, .int z, .str rp]), .v (.str tn0), .v (.lst [.str t01, .str tn0, .str t012, .str t01, .int z, .str rp]), .v (.bl e01), .v (.lst [.bl e01, .bl (!e01), .bl true, .bl true]), j10, j11, j12, .v (.ins "SignedString" f0), .v (.ins "SignedString" f1), .v (.ins "SignedString" f2), .no, .no, .no] S := by
  simp [nthS, tnB, b_law, exSs, exS, ev, evT, evs, evTs, evI, evB, evTB, evPs, m1, m2, m3, msl, mch, ofO, d1, d2, d3, look, deref, derefS, settle, persist, keep, frz, setSlot, modC, bind_def, pure_def, TM.fail, asB, tst, truD, asI, asS, callM, cmpD, cmpD0, scalD, eqD, negD, lenD, intD, idxD, gSet, gSets, gsN, itemsM, mSeq, srcD, srcV, mR1, mR2, forRun, mPar, putIx, h.hd, h.sm2, f4]
theorem turn_12 {j10 j11 j12 : Sl} : exS P (nthS tnB 12) [.v (.scr is), .v (.ref 0), .v (.int k), .v (.int z), .v (.lst [.str s0, .str s1, .str s2]), .v (.lst [.str t01, .str tn0, .str t012, .str t01, .int z, .str rp]), .v (.str tn0), .v (.lst [.str t01, .str tn0, .str t012, .str t01, .int z, .str rp]), .v (.bl e01), .v (.lst [.bl e01, .bl (!e01), .bl true, .bl true]), j10, j11, j12, .v (.ins "SignedString" f0), .v (.ins "SignedString" f1), .v (.ins "SignedString" f2), .no, .no, .no] S = .ok .nx [.v (.scr is), .v (.ref 0), .v (.int k), .v (.int z), .v (.lst [.str s0, .str s1, .str s2]), .v (.lst [.str t01, .str tn0, .str t012, .str t01, .int z, .str rp]), .v (.str tn0), .v (.lst [.str t01, .str tn0, .str t012, .str t01, .int z, .str rp]), .v (.bl e01), .v (.lst [.bl e01, .bl (!e01), .bl true, .bl true]), j10, j11, j12, .v (.ins "SignedString" f0), .v (.ins "SignedString" f1), .v (.ins "SignedString" f2), .no, .no, .no] S := by
  simp [nthS, tnB, b_law, exSs, exS, ev, evT, evs, evTs, evI, evB, evTB, evPs, m1, m2, m3, msl, mch, ofO, d1, d2, d3, look, deref, derefS, settle, persist, keep, frz, setSlot, modC, bind_def, pure_def, TM.fail, asB, tst, truD, asI, asS, callM, cmpD, cmpD0, scalD, eqD, negD, lenD, intD, idxD, gSet, gSets, gsN, itemsM, mSeq, srcD, srcV, mR1, mR2, forRun, mPar, putIx, mOw1, mOw2, mInl, inlL, noEqD, ownF, h.hN, h.hEq, h.E0s, h.E0n, h.E0i, h.E0m, h.n0, slf, oth, sameC, fix1, fix2, o1N, o2N, f3, i0]
theorem turn_13 {j10 j11 j12 : Sl} : exS P (nthS tnB 13) [.v (.scr is), .v (.ref 0), .v (.int k), .v (.int z), .v (.lst [.str s0, .str s1, .str s2]), .v (.lst [.str t01, .str tn0, .str t012, .str t01, .int z, .str rp]), .v (.str tn0), .v (.lst [.str t01, .str tn0, .str t012, .str t01, .int z, .str rp]), .v (.bl e01), .v (.lst [.bl e01, .bl (!e01), .bl true, .bl true]), j10, j11, j12, .v (.ins "SignedString" f0), .v (.ins "SignedString" f1), .v (.ins "SignedString" f2), .no, .no, .no] S = .ok .nx [.v (.scr is), .v (.ref 0), .v (.int k), .v (.int z), .v (.lst [.str s0, .str s1, .str s2]), .v (.lst [.str t01, .str tn0, .str t012, .str t01, .int z, .str rp]), .v (.str tn0), .v (.lst [.str t01, .str tn0, .str t012, .str t01, .int z, .str rp]), .v (.bl e01), .v (.lst [.bl e01, .bl (!e01), .bl true, .bl true]), .own (.lst [.str "1", .str "X", .str "Z", .str "W", .str "Y", .str "-", .str "", .str "XZ", .str s0]), j11, j12, .v (.ins "SignedString" f0), .v (.ins "SignedString" f1), .v (.ins "SignedString" f2), .no, .no, .no] S := by
  simp [nthS, tnB, b_law, exSs, exS, ev, evT, evs, evTs, evI, evB, evTB, evPs, m1, m2, m3, msl, mch, ofO, d1, d2, d3, look, deref, derefS, settle, persist, keep, frz, setSlot, modC, bind_def, pure_def, TM.fail, asB, tst, truD, asI, asS, callM, cmpD, cmpD0, scalD, eqD, negD, lenD, intD, idxD, gSet, gSets, gsN, itemsM, mSeq, srcD, srcV, mR1, mR2, forRun, mPar, putIx, i0, f9]
theorem turn_14 {j11 j12 : Sl} : exS P (nthS tnB 14) [.v (.scr is), .v (.ref 0), .v (.int k), .v (.int z), .v (.lst [.str s0, .str s1, .str s2]), .v (.lst [.str t01, .str tn0, .str t012, .str t01, .int z, .str rp]), .v (.str tn0), .v (.lst [.str t01, .str tn0, .str t012, .str t01, .int z, .str rp]), .v (.bl e01), .v (.lst [.bl e01, .bl (!e01), .bl true, .bl true]), .own (.lst [.str "1", .str "X", .str "Z", .str "W", .str "Y", .str "-", .str "", .str "XZ", .str s0]), j11, j12, .v (.ins "SignedString" f0), .v (.ins "SignedString" f1), .v (.ins "SignedString" f2), .no, .no, .no] S = .ok .nx [.v (.scr is), .v (.ref 0), .v (.int k), .v (.int z), .v (.lst [.str s0, .str s1, .str s2]), .v (.lst [.str t01, .str tn0, .str t012, .str t01, .int z, .str rp]), .v (.str tn0), .v (.lst [.str t01, .str tn0, .str t012, .str t01, .int z, .str rp]), .v (.bl e01), .own (.lst [.bl (hC "1"), .bl (hC "X"), .bl (hC "Z"), .bl (hC "W"), .bl (hC "Y"), .bl (hC "-"), .bl (hC ""), .bl (hC "XZ"), .bl (hC s0)]), .v (.lst [.str "1", .str "X", .str "Z", .str "W", .str "Y", .str "-", .str "", .str "XZ", .str s0]), j11, j12, .v (.ins "SignedString" f0), .v (.ins "SignedString" f1), .v (.ins "SignedString" f2), .no, .no, .no] S := by
  simp [nthS, tnB, b_law, exSs, exS, ev, evT, evs, evTs, evI, evB, evTB, evPs, m1, m2, m3, msl, mch, ofO, d1, d2, d3, look, deref, derefS, settle, persist, keep, frz, setSlot, modC, bind_def, pure_def, TM.fail, asB, tst, truD, asI, asS, callM, cmpD, cmpD0, scalD, eqD, negD, lenD, intD, idxD, gSet, gSets, gsN, itemsM, mSeq, srcD, srcV, mR1, mR2, forRun, mPar, putIx, mLc, lcRun, lcFix, lcTurn, turnB, inBlk, wipeR, backR, keepSl, mOw2, ownF, h.hCn, h.cn, slf, oth, sameC, fix2, o2N, f9]
theorem turn_15 {j11 j12 : Sl} : exS P (nthS tnB 15) [.v (.scr is), .v (.ref 0), .v (.int k), .v (.int z), .v (.lst [.str s0, .str s1, .str s2]), .v (.lst [.str t01, .str tn0, .str t012, .str t01, .int z, .str rp]), .v (.str tn0), .v (.lst [.str t01, .str tn0, .str t012, .str t01, .int z, .str rp]), .v (.bl e01), .own (.lst [.bl (hC "1"), .bl (hC "X"), .bl (hC "Z"), .bl (hC "W"), .bl (hC "Y"), .bl (hC "-"), .bl (hC ""), .bl (hC "XZ"), .bl (hC s0)]), .v (.lst [.str "1", .str "X", .str "Z", .str "W", .str "Y", .str "-", .str "", .str "XZ", .str s0]), j11, j12, .v (.ins "SignedString" f0), .v (.ins "SignedString" f1), .v (.ins "SignedString" f2), .no, .no, .no] S = .ok .nx [.v (.scr is), .v (.ref 0), .v (.int k), .v (.int z), .v (.lst [.str s0, .str s1, .str s2]), .v (.lst [.str t01, .str tn0, .str t012, .str t01, .int z, .str rp]), .v (.str tn0), .v (.lst [.str t01, .str tn0, .str t012, .str t01, .int z, .str rp]), .v (.bl e01), .v (.lst [.bl (hC "1"), .bl (hC "X"), .bl (hC "Z"), .bl (hC "W"), .bl (hC "Y"), .bl (hC "-"), .bl (hC ""), .bl (hC "XZ"), .bl (hC s0)]), .v (.lst [.str "1", .str "X", .str "Z", .str "W", .str "Y", .str "-", .str "", .str "XZ", .str s0]), j11, j12, .v (.ins "SignedString" f0), .v (.ins "SignedString" f1), .v (.ins "SignedString" f2), .no, .no, .no] S := by
  have sm := h.sm3 [hC "1", hC "X", hC "Z", hC "W", hC "Y", hC "-", hC "", hC "XZ", hC s0] (by simp)
  simp only [List.map] at sm
  simp [nthS, tnB, b_law, exSs, exS, ev, evT, evs, evTs, evI, evB, evTB, evPs, m1, m2, m3, msl, mch, ofO, d1, d2, d3, look, deref, derefS, settle, persist, keep, frz, setSlot, modC, bind_def, pure_def, TM.fail, asB, tst, truD, asI, asS, callM, cmpD, cmpD0, scalD, eqD, negD, lenD, intD, idxD, gSet, gSets, gsN, itemsM, mSeq, srcD, srcV, mR1, mR2, forRun, mPar, putIx, mLc, lcRun, lcFix, lcTurn, turnB, inBlk, wipeR, backR, keepSl, h.hd, h.bo, h.li, h.inb, i0, f9, sm]
theorem turn_16 {j11 j12 : Sl} : exS P (nthS tnB 16) [.v (.scr is), .v (.ref 0), .v (.int k), .v (.int z), .v (.lst [.str s0, .str s1, .str s2]), .v (.lst [.str t01, .str tn0, .str t012, .str t01, .int z, .str rp]), .v (.str tn0), .v (.lst [.str t01, .str tn0, .str t012, .str t01, .int z, .str rp]), .v (.bl e01), .v (.lst [.bl (hC "1"), .bl (hC "X"), .bl (hC "Z"), .bl (hC "W"), .bl (hC "Y"), .bl (hC "-"), .bl (hC ""), .bl (hC "XZ"), .bl (hC s0)]), .v (.lst [.str "1", .str "X", .str "Z", .str "W", .str "Y", .str "-", .str "", .str "XZ", .str s0]), j11, j12, .v (.ins "SignedString" f0), .v (.ins "SignedString" f1), .v (.ins "SignedString" f2), .no, .no, .no] S = .ok .nx [.v (.scr is), .v (.ref 0), .v (.int k), .v (.int z), .v (.lst [.str s0, .str s1, .str s2]), .v (.lst [.str t01, .str tn0, .str t012, .str t01, .int z, .str rp]), .v (.str tn0), .v (.lst [.str t01, .str tn0, .str t012, .str t01, .int z, .str rp]), .v (.bl e01), .v (.lst [.bl (hC "1"), .bl (hC "X"), .bl (hC "Z"), .bl (hC "W"), .bl (hC "Y"), .bl (hC "-"), .bl (hC ""), .bl (hC "XZ"), .bl (hC s0)]), .v (.lst [.str "1", .str "X", .str "Z", .str "W", .str "Y", .str "-", .str "", .str "XZ", .str s0]), .own (.ins "SignedString" fL), j12, .v (.ins "SignedString" f0), .v (.ins "SignedString" f1), .v (.ins "SignedString" f2), .no, .no, .no] S := by
  simp [nthS, tnB, b_law, exSs, exS, ev, evT, evs, evTs, evI, evB, evTB, evPs, m1, m2, m3, msl, mch, ofO, d1, d2, d3, look, deref, derefS, settle, persist, keep, frz, setSlot, modC, bind_def, pure_def, TM.fail, asB, tst, truD, asI, asS, callM, cmpD, cmpD0, scalD, eqD, negD, lenD, intD, idxD, gSet, gSets, gsN, itemsM, mSeq, srcD, srcV, mR1, mR2, forRun, mPar, putIx, mMake, h.hd, h.mks, h.mkL, i1, h.au]
theorem turn_17 {j12 : Sl} : exS P (nthS tnB 17) [.v (.scr is), .v (.ref 0), .v (.int k), .v (.int z), .v (.lst [.str s0, .str s1, .str s2]), .v (.lst [.str t01, .str tn0, .str t012, .str t01, .int z, .str rp]), .v (.str tn0), .v (.lst [.str t01, .str tn0, .str t012, .str t01, .int z, .str rp]), .v (.bl e01), .v (.lst [.bl (hC "1"), .bl (hC "X"), .bl (hC "Z"), .bl (hC "W"), .bl (hC "Y"), .bl (hC "-"), .bl (hC ""), .bl (hC "XZ"), .bl (hC s0)]), .v (.lst [.str "1", .str "X", .str "Z", .str "W", .str "Y", .str "-", .str "", .str "XZ", .str s0]), .own (.ins "SignedString" fL), j12, .v (.ins "SignedString" f0), .v (.ins "SignedString" f1), .v (.ins "SignedString" f2), .no, .no, .no] S = .ok .nx [.v (.scr is), .v (.ref 0), .v (.int k), .v (.int z), .v (.lst [.str s0, .str s1, .str s2]), .v (.lst [.str t01, .str tn0, .str t012, .str t01, .int z, .str rp]), .v (.str tn0), .v (.lst [.str t01, .str tn0, .str t012, .str t01, .int z, .str rp]), .v (.bl e01), .v (.lst [.bl (hC "1"), .bl (hC "X"), .bl (hC "Z"), .bl (hC "W"), .bl (hC "Y"), .bl (hC "-"), .bl (hC ""), .bl (hC "XZ"), .bl (hC s0)]), .v (.lst [.str "1", .str "X", .str "Z", .str "W", .str "Y", .str "-", .str "", .str "XZ", .str s0]), .v (.ins "SignedString" fL), .own (.lst [.tup [.str "lengthmismatch", .non], .tup [.str "invalidstring", .str y]]), .v (.ins "SignedString" f0), .v (.ins "SignedString" f1), .v (.ins "SignedString" f2), .no, .no, .no] S := by
  simp [nthS, tnB, b_law, exSs, exS, ev, evT, evs, evTs, evI, evB, evTB, evPs, m1, m2, m3, msl, mch, ofO, d1, d2, d3, look, deref, derefS, settle, persist, keep, frz, setSlot, modC, bind_def, pure_def, TM.fail, asB, tst, truD, asI, asS, callM, cmpD, cmpD0, scalD, eqD, negD, lenD, intD, idxD, gSet, gSets, gsN, itemsM, mSeq, srcD, srcV, mR1, mR2, forRun, mPar, putIx, mMake, mTried, mOw2, ownF, h.lam, h.lamv, h.hM', h.mb, slf, oth, sameC, fix2, o2N, h.hd', h.mks', h.mkb, h.ay, i0, h.t1, h.t2, ft2]
theorem turn_18 : exS P (nthS tnB 18) [.v (.scr is), .v (.ref 0), .v (.int k), .v (.int z), .v (.lst [.str s0, .str s1, .str s2]), .v (.lst [.str t01, .str tn0, .str t012, .str t01, .int z, .str rp]), .v (.str tn0), .v (.lst [.str t01, .str tn0, .str t012, .str t01, .int z, .str rp]), .v (.bl e01), .v (.lst [.bl (hC "1"), .bl (hC "X"), .bl (hC "Z"), .bl (hC "W"), .bl (hC "Y"), .bl (hC "-"), .bl (hC ""), .bl (hC "XZ"), .bl (hC s0)]), .v (.lst [.str "1", .str "X", .str "Z", .str "W", .str "Y", .str "-", .str "", .str "XZ", .str s0]), .v (.ins "SignedString" fL), .own (.lst [.tup [.str "lengthmismatch", .non], .tup [.str "invalidstring", .str y]]), .v (.ins "SignedString" f0), .v (.ins "SignedString" f1), .v (.ins "SignedString" f2), .no, .no, .no] S = .ok .nx [.v (.scr is), .v (.ref 0), .v (.int k), .v (.int z), .v (.lst [.str s0, .str s1, .str s2]), .v (.lst [.str t01, .str tn0, .str t012, .str t01, .int z, .str rp]), .v (.str tn0), .v (.lst [.str t01, .str tn0, .str t012, .str t01, .int z, .str rp]), .v (.bl e01), .v (.lst [.bl (hC "1"), .bl (hC "X"), .bl (hC "Z"), .bl (hC "W"), .bl (hC "Y"), .bl (hC "-"), .bl (hC ""), .bl (hC "XZ"), .bl (hC s0)]), .v (.lst [.str "1", .str "X", .str "Z", .str "W", .str "Y", .str "-", .str "", .str "XZ", .str s0]), .v (.ins "SignedString" fL), .own (.lst [.tup [.str "lengthmismatch", .non], .tup [.str "invalidstring", .str y]]), .v (.ins "SignedString" f0), .v (.ins "SignedString" f1), .v (.ins "SignedString" f2), .no, .no, .no] S := by
  simp [nthS, tnB, b_law, exSs, exS, ev, evT, evs, evTs, evI, evB, evTB, evPs, m1, m2, m3, msl, mch, ofO, d1, d2, d3, look, deref, derefS, settle, persist, keep, frz, setSlot, modC, bind_def, pure_def, TM.fail, asB, tst, truD, asI, asS, callM, cmpD, cmpD0, negD, lenD, intD, idxD, gSet, gSets, gsN, itemsM, mSeq, srcD, srcV, mR1, mR2, forRun, mPar, putIx, i0, h.ay, ft2, h.q4]
theorem turn_all {j5 j6 j7 j8 j9 j10 j11 j12 j13 j14 j15 : Sl} : ∃ i3 i4 i5 i6 i7 i8 i9 i10 i11 i12 i13 i14 i15, exSs P (.cons (nthS tnB 2) (.cons (nthS tnB 3) (.cons (nthS tnB 4) (.cons (nthS tnB 5) (.cons (nthS tnB 6) (.cons (nthS tnB 7) (.cons (nthS tnB 8) (.cons (nthS tnB 9) (.cons (nthS tnB 10) (.cons (nthS tnB 11) (.cons (nthS tnB 12) (.cons (nthS tnB 13) (.cons (nthS tnB 14) (.cons (nthS tnB 15) (.cons (nthS tnB 16) (.cons (nthS tnB 17) (.cons (nthS tnB 18) .nil))))))))))))))))) [.v (.scr is), .v (.ref 0), .v (.int k), .v (.int z), .own (.lst [.str s0, .str s1, .str s2]), j5, j6, j7, j8, j9, j10, j11, j12, j13, j14, j15, .no, .no, .no] S = .ok .nx [.v (.scr is), .v (.ref 0), .v (.int k), i3, i4, i5, i6, i7, i8, i9, i10, i11, i12, i13, i14, i15, .no, .no, .no] S := by
  have e : exSs P (.cons (nthS tnB 2) (.cons (nthS tnB 3) (.cons (nthS tnB 4) (.cons (nthS tnB 5) (.cons (nthS tnB 6) (.cons (nthS tnB 7) (.cons (nthS tnB 8) (.cons (nthS tnB 9) (.cons (nthS tnB 10) (.cons (nthS tnB 11) (.cons (nthS tnB 12) (.cons (nthS tnB 13) (.cons (nthS tnB 14) (.cons (nthS tnB 15) (.cons (nthS tnB 16) (.cons (nthS tnB 17) (.cons (nthS tnB 18) .nil))))))))))))))))) [.v (.scr is), .v (.ref 0), .v (.int k), .v (.int z), .own (.lst [.str s0, .str s1, .str s2]), j5, j6, j7, j8, j9, j10, j11, j12, j13, j14, j15, .no, .no, .no] S = .ok .nx [.v (.scr is), .v (.ref 0), .v (.int k), .v (.int z), .v (.lst [.str s0, .str s1, .str s2]), .v (.lst [.str t01, .str tn0, .str t012, .str t01, .int z, .str rp]), .v (.str tn0), .v (.lst [.str t01, .str tn0, .str t012, .str t01, .int z, .str rp]), .v (.bl e01), .v (.lst [.bl (hC "1"), .bl (hC "X"), .bl (hC "Z"), .bl (hC "W"), .bl (hC "Y"), .bl (hC "-"), .bl (hC ""), .bl (hC "XZ"), .bl (hC s0)]), .v (.lst [.str "1", .str "X", .str "Z", .str "W", .str "Y", .str "-", .str "", .str "XZ", .str s0]), .v (.ins "SignedString" fL), .own (.lst [.tup [.str "lengthmismatch", .non], .tup [.str "invalidstring", .str y]]), .v (.ins "SignedString" f0), .v (.ins "SignedString" f1), .v (.ins "SignedString" f2), .no, .no, .no] S := by
    rw [exSs_cons (turn_2 h), exSs_cons (turn_3 h), exSs_cons (turn_4 h), exSs_cons (turn_5 h), exSs_cons (turn_6 h), exSs_cons (turn_7 h), exSs_cons (turn_8 h), exSs_cons (turn_9 h), exSs_cons (turn_10 h), exSs_cons (turn_11 h), exSs_cons (turn_12 h), exSs_cons (turn_13 h), exSs_cons (turn_14 h), exSs_cons (turn_15 h), exSs_cons (turn_16 h), exSs_cons (turn_17 h), exSs_cons (turn_18 h)]
    rfl
  exact ⟨_, _, _, _, _, _, _, _, _, _, _, _, _, e⟩
end
end TM
end
section
set_option Elab.async false
set_option linter.all false
set_option maxRecDepth 100000
set_option maxHeartbeats 1000000
/-! PL11: the plain law of k77; the row. -/
namespace TM
open PySem PySem.Spec PyProof.Rows L2
def fl (i : Int) (l : List Nat) : List (Str × D) := [("sign", .int i), ("letters", .str (mkS l))]
theorem sg_app (i : Int) (l r : List Nat) : sg i l ++ r = sg i (l ++ r) := by
  unfold sg
  split <;> rfl
theorem sg_inj {i j : Int} {l r : List Nat} (hi : i = 0 ∨ i = 1) (hj : j = 0 ∨ j = 1) (hl : Lt4 l) (hr : Lt4 r) : sg i l = sg j r ↔ (l = r ∧ i = j) := by
  constructor
  · intro h
    have a := take_sg (i := i) hl
    have b := take_sg (i := j) hr
    rw [h] at a
    have e : i = j := by
      rcases hi with rfl | rfl <;> rcases hj with rfl | rfl
      · rfl
      · exact absurd (a.mp (b.mpr rfl)) (by decide)
      · exact absurd (b.mp (a.mpr rfl)) (by decide)
      · rfl
    subst e
    refine ⟨?_, rfl⟩
    unfold sg at h
    split at h
    · simpa using h
    · exact h
  · rintro ⟨rfl, rfl⟩
    rfl
theorem ok_mk {l : List Nat} (h : ∀ c ∈ l, c < 1114112) : PyData.strOk (mkS l) = true := by
  unfold PyData.strOk mkS
  simpa using h
theorem ok_sg {i : Int} {l : List Nat} (h : ∀ c ∈ l, c < 1114112) : PyData.strOk (mkS (sg i l)) = true := ok_mk fun c hc => by
  unfold sg at hc
  split at hc
  · rcases List.mem_cons.mp hc with rfl | hc
    · decide
    · exact h c hc
  · exact h c hc
theorem Lt4.lt {l : List Nat} (h : Lt4 l) : ∀ c ∈ l, c < 1114112 := fun c hc => by
  have := h c hc
  omega
theorem Lt4.app {l : List Nat} (h : Lt4 l) {c : Nat} (hc : L4 c) : Lt4 (l ++ [c]) := fun a ha => by
  rcases List.mem_append.mp ha with h' | h'
  · exact h a h'
  · rw [List.mem_singleton.mp h']; exact hc
theorem levL_fn (n : Nat) : (I77.levL n).fn = (I77.lev (n + 2)).fn := rfl
theorem levL_make (n : Nat) : (I77.levL n).make = (I77.lev (n + 2)).make := rfl
theorem levL_own (n : Nat) : (I77.levL n).own = (I77.lev (n + 2)).own := rfl
theorem row_1 : rowsD [("code", .str "lengthmismatch")] "lengthmismatch" tellRows = some .non := by kernel_rfl
theorem row_2 (y : Str) : rowsD [("code", .str "invalidstring"), ("value", .str y)] "invalidstring" tellRows = some (.str y) := by kernel_rfl
theorem tell_1 (n : Nat) : tellD (I77.levL n) "LengthMismatch" [("code", .str "lengthmismatch")] = some (("lengthmismatch" : Str), D.non) := by
  have h : ((I77.levL n).xas "LengthMismatch").isSome = true := by
    show (I77.xas "LengthMismatch").isSome = true
    rw [x_2]
    rfl
  unfold tellD
  rw [if_pos h, show ([(("code" : Str), D.str "lengthmismatch")] : List (Str × D)).lookup ("code" : Str) = some (.str "lengthmismatch") by kernel_rfl]
  simp only []
  rw [row_1]
  rfl
theorem tell_2 (n : Nat) (y : Str) : tellD (I77.levL n) "InvalidString" [("code", .str "invalidstring"), ("value", .str y)] = some (("invalidstring" : Str), D.str y) := by
  have h : ((I77.levL n).xas "InvalidString").isSome = true := by
    show (I77.xas "InvalidString").isSome = true
    rw [x_1]
    rfl
  unfold tellD
  rw [if_pos h, show ([(("code" : Str), D.str "invalidstring"), (("value" : Str), D.str y)] : List (Str × D)).lookup ("code" : Str) = some (.str "invalidstring") by kernel_rfl]
  simp only []
  rw [row_2]
  rfl
theorem tf_ok (k : Nat) {S : Sto} {n : Nat} {z i0 i1 i2 : Int} {l0 l1 l2 : List Nat} (hz : z = n) (hn : n ≤ 100) (o0 : i0 = 0 ∨ i0 = 1) (o1 : i1 = 0 ∨ i1 = 1) (o2 : i2 = 0 ∨ i2 = 1) (h0 : Lt4 l0) (h1 : Lt4 l1) (h2 : Lt4 l2) (n0 : l0.length = n) (n1 : l1.length = n) (n2 : l2.length = n) :
    ∃ q e01 t01 tn0 t012 rp b0 u y c0 w1 lb f0 f1 f2 f01 fn0 fn1 f012 fL M N Ln Rp Eq Cn M' hC, TF (I77.levL (k + 6)) (I77.lev (k + 6)) S z q e01 (mkS (sg i0 l0)) (mkS (sg i1 l1)) (mkS (sg i2 l2)) t01 tn0 t012 rp b0 u y c0 w1 lb f0 f1 f2 f01 fn0 fn1 f012 fL M N Ln Rp Eq Cn M' hC := by
  have hp := prodL_len l0 l1 (by rw [n0, n1])
  have hp2 := prodL_len (prodL l0 l1) l2 (by rw [hp, n0, n2])
  have s0 := sg_len i0 l0
  have s1 := sg_len i1 l1
  refine ⟨1 + i0, decide (l0 = l1) && decide (i0 = i1), mkS (sg (i0 + i1 + prodS l0 l1) (prodL l0 l1)), mkS (sg (1 + i0) l0), mkS (sg (i0 + i1 + prodS l0 l1 + i2 + prodS (prodL l0 l1) l2) (prodL (prodL l0 l1) l2)), mkS (pre ++ (sg i1 l1 ++ [41])), mkS l0,
    mkS (sg i1 (l1 ++ [90])), mkS (sg i0 (l0 ++ [89])), mkS ((sg i0 l0).take 1), mkS (pre ++ sg i1 l1), l0.map fun c => .str (mkS [c]), fl (i0 % 2) l0, fl (i1 % 2) l1, fl (i2 % 2) l2, fl ((i0 % 2 + i1 % 2 + prodS l0 l1) % 2) (prodL l0 l1), fl ((1 - i0 % 2) % 2) l0, fl ((1 - i1 % 2) % 2) l1,
    fl (((i0 % 2 + i1 % 2 + prodS l0 l1) % 2 + i2 % 2 + prodS (prodL l0 l1) l2) % 2) (prodL (prodL l0 l1) l2), fl (i1 % 2) (l1 ++ [90]), runDef (I77.lev (k + 6)) n_SignedString___mul__.length p_SignedString___mul__.length b_SignedString___mul__, runDef (I77.lev (k + 6)) n_SignedString___neg__.length p_SignedString___neg__.length b_SignedString___neg__, runDef (I77.lev (k + 6)) n_SignedString___len__.length p_SignedString___len__.length b_SignedString___len__, runDef (I77.lev (k + 6)) n_SignedString___repr__.length p_SignedString___repr__.length b_SignedString___repr__, runDef (I77.lev (k + 6)) n_SignedString___eq__.length p_SignedString___eq__.length b_SignedString___eq__, runDef (I77.lev (k + 6)) n_SignedString___contains__.length p_SignedString___contains__.length b_SignedString___contains__, runDef (I77.lev (k + 4)) n_SignedString___mul__.length p_SignedString___mul__.length b_SignedString___mul__, fun w => hasC w l0, ?_⟩
  refine { hd := ?g_hd, hd' := ?g_hd', mks := ?g_mks, mks' := ?g_mks', mk0 := ?g_mk0, mk1 := ?g_mk1, mk2 := ?g_mk2, mkL := ?g_mkL, mkb := ?g_mkb, hM := ?g_hM, hN := ?g_hN, hLn := ?g_hLn, hRp := ?g_hRp, hEq := ?g_hEq, hCn := ?g_hCn, hM' := ?g_hM', m01 := ?g_m01, m012 := ?g_m012, nn := ?g_nn, mb := ?g_mb, n0 := ?g_n0, n1 := ?g_n1, nn0 := ?g_nn0, ln := ?g_ln, hrp := ?g_hrp, z0 := ?g_z0, z1 := ?g_z1, tx := ?g_tx, l01 := ?g_l01, ln0 := ?g_ln0, l012 := ?g_l012, lo0 := ?g_lo0, lo1 := ?g_lo1, lo2 := ?g_lo2, x01 := ?g_x01, xn0 := ?g_xn0, x012 := ?g_x012, x0 := ?g_x0, x1 := ?g_x1, x2 := ?g_x2, bo := ?g_bo, sgn := ?g_sgn, sl := ?g_sl, hc := ?g_hc, ti := ?g_ti, al := ?g_al, r1 := ?g_r1, r2 := ?g_r2, sm1 := ?g_sm1, q3 := ?g_q3, he := ?g_he, E01 := ?g_E01, E00 := ?g_E00, E0s := ?g_E0s, E0n := ?g_E0n, E0i := ?g_E0i, E0m := ?g_E0m, sm2 := ?g_sm2, cn := ?g_cn, li := ?g_li, inb := ?g_inb, sm3 := ?g_sm3, au := ?g_au, ay := ?g_ay, lam := ?g_lam, lamv := ?g_lamv, t1 := ?g_t1, t2 := ?g_t2, q4 := ?g_q4 }
  all_goals try simp only [levL_fn, levL_make, levL_own]
  case g_hd => exact dflt_lev (k + 8)
  case g_hd' => exact dflt_lev (k + 6)
  case g_mks => exact mks_SS (k + 8)
  case g_mks' => exact mks_SS (k + 6)
  case g_mk0 => exact (l_make (k + 4)).2 i0 l0 S h0 (by omega)
  case g_mk1 => exact (l_make (k + 4)).2 i1 l1 S h1 (by omega)
  case g_mk2 => exact (l_make (k + 4)).2 i2 l2 S h2 (by omega)
  case g_mkL => exact (l_make (k + 4)).2 i1 (l1 ++ [90]) S (h1.app (.inr (.inr (.inl rfl)))) (by simp; omega)
  case g_mkb => exact l_make_bad (k + 2) i0 (l0 ++ [89]) S (fun c hc => by
      rcases List.mem_append.mp hc with h | h
      · exact h0.nm c h
      · rw [List.mem_singleton.mp h]; decide) (fun h => absurd (h 89 (by simp)) (by decide)) (by simp; omega)
  case g_hM => exact own_at (k + 6) (x := "__mul__") (y := "SignedString.__mul__") (by kernel_rfl) (by kernel_rfl)
  case g_hN => exact own_at (k + 6) (x := "__neg__") (y := "SignedString.__neg__") (by kernel_rfl) (by kernel_rfl)
  case g_hLn => exact own_at (k + 6) (x := "__len__") (y := "SignedString.__len__") (by kernel_rfl) (by kernel_rfl)
  case g_hRp => exact own_at (k + 6) (x := "__repr__") (y := "SignedString.__repr__") (by kernel_rfl) (by kernel_rfl)
  case g_hEq => exact own_at (k + 6) (x := "__eq__") (y := "SignedString.__eq__") (by kernel_rfl) (by kernel_rfl)
  case g_hCn => exact own_at (k + 6) (x := "__contains__") (y := "SignedString.__contains__") (by kernel_rfl) (by kernel_rfl)
  case g_hM' => exact own_at (k + 4) (x := "__mul__") (y := "SignedString.__mul__") (by kernel_rfl) (by kernel_rfl)
  case g_m01 => exact r_mul (dflt_lev _) (F_lev _) (l_joined (k + 5)) (l_make (k + 2)) (l_times (k + 4)) h0 h1 (by omega) (by omega)
  case g_m012 => exact r_mul (dflt_lev _) (F_lev _) (l_joined (k + 5)) (l_make (k + 2)) (l_times (k + 4)) (prodL_ok _ _) h2 (by omega) (by omega)
  case g_nn =>
      have := r_mul (P := I77.lev (k + 6)) (S := S) (i := (1 - i0 % 2) % 2) (j := (1 - i1 % 2) % 2) (dflt_lev _) (F_lev _) (l_joined (k + 5)) (l_make (k + 2)) (l_times (k + 4)) h0 h1 (by omega) (by omega)
      rw [show ((1 - i0 % 2) % 2 + (1 - i1 % 2) % 2 + prodS l0 l1) % 2 = (i0 % 2 + i1 % 2 + prodS l0 l1) % 2 by omega] at this
      exact this
  case g_mb => exact r_mul_bad (F_lev _) (by rw [xas_lev]; exact x_2) (by simp; omega) (by omega) (by simp; omega)
  case g_n0 => exact r_neg (dflt_lev _) (F_lev _) (l_joined (k + 5)) (l_make (k + 2)) h0 (by omega)
  case g_n1 => exact r_neg (dflt_lev _) (F_lev _) (l_joined (k + 5)) (l_make (k + 2)) h1 (by omega)
  case g_nn0 =>
      have := r_neg (P := I77.lev (k + 6)) (S := S) (s := (1 - i0 % 2) % 2) (dflt_lev _) (F_lev _) (l_joined (k + 5)) (l_make (k + 2)) h0 (by omega)
      rw [show (1 - (1 - i0 % 2) % 2) % 2 = i0 % 2 by omega] at this
      exact this
  case g_ln =>
      have := r_len (P := I77.lev (k + 6)) (S := S) (s := i0 % 2) (l := l0) (F_lev _) (by omega)
      rw [n0, ← hz] at this
      exact this
  case g_hrp =>
      have := r_repr (P := I77.lev (k + 6)) (S := S) (s := i1 % 2) (l := l1) (dflt_lev _) (meth_SS _) (l_text (k + 4) _ _ _ (by omega)) (by omega)
      rw [sg_mod] at this
      exact this
  case g_z0 => exact by omega
  case g_z1 => exact by omega
  case g_tx => exact meth_SS (k + 8)
  case g_l01 => exact rfl
  case g_ln0 => exact rfl
  case g_l012 => exact rfl
  case g_lo0 => exact rfl
  case g_lo1 => exact rfl
  case g_lo2 => exact rfl
  case g_x01 =>
      have := l_text (k + 6) ((i0 % 2 + i1 % 2 + prodS l0 l1) % 2) (prodL l0 l1) S (by omega)
      rw [sg_congr _ (show ((i0 % 2 + i1 % 2 + prodS l0 l1) % 2) % 2 = (i0 + i1 + prodS l0 l1) % 2 by omega)] at this
      exact this
  case g_xn0 =>
      have := l_text (k + 6) ((1 - i0 % 2) % 2) l0 S (by omega)
      rw [sg_congr _ (show ((1 - i0 % 2) % 2) % 2 = (1 + i0) % 2 by omega)] at this
      exact this
  case g_x012 =>
      have := l_text (k + 6) (((i0 % 2 + i1 % 2 + prodS l0 l1) % 2 + i2 % 2 + prodS (prodL l0 l1) l2) % 2) (prodL (prodL l0 l1) l2) S (by omega)
      rw [sg_congr _ (show (((i0 % 2 + i1 % 2 + prodS l0 l1) % 2 + i2 % 2 + prodS (prodL l0 l1) l2) % 2) % 2 = (i0 + i1 + prodS l0 l1 + i2 + prodS (prodL l0 l1) l2) % 2 by omega)] at this
      exact this
  case g_x0 =>
      have := l_text (k + 6) (i0 % 2) l0 S (by omega)
      rw [sg_mod] at this
      exact this
  case g_x1 =>
      have := l_text (k + 6) (i1 % 2) l1 S (by omega)
      rw [sg_mod] at this
      exact this
  case g_x2 =>
      have := l_text (k + 6) (i2 % 2) l2 S (by omega)
      rw [sg_mod] at this
      exact this
  case g_bo => exact l_body (k + 7) i0 l0 S h0 (by omega)
  case g_sgn => exact l_signed (k + 7) (1 + i0) l0 S (by omega)
  case g_sl => exact to_mk (fits_le (by omega))
  case g_hc =>
      have := take_sg (i := i0) h0
      rw [s_m]
      rcases o0 with rfl | rfl
      · exact .inr ⟨fun e => absurd (this.mp (mkS_inj.mp e)) (by decide), rfl⟩
      · exact .inl ⟨congrArg mkS (this.mpr rfl), rfl⟩
  case g_ti => exact l_law_times (k + 6) i0 i1 l0 l1 S h0 h1 (by omega) (by omega)
  case g_al => exact l_all (k + 5) hz h0 h1 h2 n0 n1 n2 (by omega)
  case g_r1 =>
      rw [s_SS]
      exact add_mk (fits_le (by simp [pre]; omega))
  case g_r2 =>
      rw [s_cl, ← List.append_assoc]
      exact add_mk (fits_le (by simp [pre]; omega))
  case g_sm1 => exact l_same_l (k + 6) (by simp [scalar]) (by simp)
  case g_q3 => exact eq3 (ok_sg h0.lt) (ok_sg h1.lt) (ok_sg h2.lt)
  case g_he =>
      rw [eq_str]
      congr 1
      rw [Bool.eq_iff_iff]
      simp [mkS_inj, sg_inj o0 o1 h0 h1]
  case g_E01 =>
      have := r_eq (P := I77.lev (k + 6)) (S := S) (i := i0 % 2) (j := i1 % 2) (xs := l0) (ys := l1) (F_lev _) (isc_SS _)
      rw [show decide (i0 % 2 = i1 % 2) = decide (i0 = i1) by rcases o0 with rfl | rfl <;> rcases o1 with rfl | rfl <;> rfl] at this
      exact this
  case g_E00 =>
      have := r_eq (P := I77.lev (k + 6)) (S := S) (i := i0 % 2) (j := i0 % 2) (xs := l0) (ys := l0) (F_lev _) (isc_SS _)
      simp only [decide_true, Bool.and_self] at this
      exact this
  case g_E0s => exact r_eq_other (isc_SS _) rfl
  case g_E0n => exact r_eq_other (isc_SS _) rfl
  case g_E0i => exact r_eq_other (isc_SS _) rfl
  case g_E0m =>
      have := r_eq (P := I77.lev (k + 6)) (S := S) (i := i0 % 2) (j := (1 - i0 % 2) % 2) (xs := l0) (ys := l0) (F_lev _) (isc_SS _)
      rw [show decide (i0 % 2 = (1 - i0 % 2) % 2) = false by rcases o0 with rfl | rfl <;> rfl, Bool.and_false] at this
      exact this
  case g_sm2 => exact l_same_l (k + 6) (by simp [scalar]) (by simp)
  case g_cn => exact fun w => r_contains (F_lev _) (by omega)
  case g_li => exact list_mk (by omega)
  case g_inb => exact fun w => in_signs w l0
  case g_sm3 =>
      exact fun ds hl => l_same_l (k + 6) (fun d hd => by
        obtain ⟨b, _, rfl⟩ := List.mem_map.mp hd
        rfl) (by simpa using hl)
  case g_au =>
      rw [s_Z, ← sg_app]
      exact add_mk (fits_le (by simp; omega))
  case g_ay =>
      rw [show (("Y" : String) : Str) = mkS [89] by decide +kernel, ← sg_app]
      exact add_mk (fits_le (by simp; omega))
  case g_lam => exact rfl
  case g_lamv => exact rfl
  case g_t1 => exact tell_1 _
  case g_t2 => exact tell_2 _ _
  case g_q4 => exact eqt (by decide +kernel) (by decide +kernel) (ok_sg fun c hc => by
      rcases List.mem_append.mp hc with h | h
      · exact h0.lt c h
      · rw [List.mem_singleton.mp h]; decide)
end TM
end
section
set_option Elab.async false
set_option linter.all false
set_option maxRecDepth 100000
set_option maxHeartbeats 1000000
/-! PL12: the plain law of k77; the row. -/
namespace TM
open PySem PySem.Spec PyProof.Rows L2
/-- three strings drawn -/
theorem draw3 {P : Prov} {f : Sl} {is : List Int} {k z : Int} {j4 j5 j6 j7 j8 j9 j10 j11 j12 j13 j14 j15 : Sl} {S S0 S1 S2 : Sto} {a0 a1 a2 : Str} (hd : ∀ x n, P.dflt x n = []) (e0 : P.fn "_law_string" [.ref 0, .int z] S = .ok (.str a0) S0) (e1 : P.fn "_law_string" [.ref 0, .int z] S0 = .ok (.str a1) S1) (e2 : P.fn "_law_string" [.ref 0, .int z] S1 = .ok (.str a2) S2) :
    exS P (nthS tnB 1) [.v (.scr is), .v (.ref 0), .v (.int k), .v (.int z), j4, j5, j6, j7, j8, j9, j10, j11, j12, j13, j14, j15, .no, .no, .no] S = .ok .nx [.v (.scr is), .v (.ref 0), .v (.int k), .v (.int z), .own (.lst [.str a0, .str a1, .str a2]), j5, j6, j7, j8, j9, j10, j11, j12, j13, j14, j15, .no, .no, .no] S2 := by
  have h3 : rngD 0 3 = [.int 0, .int 1, .int 2] := rfl
  have h4 : okRng 3 = true := by decide
  simp [exSs, exS, ev, evT, evs, evTs, evI, evB, evTB, evPs, m1, m2, m3, msl, mch, ofO, d1, d2, d3, look, deref, derefS, settle, persist, keep, frz, setSlot, modC, bind_def, pure_def, TM.fail, asB, tst, truD, asI, asS, callM, cmpD, cmpD0, scalD, eqD, negD, lenD, intD, idxD, gSet, gSets, gsN, itemsM, mSeq, srcD, srcV, mR1, mR2, forRun, mPar, putIx, nthS, tnB, b_law, mLc, lcRun, lcFix, lcTurn, turnB, inBlk, wipeR, backR, keepSl, h3, h4, hd, e0, e1, e2, f3]
theorem draw1 {P : Prov} {is : List Int} {k z : Int} {j3 j4 j5 j6 j7 j8 j9 j10 j11 j12 j13 j14 j15 : Sl} {S S0 : Sto} (hd : ∀ x n, P.dflt x n = []) (e0 : P.fn "_law_pull" [.ref 0, .int 9] S = .ok (.int z) S0) :
    exS P (nthS tnB 0) [.v (.scr is), .v (.ref 0), .v (.int k), j3, j4, j5, j6, j7, j8, j9, j10, j11, j12, j13, j14, j15, .no, .no, .no] S = .ok .nx [.v (.scr is), .v (.ref 0), .v (.int k), .v (.int z), j4, j5, j6, j7, j8, j9, j10, j11, j12, j13, j14, j15, .no, .no, .no] S0 := by
  simp [exSs, exS, ev, evT, evs, evTs, evI, evB, evTB, evPs, m1, m2, m3, msl, mch, ofO, d1, d2, d3, look, deref, derefS, settle, persist, keep, frz, setSlot, modC, bind_def, pure_def, TM.fail, asB, tst, truD, asI, asS, callM, cmpD, cmpD0, scalD, eqD, negD, lenD, intD, idxD, gSet, gSets, gsN, itemsM, mSeq, srcD, srcV, mR1, mR2, forRun, mPar, putIx, nthS, tnB, b_law, hd, e0]
theorem turn_law (m : Nat) {is : List Int} {k : Int} {b : Bag} (hb : b.Ok) {j3 j4 j5 j6 j7 j8 j9 j10 j11 j12 j13 j14 j15 : Sl} :
    ∃ (b' : Bag) (i3 i4 i5 i6 i7 i8 i9 i10 i11 i12 i13 i14 i15 : Sl), b'.Ok ∧ exSs (I77.levL (m + 6)) tnB [.v (.scr is), .v (.ref 0), .v (.int k), j3, j4, j5, j6, j7, j8, j9, j10, j11, j12, j13, j14, j15, .no, .no, .no] [b.c] = .ok .nx [.v (.scr is), .v (.ref 0), .v (.int k), i3, i4, i5, i6, i7, i8, i9, i10, i11, i12, i13, i14, i15, .no, .no, .no] [b'.c] := by
  obtain ⟨z, b1, z0, z1, hb1, e1⟩ := l_pull (m + 7) b 9 0 [b.c] hb (by decide) (by decide) rfl
  obtain ⟨n, hn⟩ : ∃ n : Nat, z = n := ⟨z.toNat, by omega⟩
  obtain ⟨a0, l0, b2, o0, h0, n0, hb2, e2⟩ := l_string (m + 5) b1 0 n z [b1.c] hn hb1 rfl (by omega)
  obtain ⟨a1, l1, b3, o1, h1, n1, hb3, e3⟩ := l_string (m + 5) b2 0 n z [b2.c] hn hb2 rfl (by omega)
  obtain ⟨a2, l2, b4, o2, h2, n2, hb4, e4⟩ := l_string (m + 5) b3 0 n z [b3.c] hn hb3 rfl (by omega)
  obtain ⟨q, e01, t01, tn0, t012, rp, b0, u, y, c0, w1, lb, f0, f1, f2, f01, fn0, fn1, f012, fL, M, N, Ln, Rp, Eq, Cn, M', hC, F⟩ := tf_ok m (S := [b4.c]) hn (by omega) o0 o1 o2 h0 h1 h2 n0 n1 n2
  obtain ⟨i3, i4, i5, i6, i7, i8, i9, i10, i11, i12, i13, i14, i15, e5⟩ := turn_all F (is := is) (k := k) (j5 := j5) (j6 := j6) (j7 := j7) (j8 := j8) (j9 := j9) (j10 := j10) (j11 := j11) (j12 := j12) (j13 := j13) (j14 := j14) (j15 := j15)
  refine ⟨b4, i3, i4, i5, i6, i7, i8, i9, i10, i11, i12, i13, i14, i15, hb4, ?_⟩
  have d1 := draw1 (P := I77.levL (m + 6)) (is := is) (k := k) (z := z) (S := [b.c]) (S0 := [b1.c]) (j3 := j3) (j4 := j4) (j5 := j5) (j6 := j6) (j7 := j7) (j8 := j8) (j9 := j9) (j10 := j10) (j11 := j11) (j12 := j12) (j13 := j13) (j14 := j14) (j15 := j15) (dflt_lev (m + 8)) (by rw [levL_fn]; exact e1)
  have d2 := draw3 (P := I77.levL (m + 6)) (f := .no) (is := is) (k := k) (z := z) (S := [b1.c]) (S0 := [b2.c]) (S1 := [b3.c]) (S2 := [b4.c]) (j4 := j4) (j5 := j5) (j6 := j6) (j7 := j7) (j8 := j8) (j9 := j9) (j10 := j10) (j11 := j11) (j12 := j12) (j13 := j13) (j14 := j14) (j15 := j15) (dflt_lev (m + 8)) (by rw [levL_fn]; exact e2) (by rw [levL_fn]; exact e3) (by rw [levL_fn]; exact e4)
  rw [show tnB = .cons (nthS tnB 0) (.cons (nthS tnB 1) (.cons (nthS tnB 2) (.cons (nthS tnB 3) (.cons (nthS tnB 4) (.cons (nthS tnB 5) (.cons (nthS tnB 6) (.cons (nthS tnB 7) (.cons (nthS tnB 8) (.cons (nthS tnB 9) (.cons (nthS tnB 10) (.cons (nthS tnB 11) (.cons (nthS tnB 12) (.cons (nthS tnB 13) (.cons (nthS tnB 14) (.cons (nthS tnB 15) (.cons (nthS tnB 16) (.cons (nthS tnB 17) (.cons (nthS tnB 18) .nil)))))))))))))))))) from rfl]
  rw [exSs_cons d1, exSs_cons d2]
  exact e5
theorem last_law (m : Nat) {ρ : Rho} {S : Sto} : exS (I77.levL (m + 6)) (nthS b_law 2) ρ S = .ok (.ret (.bl true)) ρ S := by
  have hd := dflt_lev (m + 8)
  have hd' : ∀ x n, (I77.levL (m + 6)).dflt x n = [] := hd
  have k0 : (I77.levL (m + 6)).mks "SignedString" = true := mks_SS (m + 8)
  have L0 : Lt4 [] := fun _ h => nomatch h
  have LX : Lt4 [88] := fun c h => by rw [List.mem_singleton.mp h]; exact .inr (.inl rfl)
  have a1 : (I77.levL (m + 6)).make "SignedString" [.str "-"] S = .ok (.ins "SignedString" (fl 1 [])) S := by
    rw [s_m]; exact (l_make (m + 4)).2 1 [] S L0 (by simp)
  have a2 : (I77.levL (m + 6)).make "SignedString" [.str ""] S = .ok (.ins "SignedString" (fl 0 [])) S := by
    rw [s_e]; exact (l_make (m + 4)).2 0 [] S L0 (by simp)
  have a3 : (I77.levL (m + 6)).make "SignedString" [.str "X"] S = .ok (.ins "SignedString" (fl 0 [88])) S := by
    rw [s_X]; exact (l_make (m + 4)).2 0 [88] S LX (by simp)
  have a4 : (I77.levL (m + 6)).make "SignedString" [.str "-X"] S = .ok (.ins "SignedString" (fl 1 [88])) S := by
    rw [show (("-X" : String) : Str) = mkS (sg 1 [88]) by decide +kernel]; exact (l_make (m + 4)).2 1 [88] S LX (by simp)
  have hN : (I77.levL (m + 6)).own "SignedString" "__neg__" = some (runDef (I77.lev (m + 6)) n_SignedString___neg__.length p_SignedString___neg__.length b_SignedString___neg__) := own_at (m + 6) (x := "__neg__") (y := "SignedString.__neg__") (by kernel_rfl) (by kernel_rfl)
  have hL : (I77.levL (m + 6)).own "SignedString" "__len__" = some (runDef (I77.lev (m + 6)) n_SignedString___len__.length p_SignedString___len__.length b_SignedString___len__) := own_at (m + 6) (x := "__len__") (y := "SignedString.__len__") (by kernel_rfl) (by kernel_rfl)
  have hE : (I77.levL (m + 6)).own "SignedString" "__eq__" = some (runDef (I77.lev (m + 6)) n_SignedString___eq__.length p_SignedString___eq__.length b_SignedString___eq__) := own_at (m + 6) (x := "__eq__") (y := "SignedString.__eq__") (by kernel_rfl) (by kernel_rfl)
  have e1 : runDef (I77.lev (m + 6)) n_SignedString___len__.length p_SignedString___len__.length b_SignedString___len__ [.ins "SignedString" (fl 1 [])] S = .ok (.int 0) S := r_len (P := I77.lev (m + 6)) (S := S) (s := 1) (l := []) (F_lev _) (by simp)
  have e2 : runDef (I77.lev (m + 6)) n_SignedString___neg__.length p_SignedString___neg__.length b_SignedString___neg__ [.ins "SignedString" (fl 0 [])] S = .ok (.ins "SignedString" (fl 1 [])) S := r_neg (P := I77.lev (m + 6)) (S := S) (s := 0) (l := []) (dflt_lev _) (F_lev _) (l_joined (m + 5)) (l_make (m + 2)) L0 (by simp)
  have e3 : (I77.levL (m + 6)).fn "SignedString.text" [.ins "SignedString" (fl 1 [])] S = .ok (.str "-") S := by
    rw [s_m, levL_fn]; exact l_text (m + 6) 1 [] S (by simp)
  have e4 : runDef (I77.lev (m + 6)) n_SignedString___eq__.length p_SignedString___eq__.length b_SignedString___eq__ [.ins "SignedString" (fl 0 [88]), .ins "SignedString" (fl 1 [88])] S = .ok (.bl false) S := r_eq (P := I77.lev (m + 6)) (S := S) (i := 0) (j := 1) (xs := [88]) (ys := [88]) (F_lev _) (isc_SS _)
  have tx : (I77.levL (m + 6)).meth "SignedString" "text" = some ("SignedString.text" : Str) := meth_SS (m + 8)
  have lk : (fl 1 []).lookup ("text" : Str) = none := rfl
  generalize runDef (I77.lev (m + 6)) n_SignedString___len__.length p_SignedString___len__.length b_SignedString___len__ = rL at hL e1
  generalize runDef (I77.lev (m + 6)) n_SignedString___neg__.length p_SignedString___neg__.length b_SignedString___neg__ = rN at hN e2
  generalize runDef (I77.lev (m + 6)) n_SignedString___eq__.length p_SignedString___eq__.length b_SignedString___eq__ = rE at hE e4
  generalize fl 1 [] = g1 at *
  generalize fl 0 [] = g0 at *
  generalize fl 1 [88] = gm at *
  generalize fl 0 [88] = gx at *
  generalize I77.levL (m + 6) = P at *
  simp [exSs, exS, ev, evT, evs, evTs, evI, evB, evTB, evPs, m1, m2, m3, msl, mch, ofO, d1, d2, d3, look, deref, derefS, settle, persist, keep, frz, setSlot, modC, bind_def, pure_def, TM.fail, asB, tst, truD, asI, asS, callM, cmpD, cmpD0, scalD, eqD, negD, lenD, intD, idxD, gSet, gSets, gsN, itemsM, mSeq, srcD, srcV, mR1, mR2, forRun, mPar, putIx, nthS, b_law, mOw1, mOw2, mMeth, mMake, ownF, slf, oth, sameC, fix1, fix2, o1N, o2N, hd', k0, a1, a2, a3, a4, hN, hL, hE, e1, e2, e3, e4, tx, lk]
theorem pure77 (m : Nat) (is : List Int) (h : is.length ≤ 63) : ∃ S', runDef (I77.levL (m + 6)) n_law.length p_law.length b_law [.scr is] [] = .ok (.bl true) S' := by
  obtain ⟨b, hb, e1⟩ := l_bag (m + 7) (is := is) (S := []) h
  have hd' : ∀ x n, (I77.levL (m + 6)).dflt x n = [] := dflt_lev (m + 8)
  have e1' : (I77.levL (m + 6)).fn "_law_bag" [.scr is] [] = .ok (.ref 0) [b.c] := by rw [levL_fn]; exact e1
  obtain ⟨ρ2, S2, e2, b2, k2, i3, i4, i5, i6, i7, i8, i9, i10, i11, i12, i13, i14, i15, hb2, er, es⟩ := forL_ind (f := fun d => (do
      gSet (.nm 2) d
      exSs (I77.levL (m + 6)) tnB : Mo Fl)) (ds := rngD 0 6) (ρ := [.v (.scr is), .v (.ref 0), .no, .no, .no, .no, .no, .no, .no, .no, .no, .no, .no, .no, .no, .no, .no, .no, .no]) (S := [b.c])
    (Q := fun _ ρ S' => ∃ (b : Bag) (i2 i3 i4 i5 i6 i7 i8 i9 i10 i11 i12 i13 i14 i15 : Sl), b.Ok ∧ ρ = [.v (.scr is), .v (.ref 0), i2, i3, i4, i5, i6, i7, i8, i9, i10, i11, i12, i13, i14, i15, .no, .no, .no] ∧ S' = [b.c]) 0
    (fun k d ρ S hd ⟨b, i2, i3, i4, i5, i6, i7, i8, i9, i10, i11, i12, i13, i14, i15, hb, er, es⟩ => by
      subst er
      subst es
      obtain ⟨j, rfl⟩ : ∃ j, d = .int j := by
        obtain ⟨c, _, rfl⟩ := List.mem_map.mp (List.mem_of_getElem? hd)
        exact ⟨_, rfl⟩
      obtain ⟨b', k3, k4, k5, k6, k7, k8, k9, k10, k11, k12, k13, k14, k15, hb', e⟩ := turn_law m (is := is) (k := j) hb (j3 := i3) (j4 := i4) (j5 := i5) (j6 := i6) (j7 := i7) (j8 := i8) (j9 := i9) (j10 := i10) (j11 := i11) (j12 := i12) (j13 := i13) (j14 := i14) (j15 := i15)
      refine ⟨_, _, ?_, b', .v (.int j), k3, k4, k5, k6, k7, k8, k9, k10, k11, k12, k13, k14, k15, hb', rfl, rfl⟩
      rw [bind_def, gSet]
      exact e) ⟨b, .no, .no, .no, .no, .no, .no, .no, .no, .no, .no, .no, .no, .no, .no, hb, rfl, rfl⟩
  subst es
  refine ⟨[b2.c], run_pos1.trans ?_⟩
  rw [show b_law = .cons (nthS b_law 0) (.cons (.forr (.nm 2) (.p1 .rng (.cst (.int 6))) tnB) (.cons (nthS b_law 2) .nil)) from rfl]
  rw [show startR n_law.length [D.scr is] = [.v (.scr is), .no, .no, .no, .no, .no, .no, .no, .no, .no, .no, .no, .no, .no, .no, .no, .no, .no, .no] from rfl]
  have q1 : exS (I77.levL (m + 6)) (nthS b_law 0) [.v (.scr is), .no, .no, .no, .no, .no, .no, .no, .no, .no, .no, .no, .no, .no, .no, .no, .no, .no, .no] [] = .ok .nx [.v (.scr is), .v (.ref 0), .no, .no, .no, .no, .no, .no, .no, .no, .no, .no, .no, .no, .no, .no, .no, .no, .no] [b.c] := by
    generalize I77.levL (m + 6) = P at *
    simp [exSs, exS, ev, evT, evs, evTs, evI, evB, evTB, evPs, m1, m2, m3, msl, mch, ofO, d1, d2, d3, look, deref, derefS, settle, persist, keep, frz, setSlot, modC, bind_def, pure_def, TM.fail, asB, tst, truD, asI, asS, callM, cmpD, cmpD0, scalD, eqD, negD, lenD, intD, idxD, gSet, gSets, gsN, itemsM, mSeq, srcD, srcV, mR1, mR2, forRun, mPar, putIx, nthS, b_law, hd', e1']
  have h6 : okRng 6 = true := by decide
  rw [exSs_cons q1, exSs_cons (exS_forr (S1 := [b.c]) (ρ1 := [.v (.scr is), .v (.ref 0), .no, .no, .no, .no, .no, .no, .no, .no, .no, .no, .no, .no, .no, .no, .no, .no, .no]) (by simp [exSs, exS, ev, evT, evs, evTs, evI, evB, evTB, evPs, m1, m2, m3, msl, mch, ofO, d1, d2, d3, look, deref, derefS, settle, persist, keep, frz, setSlot, modC, bind_def, pure_def, TM.fail, asB, tst, truD, asI, asS, callM, cmpD, cmpD0, scalD, eqD, negD, lenD, intD, idxD, gSet, gSets, gsN, itemsM, mSeq, srcD, srcV, mR1, mR2, forRun, mPar, putIx, h6]) e2)]
  rw [exSs, bind_def, last_law m]
  rfl
end TM
open PySem PySem.W PySem.Calls PyProof.Rows in
theorem TM.law_k77 : PySem.Challenge.rw_threadmark_k77_strings_as_values.Holds := TM.row77 (m := 6) ⟨rfl, by decide, by decide⟩ (TM.pure77 0)
end
theorem PySem.Challenge.cw_threadmark_k77_strings_as_values_holds : PySem.Challenge.rw_threadmark_k77_strings_as_values.Holds :=
  TM.law_k77
