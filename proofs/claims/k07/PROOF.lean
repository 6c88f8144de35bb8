import PyProof.Rows.All
import Wide.All
import OpenK.AllK
import Wide.FinOn
import HandS.ForMost
import HandS.ForExc
import HandS.Lambda
import HandS.ExcInit
import HandS.TupAny
import HandS.Conv
import HandS.Wide
import HandS.WideBits
import HandS.IsInst
import HandS.RaiseMore
import HandS.Walk
import HandS.Zip
import HandS.Property
import HandS.Star
import PyProof.ReprRoads
import KE.KExcSuper
import HandS.ExcSuper
import HandS.ExcField
import HandS.Defaults
import HandS.SlotsOwn
import KE.KOpsOwn
import HandS.ClsMeth
import HandS.ExcIs
import HandS.EndTab
import KE.KNestM
import HandS.Base
import HandS.List
import KE.IntBitsLaws
import PyProof.ReprLen
import KE.KStateDown
import HandS.Head0
import HandS.Head1
import HandS.Head2
import HandS.HeadHook1
import HandS.HeadHook2
import HandS.HeadHook3
import HandS.HeadHook4
import HandS.Sort
import HandS.SetFor
import HandS.ReplaceLit
import HandS.ReplaceList
import HandS.SortInts
import PyProof.InstNe
import KE.KRevSl
import HandS.MakeKw
import HandS.Strs
import PySem.Challenge.RW_skipround_k07_whole_algebra_of_sets
set_option Elab.async false
set_option linter.all false
set_option autoImplicit false
set_option maxRecDepth 100000
set_option maxHeartbeats 4000000
/-! values as data, and what of the heap bears them -/
namespace Dk
open PySem PySem.Spec PyProof.Rows L2

/-- a value without addresses -/
inductive D where
  | non | bl (b : Bool) | int (i : Int) | str (x : Str)
  | lst (xs : List D) | tup (xs : List D)
  | obj (c : Nat) (xs : List D)
  | exc (c : Nat) (d : D)
  | dic (ks : List Key) (xs : List D)
  | scr (ns : List Int)
  | cel (n : Nat)
  | fn (f c : Addr) (q : Str) (vs : List V) (ds : List D)
  | lam (f c : Addr) (q : Str) (o : Obj)
  deriving Inhabited
/-- what a cell holds: the law's pot (its counter at most k), an object, a list, a dict -/
inductive Mc where
  | pt (k : Nat) | ob (c : Nat) (xs : List D) | ls (ds : List D) | dc (ks : List Key) (ds : List D)
  deriving Inhabited
abbrev Mu := List Mc

/-- what is fixed through a law: the written part, the classes by numbers, their fields' names, the tables of code objects -/
structure G where
  K : PySem.W.Frag
  cls : Nat → Addr
  flds : Nat → List Str
  T : List (Addr × Str)

/-- an error that is held as a value -/
def excv (a C : Addr) (d : Option Addr) : HO := .ext fun h => ∃ (o : Obj) (vs : Array Value), h.get? a = some o ∧ o.cls = .ref C ∧ o.dict = d ∧ o.data = .fields vs

/-- a function object that stands -/
def FnO (f : Addr) (o : Obj) : HO := .ext fun h => h.get? f = some o
mutual
inductive Rp (g : G) (H : Hp) : V → D → Prop
  | non : Rp g H .non .non
  | bl (b : Bool) : Rp g H (.bl b) (.bl b)
  | int (i : Int) : Rp g H (.int i) (.int i)
  | str (x : Str) : Rp g H (.str x) (.str x)
  | lst {a : Addr} {vs : List V} {ds : List D} : H a = some (.lst vs) → RpA g H vs ds → Rp g H (.ref a) (.lst ds)
  | tup {a : Addr} {vs : List V} {ds : List D} : SqT g.K H a vs → RpA g H vs ds → Rp g H (.ref a) (.tup ds)
  | obj {a dx : Addr} {c : Nat} {vs : List V} {ds : List D} : H a = some (.ins (g.cls c) dx ((g.flds c).zip vs)) → vs.length = (g.flds c).length → RpA g H vs ds → Rp g H (.ref a) (.obj c ds)
  | exc {a dx : Addr} {c : Nat} {v : V} {d : D} : H a = some (excv a (g.cls c) (some dx)) → H dx = some (.xd [("value", v)]) → Rp g H v d → Rp g H (.ref a) (.exc c d)
  | dic {a : Addr} {ks : List Key} {vs : List V} {ds : List D} : H a = some (.dK (ks.zip vs)) → vs.length = ks.length → RpA g H vs ds → Rp g H (.ref a) (.dic ks ds)
  | scr {a : Addr} {ns : List Int} : SqL g.K H a (ns.map V.int) → Rp g H (.ref a) (.scr ns)
  | cel {a : Addr} {n : Nat} : H a = some (.own n) → Rp g H (.ref a) (.cel n)
  | fn {f c : Addr} {q : Str} {vs : List V} {ds : List D} : H c = some (LamX.CodeO c q) → RpA g H vs ds → Rp g H (.ref f) (.fn f c q vs ds)
  | lam {f c : Addr} {q : Str} {o : Obj} : H f = some (FnO f o) → H c = some (LamX.CodeO c q) → Rp g H (.ref f) (.lam f c q o)
inductive RpA (g : G) (H : Hp) : List V → List D → Prop
  | nil : RpA g H [] []
  | cons {v : V} {vs : List V} {d : D} {ds : List D} : Rp g H v d → RpA g H vs ds → RpA g H (v :: vs) (d :: ds)
end

/-- all that is known stays known -/
def Up (B B' : Hp) : Prop := ∀ a o, B a = some o → B' a = some o
theorem Up.refl (B : Hp) : Up B B := fun _ _ h => h
theorem Up.trans {A B C : Hp} (x : Up A B) (y : Up B C) : Up A C := fun a o h => y a o (x a o h)
/-- a mark: here stands a cell -/
def Mk1 (o : HO) : Prop := ∃ n, o = .own n
/-- B is known of H, but for the cells -/
structure Sub (B H : Hp) : Prop where
  co : ∀ a o, B a = some o → ¬ Mk1 o → H a = some o
  mkd : ∀ a n, B a = some (.own n) → ∃ o, H a = some o ∧ ∀ ps, o ≠ .tbl ps
theorem Sub.at {B H : Hp} (s : Sub B H) {a : Addr} {o : HO} (h : B a = some o) (hm : ¬ Mk1 o := by rintro ⟨_, z⟩; first | cases z | (unfold excv at z; cases z) | (unfold LamX.CodeO at z; cases z)) : H a = some o := s.co a o h hm
theorem Sub.there {B H : Hp} (s : Sub B H) {a : Addr} {o : HO} (h : B a = some o) : ∃ u, H a = some u := by
  by_cases hm : Mk1 o
  · obtain ⟨n, rfl⟩ := hm
    obtain ⟨u, e, _⟩ := s.mkd a n h
    exact ⟨u, e⟩
  · exact ⟨o, s.co a o h hm⟩
theorem Sub.none {B H : Hp} (s : Sub B H) {a : Addr} (h : H a = none) : B a = none := by
  cases e : B a with
  | none => rfl
  | some o =>
    obtain ⟨u, e2⟩ := s.there e
    rw [h] at e2; cases e2
theorem Sub.rd {B H : Hp} (s : Sub B H) {a : Addr} {u : HO} (h : Rd B a u) (hu : ¬ Mk1 u := by rintro ⟨_, z⟩; first | cases z | (unfold excv at z; cases z) | (unfold LamX.CodeO at z; cases z)) : Rd H a u := by
  rcases h with h | ⟨o, h⟩
  · exact .inl (s.at h hu)
  · exact .inr ⟨o, s.at h⟩
theorem Sub.sqt {B H : Hp} (s : Sub B H) {K : PySem.W.Frag} {a : Addr} {xs : List V} (h : SqT K B a xs) : SqT K H a xs := by
  rcases h with h | h
  · exact .inl (s.rd h)
  · exact .inr h
theorem Sub.sql {B H : Hp} (s : Sub B H) {K : PySem.W.Frag} {a : Addr} {xs : List V} (h : SqL K B a xs) : SqL K H a xs := by
  rcases h with h | h
  · exact .inl (s.rd h)
  · exact .inr h

theorem Up.rd {B H : Hp} (s : Up B H) {a : Addr} {u : HO} (h : Rd B a u) : Rd H a u := by
  rcases h with h | ⟨o, h⟩
  · exact .inl (s _ _ h)
  · exact .inr ⟨o, s _ _ h⟩
theorem Up.sqtU {B H : Hp} (s : Up B H) {K : PySem.W.Frag} {a : Addr} {xs : List V} (h : SqT K B a xs) : SqT K H a xs := by
  rcases h with h | h
  · exact .inl (s.rd h)
  · exact .inr h
theorem Up.sqlU {B H : Hp} (s : Up B H) {K : PySem.W.Frag} {a : Addr} {xs : List V} (h : SqL K B a xs) : SqL K H a xs := by
  rcases h with h | h
  · exact .inl (s.rd h)
  · exact .inr h

section
variable {g : G} {B H H' : Hp}
mutual
theorem Rp.up (s : Up B H) : ∀ {v : V} {d : D}, Rp g B v d → Rp g H v d
  | _, _, .non => .non
  | _, _, .bl b => .bl b
  | _, _, .int i => .int i
  | _, _, .str x => .str x
  | _, _, .lst h r => .lst (s _ _ h) (RpA.up s r)
  | _, _, .tup h r => .tup (s.sqtU h) (RpA.up s r)
  | _, _, .obj h l r => .obj (s _ _ h) l (RpA.up s r)
  | _, _, .exc h1 h2 r => .exc (s _ _ h1) (s _ _ h2) (Rp.up s r)
  | _, _, .dic h l r => .dic (s _ _ h) l (RpA.up s r)
  | _, _, .scr h => .scr (s.sqlU h)
  | _, _, .cel h => .cel (s _ _ h)
  | _, _, .fn h r => .fn (s _ _ h) (RpA.up s r)
  | _, _, .lam h1 h2 => .lam (s _ _ h1) (s _ _ h2)
theorem RpA.up (s : Up B H) : ∀ {vs : List V} {ds : List D}, RpA g B vs ds → RpA g H vs ds
  | _, _, .nil => .nil
  | _, _, .cons r t => .cons (Rp.up s r) (RpA.up s t)
end
theorem RpA.len : ∀ {vs : List V} {ds : List D}, RpA g B vs ds → vs.length = ds.length
  | _, _, .nil => rfl
  | _, _, .cons _ t => by rw [List.length_cons, List.length_cons, t.len]
theorem RpA.get : ∀ {vs : List V} {ds : List D} {i : Nat} {d : D}, RpA g B vs ds → ds[i]? = some d → ∃ v, vs[i]? = some v ∧ Rp g B v d
  | _, _, _, _, .nil, h => by simp at h
  | _, _, 0, _, .cons r _, h => by simp at h; subst h; exact ⟨_, rfl, r⟩
  | _, _, i + 1, _, .cons _ t, h => by
    obtain ⟨v, h1, h2⟩ := t.get (i := i) (by simpa using h)
    exact ⟨v, by simpa using h1, h2⟩
theorem RpA.getV : ∀ {vs : List V} {ds : List D} {i : Nat} {v : V}, RpA g B vs ds → vs[i]? = some v → ∃ d, ds[i]? = some d ∧ Rp g B v d
  | _, _, _, _, .nil, h => by simp at h
  | _, _, 0, _, .cons r _, h => by simp at h; subst h; exact ⟨_, rfl, r⟩
  | _, _, i + 1, _, .cons _ t, h => by
    obtain ⟨v, h1, h2⟩ := t.getV (i := i) (by simpa using h)
    exact ⟨v, by simpa using h1, h2⟩
theorem RpA.app : ∀ {vs ws : List V} {ds es : List D}, RpA g B vs ds → RpA g B ws es → RpA g B (vs ++ ws) (ds ++ es)
  | _, _, _, _, .nil, s => s
  | _, _, _, _, .cons r t, s => .cons r (t.app s)
theorem RpA.take : ∀ (n : Nat) {vs : List V} {ds : List D}, RpA g B vs ds → RpA g B (vs.take n) (ds.take n)
  | 0, _, _, _ => .nil
  | _ + 1, _, _, .nil => .nil
  | n + 1, _, _, .cons r t => .cons r (RpA.take n t)
theorem RpA.drop : ∀ (n : Nat) {vs : List V} {ds : List D}, RpA g B vs ds → RpA g B (vs.drop n) (ds.drop n)
  | 0, _, _, r => r
  | _ + 1, _, _, .nil => .nil
  | n + 1, _, _, .cons _ t => RpA.drop n t
theorem RpA.set {v : V} {d : D} (r : Rp g B v d) : ∀ (n : Nat) {vs : List V} {ds : List D}, RpA g B vs ds → RpA g B (vs.set n v) (ds.set n d)
  | _, _, _, .nil => .nil
  | 0, _, _, .cons _ t => .cons r t
  | n + 1, _, _, .cons q t => .cons q (RpA.set r n t)
theorem RpA.ints : ∀ {ns : List Int}, RpA g B (ns.map V.int) (ns.map D.int)
  | [] => .nil
  | n :: _ => .cons (.int n) RpA.ints
theorem RpA.strs : ∀ {ns : List Str}, RpA g B (ns.map V.str) (ns.map D.str)
  | [] => .nil
  | n :: _ => .cons (.str n) RpA.strs
theorem RpA.ints_inv : ∀ {ns : List Int} {vs : List V}, RpA g B vs (ns.map D.int) → vs = ns.map V.int
  | [], _, h => by cases h; rfl
  | n :: ns, _, h => by
    cases h with
    | cons r t =>
      cases r
      rw [t.ints_inv, List.map_cons]
theorem RpA.strs_inv : ∀ {ns : List Str} {vs : List V}, RpA g B vs (ns.map D.str) → vs = ns.map V.str
  | [], _, h => by cases h; rfl
  | n :: ns, _, h => by
    cases h with
    | cons r t =>
      cases r
      rw [t.strs_inv, List.map_cons]
theorem RpA.bls_inv : ∀ {ns : List Bool} {vs : List V}, RpA g B vs (ns.map D.bl) → vs = ns.map V.bl
  | [], _, h => by cases h; rfl
  | n :: ns, _, h => by
    cases h with
    | cons r t =>
      cases r
      rw [t.bls_inv, List.map_cons]

/-- what a slot may own -/
def Ownd (o : HO) : Prop := (∃ vs, o = .lst vs) ∨ (∃ kvs, o = .dK kvs) ∨ ∃ C dx fs, o = .ins C dx fs
theorem Ownd.ntb {o : HO} (h : Ownd o) : ∀ ps, o ≠ .tbl ps := fun ps z => by
  subst z
  rcases h with ⟨_, h⟩ | ⟨_, h⟩ | ⟨_, _, _, h⟩ <;> cases h
theorem own_lst {vs : List V} : Ownd (.lst vs) := .inl ⟨vs, rfl⟩
theorem own_dK {vs : List (Key × V)} : Ownd (.dK vs) := .inr (.inl ⟨vs, rfl⟩)
theorem own_ins {C dx : Addr} {fs : List (Str × V)} : Ownd (.ins C dx fs) := .inr (.inr ⟨C, dx, fs, rfl⟩)
/-- from (B, H) to (B', H'): no cell is touched, what was tracked stays, what is known grows by new objects alone -/
structure Np (g : G) (B H B' H' : Hp) : Prop where
  keep : ∀ a o, H a = some o → (∀ ps, o ≠ .tbl ps) → H' a = some o
  up : Up B B'
  sub : Sub B' H'
  notb : ∀ a ps, B' a ≠ some (.tbl ps)
  old : ∀ a o, H a = some o → Ownd o → B a = none → B' a = none
  nm : ∀ a n, B' a = some (.own n) → B a = some (.own n)
  tabs : LamX.Tabs g.T H'
/-- the same where cells may be changed and made -/
structure Nx (g : G) (B H B' H' : Hp) : Prop where
  keep : ∀ a o, H a = some o → (∀ ps, o ≠ .tbl ps) → (∀ n, B a ≠ some (.own n)) → H' a = some o
  up : Up B B'
  sub : Sub B' H'
  notb : ∀ a ps, B' a ≠ some (.tbl ps)
  old : ∀ a o, H a = some o → Ownd o → B a = none → B' a = none
  nc : ∀ a o n, H a = some o → (∀ ps, o ≠ .tbl ps) → B a = none → B' a ≠ some (.own n)
  tabs : LamX.Tabs g.T H'
/-- how cells stand -/
def McR (g : G) (B H : Hp) (a : Addr) : Mc → Prop
  | .pt k => ∃ i j m : Int, H a = some (.lst [.int i, .int j, .int m]) ∧ i.natAbs < 2 ^ 2000 ∧ j.natAbs < 2 ^ 70 ∧ 0 ≤ m ∧ m ≤ k
  | .ob c xs => ∃ dx vs, H a = some (.ins (g.cls c) dx ((g.flds c).zip vs)) ∧ vs.length = (g.flds c).length ∧ RpA g B vs xs
  | .ls ds => ∃ vs, H a = some (.lst vs) ∧ RpA g B vs ds
  | .dc ks ds => ∃ vs, H a = some (.dK (ks.zip vs)) ∧ vs.length = ks.length ∧ RpA g B vs ds
structure MuR (g : G) (B H : Hp) (μ : Mu) : Prop where
  at_ : ∀ a n, B a = some (.own n) → ∃ m, μ[n]? = some m ∧ McR g B H a m
  uniq : ∀ a b n, B a = some (.own n) → B b = some (.own n) → a = b
variable {B' B'' H'' : Hp} {μ : Mu}
theorem McR.nx {a : Addr} {n : Nat} (k : ∀ o, H a = some o → (∀ ps, o ≠ .tbl ps) → H' a = some o) (u : Up B B') : ∀ {m : Mc}, McR g B H a m → McR g B' H' a m
  | .pt _, ⟨i, j, m, h, r⟩ => ⟨i, j, m, k _ h (fun _ z => by cases z), r⟩
  | .ob _ _, ⟨dx, vs, h, hl, r⟩ => ⟨dx, vs, k _ h (fun _ z => by cases z), hl, r.up u⟩
  | .ls _, ⟨vs, h, r⟩ => ⟨vs, k _ h (fun _ z => by cases z), r.up u⟩
  | .dc _ _, ⟨vs, h, hl, r⟩ => ⟨vs, k _ h (fun _ z => by cases z), hl, r.up u⟩
theorem MuR.np (m : MuR g B H μ) (n : Np g B H B' H') : MuR g B' H' μ :=
  ⟨fun a k h => let ⟨c, h1, h2⟩ := m.at_ a k (n.nm a k h); ⟨c, h1, h2.nx (n := k) (fun o => n.keep a o) n.up⟩, fun a b k h1 h2 => m.uniq a b k (n.nm a k h1) (n.nm b k h2)⟩
theorem Np.nx (n : Np g B H B' H') : Nx g B H B' H' := ⟨fun a o h t _ => n.keep a o h t, n.up, n.sub, n.notb, n.old, fun a o k _ _ hb z => (by rw [n.nm a k z] at hb; cases hb), n.tabs⟩
theorem Np.trans (x : Np g B H B' H') (y : Np g B' H' B'' H'') : Np g B H B'' H'' :=
  ⟨fun a o h n => y.keep a o (x.keep a o h n) n, x.up.trans y.up, y.sub, y.notb, fun a o h n q => y.old a o (x.keep a o h n.ntb) n (x.old a o h n q), fun a n h => x.nm a n (y.nm a n h), y.tabs⟩
theorem Nx.mk' {x : Nx g B H B' H'} {a : Addr} {o : HO} (h : H a = some o) (ht : ∀ ps, o ≠ .tbl ps) (hb : ∀ n, B a ≠ some (.own n)) : ∀ n, B' a ≠ some (.own n) := fun n z => by
  cases e : B a with
  | none => exact x.nc a o n h ht e z
  | some u =>
    have := x.up _ _ e
    rw [z] at this
    exact hb n (by rw [e]; exact this.symm)
theorem Nx.trans (x : Nx g B H B' H') (y : Nx g B' H' B'' H'') : Nx g B H B'' H'' :=
  ⟨fun a o h n c => y.keep a o (x.keep a o h n c) n (Nx.mk' (x := x) h n c), x.up.trans y.up, y.sub, y.notb, fun a o h n q => y.old a o (x.keep a o h n.ntb fun k z => by rw [q] at z; cases z) n (x.old a o h n q), fun a o k h t q z => by
    cases e : B' a with
    | none => exact y.nc a o k (x.keep a o h t fun k z => by rw [q] at z; cases z) t e z
    | some u =>
      have := y.up _ _ e
      rw [z] at this
      exact x.nc a o k h t q (by rw [e]; exact this.symm), y.tabs⟩
theorem Np.refl (s : Sub B H) (nt : ∀ a ps, B a ≠ some (.tbl ps)) (t : LamX.Tabs g.T H) : Np g B H B H :=
  ⟨fun _ _ h _ => h, Up.refl B, s, nt, fun _ _ _ _ q => q, fun _ _ h => h, t⟩
theorem Tabs.upd {T : List (Addr × Str)} (t : LamX.Tabs T H) {p : Addr} (hp : H p = none) (o : HO) : LamX.Tabs T (upd H p o) :=
  t.ext fun b u e => by rw [upd_ne (ne_of_none e hp)]; exact e
/-- a new object, known from now on -/
theorem Np.new (s : Sub B H) (nt : ∀ a ps, B a ≠ some (.tbl ps)) (t : LamX.Tabs g.T H) {p : Addr} (hp : H p = none) {o : HO} (ho : ∀ ps, o ≠ .tbl ps) (hm : ¬ Mk1 o) : Np g B H (upd B p o) (upd H p o) where
  keep := fun a u h _ => by rw [upd_ne (ne_of_none h hp)]; exact h
  up := fun a u h => by rw [upd_ne (ne_of_none h (s.none hp))]; exact h
  sub := ⟨fun a u h q => by
    by_cases e : a = p
    · subst e; rw [upd_same] at h ⊢; exact h
    · rw [upd_ne e] at h ⊢; exact s.co _ _ h q, fun a n h => by
    by_cases e : a = p
    · subst e; rw [upd_same] at h; exact absurd ⟨n, Option.some.inj h⟩ hm
    · rw [upd_ne e] at h ⊢; exact s.mkd _ _ h⟩
  notb := fun a ps h => by
    by_cases e : a = p
    · subst e; rw [upd_same] at h; exact ho ps (Option.some.inj h)
    · rw [upd_ne e] at h; exact nt a ps h
  old := fun a u h _ q => by rw [upd_ne (ne_of_none h hp)]; exact q
  nm := fun a n h => by
    by_cases e : a = p
    · subst e; rw [upd_same] at h; exact absurd ⟨n, Option.some.inj h⟩ hm
    · rw [upd_ne e] at h; exact h
  tabs := Tabs.upd t hp o
/-- a new object, not known -/
theorem Np.own (s : Sub B H) (nt : ∀ a ps, B a ≠ some (.tbl ps)) (t : LamX.Tabs g.T H) {p : Addr} (hp : H p = none) (o : HO) : Np g B H B (upd H p o) where
  keep := fun a u h _ => by rw [upd_ne (ne_of_none h hp)]; exact h
  up := Up.refl B
  sub := ⟨fun a u h q => by rw [upd_ne (ne_of_none (s.co _ _ h q) hp)]; exact s.co _ _ h q, fun a n h => by
    obtain ⟨u, e, r⟩ := s.mkd a n h
    exact ⟨u, by rw [upd_ne (ne_of_none e hp)]; exact e, r⟩⟩
  notb := nt
  old := fun a u _ _ q => q
  nm := fun _ _ h => h
  tabs := Tabs.upd t hp o
end

/-! ### slots -/
/-- what a slot holds: nothing told, a value, a list | dict | unfinished object that no other value holds -/
inductive Sl where
  | no | sh (d : D) | ow (ds : List D) | owd (ks : List Key) (ds : List D) | ob (c : Nat) (xs : List D)
  deriving Inhabited
def Sl.isOw : Sl → Bool
  | .ow _ => true
  | .owd _ _ => true
  | .ob _ _ => true
  | _ => false
def SlR (g : G) (B H : Hp) : Option V → Sl → Prop
  | _, .no => True
  | some v, .sh d => Rp g B v d
  | some v, .ow ds => ∃ a vs, v = .ref a ∧ H a = some (.lst vs) ∧ B a = none ∧ RpA g B vs ds
  | some v, .owd ks ds => ∃ a vs, v = .ref a ∧ H a = some (.dK (ks.zip vs)) ∧ vs.length = ks.length ∧ B a = none ∧ RpA g B vs ds
  | some v, .ob c xs => ∃ a dx vs, v = .ref a ∧ H a = some (.ins (g.cls c) dx (((g.flds c).take xs.length).zip vs)) ∧ vs.length = xs.length ∧ xs.length ≤ (g.flds c).length ∧ B a = none ∧ RpA g B vs xs
  | none, _ => False
/-- the slots σ hold what ρ tells -/
structure Rel (g : G) (B H : Hp) (σ : L2.St) (ρ : List Sl) (μ : Mu) : Prop where
  sub : Sub B H
  mu : MuR g B H μ
  notb : ∀ a ps, B a ≠ some (.tbl ps)
  tabs : LamX.Tabs g.T H
  len : σ.length = ρ.length
  sl : ∀ (i : Nat) (x : Option V) (s : Sl), σ[i]? = some x → ρ[i]? = some s → SlR g B H x s
  dis : ∀ (i j : Nat) (s t : Sl), i ≠ j → ρ[i]? = some s → ρ[j]? = some t → s.isOw = true → t.isOw = true → σ[i]? ≠ σ[j]?
section
variable {g : G} {B H B' H' : Hp} {σ : L2.St} {ρ : List Sl} {μ μ' : Mu}
theorem SlR.nx (n : Nx g B H B' H') : ∀ {x : Option V} {s : Sl}, SlR g B H x s → SlR g B' H' x s
  | none, .no, _ => True.intro
  | some _, .no, _ => True.intro
  | some _, .sh _, h => Rp.up n.up h
  | some _, .ow _, ⟨a, vs, e, h1, h2, h3⟩ => ⟨a, vs, e, n.keep _ _ h1 (fun _ z => by cases z) (fun _ z => by rw [h2] at z; cases z), n.old _ _ h1 own_lst h2, h3.up n.up⟩
  | some _, .owd _ _, ⟨a, vs, e, h1, h4, h2, h3⟩ => ⟨a, vs, e, n.keep _ _ h1 (fun _ z => by cases z) (fun _ z => by rw [h2] at z; cases z), h4, n.old _ _ h1 own_dK h2, h3.up n.up⟩
  | some _, .ob _ _, ⟨a, dx, vs, e, h1, h4, h5, h2, h3⟩ => ⟨a, dx, vs, e, n.keep _ _ h1 (fun _ z => by cases z) (fun _ z => by rw [h2] at z; cases z), h4, h5, n.old _ _ h1 own_ins h2, h3.up n.up⟩
theorem Rel.nx (r : Rel g B H σ ρ μ) (n : Nx g B H B' H') (m : MuR g B' H' μ') : Rel g B' H' σ ρ μ' :=
  ⟨n.sub, m, n.notb, n.tabs, r.len, fun i x s h1 h2 => (r.sl i x s h1 h2).nx n, r.dis⟩
theorem Rel.rp (r : Rel g B H σ ρ μ) : Np g B H B H := Np.refl r.sub r.notb r.tabs
theorem Rel.rf (r : Rel g B H σ ρ μ) : Nx g B H B H := r.rp.nx
theorem Rel.np (r : Rel g B H σ ρ μ) (n : Np g B H B' H') : Rel g B' H' σ ρ μ := r.nx n.nx (r.mu.np n)
theorem Rel.at (r : Rel g B H σ ρ μ) {i : Nat} {d : D} (h : ρ[i]? = some (.sh d)) : ∃ v, σ[i]? = some (some v) ∧ Rp g B v d := by
  have hi : i < σ.length := by rw [r.len]; exact (List.getElem?_eq_some_iff.mp h).1
  have q := r.sl i _ _ (List.getElem?_eq_getElem hi) h
  rw [List.getElem?_eq_getElem hi]
  cases e : σ[i] with
  | none => rw [e] at q; exact q.elim
  | some v => rw [e] at q; exact ⟨v, rfl, q⟩
/-- a slot is stored -/
theorem Rel.set (r : Rel g B H σ ρ μ) {i : Nat} {v : V} {d : D} (q : Rp g B v d) : Rel g B H (σ.set i (some v)) (ρ.set i (.sh d)) μ where
  sub := r.sub
  mu := r.mu
  notb := r.notb
  tabs := r.tabs
  len := by rw [List.length_set, List.length_set]; exact r.len
  sl := fun j x s h1 h2 => by
    by_cases e : i = j
    · subst e
      have hi : i < σ.length := by
        have := (List.getElem?_eq_some_iff.mp h1).1
        rw [List.length_set] at this; exact this
      rw [List.getElem?_set_self hi] at h1
      rw [List.getElem?_set_self (by rw [← r.len]; exact hi)] at h2
      cases h1; cases h2
      exact q
    · rw [List.getElem?_set_ne e] at h1 h2
      exact r.sl j x s h1 h2
  dis := fun j k s t n h1 h2 o1 o2 => by
    have ne : ∀ {m : Nat} {u : Sl}, (ρ.set i (.sh d))[m]? = some u → u.isOw = true → i ≠ m ∧ ρ[m]? = some u := fun {m u} h o => by
      by_cases e : i = m
      · subst e
        have hi : i < ρ.length := by
          have := (List.getElem?_eq_some_iff.mp h).1
          rw [List.length_set] at this; exact this
        rw [List.getElem?_set_self hi] at h
        cases h; cases o
      · rw [List.getElem?_set_ne e] at h
        exact ⟨e, h⟩
    obtain ⟨e1, h1'⟩ := ne h1 o1
    obtain ⟨e2, h2'⟩ := ne h2 o2
    rw [List.getElem?_set_ne e1, List.getElem?_set_ne e2]
    exact r.dis j k s t n h1' h2' o1 o2
/-- a slot is forgotten -/
theorem Rel.drop (r : Rel g B H σ ρ μ) {i : Nat} {x : Option V} : Rel g B H (σ.set i x) (ρ.set i .no) μ where
  sub := r.sub
  mu := r.mu
  notb := r.notb
  tabs := r.tabs
  len := by rw [List.length_set, List.length_set]; exact r.len
  sl := fun j x s h1 h2 => by
    by_cases e : i = j
    · subst e
      have hi : i < σ.length := by
        have := (List.getElem?_eq_some_iff.mp h1).1
        rw [List.length_set] at this; exact this
      rw [List.getElem?_set_self (by rw [← r.len]; exact hi)] at h2
      cases h2
      cases x <;> exact True.intro
    · rw [List.getElem?_set_ne e] at h1 h2
      exact r.sl j x s h1 h2
  dis := fun j k s t n h1 h2 o1 o2 => by
    have ne : ∀ {m : Nat} {u : Sl}, (ρ.set i .no)[m]? = some u → u.isOw = true → i ≠ m ∧ ρ[m]? = some u := fun {m u} h o => by
      by_cases e : i = m
      · subst e
        have hi : i < ρ.length := by
          have := (List.getElem?_eq_some_iff.mp h).1
          rw [List.length_set] at this; exact this
        rw [List.getElem?_set_self hi] at h
        cases h; cases o
      · rw [List.getElem?_set_ne e] at h
        exact ⟨e, h⟩
    obtain ⟨e1, h1'⟩ := ne h1 o1
    obtain ⟨e2, h2'⟩ := ne h2 o2
    rw [List.getElem?_set_ne e1, List.getElem?_set_ne e2]
    exact r.dis j k s t n h1' h2' o1 o2
end
end Dk
namespace Dk
open PySem PySem.Spec PyProof.Rows L2

/-- (B, H) without slots -/
structure Bs (g : G) (B H : Hp) : Prop where
  sub : Sub B H
  notb : ∀ a ps, B a ≠ some (.tbl ps)
  tabs : LamX.Tabs g.T H
theorem Rel.bs {g : G} {B H : Hp} {σ : L2.St} {ρ : List Sl} {μ : Mu} (r : Rel g B H σ ρ μ) : Bs g B H := ⟨r.sub, r.notb, r.tabs⟩
theorem Bs.rf {g : G} {B H : Hp} (b : Bs g B H) : Np g B H B H := Np.refl b.sub b.notb b.tabs
theorem Bs.new {g : G} {B H : Hp} (b : Bs g B H) {p : Addr} (hp : H p = none) {o : HO} (ho : ∀ ps, o ≠ .tbl ps) (hm : ¬ Mk1 o := by rintro ⟨_, z⟩; first | cases z | (unfold excv at z; cases z) | (unfold LamX.CodeO at z; cases z)) : Np g B H (upd B p o) (upd H p o) := Np.new b.sub b.notb b.tabs hp ho hm
theorem Nx.bs {g : G} {B H B' H' : Hp} (n : Nx g B H B' H') : Bs g B' H' := ⟨n.sub, n.notb, n.tabs⟩
theorem Np.bs {g : G} {B H B' H' : Hp} (n : Np g B H B' H') : Bs g B' H' := ⟨n.sub, n.notb, n.tabs⟩
/-- a step, and what the cells hold behind it -/
structure Nm (g : G) (B H B' H' : Hp) (μ : Mu) : Prop extends Nx g B H B' H' where
  mu : MuR g B' H' μ
section
variable {g : G} {B H B' H' B'' H'' : Hp} {μ μ' : Mu} {σ : L2.St} {ρ : List Sl}
theorem Nm.bs (n : Nm g B H B' H' μ) : Bs g B' H' := n.toNx.bs
theorem Nm.trans (x : Nm g B H B' H' μ) (y : Nm g B' H' B'' H'' μ') : Nm g B H B'' H'' μ' := ⟨x.toNx.trans y.toNx, y.mu⟩
theorem Nm.np (x : Nm g B H B' H' μ) (y : Np g B' H' B'' H'') : Nm g B H B'' H'' μ := ⟨x.toNx.trans y.nx, x.mu.np y⟩
theorem Nx.nm (x : Nx g B H B' H') (y : Nm g B' H' B'' H'' μ') : Nm g B H B'' H'' μ' := ⟨x.trans y.toNx, y.mu⟩
theorem Rel.mm (r : Rel g B H σ ρ μ) : Nm g B H B H μ := ⟨r.rf, r.mu⟩
theorem Rel.nm (r : Rel g B H σ ρ μ) (n : Nm g B H B' H' μ') : Rel g B' H' σ ρ μ' := r.nx n.toNx n.mu
end

/-- an error that flies: its class, its own dict; its value is told -/
def ExObj (g : G) (B : Hp) (c : Nat) (d : D) (cls : Value) (dd : Option Addr) : Prop := ∃ dx v, cls = .ref (g.cls c) ∧ dd = some dx ∧ B dx = some (.xd [("value", v)]) ∧ Rp g B v d

abbrev Ek := Nat → D → Mu → Prop
abbrev We := List Sl → Mu → (D → Mu → Prop) → Ek → Prop
abbrev Wt := List Sl → Mu → (Bool → Mu → Prop) → Ek → Prop
abbrev Wa := List Sl → Mu → (List D → Mu → Prop) → Ek → Prop
abbrev F1 := D → (D → Prop) → Prop
abbrev F2 := D → D → (D → Prop) → Prop
abbrev Fn := List D → (D → Prop) → Prop
/-- what a def does with its arguments -/
abbrev Ct := List D → Mu → (D → Mu → Prop) → Ek → Prop

/-- the side facts of a context -/
structure Gd (g : G) (X : Cx) : Prop where
  k : X.K = g.K
  gd : X.A.guards = some []
  un : X.A.units + 128 < cLine

section
variable (g : G) (W : WX)
def exk (B H : Hp) (σ : L2.St) (E0 : Ek) : Prop := ∀ c d μ', E0 c d μ' → ∀ cls dd B' H', Nm g B H B' H' μ' → ExObj g B' c d cls dd → W cls dd σ H'
def tD (w : We) : TE := fun σ H Q => ∃ B ρ μ Q0 E0, Rel g B H σ ρ μ ∧ w ρ μ Q0 E0 ∧ (∀ d μ', Q0 d μ' → ∀ v B' H', Nm g B H B' H' μ' → Rp g B' v d → Q v H') ∧ exk g W B H σ E0
def tDT (w : Wt) : TT := fun σ H Q => ∃ B ρ μ Q0 E0, Rel g B H σ ρ μ ∧ w ρ μ Q0 E0 ∧ (∀ b μ', Q0 b μ' → ∀ B' H', Nm g B H B' H' μ' → Q b H') ∧ exk g W B H σ E0
def tDA (w : Wa) : TA := fun σ H Q => ∃ B ρ μ Q0 E0, Rel g B H σ ρ μ ∧ w ρ μ Q0 E0 ∧ (∀ ds μ', Q0 ds μ' → ∀ vs B' H', Nm g B H B' H' μ' → RpA g B' vs ds → Q vs H') ∧ exk g W B H σ E0
end
structure DE (g : G) (X : Cx) (e : Expr) (w : We) : Prop where
  run : Gd g X → ∀ W, Takes X W → PE X e (tD g W w)
structure DT (g : G) (X : Cx) (e : Expr) (w : Wt) : Prop where
  run : Gd g X → ∀ W, Takes X W → PT X e (tDT g W w)
structure DW (g : G) (X : Cx) (e : Expr) (w : Wt) : Prop where
  run : Gd g X → ∀ W, Takes X W → PW X e (tDT g W w)
structure DA (g : G) (X : Cx) (es : List Expr) (w : Wa) : Prop where
  run : Gd g X → ∀ W, Takes X W → PA X es (tDA g W w)

theorem PEw {X : Cx} {e : Expr} {t t' : TE} (h : PE X e t) (i : ∀ σ H Q, t' σ H Q → t σ H Q) : PE X e t' := ⟨fun pins s σ H Q I q => h.run pins s σ H Q I (i σ H Q q)⟩
theorem PTw' {X : Cx} {e : Expr} {t t' : TT} (h : PT X e t) (i : ∀ σ H Q, t' σ H Q → t σ H Q) : PT X e t' := ⟨fun pins s σ H Q I q => h.run pins s σ H Q I (i σ H Q q)⟩
theorem PWw {X : Cx} {e : Expr} {t t' : TT} (h : PW X e t) (i : ∀ σ H Q, t' σ H Q → t σ H Q) : PW X e t' := ⟨fun wh pins s σ H Q I q => h.run wh pins s σ H Q I (i σ H Q q)⟩
theorem PAw {X : Cx} {es : List Expr} {t t' : TA} (h : PA X es t) (i : ∀ σ H Q, t' σ H Q → t σ H Q) : PA X es t' := ⟨fun p pins s σ H Q I q => h.run p pins s σ H Q I (i σ H Q q)⟩

section
variable {g : G} {W : WX} {B H B' H' : Hp} {σ : L2.St} {ρ : List Sl} {μ μ' : Mu} {E0 : Ek}
theorem exk.nx (h : exk g W B H σ E0) (n : Nm g B H B' H' μ') : exk g W B' H' σ E0 := fun c d _ e cls dd B2 H2 m x => h c d _ e cls dd B2 H2 (n.trans m) x
/-- one step: the reading of a, then k -/
theorem tD.go {wa : We} {Q : VK} {k : D → Mu → Prop} (rel : Rel g B H σ ρ μ) (hw : wa ρ μ k E0) (hx : exk g W B H σ E0)
    (h : ∀ d μ' v B' H', k d μ' → Nm g B H B' H' μ' → Rp g B' v d → Q v H') : tD g W wa σ H Q := ⟨B, ρ, μ, k, E0, rel, hw, fun d μ' hd v B' H' n r => h d μ' v B' H' hd n r, hx⟩
theorem tDA.go {wa : Wa} {Q : List V → Hp → Prop} {k : List D → Mu → Prop} (rel : Rel g B H σ ρ μ) (hw : wa ρ μ k E0) (hx : exk g W B H σ E0)
    (h : ∀ d μ' v B' H', k d μ' → Nm g B H B' H' μ' → RpA g B' v d → Q v H') : tDA g W wa σ H Q := ⟨B, ρ, μ, k, E0, rel, hw, fun d μ' hd v B' H' n r => h d μ' v B' H' hd n r, hx⟩
theorem tDT.go {wa : Wt} {Q : Bool → Hp → Prop} {k : Bool → Mu → Prop} (rel : Rel g B H σ ρ μ) (hw : wa ρ μ k E0) (hx : exk g W B H σ E0)
    (h : ∀ b μ' B' H', k b μ' → Nm g B H B' H' μ' → Q b H') : tDT g W wa σ H Q := ⟨B, ρ, μ, k, E0, rel, hw, fun b μ' hd B' H' n => h b μ' B' H' hd n, hx⟩
end

/-! ### values by operations on data -/
/-- f on data is r on values -/
def Op2 (g : G) (r : R2) (f : F2) : Prop := ∀ {B H x y d e} {Q0 : D → Prop} {Q : VK}, Bs g B H → Rp g B x d → Rp g B y e → f d e Q0 →
  (∀ z, Q0 z → ∀ v B' H', Np g B H B' H' → Rp g B' v z → Q v H') → r x y H Q
def Op1 (g : G) (r : V → Hp → VK → Prop) (f : F1) : Prop := ∀ {B H x d} {Q0 : D → Prop} {Q : VK}, Bs g B H → Rp g B x d → f d Q0 →
  (∀ z, Q0 z → ∀ v B' H', Np g B H B' H' → Rp g B' v z → Q v H') → r x H Q
def OpN (g : G) (r : List V → Hp → VK → Prop) (f : Fn) : Prop := ∀ {B H xs ds} {Q0 : D → Prop} {Q : VK}, Bs g B H → RpA g B xs ds → f ds Q0 →
  (∀ z, Q0 z → ∀ v B' H', Np g B H B' H' → Rp g B' v z → Q v H') → r xs H Q
/-- a method of a built-in type -/
def OpM (g : G) (T : String) (r : V → List V → Hp → VK → Prop) (f : D → Fn) : Prop := ∀ {B H x xs d ds} {Q0 : D → Prop} {Q : VK}, Bs g B H → Rp g B x d → RpA g B xs ds → f d ds Q0 →
  (∀ z, Q0 z → ∀ v B' H', Np g B H B' H' → Rp g B' v z → Q v H') → r x xs H Q

def wV (i : Nat) : We := fun ρ μ Q _ => match ρ[i]? with
  | some (.sh d) => Q d μ
  | _ => False
def wC (d : D) : We := fun _ μ Q _ => Q d μ
def w2 (f : F2) (a b : We) : We := fun ρ μ Q E => a ρ μ (fun d μ => b ρ μ (fun e μ => f d e (fun z => Q z μ)) E) E
def w1 (f : F1) (a : We) : We := fun ρ μ Q E => a ρ μ (fun d μ => f d (fun z => Q z μ)) E
def wN (f : Fn) (a : Wa) : We := fun ρ μ Q E => a ρ μ (fun ds μ => f ds (fun z => Q z μ)) E
def wM (f : D → Fn) (o : We) (a : Wa) : We := fun ρ μ Q E => o ρ μ (fun d μ => a ρ μ (fun ds μ => f d ds (fun z => Q z μ)) E) E
def aN : Wa := fun _ μ Q _ => Q [] μ
def aC (a : We) (r : Wa) : Wa := fun ρ μ Q E => a ρ μ (fun d μ => r ρ μ (fun ds μ => Q (d :: ds) μ) E) E

section
variable {g : G} {X : Cx} {a b c : Expr} {wa wb wc : We} {pos : Pos}
theorem de_var (i : Nat) {x : Str} (hN : X.N[i]? = some x := by rfl) (hv : Vis X.env.scope x := by first | exact Or.inl rfl | exact Or.inr (Or.inl rfl) | exact Or.inr (Or.inr rfl)) (hd : (x == ("__debug__" : Str)) = false := by decide)
    (hcd : (x == ("__classdict__" : Str)) = false := by decide) : DE g X (.Name x pos) (wV i) := ⟨fun gd W tk => PEw (pe_var hN hv hd hcd) fun σ H Q h => by
  obtain ⟨B, ρ, μ, Q0, E0, rel, hw, hq, _⟩ := h
  unfold wV at hw
  split at hw
  · rename_i d e
    obtain ⟨v, h1, h2⟩ := rel.at e
    exact ⟨v, h1, hq d _ hw v B H rel.mm h2⟩
  · exact hw.elim⟩
theorem de_c {v : V} {d : D} {e : Expr} (h : PE X e (tC v)) (r : ∀ B, Rp g B v d) : DE g X e (wC d) := ⟨fun gd W tk => PEw h fun σ H Q h => by
  obtain ⟨B, ρ, μ, Q0, E0, rel, hw, hq, _⟩ := h
  exact hq d _ hw v B H rel.mm (r B)⟩
theorem de_int {i j} : DE g X (.Constant (.int i) j pos) (wC (.int i)) := de_c pe_int fun _ => .int i
theorem de_bl {i j} : DE g X (.Constant (.bool i) j pos) (wC (.bl i)) := de_c pe_bl fun _ => .bl i
theorem de_non {j} : DE g X (.Constant .none j pos) (wC .non) := de_c pe_non fun _ => .non
theorem de_str {i j} : DE g X (.Constant (.str i) j pos) (wC (.str i)) := de_c pe_str fun _ => .str i
/-- a module's constant: an int, a text -/
theorem de_gi {x : Str} {i : Int} {t : Tok} (hg : Gl X x) (hm : X.mg x = some (.int i t)) (hd : (x == ("__debug__" : Str)) = false := by decide) : DE g X (.Name x pos) (wC (.int i)) := de_c (v := .int i) (pe_glob hg hm ⟨_, rfl⟩ hd) fun _ => .int i
theorem de_gs {x : Str} {i : Str} {t : Tok} (hg : Gl X x) (hm : X.mg x = some (.str i t)) (hd : (x == ("__debug__" : Str)) = false := by decide) : DE g X (.Name x pos) (wC (.str i)) := de_c (v := .str i) (pe_glob hg hm ⟨_, rfl⟩ hd) fun _ => .str i

theorem de_bin {op : Operator} {r : R2} {f : F2} (ho : Gd g X → OpR X (binaryOp op) r) (hf : Gd g X → Op2 g r f) (ha : DE g X a wa) (hb : DE g X b wb) : DE g X (.BinOp a op b pos) (w2 f wa wb) := ⟨fun gd W tk => PEw (pe_op (ho gd) (ha.run gd W tk) (hb.run gd W tk)) fun σ H Q h => by
  obtain ⟨B, ρ, μ, Q0, E0, rel, hw, hq, hx⟩ := h
  refine tD.go rel hw hx fun d _ v B1 H1 k1 n1 r1 => tD.go (rel.nm n1) k1 (hx.nx n1) fun e _ u B2 H2 k2 n2 r2 => ?_
  exact hf gd n2.bs (r1.up n2.up) r2 k2 fun z hz v3 B3 H3 n3 r3 => hq z _ hz v3 B3 H3 ((n1.trans n2).np n3) r3⟩
theorem de_un {op : UnaryOp} {r : V → Hp → VK → Prop} {f : F1} (ho : Gd g X → UnR X (unaryOp op) r) (hf : Gd g X → Op1 g r f) (ha : DE g X a wa) : DE g X (.UnaryOp op a pos) (w1 f wa) := ⟨fun gd W tk => PEw (pe_un (ho gd) (ha.run gd W tk)) fun σ H Q h => by
  obtain ⟨B, ρ, μ, Q0, E0, rel, hw, hq, hx⟩ := h
  refine tD.go rel hw hx fun d _ v B1 H1 k1 n1 r1 => hf gd n1.bs r1 k1 fun z hz v3 B3 H3 n3 r3 => hq z _ hz v3 B3 H3 (n1.np n3) r3⟩
theorem de_cmp {op : CmpOp} {r : R2} {f : F2} (ho : Gd g X → OpR X (compareOp op) r) (hf : Gd g X → Op2 g r f) (ha : DE g X a wa) (hb : DE g X b wb) (hm : behindInMarks op b = false) : DE g X (.Compare a [op] [b] pos) (w2 f wa wb) := ⟨fun gd W tk => PEw (pe_cmpR (ho gd) (ha.run gd W tk) (hb.run gd W tk) hm) fun σ H Q h => by
  obtain ⟨B, ρ, μ, Q0, E0, rel, hw, hq, hx⟩ := h
  refine tD.go rel hw hx fun d _ v B1 H1 k1 n1 r1 => tD.go (rel.nm n1) k1 (hx.nx n1) fun e _ u B2 H2 k2 n2 r2 => ?_
  exact hf gd n2.bs (r1.up n2.up) r2 k2 fun z hz v3 B3 H3 n3 r3 => hq z _ hz v3 B3 H3 ((n1.trans n2).np n3) r3⟩
/-- a value that is True or False -/
def tB0 (w : We) : Wt := fun ρ μ Q E => w ρ μ (fun d μ => match d with
  | .bl b => Q b μ
  | _ => False) E
theorem tB0.elim {Q0 : Bool → Mu → Prop} {μ : Mu} {d : D} (h : (match d with | .bl b => Q0 b μ | _ => False)) : ∃ b, d = .bl b ∧ Q0 b μ := by
  cases d with
  | bl b => exact ⟨b, rfl, h⟩
  | _ => exact h.elim
theorem dt_cmp {op : CmpOp} {r : R2} {f : F2} (ho : Gd g X → OpR X (compareOp op) r) (hf : Gd g X → Op2 g r f) (ha : DE g X a wa) (hb : DE g X b wb) (hm : behindInMarks op b = false) : DT g X (.Compare a [op] [b] pos) (tB0 (w2 f wa wb)) := ⟨fun gd W tk => PTw' (pt_cmpR (ho gd) (ha.run gd W tk) (hb.run gd W tk) hm) fun σ H Q h => by
  obtain ⟨B, ρ, μ, Q0, E0, rel, hw, hq, hx⟩ := h
  refine tD.go rel hw hx fun d _ v B1 H1 k1 n1 r1 => tD.go (rel.nm n1) k1 (hx.nx n1) fun e _ u B2 H2 k2 n2 r2 => ?_
  exact hf gd n2.bs (r1.up n2.up) r2 k2 fun z hz v3 B3 H3 n3 r3 => by
    obtain ⟨b, rfl, q⟩ := tB0.elim hz
    cases r3
    exact ⟨b, rfl, hq b _ q B3 H3 ((n1.trans n2).np n3)⟩⟩
theorem dt_val (ha : DE g X a wa) (he : ∀ whole, isTrue a X.env whole = (do let v ← whole; standAt a.pos; holding [v] (truthy v)) := by intro _; rfl) : DT g X a (tB0 wa) := ⟨fun gd W tk => PTw' (pt_val (ha.run gd W tk) he) fun σ H Q h => by
  obtain ⟨B, ρ, μ, Q0, E0, rel, hw, hq, hx⟩ := h
  refine tD.go rel hw hx fun d _ v B1 H1 k1 n1 r1 => ?_
  obtain ⟨b, rfl, q⟩ := tB0.elim k1
  cases r1
  exact ⟨b, rfl, hq b _ q B1 H1 n1⟩⟩

/-! tests -/
def tAn (t u : Wt) : Wt := fun ρ μ Q E => t ρ μ (fun b μ => match b with
  | true => u ρ μ Q E
  | false => Q false μ) E
def tOrr (t u : Wt) : Wt := fun ρ μ Q E => t ρ μ (fun b μ => match b with
  | true => Q true μ
  | false => u ρ μ Q E) E
def tNt (t : Wt) : Wt := fun ρ μ Q E => t ρ μ (fun b μ => Q (!b) μ) E
variable {ta tb : Wt} {rest : List Expr}
theorem dw_pt (h : DW g X a ta) : DT g X a ta := ⟨fun gd W tk => (h.run gd W tk).pt⟩
theorem dw_and1 (h : DT g X a ta) : DW g X (.BoolOp .And [a] pos) ta := ⟨fun gd W tk => pw_and1 (h.run gd W tk)⟩
theorem dw_or1 (h : DT g X a ta) : DW g X (.BoolOp .Or [a] pos) ta := ⟨fun gd W tk => pw_or1 (h.run gd W tk)⟩
theorem dw_and (h : DT g X a ta) (h2 : DW g X (.BoolOp .And (b :: rest) pos) tb) : DW g X (.BoolOp .And (a :: b :: rest) pos) (tAn ta tb) := ⟨fun gd W tk => PWw (pw_and (h.run gd W tk) (h2.run gd W tk)) fun σ H Q h => by
  obtain ⟨B, ρ, μ, Q0, E0, rel, hw, hq, hx⟩ := h
  refine tDT.go rel hw hx fun b _ B1 H1 k1 n1 => ?_
  cases b with
  | true =>
    refine (if_pos rfl).mpr ?_
    exact tDT.go (rel.nm n1) k1 (hx.nx n1) fun b _ B2 H2 k2 n2 => hq b _ k2 B2 H2 (n1.trans n2)
  | false =>
    refine (if_neg Bool.false_ne_true).mpr ?_
    exact hq _ _ k1 B1 H1 n1⟩
theorem dw_or (h : DT g X a ta) (h2 : DW g X (.BoolOp .Or (b :: rest) pos) tb) : DW g X (.BoolOp .Or (a :: b :: rest) pos) (tOrr ta tb) := ⟨fun gd W tk => PWw (pw_or (h.run gd W tk) (h2.run gd W tk)) fun σ H Q h => by
  obtain ⟨B, ρ, μ, Q0, E0, rel, hw, hq, hx⟩ := h
  refine tDT.go rel hw hx fun b _ B1 H1 k1 n1 => ?_
  cases b with
  | false =>
    refine (if_neg Bool.false_ne_true).mpr ?_
    exact tDT.go (rel.nm n1) k1 (hx.nx n1) fun b _ B2 H2 k2 n2 => hq b _ k2 B2 H2 (n1.trans n2)
  | true =>
    refine (if_pos rfl).mpr ?_
    exact hq _ _ k1 B1 H1 n1⟩
theorem dt_not (h : DT g X a ta) : DT g X (.UnaryOp .Not a pos) (tNt ta) := ⟨fun gd W tk => PTw' (pt_not (h.run gd W tk)) fun σ H Q h => by
  obtain ⟨B, ρ, μ, Q0, E0, rel, hw, hq, hx⟩ := h
  exact tDT.go rel hw hx fun b _ B1 H1 k1 n1 => hq _ _ k1 B1 H1 n1⟩
/-! and, or, not as values -/
def wAn (a b : We) : We := fun ρ μ Q E => a ρ μ (fun d μ => match d with
  | .bl true => b ρ μ Q E
  | .bl false => Q (.bl false) μ
  | _ => False) E
def wOr (a b : We) : We := fun ρ μ Q E => a ρ μ (fun d μ => match d with
  | .bl true => Q (.bl true) μ
  | .bl false => b ρ μ Q E
  | _ => False) E
def wNt (a : We) : We := fun ρ μ Q E => a ρ μ (fun d μ => match d with
  | .bl b => Q (.bl (!b)) μ
  | _ => False) E
def wIf (t : Wt) (a b : We) : We := fun ρ μ Q E => t ρ μ (fun c μ => match c with
  | true => a ρ μ Q E
  | false => b ρ μ Q E) E
theorem de_one {op} (h : DE g X a wa) : DE g X (.BoolOp op [a] pos) wa := ⟨fun gd W tk => pe_one (h.run gd W tk)⟩
theorem de_and (h : DE g X a wa) (h2 : DE g X (.BoolOp .And (b :: rest) pos) wb) : DE g X (.BoolOp .And (a :: b :: rest) pos) (wAn wa wb) := ⟨fun gd W tk => PEw (pe_and (h.run gd W tk) (h2.run gd W tk)) fun σ H Q h => by
  obtain ⟨B, ρ, μ, Q0, E0, rel, hw, hq, hx⟩ := h
  refine tD.go rel hw hx fun d _ v B1 H1 k1 n1 r1 => ?_
  cases d with
  | bl c =>
    cases r1
    refine ⟨c, rfl, ?_⟩
    cases c with
    | true =>
      refine (if_pos rfl).mpr ?_
      exact tD.go (rel.nm n1) k1 (hx.nx n1) fun z _ v B2 H2 k2 n2 r2 => hq z _ k2 v B2 H2 (n1.trans n2) r2
    | false =>
      refine (if_neg Bool.false_ne_true).mpr ?_
      exact hq _ _ k1 _ B1 H1 n1 (.bl false)
  | _ => exact k1.elim⟩
theorem de_or (h : DE g X a wa) (h2 : DE g X (.BoolOp .Or (b :: rest) pos) wb) : DE g X (.BoolOp .Or (a :: b :: rest) pos) (wOr wa wb) := ⟨fun gd W tk => PEw (pe_or (h.run gd W tk) (h2.run gd W tk)) fun σ H Q h => by
  obtain ⟨B, ρ, μ, Q0, E0, rel, hw, hq, hx⟩ := h
  refine tD.go rel hw hx fun d _ v B1 H1 k1 n1 r1 => ?_
  cases d with
  | bl c =>
    cases r1
    refine ⟨c, rfl, ?_⟩
    cases c with
    | false =>
      refine (if_neg Bool.false_ne_true).mpr ?_
      exact tD.go (rel.nm n1) k1 (hx.nx n1) fun z _ v B2 H2 k2 n2 r2 => hq z _ k2 v B2 H2 (n1.trans n2) r2
    | true =>
      refine (if_pos rfl).mpr ?_
      exact hq _ _ k1 _ B1 H1 n1 (.bl true)
  | _ => exact k1.elim⟩
theorem de_not (h : DE g X a wa) : DE g X (.UnaryOp .Not a pos) (wNt wa) := ⟨fun gd W tk => PEw (pe_not (h.run gd W tk)) fun σ H Q h => by
  obtain ⟨B, ρ, μ, Q0, E0, rel, hw, hq, hx⟩ := h
  refine tD.go rel hw hx fun d _ v B1 H1 k1 n1 r1 => ?_
  cases d with
  | bl c =>
    cases r1
    exact ⟨c, rfl, hq _ _ k1 _ B1 H1 n1 (.bl _)⟩
  | _ => exact k1.elim⟩
theorem de_if (h : DT g X c ta) (h1 : DE g X a wa) (h2 : DE g X b wb) : DE g X (.IfExp c a b pos) (wIf ta wa wb) := ⟨fun gd W tk => PEw (pe_ifExp (h.run gd W tk) (h1.run gd W tk) (h2.run gd W tk)) fun σ H Q h => by
  obtain ⟨B, ρ, μ, Q0, E0, rel, hw, hq, hx⟩ := h
  refine tDT.go rel hw hx fun b _ B1 H1 k1 n1 => ?_
  cases b with
  | true =>
    refine (if_pos rfl).mpr ?_
    exact tD.go (rel.nm n1) k1 (hx.nx n1) fun z _ v B2 H2 k2 n2 r2 => hq z _ k2 v B2 H2 (n1.trans n2) r2
  | false =>
    refine (if_neg Bool.false_ne_true).mpr ?_
    exact tD.go (rel.nm n1) k1 (hx.nx n1) fun z _ v B2 H2 k2 n2 r2 => hq z _ k2 v B2 H2 (n1.trans n2) r2⟩
/-! arguments, displays -/
theorem da_nil : DA g X [] aN := ⟨fun gd W tk => PAw pa_nil fun σ H Q h => by
  obtain ⟨B, ρ, μ, Q0, E0, rel, hw, hq, hx⟩ := h
  exact hq [] _ hw [] B H rel.mm .nil⟩
theorem da_cons {es : List Expr} {wr : Wa} (ha : DE g X a wa) (hr : DA g X es wr) (hs : starEach (a :: es) X.env = (false, eval a X.env) :: starEach es X.env := by rfl) : DA g X (a :: es) (aC wa wr) := ⟨fun gd W tk => PAw (pa_cons (ha.run gd W tk) (hr.run gd W tk) hs) fun σ H Q h => by
  obtain ⟨B, ρ, μ, Q0, E0, rel, hw, hq, hx⟩ := h
  refine tD.go rel hw hx fun d _ v B1 H1 k1 n1 r1 => tDA.go (rel.nm n1) k1 (hx.nx n1) fun ds _ vs B2 H2 k2 n2 r2 => ?_
  exact hq _ _ k2 _ B2 H2 (n1.trans n2) (.cons (r1.up n2.up) r2)⟩
def fTup : Fn := fun ds Q => ds.length ≤ sizeLine ∧ Q (.tup ds)
def fLst : Fn := fun ds Q => ds.length ≤ sizeLine ∧ Q (.lst ds)
theorem no_tup {xs : List V} : ∀ ps, HO.tup xs ≠ .tbl ps := fun ps z => by cases z
theorem no_lst {xs : List V} : ∀ ps, HO.lst xs ≠ .tbl ps := fun ps z => by cases z
theorem Bs.tup {B H : Hp} (b : Bs g B H) {vs : List V} {ds : List D} (r : RpA g B vs ds) {p : Addr} (hp : H p = none) : Np g B H (upd B p (.tup vs)) (upd H p (.tup vs)) ∧ Rp g (upd B p (.tup vs)) (.ref p) (.tup ds) :=
  ⟨b.new hp no_tup, .tup (.inl (.inl upd_same)) (r.up (b.new hp (no_tup (xs := vs))).up)⟩
theorem Bs.lst {B H : Hp} (b : Bs g B H) {vs : List V} {ds : List D} (r : RpA g B vs ds) {p : Addr} (hp : H p = none) : Np g B H (upd B p (.lst vs)) (upd H p (.lst vs)) ∧ Rp g (upd B p (.lst vs)) (.ref p) (.lst ds) :=
  ⟨b.new hp no_lst, .lst upd_same (r.up (b.new hp (no_lst (xs := vs))).up)⟩
theorem de_tup {es : List Expr} {w : Wa} {x1} (h : DA g X es w) : DE g X (.Tuple es x1 pos) (wN fTup w) := ⟨fun gd W tk => PEw (pe_tup (h.run gd W tk)) fun σ H Q h => by
  obtain ⟨B, ρ, μ, Q0, E0, rel, hw, hq, hx⟩ := h
  refine tDA.go rel hw hx fun ds _ vs B1 H1 k1 n1 r1 => ⟨by rw [r1.len]; exact k1.1, fun p hp => ?_⟩
  obtain ⟨n2, r2⟩ := n1.bs.tup r1 hp
  exact hq _ _ k1.2 _ _ _ (n1.np n2) r2⟩
theorem de_lst {es : List Expr} {w : Wa} (h : DA g X es w) : DE g X (.List es pos) (wN fLst w) := ⟨fun gd W tk => PEw (pe_lst (h.run gd W tk)) fun σ H Q h => by
  obtain ⟨B, ρ, μ, Q0, E0, rel, hw, hq, hx⟩ := h
  refine tDA.go rel hw hx fun ds _ vs B1 H1 k1 n1 r1 => ⟨by rw [r1.len]; exact k1.1, fun p hp => ?_⟩
  obtain ⟨n2, r2⟩ := n1.bs.lst r1 hp
  exact hq _ _ k1.2 _ _ _ (n1.np n2) r2⟩
/-! built-ins by name -/
theorem de_callB {x : Str} {p : Pos} {e : Expr} {es : List Expr} {id : String} {r : List V → Hp → VK → Prop} {f : Fn} {w : Wa} (hc : Gd g X → CallR X (.builtin id) r) (hf : Gd g X → OpN g r f) (hg : Gl X x) (hm : X.mg x = none) (hv : bootBuiltins x = some (.builtin id))
    (ha : DA g X (e :: es) w) (hn : x ≠ "__name__" := by decide) (hdb : (x == ("__debug__" : Str)) = false := by decide)
    (he : starEach (e :: es) X.env = (false, eval e X.env) :: starEach es X.env := by rfl) (hpl : (backTo pos (starEach es X.env)).any (·.1) = false := by rfl) : DE g X (.Call (.Name x p) (e :: es) [] pos) (wN f w) := ⟨fun gd W tk => PEw (pe_callB (hc gd) hg hm hv (ha.run gd W tk) hn hdb he hpl) fun σ H Q h => by
  obtain ⟨B, ρ, μ, Q0, E0, rel, hw, hq, hx⟩ := h
  refine tDA.go rel hw hx fun ds _ vs B1 H1 k1 n1 r1 => hf gd n1.bs r1 k1 fun z hz v3 B3 H3 n3 r3 => hq z _ hz v3 B3 H3 (n1.np n3) r3⟩
theorem de_callTy {x : Str} {p : Pos} {e : Expr} {es : List Expr} {T : String} {r : List V → Hp → VK → Prop} {f : Fn} {w : Wa} (hc : Gd g X → CallR X (.type T) r) (hf : Gd g X → OpN g r f) (hg : Gl X x) (hm : X.mg x = none) (hv : bootBuiltins x = some (.type T))
    (ha : DA g X (e :: es) w) (hn : x ≠ "__name__" := by decide) (hdb : (x == ("__debug__" : Str)) = false := by decide)
    (he : starEach (e :: es) X.env = (false, eval e X.env) :: starEach es X.env := by rfl) (hpl : (backTo pos (starEach es X.env)).any (·.1) = false := by rfl) : DE g X (.Call (.Name x p) (e :: es) [] pos) (wN f w) := ⟨fun gd W tk => PEw (pe_callTy (hc gd) hg hm hv (ha.run gd W tk) hn hdb he hpl) fun σ H Q h => by
  obtain ⟨B, ρ, μ, Q0, E0, rel, hw, hq, hx⟩ := h
  refine tDA.go rel hw hx fun ds _ vs B1 H1 k1 n1 r1 => hf gd n1.bs r1 k1 fun z hz v3 B3 H3 n3 r3 => hq z _ hz v3 B3 H3 (n1.np n3) r3⟩
end
end Dk
namespace Dk
open PySem PySem.Spec PyProof.Rows L2

/-! ### + - * // % ** -/
def fAdd : F2 := fun d e Q => match d, e with
  | .int i, .int j => Q (.int (i + j))
  | .str x, .str y => x.length + y.length ≤ sizeLine ∧ Q (.str (x ++ y))
  | .lst xs, .lst ys => xs.length + ys.length ≤ sizeLine ∧ Q (.lst (xs ++ ys))
  | .tup xs, .tup ys => xs.length + ys.length ≤ sizeLine ∧ Q (.tup (xs ++ ys))
  | _, _ => False
def rAddA (K : PySem.W.Frag) : R2 := fun x y H Q => (rI0 fun i j => V.int (i + j)) x y H Q ∨ (∃ i j, x = .str i ∧ y = .str j ∧ i.length + j.length ≤ sizeLine ∧ Q (.str (i ++ j)) H) ∨ rCat x y H Q ∨ rCatA K x y H Q
theorem op_addA {X : Cx} : OpR X (binaryOp .Add) (rAddA X.K) := op_add.or (op_add_str.or (op_cat.or op_catA))
theorem f2_add {g : G} {K : PySem.W.Frag} (hK : K = g.K) : Op2 g (rAddA K) fAdd := by
  subst hK
  intro B H x y d e Q0 Q b rx ry hf hq
  cases rx <;> cases ry <;> first | exact hf.elim | skip
  case int.int i j => exact .inl ⟨i, j, rfl, rfl, hq _ hf _ B H b.rf (.int _)⟩
  case str.str i j => exact .inr (.inl ⟨i, j, rfl, rfl, hf.1, hq _ hf.2 _ B H b.rf (.str _)⟩)
  case lst.lst a vs ds h r c ws es h' r' =>
    refine .inr (.inr (.inl ⟨a, c, vs, ws, rfl, rfl, b.sub.at h, b.sub.at h', by rw [r.len, r'.len]; exact hf.1, fun p hp => ?_⟩))
    obtain ⟨n, q⟩ := b.lst (r.app r') hp
    exact hq _ hf.2 _ _ _ n q
  case tup.tup a vs ds h r c ws es h' r' =>
    refine .inr (.inr (.inr ⟨a, c, vs, ws, rfl, rfl, b.sub.sqt h, b.sub.sqt h', by rw [r.len, r'.len]; exact hf.1, fun e => ?_, fun _ e => ?_, fun _ _ p hp => ?_⟩))
    · subst e
      cases r
      exact hq _ hf.2 _ B H b.rf (.tup h' r')
    · subst e
      cases r'
      refine hq _ hf.2 _ B H b.rf ?_
      rw [List.append_nil]
      exact .tup h r
    · obtain ⟨n, q⟩ := b.tup (r.app r') hp
      exact hq _ hf.2 _ _ _ n q
theorem de_add {g : G} {X : Cx} {a b : Expr} {wa wb : We} {pos : Pos} (ha : DE g X a wa) (hb : DE g X b wb) : DE g X (.BinOp a .Add b pos) (w2 fAdd wa wb) := de_bin (fun _ => op_addA) (fun gd => f2_add gd.k) ha hb
def fSub : F2 := fun d e Q => match d, e with
  | .int i, .int j => Q (.int (i - j))
  | _, _ => False
theorem de_sub {g : G} {X : Cx} {a b : Expr} {wa wb : We} {pos : Pos} (ha : DE g X a wa) (hb : DE g X b wb) : DE g X (.BinOp a .Sub b pos) (w2 fSub wa wb) := de_bin (fun _ => op_sub) (fun gd => by
  intro B H x y d e Q0 Q b rx ry hf hq
  cases rx <;> cases ry <;> first | exact hf.elim | skip
  exact ⟨_, _, rfl, rfl, hq _ hf _ B H b.rf (.int _)⟩) ha hb
def fMul : F2 := fun d e Q => match d, e with
  | .int i, .int j => CMulW i j ∧ Q (.int (i * j))
  | .lst xs, .int k => -(2 ^ 63) ≤ k ∧ k < 2 ^ 63 ∧ xs.length * k.toNat ≤ sizeLine ∧ Q (.lst (List.replicate k.toNat xs).flatten)
  | _, _ => False
theorem RpA.rep {g : G} {B : Hp} {vs : List V} {ds : List D} (r : RpA g B vs ds) : ∀ n : Nat, RpA g B (List.replicate n vs).flatten (List.replicate n ds).flatten
  | 0 => .nil
  | n + 1 => by
    rw [List.replicate_succ, List.replicate_succ, List.flatten_cons, List.flatten_cons]
    exact r.app (r.rep n)
theorem de_mul {g : G} {X : Cx} {a b : Expr} {wa wb : We} {pos : Pos} (ha : DE g X a wa) (hb : DE g X b wb) : DE g X (.BinOp a .Mult b pos) (w2 fMul wa wb) := de_bin (r := fun x y H Q => (rI CMulW fun i j => V.int (i * j)) x y H Q ∨ rRep x y H Q) (fun _ => op_mulW.or op_rep) (fun gd => by
  intro B H x y d e Q0 Q b rx ry hf hq
  cases rx <;> cases ry <;> first | exact hf.elim | skip
  case int.int i j => exact .inl ⟨_, _, rfl, rfl, hf.1, hq _ hf.2 _ B H b.rf (.int _)⟩
  case lst.int a vs ds h r k =>
    refine .inr ⟨a, k, vs, rfl, rfl, b.sub.at h, hf.1, hf.2.1, by rw [r.len]; exact hf.2.2.1, fun p hp => ?_⟩
    obtain ⟨n, q⟩ := b.lst (r.rep k.toNat) hp
    exact hq _ hf.2.2.2 _ _ _ n q) ha hb
def fFdiv : F2 := fun d e Q => match d, e with
  | .int i, .int j => j ≠ 0 ∧ (j.natAbs < 1073741824 ∨ 0 < j ∧ j.natAbs.log2 < 9000) ∧ Q (.int (i.fdiv j))
  | _, _ => False
theorem de_fdiv {g : G} {X : Cx} {a b : Expr} {wa wb : We} {pos : Pos} (ha : DE g X a wa) (hb : DE g X b wb) : DE g X (.BinOp a .FloorDiv b pos) (w2 fFdiv wa wb) := de_bin (r := fun x y H Q => (rI CDivN fun i j => V.int (i.fdiv j)) x y H Q ∨ (rI CDivW fun i j => V.int (i / j)) x y H Q) (fun _ => op_fdivN.or op_fdivW) (fun gd => by
  intro B H x y d e Q0 Q b rx ry hf hq
  cases rx <;> cases ry <;> first | exact hf.elim | skip
  obtain ⟨h0, h1 | ⟨h1, h2⟩, h3⟩ := hf
  · exact .inl ⟨_, _, rfl, rfl, ⟨h0, h1⟩, hq _ h3 _ B H b.rf (.int _)⟩
  · refine .inr ⟨_, _, rfl, rfl, ⟨h1, h2⟩, ?_⟩
    rw [Int.fdiv_eq_ediv_of_nonneg _ (Int.le_of_lt h1)] at h3
    exact hq _ h3 _ B H b.rf (.int _)) ha hb
def fMod : F2 := fun d e Q => match d, e with
  | .int i, .int j => j ≠ 0 ∧ Q (.int (i.fmod j))
  | _, _ => False
theorem de_mod {g : G} {X : Cx} {a b : Expr} {wa wb : We} {pos : Pos} (ha : DE g X a wa) (hb : DE g X b wb) : DE g X (.BinOp a .Mod b pos) (w2 fMod wa wb) := de_bin (fun _ => op_modN) (fun gd => by
  intro B H x y d e Q0 Q b rx ry hf hq
  cases rx <;> cases ry <;> first | exact hf.elim | skip
  exact ⟨_, _, rfl, rfl, hf.1, hq _ hf.2 _ B H b.rf (.int _)⟩) ha hb
def fPow : F2 := fun d e Q => match d, e with
  | .int i, .int j => 0 ≤ j ∧ (Builtin.Int.intBits i : Int) * j ≤ 2 ^ 27 ∧ Q (.int (i ^ j.toNat))
  | _, _ => False
theorem op_powW {X : Cx} : OpR X (binaryOp .Pow) (rI (fun i j => 0 ≤ j ∧ (Builtin.Int.intBits i : Int) * j ≤ 2 ^ 27) fun i j => .int (i ^ j.toNat)) := opI fun _ _ _ _ _ _ _ hc q => pow_int hc.1 hc.2 q
theorem de_pow {g : G} {X : Cx} {a b : Expr} {wa wb : We} {pos : Pos} (ha : DE g X a wa) (hb : DE g X b wb) : DE g X (.BinOp a .Pow b pos) (w2 fPow wa wb) := de_bin (fun _ => op_powW) (fun gd => by
  intro B H x y d e Q0 Q b rx ry hf hq
  cases rx <;> cases ry <;> first | exact hf.elim | skip
  exact ⟨_, _, rfl, rfl, ⟨hf.1, hf.2.1⟩, hq _ hf.2.2 _ B H b.rf (.int _)⟩) ha hb
def fNeg : F1 := fun d Q => match d with
  | .int i => Q (.int (-i))
  | _ => False
theorem de_neg {g : G} {X : Cx} {a : Expr} {wa : We} {pos : Pos} (ha : DE g X a wa) : DE g X (.UnaryOp .USub a pos) (w1 fNeg wa) := de_un (fun _ => un_neg) (fun gd => by
  intro B H x d Q0 Q b rx hf hq
  cases rx <;> first | exact hf.elim | skip
  exact ⟨_, rfl, hq _ hf _ B H b.rf (.int _)⟩) ha

/-! ### comparisons of ints -/
def fCmp (p : Int → Int → Bool) : F2 := fun d e Q => match d, e with
  | .int i, .int j => Q (.bl (p i j))
  | _, _ => False
theorem f2_cmp {g : G} {p : Int → Int → Bool} : Op2 g (rI0 fun i j => .bl (p i j)) (fCmp p) := by
  intro B H x y d e Q0 Q b rx ry hf hq
  cases rx <;> cases ry <;> first | exact hf.elim | skip
  exact ⟨_, _, rfl, rfl, hq _ hf _ B H b.rf (.bl _)⟩
abbrev fLt : F2 := fCmp fun i j => decide (i < j)
abbrev fLe : F2 := fCmp fun i j => decide (i ≤ j)
abbrev fGt : F2 := fCmp fun i j => decide (j < i)
abbrev fGe : F2 := fCmp fun i j => decide (j ≤ i)
section
variable {g : G} {X : Cx} {a b c : Expr} {wa wb wc : We} {pos : Pos}
theorem de_lt (ha : DE g X a wa) (hb : DE g X b wb) : DE g X (.Compare a [.Lt] [b] pos) (w2 fLt wa wb) := de_cmp (fun _ => op_lt) (fun _ => f2_cmp) ha hb (nomark _)
theorem de_le (ha : DE g X a wa) (hb : DE g X b wb) : DE g X (.Compare a [.LtE] [b] pos) (w2 fLe wa wb) := de_cmp (fun _ => op_le) (fun _ => f2_cmp) ha hb (nomark _)
theorem de_gt (ha : DE g X a wa) (hb : DE g X b wb) : DE g X (.Compare a [.Gt] [b] pos) (w2 fGt wa wb) := de_cmp (fun _ => op_gt) (fun _ => f2_cmp) ha hb (nomark _)
theorem de_ge (ha : DE g X a wa) (hb : DE g X b wb) : DE g X (.Compare a [.GtE] [b] pos) (w2 fGe wa wb) := de_cmp (fun _ => op_ge) (fun _ => f2_cmp) ha hb (nomark _)
theorem dt_lt (ha : DE g X a wa) (hb : DE g X b wb) : DT g X (.Compare a [.Lt] [b] pos) (tB0 (w2 fLt wa wb)) := dt_cmp (fun _ => op_lt) (fun _ => f2_cmp) ha hb (nomark _)
theorem dt_le (ha : DE g X a wa) (hb : DE g X b wb) : DT g X (.Compare a [.LtE] [b] pos) (tB0 (w2 fLe wa wb)) := dt_cmp (fun _ => op_le) (fun _ => f2_cmp) ha hb (nomark _)
theorem dt_gt (ha : DE g X a wa) (hb : DE g X b wb) : DT g X (.Compare a [.Gt] [b] pos) (tB0 (w2 fGt wa wb)) := dt_cmp (fun _ => op_gt) (fun _ => f2_cmp) ha hb (nomark _)
theorem dt_ge (ha : DE g X a wa) (hb : DE g X b wb) : DT g X (.Compare a [.GtE] [b] pos) (tB0 (w2 fGe wa wb)) := dt_cmp (fun _ => op_ge) (fun _ => f2_cmp) ha hb (nomark _)
/-- a < b < c .. -/
def w3 (f f' : F2) (a b c : We) : We := fun ρ μ Q E => a ρ μ (fun x μ => b ρ μ (fun y μ => f x y (fun z => match z with
  | .bl true => c ρ μ (fun u μ => f' y u (fun z => Q z μ)) E
  | .bl false => Q (.bl false) μ
  | _ => False)) E) E
theorem de_chain {op op' : CmpOp} {r r' : R2} {f f' : F2} (ho : OpR X (compareOp op) r) (ho' : OpR X (compareOp op') r') (hf : Op2 g r f) (hf' : Op2 g r' f') (ha : DE g X a wa) (hb : DE g X b wb) (hc : DE g X c wc)
    (hm : lastMarks [op, op'] [b, c] = false := by rfl) : DE g X (.Compare a [op, op'] [b, c] pos) (w3 f f' wa wb wc) := ⟨fun gd W tk => PEw (pe_chain ho ho' (ha.run gd W tk) (hb.run gd W tk) (hc.run gd W tk) hm) fun σ H Q h => by
  obtain ⟨B, ρ, μ, Q0, E0, rel, hw, hq, hx⟩ := h
  refine tD.go rel hw hx fun d _ v B1 H1 k1 n1 r1 => tD.go (rel.nm n1) k1 (hx.nx n1) fun e _ u B2 H2 k2 n2 r2 => ?_
  refine hf n2.bs (r1.up n2.up) r2 k2 fun z hz v3 B3 H3 n3 r3 => ?_
  have n13 := (n1.trans n2).np n3
  cases z with
  | bl k =>
    cases r3
    refine ⟨k, rfl, ?_⟩
    cases k with
    | true =>
      refine (if_pos rfl).mpr ?_
      refine tD.go (rel.nm n13) hz (hx.nx n13) fun y _ v4 B4 H4 k4 n4 r4 => ?_
      exact hf' n4.bs (r2.up (n3.up.trans n4.up)) r4 k4 fun z hz v5 B5 H5 n5 r5 => hq z _ hz v5 B5 H5 (n13.trans (n4.np n5)) r5
    | false =>
      refine (if_neg Bool.false_ne_true).mpr ?_
      exact hq _ _ hz _ _ _ n13 (.bl false)
  | _ => exact hz.elim⟩
theorem dt_chain {op op' : CmpOp} {r r' : R2} {f f' : F2} (ho : OpR X (compareOp op) r) (ho' : OpR X (compareOp op') r') (hf : Op2 g r f) (hf' : Op2 g r' f') (ha : DE g X a wa) (hb : DE g X b wb) (hc : DE g X c wc)
    (hm : lastMarks [op, op'] [b, c] = false := by rfl) : DT g X (.Compare a [op, op'] [b, c] pos) (tB0 (w3 f f' wa wb wc)) := ⟨fun gd W tk => PTw' (pt_chain ho ho' (ha.run gd W tk) (hb.run gd W tk) (hc.run gd W tk) hm) fun σ H Q h => by
  obtain ⟨B, ρ, μ, Q0, E0, rel, hw, hq, hx⟩ := h
  refine tD.go rel hw hx fun d _ v B1 H1 k1 n1 r1 => tD.go (rel.nm n1) k1 (hx.nx n1) fun e _ u B2 H2 k2 n2 r2 => ?_
  refine hf n2.bs (r1.up n2.up) r2 k2 fun z hz v3 B3 H3 n3 r3 => ?_
  have n13 := (n1.trans n2).np n3
  cases z with
  | bl k =>
    cases r3
    refine ⟨k, rfl, ?_⟩
    cases k with
    | true =>
      refine (if_pos rfl).mpr ?_
      refine tD.go (rel.nm n13) hz (hx.nx n13) fun y _ v4 B4 H4 k4 n4 r4 => ?_
      exact hf' n4.bs (r2.up (n3.up.trans n4.up)) r4 k4 fun z hz v5 B5 H5 n5 r5 => by
        obtain ⟨b, rfl, q⟩ := tB0.elim hz
        cases r5
        exact ⟨b, rfl, hq b _ q B5 H5 (n13.trans (n4.np n5))⟩
    | false =>
      refine (if_neg Bool.false_ne_true).mpr ?_
      exact ⟨false, rfl, hq _ _ hz _ _ n13⟩
  | _ => exact hz.elim⟩
theorem de_lele (ha : DE g X a wa) (hb : DE g X b wb) (hc : DE g X c wc) (hm : lastMarks [.LtE, .LtE] [b, c] = false := by with_unfolding_all rfl) : DE g X (.Compare a [.LtE, .LtE] [b, c] pos) (w3 fLe fLe wa wb wc) := de_chain op_le op_le f2_cmp f2_cmp ha hb hc hm
theorem dt_lele (ha : DE g X a wa) (hb : DE g X b wb) (hc : DE g X c wc) (hm : lastMarks [.LtE, .LtE] [b, c] = false := by with_unfolding_all rfl) : DT g X (.Compare a [.LtE, .LtE] [b, c] pos) (tB0 (w3 fLe fLe wa wb wc)) := dt_chain op_le op_le f2_cmp f2_cmp ha hb hc hm
theorem de_lelt (ha : DE g X a wa) (hb : DE g X b wb) (hc : DE g X c wc) (hm : lastMarks [.LtE, .Lt] [b, c] = false := by with_unfolding_all rfl) : DE g X (.Compare a [.LtE, .Lt] [b, c] pos) (w3 fLe fLt wa wb wc) := de_chain op_le op_lt f2_cmp f2_cmp ha hb hc hm
theorem dt_lelt (ha : DE g X a wa) (hb : DE g X b wb) (hc : DE g X c wc) (hm : lastMarks [.LtE, .Lt] [b, c] = false := by with_unfolding_all rfl) : DT g X (.Compare a [.LtE, .Lt] [b, c] pos) (tB0 (w3 fLe fLt wa wb wc)) := dt_chain op_le op_lt f2_cmp f2_cmp ha hb hc hm
theorem de_ltlt (ha : DE g X a wa) (hb : DE g X b wb) (hc : DE g X c wc) (hm : lastMarks [.Lt, .Lt] [b, c] = false := by with_unfolding_all rfl) : DE g X (.Compare a [.Lt, .Lt] [b, c] pos) (w3 fLt fLt wa wb wc) := de_chain op_lt op_lt f2_cmp f2_cmp ha hb hc hm
theorem dt_ltlt (ha : DE g X a wa) (hb : DE g X b wb) (hc : DE g X c wc) (hm : lastMarks [.Lt, .Lt] [b, c] = false := by with_unfolding_all rfl) : DT g X (.Compare a [.Lt, .Lt] [b, c] pos) (tB0 (w3 fLt fLt wa wb wc)) := dt_chain op_lt op_lt f2_cmp f2_cmp ha hb hc hm
end

/-! ### == of data -/
mutual
def D.dat : D → Option PyData
  | .non => some .none
  | .bl b => some (.bool b)
  | .int i => some (.int i)
  | .str x => some (.str x)
  | .lst xs => (D.datA xs).map .list
  | .tup xs => (D.datA xs).map .tuple
  | _ => none
def D.datA : List D → Option (List PyData)
  | [] => some []
  | d :: ds => match D.dat d, D.datA ds with
    | some p, some ps => some (p :: ps)
    | _, _ => none
end
mutual
theorem Rp.dp {g : G} {B : Hp} : ∀ {v : V} {d : D} {p : PyData}, Rp g B v d → d.dat = some p → Dp g.K B v p
  | _, _, _, .non, h => by cases (show some PyData.none = _ from h); exact .non
  | _, _, _, .bl b, h => by cases (show some (PyData.bool b) = _ from h); exact .bl b
  | _, _, _, .int i, h => by cases (show some (PyData.int i) = _ from h); exact .int i
  | _, _, _, .str x, h => by cases (show some (PyData.str x) = _ from h); exact .str x
  | _, _, _, .lst (ds := ds) h r, e => by
    have e : (D.datA ds).map PyData.list = _ := e
    cases q : D.datA ds with
    | none => rw [q] at e; cases e
    | some ps =>
      rw [q] at e
      cases e
      exact .lst (SqL.of h) (RpA.dp r q)
  | _, _, _, .tup (ds := ds) h r, e => by
    have e : (D.datA ds).map PyData.tuple = _ := e
    cases q : D.datA ds with
    | none => rw [q] at e; cases e
    | some ps =>
      rw [q] at e
      cases e
      exact .tup h (RpA.dp r q)
  | _, _, _, .obj _ _ _, h => by cases h
  | _, _, _, .exc _ _ _, h => by cases h
  | _, _, _, .dic _ _ _, h => by cases h
  | _, _, _, .scr _, h => by cases h
  | _, _, _, .cel _, h => by cases h
  | _, _, _, .fn _ _, h => by cases h
  | _, _, _, .lam _ _, h => by cases h
theorem RpA.dp {g : G} {B : Hp} : ∀ {vs : List V} {ds : List D} {ps : List PyData}, RpA g B vs ds → D.datA ds = some ps → DpAll g.K B vs ps
  | _, _, _, .nil, h => by cases (show some [] = _ from h); exact .nil
  | _, _, _, .cons (d := d) (ds := ds) r t, h => by
    unfold D.datA at h
    cases h1 : D.dat d with
    | none => rw [h1] at h; cases h
    | some p =>
      cases h2 : D.datA ds with
      | none => rw [h1, h2] at h; cases h
      | some ps =>
        rw [h1, h2] at h
        cases h
        exact .cons (Rp.dp r h1) (RpA.dp t h2)
end
mutual
theorem Dp.upB {K : PySem.W.Frag} {B H : Hp} (s : Sub B H) : ∀ {v : V} {d : PyData}, Dp K B v d → Dp K H v d
  | _, _, .non => .non
  | _, _, .bl b => .bl b
  | _, _, .int i => .int i
  | _, _, .str x => .str x
  | _, _, .lst h r => .lst (s.sql h) (DpAll.upB s r)
  | _, _, .tup h r => .tup (s.sqt h) (DpAll.upB s r)
theorem DpAll.upB {K : PySem.W.Frag} {B H : Hp} (s : Sub B H) : ∀ {vs : List V} {ds : List PyData}, DpAll K B vs ds → DpAll K H vs ds
  | _, _, .nil => .nil
  | _, _, .cons r t => .cons (Dp.upB s r) (DpAll.upB s t)
end
mutual
theorem Dp.upU {K : PySem.W.Frag} {B H : Hp} (s : Up B H) : ∀ {v : V} {d : PyData}, Dp K B v d → Dp K H v d
  | _, _, .non => .non
  | _, _, .bl b => .bl b
  | _, _, .int i => .int i
  | _, _, .str x => .str x
  | _, _, .lst h r => .lst (s.sqlU h) (DpAll.upU s r)
  | _, _, .tup h r => .tup (s.sqtU h) (DpAll.upU s r)
theorem DpAll.upU {K : PySem.W.Frag} {B H : Hp} (s : Up B H) : ∀ {vs : List V} {ds : List PyData}, DpAll K B vs ds → DpAll K H vs ds
  | _, _, .nil => .nil
  | _, _, .cons r t => .cons (Dp.upU s r) (DpAll.upU s t)
end
/-! ### data with dicts, to be shown -/
def SysOk (K : PySem.W.Frag) : Prop := ∃ o, K.lookup sysModules = some o ∧ o.cls ≠ .type "list"
mutual
inductive Dq (H : Hp) (K : PySem.W.Frag) : V → PyData → Prop
  | non : Dq H K .non .none
  | bl (b : Bool) : Dq H K (.bl b) (.bool b)
  | int (i : Int) : Dq H K (.int i) (.int i)
  | str (x : Str) : Dq H K (.str x) (.str x)
  | lst {a : Addr} {xs : List V} {ds : List PyData} : SqL K H a xs → DqAll H K xs ds → Dq H K (.ref a) (.list ds)
  | tup {a : Addr} {xs : List V} {ds : List PyData} : SqT K H a xs → DqAll H K xs ds → Dq H K (.ref a) (.tuple ds)
  | dic {a : Addr} : H a = some (.dK []) → Dq H K (.ref a) (.dict [])
  | dic1 {a : Addr} {x : Str} {v : V} {p : PyData} : H a = some (.dK [(.inr x, v)]) → DqAll H K [v] [p] → Dq H K (.ref a) (.dict [(.str x, p)])
inductive DqAll (H : Hp) (K : PySem.W.Frag) : List V → List PyData → Prop
  | nil : DqAll H K [] []
  | cons {v : V} {vs : List V} {d : PyData} {ds : List PyData} : Dq H K v d → DqAll H K vs ds → DqAll H K (v :: vs) (d :: ds)
end
section
variable {X : Cx} {pins : List (Addr × Obj)} {σ : L2.St} {H : Hp} {s : Shared}
mutual
theorem Dq.reads (sy : SysOk X.K) (I : Inv X pins σ H s) : ∀ (d : PyData) (v : V) (u : Value), Dq H X.K v d → RelV v u → ∃ as, Reads s.heap u d as ∧ sysModules ∉ as
  | .none, _, _, h, r => by
    cases h
    cases r
    exact ⟨_, Reads.none, by simp⟩
  | .bool b, _, _, h, r => by
    cases h
    cases r
    exact ⟨_, Reads.bool b, by simp⟩
  | .int i, _, _, h, r => by
    cases h
    obtain ⟨t, rfl⟩ := r
    exact ⟨_, Reads.int i t, by simp⟩
  | .str x, _, _, h, r => by
    cases h
    obtain ⟨t, rfl⟩ := r
    exact ⟨_, Reads.str x t, by simp⟩
  | .list ds, _, _, h, r => by
    cases h with
    | lst hs ha =>
      cases r
      obtain ⟨its, rv, ⟨o, n, ho, hc, _, hd⟩, _⟩ := I.list hs
      obtain ⟨as, hr, hn⟩ := Dq.readsAll sy I ds _ its ha rv
      refine ⟨_, Reads.list ho hc hd hr, fun z => ?_⟩
      rcases List.mem_cons.mp z with e | z
      · obtain ⟨o', e1, e2⟩ := sy
        have := I.kIn _ _ e1
        rw [e, ho] at this
        cases this
        exact e2 hc
      · exact hn z
  | .tuple ds, _, _, h, r => by
    cases h with
    | tup hs ha =>
      cases r
      obtain ⟨its, rv, ⟨o, ho, hc, n, hd⟩, _⟩ := I.tuple hs
      obtain ⟨as, hr, hn⟩ := Dq.readsAll sy I ds _ its ha rv
      exact ⟨_, Reads.tuple ho hc hd hr, hn⟩
  | .dict kvs, _, _, h, r => by
    cases h with
    | dic hd =>
      cases r
      obtain ⟨_, hs, vs, kv, o, es, ep, ho, ex, hdt, _, pr, _⟩ := dk_of I.hok hd
      cases kv
      have he : es.toList = [] := by
        generalize es.toList = l at pr
        cases pr; rfl
      refine ⟨_, Reads.dict (kvs := []) ho ex.1 hdt (by rw [he]; exact .nil) (by rw [he]; exact .nil), fun z => ?_⟩
      simp only [List.append_nil, List.mem_singleton] at z
      rw [z] at hs
      simp at hs
    | @dic1 _ x v p hd h1 =>
      cases r
      obtain ⟨_, hs, vs, kv, o, es, ep, ho, ex, hdt, _, pr, _⟩ := dk_of I.hok hd
      cases kv with
      | @cons _ q _ _ hq kv =>
        cases kv
        obtain ⟨k, w⟩ := q
        obtain ⟨e1, e2⟩ := hq
        have e1 : (Sum.inr x : Key) = k := e1
        subst e1
        have e2 : RelV v w := e2
        generalize hes : es.toList = l at pr
        cases pr with
        | @cons e _ es' _ c1 c2 pr =>
          cases pr
          have c1 : keyIs (.inr x) e.key = true := c1
          have c2 : e.val = w := c2
          rcases keyIs_shape c1 with ⟨i, t, z, _⟩ | ⟨y, t, hk, hy⟩
          · first | exact nomatch z | (rename_i z2; exact nomatch z2)
          · have hy' : e.key = .str x t := by
              first
                | (rw [hk]; injection hy with hy; rw [hy])
                | (rw [hy]; injection hk with hk; rw [hk])
            obtain ⟨bs, q2, n2⟩ := Dq.readsAll sy I [p] [v] [w] h1 (.cons e2 .nil)
            refine ⟨_, Reads.dict (kvs := [(.str x, p)]) (as := [] ++ []) ho ex.1 hdt (by rw [hes]; show ReadsAll _ [e.key] [PyData.str x] _; rw [hy']; exact .cons (.str x t) .nil) (by rw [hes]; show ReadsAll _ [e.val] [p] _; rw [c2]; exact q2), fun z => ?_⟩
            simp only [List.append_nil, List.nil_append, List.cons_append, List.mem_cons] at z
            rcases z with z | z
            · rw [z] at hs
              simp at hs
            · exact n2 z
theorem Dq.readsAll (sy : SysOk X.K) (I : Inv X pins σ H s) : ∀ (ds : List PyData) (vs : List V) (us : List Value), DqAll H X.K vs ds → Vals vs us → ∃ as, ReadsAll s.heap us ds as ∧ sysModules ∉ as
  | [], _, _, h, r => by
    cases h
    cases r
    exact ⟨_, ReadsAll.nil, by simp⟩
  | d :: ds, _, _, h, r => by
    cases h with
    | cons h1 h2 =>
      cases r with
      | cons r1 r2 =>
        obtain ⟨as, q1, n1⟩ := Dq.reads sy I d _ _ h1 r1
        obtain ⟨bs, q2, n2⟩ := Dq.readsAll sy I ds _ _ h2 r2
        exact ⟨_, ReadsAll.cons q1 q2, fun z => (List.mem_append.mp z).elim n1 n2⟩
end
end
mutual
def D.datD : D → Option PyData
  | .non => some .none
  | .bl b => some (.bool b)
  | .int i => some (.int i)
  | .str x => some (.str x)
  | .lst xs => (D.datDA xs).map .list
  | .tup xs => (D.datDA xs).map .tuple
  | .dic [] [] => some (.dict [])
  | .dic [.inr x] xs => (match D.datDA xs with
    | some [p] => some (.dict [(.str x, p)])
    | _ => none)
  | _ => none
def D.datDA : List D → Option (List PyData)
  | [] => some []
  | d :: ds => match D.datD d, D.datDA ds with
    | some p, some ps => some (p :: ps)
    | _, _ => none
end
mutual
theorem Rp.dq {g : G} {B : Hp} : ∀ {v : V} {d : D} {p : PyData}, Rp g B v d → d.datD = some p → Dq B g.K v p
  | _, _, _, .non, h => by cases (show some PyData.none = _ from h); exact .non
  | _, _, _, .bl b, h => by cases (show some (PyData.bool b) = _ from h); exact .bl b
  | _, _, _, .int i, h => by cases (show some (PyData.int i) = _ from h); exact .int i
  | _, _, _, .str x, h => by cases (show some (PyData.str x) = _ from h); exact .str x
  | _, _, _, .lst (ds := ds) h r, e => by
    have e : (D.datDA ds).map PyData.list = _ := e
    cases q : D.datDA ds with
    | none => rw [q] at e; cases e
    | some ps =>
      rw [q] at e
      cases e
      exact .lst (SqL.of h) (RpA.dq r q)
  | _, _, _, .tup (ds := ds) h r, e => by
    have e : (D.datDA ds).map PyData.tuple = _ := e
    cases q : D.datDA ds with
    | none => rw [q] at e; cases e
    | some ps =>
      rw [q] at e
      cases e
      exact .tup h (RpA.dq r q)
  | _, _, _, .obj _ _ _, h => by cases h
  | _, _, _, .exc _ _ _, h => by cases h
  | _, _, _, .dic (ks := ks) (ds := ds) h l r, e => by
    cases ks with
    | cons k ks =>
      cases k with
      | inl i => cases e
      | inr x =>
        cases ks with
        | cons _ _ => cases e
        | nil =>
          have e : (match D.datDA ds with
            | some [p] => some (PyData.dict [(.str x, p)])
            | _ => none) = _ := e
          cases q : D.datDA ds with
          | none => rw [q] at e; cases e
          | some ps =>
            rw [q] at e
            match ps, q, e with
            | [p], q, e =>
              cases e
              have r' := RpA.dq r q
              cases r' with
              | cons a b =>
                cases b
                exact .dic1 h (.cons a .nil)
    | nil =>
      cases r with
      | cons _ _ => cases l
      | nil =>
        cases (show some (PyData.dict []) = _ from e)
        exact .dic h
  | _, _, _, .scr _, h => by cases h
  | _, _, _, .cel _, h => by cases h
  | _, _, _, .fn _ _, h => by cases h
  | _, _, _, .lam _ _, h => by cases h
theorem RpA.dq {g : G} {B : Hp} : ∀ {vs : List V} {ds : List D} {ps : List PyData}, RpA g B vs ds → D.datDA ds = some ps → DqAll B g.K vs ps
  | _, _, _, .nil, h => by cases (show some [] = _ from h); exact .nil
  | _, _, _, .cons (d := d) (ds := ds) r t, h => by
    unfold D.datDA at h
    cases h1 : D.datD d with
    | none => rw [h1] at h; cases h
    | some p =>
      cases h2 : D.datDA ds with
      | none => rw [h1, h2] at h; cases h
      | some ps =>
        rw [h1, h2] at h
        cases h
        exact .cons (Rp.dq r h1) (RpA.dq t h2)
end
mutual
theorem Dq.upB {K : PySem.W.Frag} {B H : Hp} (s : Sub B H) : ∀ {v : V} {d : PyData}, Dq B K v d → Dq H K v d
  | _, _, .non => .non
  | _, _, .bl b => .bl b
  | _, _, .int i => .int i
  | _, _, .str x => .str x
  | _, _, .lst h r => .lst (s.sql h) (DqAll.upB s r)
  | _, _, .tup h r => .tup (s.sqt h) (DqAll.upB s r)
  | _, _, .dic h => .dic (s.at h)
  | _, _, .dic1 h r => .dic1 (s.at h) (DqAll.upB s r)
theorem DqAll.upB {K : PySem.W.Frag} {B H : Hp} (s : Sub B H) : ∀ {vs : List V} {ds : List PyData}, DqAll B K vs ds → DqAll H K vs ds
  | _, _, .nil => .nil
  | _, _, .cons r t => .cons (Dq.upB s r) (DqAll.upB s t)
end
mutual
theorem Dq.upU {K : PySem.W.Frag} {B H : Hp} (s : Up B H) : ∀ {v : V} {d : PyData}, Dq B K v d → Dq H K v d
  | _, _, .non => .non
  | _, _, .bl b => .bl b
  | _, _, .int i => .int i
  | _, _, .str x => .str x
  | _, _, .lst h r => .lst (s.sqlU h) (DqAll.upU s r)
  | _, _, .tup h r => .tup (s.sqtU h) (DqAll.upU s r)
  | _, _, .dic h => .dic (s _ _ h)
  | _, _, .dic1 h r => .dic1 (s _ _ h) (DqAll.upU s r)
theorem DqAll.upU {K : PySem.W.Frag} {B H : Hp} (s : Up B H) : ∀ {vs : List V} {ds : List PyData}, DqAll B K vs ds → DqAll H K vs ds
  | _, _, .nil => .nil
  | _, _, .cons r t => .cons (Dq.upU s r) (DqAll.upU s t)
end
/-- the bool that == of two data gives -/
def eqD (d e : D) : Option Bool := match d.dat, e.dat with
  | some p, some q => if SeqAt.shaped p && SeqAt.shaped q then some (PyData.eqv p q) else none
  | _, _ => none
def fEq : F2 := fun d e Q => match eqD d e with
  | some b => Q (.bl b)
  | none => False
def fNe : F2 := fun d e Q => match eqD d e with
  | some b => Q (.bl (!b))
  | none => False
theorem eqD_some {d e : D} {b : Bool} (h : eqD d e = some b) : ∃ p q, d.dat = some p ∧ e.dat = some q ∧ SeqAt.shaped p = true ∧ SeqAt.shaped q = true ∧ b = PyData.eqv p q := by
  unfold eqD at h
  cases h1 : d.dat with
  | none => rw [h1] at h; cases h
  | some p =>
    cases h2 : e.dat with
    | none => rw [h1, h2] at h; cases h
    | some q =>
      rw [h1, h2] at h
      by_cases s : (SeqAt.shaped p && SeqAt.shaped q) = true
      · have h : (if (SeqAt.shaped p && SeqAt.shaped q) = true then some (PyData.eqv p q) else none) = some b := h
        rw [if_pos s] at h
        have s := Bool.and_eq_true_iff.mp s
        exact ⟨p, q, rfl, rfl, s.1, s.2, (Option.some.inj h).symm⟩
      · have h : (if (SeqAt.shaped p && SeqAt.shaped q) = true then some (PyData.eqv p q) else none) = some b := h
        rw [if_neg s] at h; cases h
theorem f2_eq {g : G} {K : PySem.W.Frag} (hK : K = g.K) : Op2 g (rEqD K) fEq := by
  subst hK
  intro B H x y d e Q0 Q b rx ry hf hq
  unfold fEq at hf
  cases h : eqD d e with
  | none => rw [h] at hf; exact hf.elim
  | some k =>
    rw [h] at hf
    obtain ⟨p, q, h1, h2, s1, s2, rfl⟩ := eqD_some h
    exact ⟨p, q, Dp.upB b.sub (rx.dp h1), Dp.upB b.sub (ry.dp h2), s1, s2, hq _ hf _ B H b.rf (.bl _)⟩
theorem f2_ne {g : G} {K : PySem.W.Frag} (hK : K = g.K) : Op2 g (rNeD K) fNe := by
  subst hK
  intro B H x y d e Q0 Q b rx ry hf hq
  unfold fNe at hf
  cases h : eqD d e with
  | none => rw [h] at hf; exact hf.elim
  | some k =>
    rw [h] at hf
    obtain ⟨p, q, h1, h2, s1, s2, rfl⟩ := eqD_some h
    exact ⟨p, q, Dp.upB b.sub (rx.dp h1), Dp.upB b.sub (ry.dp h2), s1, s2, hq _ hf _ B H b.rf (.bl _)⟩
section
variable {g : G} {X : Cx} {a b c : Expr} {wa wb wc : We} {pos : Pos}
theorem Gd.u64 (gd : Gd g X) : X.A.units + 64 < cLine := by have := gd.un; omega
theorem de_eq (ha : DE g X a wa) (hb : DE g X b wb) : DE g X (.Compare a [.Eq] [b] pos) (w2 fEq wa wb) := de_cmp (fun gd => op_eqD gd.u64) (fun gd => f2_eq gd.k) ha hb (nomark _)
theorem de_ne (ha : DE g X a wa) (hb : DE g X b wb) : DE g X (.Compare a [.NotEq] [b] pos) (w2 fNe wa wb) := de_cmp (fun gd => op_neD gd.u64) (fun gd => f2_ne gd.k) ha hb (nomark _)
theorem dt_eq (ha : DE g X a wa) (hb : DE g X b wb) : DT g X (.Compare a [.Eq] [b] pos) (tB0 (w2 fEq wa wb)) := dt_cmp (fun gd => op_eqD gd.u64) (fun gd => f2_eq gd.k) ha hb (nomark _)
theorem dt_ne (ha : DE g X a wa) (hb : DE g X b wb) : DT g X (.Compare a [.NotEq] [b] pos) (tB0 (w2 fNe wa wb)) := dt_cmp (fun gd => op_neD gd.u64) (fun gd => f2_ne gd.k) ha hb (nomark _)
/-- is None -/
def D.isNon : D → Bool
  | .non => true
  | _ => false
def fIsN : F2 := fun d e Q => match e with
  | .non => Q (.bl d.isNon)
  | _ => False
def fNotN : F2 := fun d e Q => match e with
  | .non => Q (.bl (!d.isNon))
  | _ => False
theorem Rp.isNon {B : Hp} {v : V} {d : D} (r : Rp g B v d) : decide (v = .non) = d.isNon := by
  cases r <;> first | rfl | simp [D.isNon]
theorem f2_isN : Op2 g (fun x y H Q => y = .non ∧ Q (.bl (decide (x = .non))) H) fIsN := by
  intro B H x y d e Q0 Q b rx ry hf hq
  cases ry <;> first | exact hf.elim | skip
  refine ⟨rfl, ?_⟩
  rw [rx.isNon]
  exact hq _ hf _ B H b.rf (.bl _)
theorem f2_notN : Op2 g (fun x y H Q => y = .non ∧ Q (.bl (!decide (x = .non))) H) fNotN := by
  intro B H x y d e Q0 Q b rx ry hf hq
  cases ry <;> first | exact hf.elim | skip
  refine ⟨rfl, ?_⟩
  rw [rx.isNon]
  exact hq _ hf _ B H b.rf (.bl _)
theorem de_isN (ha : DE g X a wa) (hb : DE g X b wb) : DE g X (.Compare a [.Is] [b] pos) (w2 fIsN wa wb) := de_cmp (fun gd => op_isN) (fun gd => f2_isN) ha hb (nomark _)
theorem de_notN (ha : DE g X a wa) (hb : DE g X b wb) : DE g X (.Compare a [.IsNot] [b] pos) (w2 fNotN wa wb) := de_cmp (fun gd => op_notN) (fun gd => f2_notN) ha hb (nomark _)
theorem dt_isN (ha : DE g X a wa) (hb : DE g X b wb) : DT g X (.Compare a [.Is] [b] pos) (tB0 (w2 fIsN wa wb)) := dt_cmp (fun gd => op_isN) (fun gd => f2_isN) ha hb (nomark _)
theorem dt_notN (ha : DE g X a wa) (hb : DE g X b wb) : DT g X (.Compare a [.IsNot] [b] pos) (tB0 (w2 fNotN wa wb)) := dt_cmp (fun gd => op_notN) (fun gd => f2_notN) ha hb (nomark _)
/-! ### subscripts -/
def fIx : F2 := fun d e Q => match d, e with
  | .lst xs, .int i => (match atI xs i with | some z => Q z | none => False)
  | .tup xs, .int i => (match atI xs i with | some z => Q z | none => False)
  | .scr ns, .int i => (match atI ns i with | some z => Q (.int z) | none => False)
  | .str z, .int i => z.length ≤ sizeLine ∧ (match atI z.cps.toList i with | some c => Q (.str ⟨#[c]⟩) | none => False)
  | _, _ => False
theorem atI_rp {B : Hp} {vs : List V} {ds : List D} {i : Int} {d : D} (r : RpA g B vs ds) (h : atI ds i = some d) : ∃ v, atI vs i = some v ∧ Rp g B v d := by
  unfold atI at h ⊢
  rw [r.len]
  cases e : ixN ds.length i with
  | none => rw [e] at h; cases h
  | some j =>
    rw [e] at h
    exact r.get (i := j) h
theorem atI_map {α β : Type} (f : α → β) (xs : List α) (i : Int) : atI (xs.map f) i = (atI xs i).map f := by
  unfold atI
  rw [List.length_map]
  cases ixN xs.length i with
  | none => rfl
  | some j => simp
theorem f2_ix {K : PySem.W.Frag} (hK : K = g.K) : Op2 g (rIx K) fIx := by
  subst hK
  intro B H x y d e Q0 Q b rx ry hf hq
  cases rx <;> cases ry <;> first | exact hf.elim | skip
  case str.int z i =>
    obtain ⟨h1, h2⟩ := hf
    cases h : atI z.cps.toList i with
    | none => rw [h] at h2; exact h2.elim
    | some c =>
      rw [h] at h2
      exact .inr (.inr ⟨z, i, c, rfl, rfl, h1, h, hq _ h2 _ B H b.rf (.str _)⟩)
  case lst.int a vs ds h r i =>
    have hf : (match atI ds i with | some z => Q0 z | none => False) := hf
    cases e : atI ds i with
    | none => rw [e] at hf; exact hf.elim
    | some z =>
      rw [e] at hf
      obtain ⟨v, h1, h2⟩ := atI_rp r e
      exact .inl ⟨a, vs, i, v, rfl, rfl, SqL.of (b.sub.at h), h1, hq _ hf _ B H b.rf h2⟩
  case tup.int a vs ds h r i =>
    have hf : (match atI ds i with | some z => Q0 z | none => False) := hf
    cases e : atI ds i with
    | none => rw [e] at hf; exact hf.elim
    | some z =>
      rw [e] at hf
      obtain ⟨v, h1, h2⟩ := atI_rp r e
      exact .inr (.inl ⟨a, vs, i, v, rfl, rfl, b.sub.sqt h, h1, hq _ hf _ B H b.rf h2⟩)
  case scr.int a ns h i =>
    have hf : (match atI ns i with | some z => Q0 (.int z) | none => False) := hf
    cases e : atI ns i with
    | none => rw [e] at hf; exact hf.elim
    | some z =>
      rw [e] at hf
      exact .inl ⟨a, _, i, .int z, rfl, rfl, b.sub.sql h, by rw [atI_map, e]; rfl, hq _ hf _ B H b.rf (.int z)⟩
theorem de_ix (ha : DE g X a wa) (hb : DE g X b wb) (hs : PlainIx b := by exact fun _ _ => rfl) : DE g X (.Subscript a b pos) (w2 fIx wa wb) := ⟨fun gd W tk => PEw (pe_ix ix_seq (ha.run gd W tk) (hb.run gd W tk) hs) fun σ H Q h => by
  obtain ⟨B, ρ, μ, Q0, E0, rel, hw, hq, hx⟩ := h
  refine tD.go rel hw hx fun d _ v B1 H1 k1 n1 r1 => tD.go (rel.nm n1) k1 (hx.nx n1) fun e _ u B2 H2 k2 n2 r2 => ?_
  exact f2_ix gd.k n2.bs (r1.up n2.up) r2 k2 fun z hz v3 B3 H3 n3 r3 => hq z _ hz v3 B3 H3 ((n1.trans n2).np n3) r3⟩
end
end Dk
namespace Dk
open PySem PySem.Spec PyProof.Rows L2

/-! ### statements -/
/-- what follows, told of data -/
structure De where
  nx : List Sl → Mu → Prop
  rt : D → Mu → Prop
  ex : List Sl → Ek
  bk : List Sl → Mu → Prop := fun _ _ => False
  ct : List Sl → Mu → Prop := fun _ _ => False
abbrev Ws := De → List Sl → Mu → Prop
/-- a def's entry, and what is known for good -/
structure Ph where
  B : Hp
  H : Hp
  K : Hp
  me : Option Addr
/-- nothing was tracked there, but perhaps a table -/
def Fre (H : Hp) (a : Addr) : Prop := ∀ o, H a = some o → ∃ ps, o = .tbl ps
theorem Fre.none {H : Hp} {a : Addr} (h : H a = none) : Fre H a := fun o e => by rw [h] at e; cases e
theorem Fre.back {g : G} {B H B' H' : Hp} (n : Nx g B H B' H') {a : Addr} (f : Fre H' a) (hb : B' a = Option.none) : Fre H a := fun o e => by
  by_cases t : ∃ ps, o = .tbl ps
  · exact t
  · refine f o (n.keep a o e (fun ps z => t ⟨ps, z⟩) fun k z => ?_)
    rw [n.up _ _ z] at hb; cases hb
structure Stt (g : G) (Φ : Ph) (B H : Hp) (σ : L2.St) (ρ : List Sl) (μ : Mu) : Prop where
  rel : Rel g B H σ ρ μ
  nx : Nx g Φ.B Φ.H B H
  kn : Up Φ.K B
  fr : ∀ (i : Nat) (s : Sl) (a : Addr), ρ[i]? = some s → s.isOw = true → σ[i]? = some (some (.ref a)) → Fre Φ.H a
  me : ∀ (m : Addr) (i : Nat) (c : Nat) (xs : List D), Φ.me = some m → ρ[i]? = some (.ob c xs) → σ[i]? = some (some (.ref m))
structure Lk (g : G) (Φ : Ph) (W : WX) (D0 : De) (Dn : Ends) : Prop where
  nx : ∀ ρ μ σ B H, D0.nx ρ μ → Stt g Φ B H σ ρ μ → Dn.nx σ H
  rt : ∀ d μ v B H, D0.rt d μ → Nm g Φ.B Φ.H B H μ → Rp g B v d → Dn.rt v H
  bk : ∀ ρ μ σ B H, D0.bk ρ μ → Stt g Φ B H σ ρ μ → Dn.bk σ H
  ct : ∀ ρ μ σ B H, D0.ct ρ μ → Stt g Φ B H σ ρ μ → Dn.ct σ H
  ex : ∀ ρ c d μ σ B H cls dd, D0.ex ρ c d μ → Stt g Φ B H σ ρ μ → ExObj g B c d cls dd → W cls dd σ H
def tS (g : G) (W : WX) (w : Ws) : TS := fun Dn σ H => ∃ Φ B ρ μ D0, Stt g Φ B H σ ρ μ ∧ w D0 ρ μ ∧ Lk g Φ W D0 Dn
structure Gs (g : G) (X : Cx) : Prop extends Gd g X where
  po : PassesOwn (model X.prog X.w) X.A X.env X.xe
structure DS (g : G) (X : Cx) (st : Stmt) (w : Ws) : Prop where
  run : Gs g X → ∀ W, Takes X W → PS X st (tS g W w)
structure DSs (g : G) (X : Cx) (st : List Stmt) (w : Ws) : Prop where
  run : Gs g X → ∀ W, Takes X W → PSs X st (tS g W w)
theorem PSw {X : Cx} {e : Stmt} {t t' : TS} (h : PS X e t) (i : ∀ Dn σ H, t' Dn σ H → t Dn σ H) : PS X e t' := ⟨fun pins s σ H Q I q => h.run pins s σ H Q I (i Q σ H q)⟩
theorem PSsw {X : Cx} {e : List Stmt} {t t' : TS} (h : PSs X e t) (i : ∀ Dn σ H, t' Dn σ H → t Dn σ H) : PSs X e t' := ⟨fun pins s σ H Q I q => h.run pins s σ H Q I (i Q σ H q)⟩

section
variable {g : G} {Φ : Ph} {W : WX} {B H B' H' : Hp} {σ : L2.St} {ρ : List Sl} {μ μ' : Mu} {D0 : De} {Dn : Ends}
theorem Stt.nxt (s : Stt g Φ B H σ ρ μ) (n : Nm g B H B' H' μ') : Stt g Φ B' H' σ ρ μ' := ⟨s.rel.nm n, s.nx.trans n.toNx, s.kn.trans n.up, s.fr, s.me⟩
theorem Stt.npt (s : Stt g Φ B H σ ρ μ) (n : Np g B H B' H') : Stt g Φ B' H' σ ρ μ := s.nxt (s.rel.mm.np n)
theorem Stt.mm (s : Stt g Φ B H σ ρ μ) : Nm g Φ.B Φ.H B H μ := ⟨s.nx, s.rel.mu⟩
theorem Stt.exk (s : Stt g Φ B H σ ρ μ) (l : Lk g Φ W D0 Dn) : exk g W B H σ (D0.ex ρ) := fun c d μ' e cls dd B' H' n x => l.ex ρ c d μ' σ B' H' cls dd e (s.nxt n) x
theorem isOw_set {i j : Nat} {d : D} {s : Sl} (h : (ρ.set i (.sh d))[j]? = some s) (o : s.isOw = true) : i ≠ j ∧ ρ[j]? = some s := by
  by_cases e : i = j
  · subst e
    have hi : i < ρ.length := by
      have := (List.getElem?_eq_some_iff.mp h).1
      rw [List.length_set] at this; exact this
    rw [List.getElem?_set_self hi] at h
    cases h; cases o
  · rw [List.getElem?_set_ne e] at h
    exact ⟨e, h⟩
theorem isOw_drop {i j : Nat} {s : Sl} (h : (ρ.set i .no)[j]? = some s) (o : s.isOw = true) : i ≠ j ∧ ρ[j]? = some s := by
  by_cases e : i = j
  · subst e
    have hi : i < ρ.length := by
      have := (List.getElem?_eq_some_iff.mp h).1
      rw [List.length_set] at this; exact this
    rw [List.getElem?_set_self hi] at h
    cases h; cases o
  · rw [List.getElem?_set_ne e] at h
    exact ⟨e, h⟩
theorem Stt.set (s : Stt g Φ B H σ ρ μ) {i : Nat} {v : V} {d : D} (q : Rp g B v d) : Stt g Φ B H (σ.set i (some v)) (ρ.set i (.sh d)) μ :=
  ⟨s.rel.set q, s.nx, s.kn, fun j t a h o e => by
    obtain ⟨n, h'⟩ := isOw_set h o
    rw [List.getElem?_set_ne n] at e
    exact s.fr j t a h' o e, fun m j c xs em h => by
    obtain ⟨n, h'⟩ := isOw_set h rfl
    rw [List.getElem?_set_ne n]
    exact s.me m j c xs em h'⟩
theorem Stt.drop (s : Stt g Φ B H σ ρ μ) {i : Nat} {x : Option V} : Stt g Φ B H (σ.set i x) (ρ.set i .no) μ :=
  ⟨s.rel.drop, s.nx, s.kn, fun j t a h o e => by
    obtain ⟨n, h'⟩ := isOw_drop h o
    rw [List.getElem?_set_ne n] at e
    exact s.fr j t a h' o e, fun m j c xs em h => by
    obtain ⟨n, h'⟩ := isOw_drop h rfl
    rw [List.getElem?_set_ne n]
    exact s.me m j c xs em h'⟩
/-- what is known for good may be all that is known now -/
theorem Stt.know (s : Stt g Φ B H σ ρ μ) : Stt g { Φ with K := B } B H σ ρ μ := ⟨s.rel, s.nx, Up.refl B, s.fr, s.me⟩
theorem Stt.back {B1 : Hp} (k : Up Φ.K B1) (s : Stt g { Φ with K := B1 } B H σ ρ μ) : Stt g Φ B H σ ρ μ := ⟨s.rel, s.nx, k.trans s.kn, s.fr, s.me⟩
theorem Lk.know (l : Lk g Φ W D0 Dn) {B1 : Hp} (k : Up Φ.K B1) : Lk g { Φ with K := B1 } W D0 Dn :=
  ⟨fun ρ μ σ B H h s => l.nx ρ μ σ B H h (s.back k), l.rt, fun ρ μ σ B H h s => l.bk ρ μ σ B H h (s.back k), fun ρ μ σ B H h s => l.ct ρ μ σ B H h (s.back k), fun ρ c d μ σ B H cls dd h s => l.ex ρ c d μ σ B H cls dd h (s.back k)⟩
end

def sN : Ws := fun D0 ρ μ => D0.nx ρ μ
def sQ (a b : Ws) : Ws := fun D0 ρ μ => a { D0 with nx := fun ρ' μ' => b D0 ρ' μ' } ρ μ
def sSet (i : Nat) (w : We) : Ws := fun D0 ρ μ => w ρ μ (fun d μ => D0.nx (ρ.set i (.sh d)) μ) (D0.ex ρ)
def sRet (w : We) : Ws := fun D0 ρ μ => w ρ μ D0.rt (D0.ex ρ)
def sRet0 : Ws := fun D0 _ μ => D0.rt .non μ
def sDo (w : We) : Ws := fun D0 ρ μ => w ρ μ (fun _ μ => D0.nx ρ μ) (D0.ex ρ)
def sIf (t : Wt) (a b : Ws) : Ws := fun D0 ρ μ => t ρ μ (fun c μ => match c with
  | true => a D0 ρ μ
  | false => b D0 ρ μ) (D0.ex ρ)
def sAug (i : Nat) (f : F2) (w : We) : Ws := fun D0 ρ μ => match ρ[i]? with
  | some (.sh d) => w ρ μ (fun e μ => f d e (fun z => D0.nx (ρ.set i (.sh z)) μ)) (D0.ex ρ)
  | _ => False
section
variable {g : G} {X : Cx} {e c : Expr} {w : We} {t : Wt} {st : Stmt} {rest a b : List Stmt} {wa wb : Ws} {pos pos' : Pos}
theorem dss_nil : DSs g X [] sN := ⟨fun gs W tk => PSsw pss_nil fun Dn σ H h => by
  obtain ⟨Φ, B, ρ, μ, D0, s, hw, l⟩ := h
  exact l.nx ρ μ σ B H hw s⟩
theorem dss_cons (h1 : DS g X st wa) (h2 : DSs g X rest wb) : DSs g X (st :: rest) (sQ wa wb) := ⟨fun gs W tk => PSsw (pss_cons (h1.run gs W tk) (h2.run gs W tk)) fun Dn σ H h => by
  obtain ⟨Φ, B, ρ, μ, D0, s, hw, l⟩ := h
  exact ⟨Φ, B, ρ, μ, { D0 with nx := fun ρ' μ' => wb D0 ρ' μ' }, s, hw, ⟨fun ρ' μ' σ' B' H' h' s' => ⟨Φ, B', ρ', μ', D0, s', h', l⟩, l.rt, l.bk, l.ct, l.ex⟩⟩⟩
theorem dss_one (h1 : DS g X st wa) : DSs g X [st] wa := ⟨fun gs W tk => pss_one (h1.run gs W tk)⟩
theorem ds_set (i : Nat) {x : Str} (hN : X.N.Nodup) (he : DE g X e w) (hi : X.N[i]? = some x := by rfl) (hx : Loc X.env.scope x := by first | exact Or.inl rfl | exact Or.inr rfl) (hs : swapsWith e (some (.Name x pos')) pos.line X.env = pure false := by rfl)
    (hf : X.fn x = true ∨ X.env.scope.names.lookup x = some .local := by first | exact .inl rfl | exact .inr rfl | assumption) : DS g X (.Assign [.Name x pos'] e pos) (sSet i w) := ⟨fun gs W tk => PSw (ps_set hN hi hx (he.run gs.toGd W tk) hs hf) fun Dn σ H h => by
  obtain ⟨Φ, B, ρ, μ, D0, s, hw, l⟩ := h
  exact tD.go s.rel hw (s.exk l) fun d μ' v B' H' k n r => l.nx _ _ _ B' H' k ((s.nxt n).set r)⟩
theorem ds_ret (he : DE g X e w) : DS g X (.Return (some e) pos) (sRet w) := ⟨fun gs W tk => PSw (ps_ret (he.run gs.toGd W tk)) fun Dn σ H h => by
  obtain ⟨Φ, B, ρ, μ, D0, s, hw, l⟩ := h
  exact tD.go s.rel hw (s.exk l) fun d μ' v B' H' k n r => l.rt d μ' v B' H' k (s.nx.nm n) r⟩
theorem ds_ret0 : DS g X (.Return none pos) sRet0 := ⟨fun gs W tk => PSw ps_retN fun Dn σ H h => by
  obtain ⟨Φ, B, ρ, μ, D0, s, hw, l⟩ := h
  exact l.rt _ _ _ B H hw s.mm .non⟩
theorem ds_do (he : DE g X e w) (hs : swapsWith e none pos.line X.env = pure false := by rfl) : DS g X (.Expr e pos) (sDo w) := ⟨fun gs W tk => PSw (ps_expr (he.run gs.toGd W tk) hs) fun Dn σ H h => by
  obtain ⟨Φ, B, ρ, μ, D0, s, hw, l⟩ := h
  exact tD.go s.rel hw (s.exk l) fun d μ' v B' H' k n r => l.nx _ _ _ B' H' k (s.nxt n)⟩
theorem ds_pass : DS g X (.Pass pos) sN := ⟨fun gs W tk => PSw ps_pass fun Dn σ H h => by
  obtain ⟨Φ, B, ρ, μ, D0, s, hw, l⟩ := h
  exact l.nx ρ μ σ B H hw s⟩
theorem ds_if (hc : DT g X c t) (ha : DSs g X a wa) (hb : DSs g X b wb) : DS g X (.If c a b pos) (sIf t wa wb) := ⟨fun gs W tk => PSw (ps_if (hc.run gs.toGd W tk) (ha.run gs W tk) (hb.run gs W tk)) fun Dn σ H h => by
  obtain ⟨Φ, B, ρ, μ, D0, s, hw, l⟩ := h
  refine tDT.go s.rel hw (s.exk l) fun b μ' B' H' k n => ?_
  cases b with
  | true =>
    refine (if_pos rfl).mpr ?_
    exact ⟨Φ, B', ρ, μ', D0, s.nxt n, k, l⟩
  | false =>
    refine (if_neg Bool.false_ne_true).mpr ?_
    exact ⟨Φ, B', ρ, μ', D0, s.nxt n, k, l⟩⟩
def fSubI : F2 := fSub
theorem ds_aug {op : Operator} {ti : TIp} {f : F2} (i : Nat) {x : Str} (hN : X.N.Nodup) (he : DE g X e w) (ho : PIp X op ti) (hf0 : ∀ {B H x y d e} {Q0 : D → Prop} {Q : VK}, Bs g B H → Rp g B x d → Rp g B y e → f d e Q0 → (∀ z, Q0 z → ∀ v B' H', Np g B H B' H' → Rp g B' v z → Q v H') → ti x y H Q)
    (hi : X.N[i]? = some x := by rfl) (hx : Loc X.env.scope x := by first | exact Or.inl rfl | exact Or.inr rfl)
    (hf : X.fn x = true ∨ X.env.scope.names.lookup x = some .local := by first | exact .inl rfl | exact .inr rfl | assumption) : DS g X (.AugAssign (.Name x pos') op e pos) (sAug i f w) := ⟨fun gs W tk => PSw (ps_aug hN hi hx (he.run gs.toGd W tk) ho hf) fun Dn σ H h => by
  obtain ⟨Φ, B, ρ, μ, D0, s, hw, l⟩ := h
  unfold sAug at hw
  split at hw
  · rename_i d e1
    obtain ⟨v, h1, h2⟩ := s.rel.at e1
    exact ⟨v, h1, tD.go s.rel hw (s.exk l) fun d2 μ' v2 B' H' k n r => hf0 n.bs (h2.up n.up) r k fun z hz v3 B3 H3 n3 r3 => l.nx _ _ _ B3 H3 hz ((s.nxt (n.np n3)).set r3)⟩
  · exact hw.elim⟩
def fAddI : F2 := fun d e Q => match d, e with
  | .int i, .int j => Q (.int (i + j))
  | _, _ => False
theorem ds_augAdd (i : Nat) {x : Str} (hN : X.N.Nodup) (he : DE g X e w) (hi : X.N[i]? = some x := by rfl) (hx : Loc X.env.scope x := by first | exact Or.inl rfl | exact Or.inr rfl)
    (hf : X.fn x = true ∨ X.env.scope.names.lookup x = some .local := by first | exact .inl rfl | exact .inr rfl | assumption) : DS g X (.AugAssign (.Name x pos') .Add e pos) (sAug i fAddI w) :=
  ds_aug (ti := ipI fun i j => i + j) i hN he ip_add (by
    intro B H x y d e Q0 Q b rx ry hf hq
    cases rx <;> cases ry <;> first | exact hf.elim | skip
    exact ⟨_, _, rfl, rfl, hq _ hf _ B H b.rf (.int _)⟩) hi hx hf
/-! while -/
def sWh (t : Wt) (b : Ws) : Nat → Ws
  | 0 => fun _ _ _ => False
  | n + 1 => fun D0 ρ μ => t ρ μ (fun c μ => match c with
    | true => b { D0 with nx := sWh t b n D0, ct := sWh t b n D0, bk := D0.nx } ρ μ
    | false => D0.nx ρ μ) (D0.ex ρ)
def sWhile (t : Wt) (b : Ws) : Ws := fun D0 ρ μ => ∃ n, sWh t b n D0 ρ μ
theorem ds_while (hc : DT g X c t) (hb : DSs g X b wb) : DS g X (.While c b [] pos) (sWhile t wb) := ⟨fun gs W tk => PSw (ps_while gs.po (hc.run gs.toGd W tk) (hb.run gs W tk)) fun Dn σ H h => by
  obtain ⟨Φ, B, ρ, μ, D0, s, ⟨n, hw⟩, l⟩ := h
  refine ⟨fun m σ H => ∃ B ρ μ, Stt g Φ B H σ ρ μ ∧ sWh t wb m D0 ρ μ, ⟨n, B, ρ, μ, s, hw⟩, ?_⟩
  rintro m σ1 H1 ⟨B1, ρ1, μ1, s1, hw1⟩
  cases m with
  | zero => exact hw1.elim
  | succ m =>
    refine tDT.go s1.rel hw1 (s1.exk l) fun c μ' B' H' k n => ?_
    cases c with
    | true =>
      refine (if_pos rfl).mpr ⟨fun σ2 H2 => ∃ B2 ρ2 μ2, Stt g Φ B2 H2 σ2 ρ2 μ2 ∧ sWh t wb m D0 ρ2 μ2, fun σ2 H2 ⟨B2, ρ2, μ2, s2, h2⟩ => ⟨m, Nat.lt_succ_self m, B2, ρ2, μ2, s2, h2⟩, ?_⟩
      exact ⟨Φ, B', ρ1, μ', _, s1.nxt n, k, ⟨fun ρ2 μ2 σ2 B2 H2 h2 s2 => ⟨B2, ρ2, μ2, s2, h2⟩, l.rt, fun ρ2 μ2 σ2 B2 H2 h2 s2 => l.nx ρ2 μ2 σ2 B2 H2 h2 s2, fun ρ2 μ2 σ2 B2 H2 h2 s2 => ⟨B2, ρ2, μ2, s2, h2⟩, l.ex⟩⟩
    | false =>
      refine (if_neg Bool.false_ne_true).mpr ?_
      exact l.nx ρ1 μ' σ1 B' H' k (s1.nxt n)⟩
end

/-! ### what is walked: its items, told as data -/
abbrev Wi := List Sl → Mu → (List D → Mu → Prop) → Ek → Prop
/-- the walk J gives the items ds, wherever K is known -/
structure Gives (g : G) (J : It) (ds : List D) (K : Hp) : Prop where
  stop : ∀ B H, Bs g B H → Up K B → J.stop ds.length H
  go : ∀ i d, ds[i]? = some d → ∀ B H, Bs g B H → Up K B → J.go i H ∧ ∀ x H', J.yld i H x H' → ∃ B', Np g B H B' H' ∧ Rp g B' x d
def tI (g : G) (W : WX) (w : Wi) : TI := fun σ H R => ∃ B ρ μ Q0 E0, Rel g B H σ ρ μ ∧ w ρ μ Q0 E0 ∧ (∀ ds μ', Q0 ds μ' → ∀ J B' H', Nm g B H B' H' μ' → Gives g J ds B' → R J H') ∧ exk g W B H σ E0
structure DI (g : G) (X : Cx) (tg e : Expr) (w : Wi) : Prop where
  run : Gd g X → ∀ W, Takes X W → PI X tg e (tI g W w)
theorem PIw {X : Cx} {tg e : Expr} {t t' : TI} (h : PI X tg e t) (i : ∀ σ H R, t' σ H R → t σ H R) : PI X tg e t' := ⟨fun pins s σ H Q I q => h.run pins s σ H Q I (i σ H Q q)⟩
/-- where a walked item goes -/
abbrev Wg := D → List Sl → (List Sl → Prop) → Prop
/-- the reading t of a target does what w tells -/
def GOk (g : G) (w : Wg) (is : List Nat) (t : TG) : Prop := ∀ {Φ : Ph} {B H : Hp} {σ : L2.St} {ρ : List Sl} {μ : Mu} {v : V} {d : D} {Q0 : List Sl → Prop} {Q : L2.St → Hp → Prop}, Stt g Φ B H σ ρ μ → Rp g B v d → w d ρ Q0 →
    (∀ σ' ρ', Q0 ρ' → Stt g Φ B H σ' ρ' μ → (∀ us : List Nat, (∀ i ∈ is, i ∈ us) → wipe σ' us = wipe σ us) → Q σ' H) → t v σ H Q
structure DG (g : G) (X : Cx) (tg : Expr) (w : Wg) (is : List Nat) (t : TG) : Prop where
  pg : Gd g X → X.calm = true → PG X tg t
  ok : GOk g w is t
def gN (i : Nat) : Wg := fun d ρ Q => Q (ρ.set i (.sh d))
theorem wipe_set (σ : L2.St) (i : Nat) (x : Option V) : ∀ (vs : List Nat), i ∈ vs → wipe (σ.set i x) vs = wipe σ vs
  | [], h => by cases h
  | v :: vs, h => by
    unfold wipe
    by_cases e : i ∈ vs
    · rw [wipe_set σ i x vs e]
    · have e2 : i = v := by
        rcases List.mem_cons.mp h with h | h
        · exact h
        · exact absurd h e
      subst e2
      have : ∀ (us : List Nat), i ∉ us → wipe (σ.set i x) us = (wipe σ us).set i x := by
        intro us
        induction us with
        | nil => intro _; rfl
        | cons u us ih =>
          intro hu
          have hne : u ≠ i := fun z => hu (by rw [z]; exact List.mem_cons_self ..)
          show (wipe (σ.set i x) us).set u none = ((wipe σ us).set u none).set i x
          rw [ih (fun z => hu (List.mem_cons_of_mem _ z)), List.set_comm _ _ (Ne.symm hne)]
      rw [this vs e, List.set_set]
theorem dg_name {g : G} {X : Cx} (i : Nat) {x : Str} {p : Pos} (hN : X.N.Nodup) (hi : X.N[i]? = some x := by rfl) (hx : Loc X.env.scope x := by first | exact Or.inl rfl | exact Or.inr rfl)
    (hf : X.fn x = true ∨ X.env.scope.names.lookup x = some .local := by first | exact .inl rfl | exact .inr rfl | assumption) : DG g X (.Name x p) (gN i) [i] (gName i) :=
  ⟨fun gd hc => pg_name hN hi hx hf, fun s r hw q => q _ _ hw (s.set r) fun us h => wipe_set _ _ _ _ (h i (by simp))⟩
/-- a, b = ..: names alone -/
structure DGs (g : G) (X : Cx) (es : List Expr) (is : List Nat) (t : TGs) : Prop where
  pg : PGs X es t
  ok : ∀ {Φ : Ph} {B H : Hp} {σ : L2.St} {ρ : List Sl} {μ : Mu} {vs : List V} {ds : List D} {Q : L2.St → Hp → Prop}, Stt g Φ B H σ ρ μ → RpA g B vs ds → ds.length = is.length →
    (∀ σ', Stt g Φ B H σ' ((is.zip ds).foldl (fun ρ p => ρ.set p.1 (.sh p.2)) ρ) μ → (∀ us : List Nat, (∀ i ∈ is, i ∈ us) → wipe σ' us = wipe σ us) → Q σ' H) → t vs σ H Q
theorem dgs_nil {g : G} {X : Cx} : DGs g X [] [] gNil := ⟨pgs_nil, fun {Φ B H σ ρ μ vs ds Q} s r hl q => by
  cases ds with
  | cons _ _ => cases hl
  | nil =>
    cases r
    exact ⟨rfl, q σ s fun _ _ => rfl⟩⟩
theorem dgs_cons {g : G} {X : Cx} (i : Nat) {x : Str} {p : Pos} {es : List Expr} {is : List Nat} {t : TGs} (hN : X.N.Nodup) (hr : DGs g X es is t) (hi : X.N[i]? = some x := by rfl) (hx : Loc X.env.scope x := by first | exact Or.inl rfl | exact Or.inr rfl)
    (hf : X.fn x = true ∨ X.env.scope.names.lookup x = some .local := by first | exact .inl rfl | exact .inr rfl | assumption) : DGs g X (.Name x p :: es) (i :: is) (gCons (gName i) t) := by
  refine ⟨pgs_cons (pg_name hN hi hx hf) hr.pg, fun {Φ B H σ ρ μ vs ds Q} s r hl q => ?_⟩
  cases r with
  | nil => cases hl
  | cons r1 r2 =>
    refine ⟨_, _, rfl, ?_⟩
    refine hr.ok (s.set r1) r2 (Nat.succ.inj hl) fun σ' s' hw => q σ' s' fun us hu => ?_
    rw [hw us (fun j hj => hu j (List.mem_cons_of_mem _ hj)), wipe_set _ _ _ _ (hu i (List.mem_cons_self ..))]
theorem PGor {X : Cx} {tg : Expr} {t t' : TG} (h : PG X tg t) (h' : PG X tg t') : PG X tg (fun v σ H Q => t v σ H Q ∨ t' v σ H Q) := ⟨fun pins s σ H v u Q I r q => by
  rcases q with q | q
  · exact h.run pins s σ H v u Q I r q
  · exact h'.run pins s σ H v u Q I r q⟩
/-- a, b = .., of a tuple or a list -/
def gT (is : List Nat) : Wg := fun d ρ Q => match d with
  | .tup ds => ds.length = is.length ∧ Q ((is.zip ds).foldl (fun ρ p => ρ.set p.1 (.sh p.2)) ρ)
  | .lst ds => ds.length = is.length ∧ Q ((is.zip ds).foldl (fun ρ p => ρ.set p.1 (.sh p.2)) ρ)
  | _ => False
theorem dg_tup {g : G} {X : Cx} {es : List Expr} {k : Nat} {pos : Pos} {is : List Nat} {t : TGs} (hr : DGs g X es is t)
    (hn : (assignEach es X.env).length = is.length := by rfl) (hst : (assignEach es X.env).findIdx? (·.1) = none := by rfl) : DG g X (.Tuple es k pos) (gT is) is (fun v σ H Q => gTup g.K is.length t v σ H Q ∨ gLst g.K is.length t v σ H Q) :=
  ⟨fun gd hc => by
    have h1 := pg_tup (k := k) (pos := pos) (n := is.length) hc hr.pg hn hst
    have h2 := pg_lst (k := k) (pos := pos) (n := is.length) hc hr.pg hn hst
    rw [gd.k] at h1 h2
    exact PGor h1 h2, fun {Φ B H σ ρ μ v d Q0 Q} s r hw q => by
    cases r with
    | tup h r =>
      refine .inl ⟨_, _, rfl, s.rel.sub.sqt h, ?_, hr.ok s r hw.1 fun σ' s' w => q σ' _ hw.2 s' w⟩
      rw [r.len]
      exact hw.1
    | lst h r =>
      refine .inr ⟨_, _, rfl, SqL.of (s.rel.sub.at h), ?_, hr.ok s r hw.1 fun σ' s' w => q σ' _ hw.2 s' w⟩
      rw [r.len]
      exact hw.1
    | _ => exact hw.elim⟩
end Dk
namespace Dk
open PySem PySem.Spec PyProof.Rows L2 RZ

section
variable {g : G}
/-- from a Walk that leaves the heap as it is -/
theorem gives_at {J : It} {n : Nat} {Gd : Hp → Prop} {Y : Nat → Hp → V → Hp → Prop} (w : Walk J n Gd Y) {ds : List D} {K : Hp} (hn : n = ds.length) (hG : ∀ B H, Bs g B H → Up K B → Gd H)
    (hy : ∀ i d, ds[i]? = some d → ∀ B H x H', Bs g B H → Up K B → Y i H x H' → ∃ B', Np g B H B' H' ∧ Rp g B' x d) : Gives g J ds K := by
  subst hn
  refine ⟨fun B H b k => w.stops H (hG B H b k), fun i d hi B H b k => ?_⟩
  have hlt : i < ds.length := (List.getElem?_eq_some_iff.mp hi).1
  exact ⟨w.goes i H hlt (hG B H b k), fun x H' y => hy i d hi B H x H' b k (w.yields i H x H' hlt (hG B H b k) y)⟩
theorem gives_list {a : Addr} {vs : List V} {ds : List D} {K : Hp} (h : K a = some (.lst vs)) (r : RpA g K vs ds) : Gives g (Itl g.K a) ds K :=
  gives_at (walk_list (xs := vs)) r.len (fun B H b k => SqL.of (b.sub.at (k _ _ h))) fun i d hi B H x H' b k y => by
    obtain ⟨rfl, e⟩ := y
    obtain ⟨v, h1, h2⟩ := r.get hi
    rw [h1] at e
    cases e
    exact ⟨B, b.rf, h2.up k⟩
theorem gives_scr {a : Addr} {ns : List Int} {K : Hp} (h : SqL g.K K a (ns.map V.int)) : Gives g (Itl g.K a) (ns.map D.int) K :=
  gives_at (walk_list (xs := ns.map V.int)) (by simp) (fun B H b k => b.sub.sql (k.sqlU h)) fun i d hi B H x H' b k y => by
    obtain ⟨rfl, e⟩ := y
    obtain ⟨v, h1, h2⟩ := (RpA.ints (g := g) (B := K) (ns := ns)).get hi
    rw [h1] at e
    cases e
    exact ⟨B, b.rf, h2.up k⟩
theorem gives_tup {a : Addr} {vs : List V} {ds : List D} {K : Hp} (h : SqT g.K K a vs) (r : RpA g K vs ds) : Gives g (Itt g.K a) ds K :=
  gives_at (walk_tup (xs := vs)) r.len (fun B H b k => b.sub.sqt (k.sqtU h)) fun i d hi B H x H' b k y => by
    obtain ⟨rfl, e⟩ := y
    obtain ⟨v, h1, h2⟩ := r.get hi
    rw [h1] at e
    cases e
    exact ⟨B, b.rf, h2.up k⟩
/-- the ints of a range -/
def rgD (lo : Int) (n : Nat) : List D := (List.range n).map fun i => D.int (lo + (i : Nat))
theorem rgD_len (lo : Int) (n : Nat) : (rgD lo n).length = n := by unfold rgD; simp
theorem rgD_get {lo : Int} {n i : Nat} {d : D} (h : (rgD lo n)[i]? = some d) : d = .int (lo + (i : Nat)) := by
  unfold rgD at h
  rw [List.getElem?_map] at h
  cases e : (List.range n)[i]? with
  | none => rw [e] at h; cases h
  | some j =>
    rw [e] at h
    have hj := List.getElem?_eq_some_iff.mp e
    obtain ⟨_, hj⟩ := hj
    rw [List.getElem_range] at hj
    subst hj
    exact (Option.some.inj h).symm
theorem gives_rng {lo : Int} {n : Nat} {K : Hp} : Gives g (Itr lo n) (rgD lo n) K :=
  gives_at (walk_range (lo := lo) (n := n)) (rgD_len lo n).symm (fun _ _ _ _ => True.intro) fun i d hi B H x H' b k y => by
    obtain ⟨rfl, rfl⟩ := y
    cases rgD_get hi
    exact ⟨B, b.rf, .int _⟩
/-- enumerate -/
def enD : Nat → List D → List D
  | _, [] => []
  | i, d :: ds => .tup [.int (i : Nat), d] :: enD (i + 1) ds
theorem enD_len : ∀ (i : Nat) (ds : List D), (enD i ds).length = ds.length
  | _, [] => rfl
  | i, d :: ds => by unfold enD; rw [List.length_cons, List.length_cons, enD_len]
theorem enD_get : ∀ {k : Nat} {ds : List D} {i : Nat} {z : D}, (enD k ds)[i]? = some z → ∃ d, ds[i]? = some d ∧ z = .tup [.int ((k + i : Nat) : Int), d]
  | _, [], _, _, h => by unfold enD at h; simp at h
  | k, d :: ds, 0, z, h => by
    unfold enD at h
    have h := Option.some.inj h
    exact ⟨d, rfl, h.symm⟩
  | k, d :: ds, i + 1, z, h => by
    unfold enD at h
    obtain ⟨d', h1, h2⟩ := enD_get (k := k + 1) (ds := ds) (i := i) (z := z) (by simpa using h)
    refine ⟨d', by simpa using h1, ?_⟩
    rw [h2, show k + 1 + i = k + (i + 1) by omega]
theorem gives_enum {a : Addr} {vs : List V} {ds : List D} {K : Hp} (h : K a = some (.lst vs)) (r : RpA g K vs ds) : Gives g (Ite g.K a) (enD 0 ds) K :=
  gives_at (walk_enum (xs := vs)) (by rw [enD_len]; exact r.len) (fun B H b k => SqL.of (b.sub.at (k _ _ h))) fun i d hi B H x H' b k y => by
    obtain ⟨T, x1, x2, rfl, hT, rfl, e1, e2⟩ := y
    obtain ⟨d', h1, rfl⟩ := enD_get hi
    obtain ⟨v, h2, h3⟩ := r.get h1
    have e2 : vs[i]? = some x2 := e2
    rw [h2] at e2
    cases e2
    cases e1
    obtain ⟨n, q⟩ := b.tup (vs := [V.int (i : Nat), x2]) (ds := [.int ((0 + i : Nat) : Int), d']) (.cons (by rw [Nat.zero_add]; exact .int _) (.cons (h3.up k) .nil)) hT
    exact ⟨_, n, q⟩
/-- zip of two -/
def zpD : List D → List D → List D
  | d :: ds, e :: es => .tup [d, e] :: zpD ds es
  | _, _ => []
theorem zpD_len : ∀ (ds es : List D), (zpD ds es).length = min ds.length es.length
  | [], _ => by simp [zpD]
  | _ :: _, [] => by simp [zpD]
  | d :: ds, e :: es => by unfold zpD; rw [List.length_cons, List.length_cons, List.length_cons, zpD_len]; omega
theorem zpD_get : ∀ {ds es : List D} {i : Nat} {z : D}, (zpD ds es)[i]? = some z → ∃ d e, ds[i]? = some d ∧ es[i]? = some e ∧ z = .tup [d, e]
  | [], _, _, _, h => by simp [zpD] at h
  | _ :: _, [], _, _, h => by simp [zpD] at h
  | d :: ds, e :: es, 0, z, h => by
    unfold zpD at h
    exact ⟨d, e, rfl, rfl, (Option.some.inj h).symm⟩
  | d :: ds, e :: es, i + 1, z, h => by
    unfold zpD at h
    obtain ⟨d', e', h1, h2, h3⟩ := zpD_get (ds := ds) (es := es) (i := i) (z := z) (by simpa using h)
    exact ⟨d', e', by simpa using h1, by simpa using h2, h3⟩
theorem gives_zip {a c : Addr} {vs ws : List V} {ds es : List D} {K : Hp} (h : K a = some (.lst vs)) (r : RpA g K vs ds) (h' : K c = some (.lst ws)) (r' : RpA g K ws es) : Gives g (Itz g.K a c) (zpD ds es) K :=
  gives_at (walk_zip (xs := vs) (ys := ws) (n := (zpD ds es).length) (by rw [zpD_len, r.len, r'.len])) rfl (fun B H b k => ⟨SqL.of (b.sub.at (k _ _ h)), SqL.of (b.sub.at (k _ _ h'))⟩) fun i d hi B H x H' b k y => by
    obtain ⟨T, x1, x2, rfl, hT, rfl, e1, e2⟩ := y
    obtain ⟨d1, d2, h1, h2, rfl⟩ := zpD_get hi
    obtain ⟨v1, h3, h4⟩ := r.get h1
    obtain ⟨v2, h5, h6⟩ := r'.get h2
    have e1 : vs[i]? = some x1 := e1
    have e2 : ws[i]? = some x2 := e2
    rw [h3] at e1
    rw [h5] at e2
    cases e1
    cases e2
    obtain ⟨n, q⟩ := b.tup (vs := [x1, x2]) (ds := [d1, d2]) (.cons (h4.up k) (.cons (h6.up k) .nil)) hT
    exact ⟨_, n, q⟩
theorem walk_zipT {K : PySem.W.Frag} {a b : Addr} {xs ys : List V} {n : Nat} (hn : n = min xs.length ys.length) : Walk (ItzT K a b) n (fun H => SqT K H a xs ∧ SqT K H b ys) (YPair (fun i => xs[i]?) (fun i => ys[i]?)) := by
  subst hn
  refine ⟨fun i _ hi q => ?_, fun _ q => ⟨xs, ys, q.1, q.2, by omega⟩, fun i H v H' _ q y => ?_⟩
  · have h1 : i < xs.length := by omega
    have h2 : i < ys.length := by omega
    exact ⟨xs, ys, xs[i], ys[i], q.1, q.2, by simp [h1], by simp [h2]⟩
  · obtain ⟨T, x, z, h1, h2, h3, h4, h5⟩ := y
    exact ⟨T, x, z, h1, h2, h3, h4 xs q.1, h5 ys q.2⟩
theorem gives_zipT {a c : Addr} {vs ws : List V} {ds es : List D} {K : Hp} (h : SqT g.K K a vs) (r : RpA g K vs ds) (h' : SqT g.K K c ws) (r' : RpA g K ws es) : Gives g (ItzT g.K a c) (zpD ds es) K :=
  gives_at (walk_zipT (xs := vs) (ys := ws) (n := (zpD ds es).length) (by rw [zpD_len, r.len, r'.len])) rfl (fun B H b k => ⟨b.sub.sqt (k.sqtU h), b.sub.sqt (k.sqtU h')⟩) fun i d hi B H x H' b k y => by
    obtain ⟨T, x1, x2, rfl, hT, rfl, e1, e2⟩ := y
    obtain ⟨d1, d2, h1, h2, rfl⟩ := zpD_get hi
    obtain ⟨v1, h3, h4⟩ := r.get h1
    obtain ⟨v2, h5, h6⟩ := r'.get h2
    have e1 : vs[i]? = some x1 := e1
    have e2 : ws[i]? = some x2 := e2
    rw [h3] at e1
    rw [h5] at e2
    cases e1
    cases e2
    obtain ⟨n, q⟩ := b.tup (vs := [x1, x2]) (ds := [d1, d2]) (.cons (h4.up k) (.cons (h6.up k) .nil)) hT
    exact ⟨_, n, q⟩
/-- a text's signs -/
def sgD (z : Str) : List D := z.cps.toList.map fun c => D.str ⟨#[c]⟩
theorem gives_str {z : Str} {K : Hp} : Gives g (Its z) (sgD z) K :=
  gives_at (walk_str (z := z)) (by simp [sgD]) (fun _ _ _ _ => True.intro) fun i d hi B H x H' b k y => by
    obtain ⟨rfl, c, h1, rfl⟩ := y
    unfold sgD at hi
    rw [List.getElem?_map, Array.getElem?_toList, h1] at hi
    cases hi
    exact ⟨B, b.rf, .str _⟩
end

/-! ### the walked things as rules -/
/-- a list, a tuple, the script -/
def iL (w : We) : Wi := fun ρ μ Q E => w ρ μ (fun d μ => match d with
  | .lst ds => Q ds μ
  | .tup ds => Q ds μ
  | .scr ns => Q (ns.map D.int) μ
  | .str z => Q (sgD z) μ
  | _ => False) E
def iR1 (w : Wa) : Wi := fun ρ μ Q E => w ρ μ (fun ds μ => match ds with
  | [.int j] => -(2 ^ 62) ≤ j ∧ j < 2 ^ 62 ∧ Q (rgD 0 j.toNat) μ
  | _ => False) E
def iR2 (w : Wa) : Wi := fun ρ μ Q E => w ρ μ (fun ds μ => match ds with
  | [.int i, .int j] => (-(2 ^ 62) ≤ i ∧ i < 2 ^ 62 ∧ -(2 ^ 62) ≤ j ∧ j < 2 ^ 62) ∧ Q (rgD i (j - i).toNat) μ
  | _ => False) E
theorem int2 {ds : List D} {P : Int → Int → Prop} {C : Int → Int → Prop} (h : (match ds with | [.int i, .int j] => C i j ∧ P i j | _ => False)) : ∃ i j, ds = [.int i, .int j] ∧ C i j ∧ P i j := by
  split at h
  · exact ⟨_, _, rfl, h.1, h.2⟩
  · exact h.elim
def iEn (w : Wa) : Wi := fun ρ μ Q E => w ρ μ (fun ds μ => match ds with
  | [.lst ds] => Q (enD 0 ds) μ
  | _ => False) E
def iZp (w : Wa) : Wi := fun ρ μ Q E => w ρ μ (fun ds μ => match ds with
  | [.lst ds, .lst es] => Q (zpD ds es) μ
  | [.tup ds, .tup es] => Q (zpD ds es) μ
  | _ => False) E
section
variable {g : G} {X : Cx} {tg e a b : Expr} {w wa wb : We} {p pos tpos : Pos}
theorem PIor {t t' : TI} (h : PI X tg e t) (h' : PI X tg e t') : PI X tg e (fun σ H R => t σ H R ∨ t' σ H R) := ⟨fun pins s σ H Q I q => by
  rcases q with q | q
  · exact h.run pins s σ H Q I q
  · exact h'.run pins s σ H Q I q⟩
variable {pins : List (Addr × Obj)} {σ : L2.St} {H : Hp} {s : Shared}
theorem itv_list {a : Addr} {xs : List V} {R : It → Hp → Prop} (I1 : Inv X pins σ H s) (hq : SqL X.K H a xs) (q : R (Itl X.K a) H) : wpAny (model X.prog X.w) X.A (pyIter (.ref a)) (PIE X pins σ tg R) X.xe s := by
  obtain ⟨its, rv, p, hz⟩ := I1.list hq
  refine wpAny_pyIter_list p.isList ?_
  refine ⟨s.heap.objs.size, [s.heap.objs.size], _, _, H, rfl, I1.kept (t' := s.toks) fun b o e => Heap.get?_push_of_some _ e, turn_list a _, ⟨_, Heap.get?_push_size _ rfl, rfl, rfl⟩, fun b hb => ?_, q⟩
  have e : b = s.heap.objs.size := by simpa using hb
  subst e
  exact I1.fpOk (Nat.le_refl _) (I1.hok.fresh (Nat.le_refl _))
theorem itv_tup {a : Addr} {xs : List V} {R : It → Hp → Prop} (I1 : Inv X pins σ H s) (hq : SqT X.K H a xs) (q : R (Itt X.K a) H) : wpAny (model X.prog X.w) X.A (pyIter (.ref a)) (PIE X pins σ tg R) X.xe s := by
  obtain ⟨its, rv, p, hz⟩ := I1.tuple hq
  refine wpAny_pyIter_tuple (show s.heap.IsTuple a its.toArray from p) ?_
  refine ⟨s.heap.objs.size, [s.heap.objs.size], _, _, H, rfl, I1.kept (t' := s.toks) fun b o e => Heap.get?_push_of_some _ e, turn_tuple a _, ⟨_, Heap.get?_push_size _ rfl, rfl, rfl⟩, fun b hb => ?_, q⟩
  have e : b = s.heap.objs.size := by simpa using hb
  subst e
  exact I1.fpOk (Nat.le_refl _) (I1.hok.fresh (Nat.le_refl _))
theorem itv_str {z : Str} {u : Value} {R : It → Hp → Prop} (I : Inv X pins σ H s) (r : RelV (.str z) u) (q : R (Its z) H) : wpAny (model X.prog X.w) X.A (pyIter u) (PIE X pins σ tg R) X.xe s := by
  obtain ⟨t, rfl⟩ := r
  cases ha : z.cps.all (· < 128)
  · exact wpAny_pyIter_wide ha (pi_one (tk := s.toks) I _ (turn_str _ z t "str_iterator" (.inr rfl)) ⟨_, Heap.get?_push_size _ rfl, rfl, rfl⟩ q)
  · exact wpAny_pyIter_ascii ha (pi_one (tk := s.toks) I _ (turn_str _ z t "str_ascii_iterator" (.inl rfl)) ⟨_, Heap.get?_push_size _ rfl, rfl, rfl⟩ q)
theorem di_list (he : DE g X e w) : DI g X tg e (iL w) := ⟨fun gd W tk => ⟨fun pins s σ H R I h => by
  obtain ⟨B, ρ, μ, Q0, E0, rel, hw, hq, hx⟩ := h
  have hb := (he.run gd W tk).run pins s σ H (fun v H1 => (∃ a, v = .ref a ∧ (∃ xs, SqL X.K H1 a xs) ∧ R (Itl X.K a) H1) ∨ (∃ a, v = .ref a ∧ (∃ xs, SqT X.K H1 a xs) ∧ R (Itt X.K a) H1) ∨ (∃ z, v = .str z ∧ R (Its z) H1)) I
    (tD.go rel hw hx fun d _ v B1 H1 k n r => by
      rw [gd.k]
      cases r with
      | lst h r => exact .inl ⟨_, rfl, ⟨_, SqL.of (n.sub.at h)⟩, hq _ _ k _ _ _ n (gives_list h r)⟩
      | tup h r => exact .inr (.inl ⟨_, rfl, ⟨_, n.sub.sqt h⟩, hq _ _ k _ _ _ n (gives_tup h r)⟩)
      | str z => exact .inr (.inr ⟨_, rfl, hq _ _ k _ _ _ n gives_str⟩)
      | scr h => exact .inl ⟨_, rfl, ⟨_, n.sub.sql h⟩, hq _ _ k _ _ _ n (gives_scr h)⟩
      | _ => exact k.elim)
  exact wpAny_mono hb (fun v s1 ⟨x, H1, I1, r1, q⟩ => by
    rcases q with ⟨a, rfl, ⟨xs, hs⟩, q⟩ | ⟨a, rfl, ⟨xs, hs⟩, q⟩ | ⟨z, rfl, q⟩
    · cases r1
      exact itv_list I1 hs q
    · cases r1
      exact itv_tup I1 hs q
    · exact itv_str I1 r1 q) fun _ _ z => z⟩⟩
theorem di_range1 {w : Wa} (hg : Gl X "range") (hm : X.mg "range" = none) (ha : DA g X [a] w) (hs : starEach [a] X.env = [(false, eval a X.env)] := by rfl) : DI g X tg (.Call (.Name "range" p) [a] [] pos) (iR1 w) := ⟨fun gd W tk => PIw (pi_range1 hg hm (ha.run gd W tk) hs) fun σ H R h => by
  obtain ⟨B, ρ, μ, Q0, E0, rel, hw, hq, hx⟩ := h
  refine tDA.go rel hw hx fun ds _ vs B1 H1 k n r => ?_
  cases r with
  | nil => exact k.elim
  | cons r1 r2 =>
    cases r2 with
    | cons _ _ => cases r1 <;> exact k.elim
    | nil =>
      cases r1 with
      | int j => exact ⟨j, rfl, k.1, k.2.1, hq _ _ k.2.2 _ _ _ n gives_rng⟩
      | _ => exact k.elim⟩
theorem di_range2 {w : Wa} (hg : Gl X "range") (hm : X.mg "range" = none) (ha : DA g X [a, b] w) (hs : starEach [a, b] X.env = [(false, eval a X.env), (false, eval b X.env)] := by rfl) (hs2 : starEach [b] X.env = [(false, eval b X.env)] := by rfl) : DI g X tg (.Call (.Name "range" p) [a, b] [] pos) (iR2 w) := ⟨fun gd W tk => PIw (pi_range2 hg hm (ha.run gd W tk) hs hs2) fun σ H R h => by
  obtain ⟨B, ρ, μ, Q0, E0, rel, hw, hq, hx⟩ := h
  refine tDA.go rel hw hx fun ds _ vs B1 H1 k n r => ?_
  obtain ⟨i, j, rfl, k1, k2⟩ := int2 k
  cases r with
  | cons r1 r2 =>
    cases r2 with
    | cons r3 r4 =>
      cases r4
      cases r1
      cases r3
      exact ⟨i, j, rfl, k1, hq _ _ k2 _ _ _ n gives_rng⟩⟩
theorem di_enum {w : Wa} {elts : List Expr} {kk : Nat} (hg : Gl X "enumerate") (hm : X.mg "enumerate" = none) (ha : DA g X [e] w) (hs : starEach [e] X.env = [(false, eval e X.env)] := by rfl) : DI g X (.Tuple elts kk tpos) (.Call (.Name "enumerate" p) [e] [] pos) (iEn w) := ⟨fun gd W tk => PIw (pi_enum hg hm (ha.run gd W tk) hs) fun σ H R h => by
  obtain ⟨B, ρ, μ, Q0, E0, rel, hw, hq, hx⟩ := h
  refine tDA.go rel hw hx fun ds _ vs B1 H1 k n r => ?_
  cases r with
  | nil => exact k.elim
  | cons r1 r2 =>
    cases r2 with
    | cons _ _ => cases r1 <;> exact k.elim
    | nil =>
      cases r1 with
      | lst h r =>
        rw [gd.k]
        exact ⟨_, _, rfl, SqL.of (n.sub.at h), hq _ _ k _ _ _ n (gives_enum h r)⟩
      | _ => exact k.elim⟩
theorem di_zip {w : Wa} {elts : List Expr} {kk : Nat} (hg : Gl X "zip") (hm : X.mg "zip" = none) (ha : DA g X [a, b] w) (hs : starEach [a, b] X.env = (false, eval a X.env) :: starEach [b] X.env := by rfl) (hpl : (backTo pos (starEach [b] X.env)).any (·.1) = false := by rfl) :
    DI g X (.Tuple elts kk tpos) (.Call (.Name "zip" p) [a, b] [] pos) (iZp w) := ⟨fun gd W tk => PIw (pi_zipA hg hm (ha.run gd W tk) hs hpl) fun σ H R h => by
  obtain ⟨B, ρ, μ, Q0, E0, rel, hw, hq, hx⟩ := h
  refine tDA.go rel hw hx fun ds _ vs B1 H1 k n r => ?_
  rw [gd.k]
  cases r with
  | nil => exact k.elim
  | cons r1 r2 =>
    cases r2 with
    | nil => cases r1 <;> exact k.elim
    | cons r3 r4 =>
      cases r4 with
      | cons _ _ => cases r1 <;> cases r3 <;> exact k.elim
      | nil =>
        cases r1 <;> cases r3 <;> first | exact k.elim | skip
        case lst.lst h1 q1 _ _ _ h2 q2 => exact ⟨_, _, _, _, rfl, .inl ⟨SqL.of (n.sub.at h1), SqL.of (n.sub.at h2), hq _ _ k _ _ _ n (gives_zip h1 q1 h2 q2)⟩⟩
        case tup.tup h1 q1 _ _ _ h2 q2 => exact ⟨_, _, _, _, rfl, .inr ⟨n.sub.sqt h1, n.sub.sqt h2, hq _ _ k _ _ _ n (gives_zipT h1 q1 h2 q2)⟩⟩⟩
end
end Dk
namespace Dk
open PySem PySem.Spec PyProof.Rows L2

/-! ### for -/
def sForL (wg : Wg) (b : Ws) : List D → Ws
  | [] => fun D0 ρ μ => D0.nx ρ μ
  | d :: ds => fun D0 ρ μ => wg d ρ (fun ρ1 => b { D0 with nx := sForL wg b ds D0, ct := sForL wg b ds D0, bk := D0.nx } ρ1 μ)
def sFor (wi : Wi) (wg : Wg) (b : Ws) : Ws := fun D0 ρ μ => wi ρ μ (fun ds μ => sForL wg b ds D0 ρ μ) (D0.ex ρ)
theorem drop_cons {ds : List D} {i : Nat} {d : D} (h : ds[i]? = some d) : ds.drop i = d :: ds.drop (i + 1) := by
  obtain ⟨h1, h2⟩ := List.getElem?_eq_some_iff.mp h
  rw [List.drop_eq_getElem_cons h1, h2]
section
variable {g : G} {X : Cx} {tg e : Expr} {wi : Wi} {wg : Wg} {wb : Ws} {is : List Nat} {t : TG} {body : List Stmt} {pos : Pos}
theorem ds_for (hc : X.calm = true) (hi : DI g X tg e wi) (hg : DG g X tg wg is t) (hb : DSs g X body wb) (hs : ∀ x, foldedSetIterable e X.env x = pure x := by intro _; rfl) : DS g X (.For tg e body [] pos) (sFor wi wg wb) :=
  ⟨fun gs W tk => PSw (ps_for gs.po hc (hi.run gs.toGd W tk) (hg.pg gs.toGd hc) (hb.run gs W tk) hs) fun Dn σ H h => by
  obtain ⟨Φ, B, ρ, μ, D0, s, hw, l⟩ := h
  refine ⟨B, ρ, μ, _, D0.ex ρ, s.rel, hw, fun ds μ1 k J B1 H1 n gv => ?_, s.exk l⟩
  refine ⟨fun i m σ' H' => m = ds.length - i ∧ i ≤ ds.length ∧ ∃ B' ρ' μ', Stt g { Φ with K := B1 } B' H' σ' ρ' μ' ∧ sForL wg wb (ds.drop i) D0 ρ' μ', ⟨ds.length, by simp, Nat.zero_le _, B1, ρ, μ1, (s.nxt n).know, by rw [List.drop_zero]; exact k⟩, ?_⟩
  have kn : Up Φ.K B1 := s.kn.trans n.up
  rintro i m σ' H' ⟨rfl, hle, B', ρ', μ', s', hw'⟩
  by_cases hlt : i < ds.length
  · obtain ⟨d, hd⟩ : ∃ d, ds[i]? = some d := ⟨ds[i], List.getElem?_eq_getElem hlt⟩
    obtain ⟨go, yl⟩ := gv.go i d hd B' H' s'.rel.bs s'.kn
    rw [drop_cons hd] at hw'
    refine .inr ⟨go, fun σ2 H2 => ∃ B2 ρ2 μ2, Stt g { Φ with K := B1 } B2 H2 σ2 ρ2 μ2 ∧ sForL wg wb (ds.drop (i + 1)) D0 ρ2 μ2, fun σ2 H2 ⟨B2, ρ2, μ2, s2, h2⟩ => ⟨ds.length - (i + 1), by omega, rfl, hlt, B2, ρ2, μ2, s2, h2⟩, fun x H2 y => ?_⟩
    obtain ⟨B2, n2, r2⟩ := yl x H2 y
    refine hg.ok (s'.npt n2) r2 hw' fun σ3 ρ3 h3 s3 _ => ?_
    exact ⟨_, B2, ρ3, μ', _, s3, h3, ⟨fun ρ4 μ4 σ4 B4 H4 h4 s4 => ⟨B4, ρ4, μ4, s4, h4⟩, l.rt, fun ρ4 μ4 σ4 B4 H4 h4 s4 => l.nx ρ4 μ4 σ4 B4 H4 h4 (s4.back kn), fun ρ4 μ4 σ4 B4 H4 h4 s4 => ⟨B4, ρ4, μ4, s4, h4⟩, fun ρ4 c d μ4 σ4 B4 H4 cls dd h4 s4 => l.ex ρ4 c d μ4 σ4 B4 H4 cls dd h4 (s4.back kn)⟩⟩
  · have e : i = ds.length := by omega
    subst e
    rw [List.drop_length] at hw'
    exact .inl ⟨gv.stop B' H' s'.rel.bs s'.kn, l.nx ρ' μ' σ' B' H' hw' (s'.back kn)⟩⟩
/-- a, b = e -/
def sUnp (wg : Wg) (w : We) : Ws := fun D0 ρ μ => w ρ μ (fun d μ => wg d ρ (fun ρ1 => D0.nx ρ1 μ)) (D0.ex ρ)
variable {w : We}
theorem ds_unp (hc : X.calm = true) (he : DE g X e w) (hg : DG g X tg wg is t) (hs : swapsWithSole [tg] e pos.line X.env = pure false := by rfl) (hw : swappedStores [tg] e X.env = pure none := by rfl) (h1 : (assignEach [tg] X.env).map (·.2) = [assign tg X.env] := by rfl) : DS g X (.Assign [tg] e pos) (sUnp wg w) :=
  ⟨fun gs W tk => PSw (ps_asg (he.run gs.toGd W tk) (hg.pg gs.toGd hc) hs hw h1) fun Dn σ H h => by
  obtain ⟨Φ, B, ρ, μ, D0, s, hw, l⟩ := h
  refine tD.go s.rel hw (s.exk l) fun d μ1 v B1 H1 k n r => ?_
  exact hg.ok (s.nxt n) r k fun σ' ρ' h' s' _ => l.nx ρ' μ1 σ' B1 H1 h' s'⟩
/-- a, b = e1, e2 -/
def sPar (i j : Nat) (w : Wa) : Ws := fun D0 ρ μ => w ρ μ (fun ds μ => match ds with
  | [d, e] => D0.nx ((ρ.set i (.sh d)).set j (.sh e)) μ
  | _ => False) (D0.ex ρ)
end

/-! ### fresh lists -/
def tDL (g : G) (W : WX) (w : Wa) : TE := fun σ H Q => ∃ B ρ μ Q0 E0, Rel g B H σ ρ μ ∧ w ρ μ Q0 E0 ∧
  (∀ ds μ', Q0 ds μ' → ∀ a vs B' H', Nm g B H B' H' μ' → Fre H a → B' a = none → H' a = some (.lst vs) → RpA g B' vs ds → Q (.ref a) H') ∧ exk g W B H σ E0
structure DL (g : G) (X : Cx) (e : Expr) (w : Wa) : Prop where
  run : Gd g X → ∀ W, Takes X W → PE X e (tDL g W w)
theorem upd_up {B : Hp} {a : Addr} {o : HO} (h : B a = none) : Up B (upd B a o) := fun b u e => by rw [upd_ne (ne_of_none e h)]; exact e
/-- it is known from now on -/
theorem Nx.learn {g : G} {B H B' H' : Hp} (n : Nx g B H B' H') {a : Addr} {o : HO} (f : Fre H a) (hb : B' a = none) (hh : H' a = some o) (ho : ∀ ps, o ≠ .tbl ps) : Nx g B H (upd B' a o) H' where
  keep := n.keep
  up := n.up.trans (upd_up hb)
  sub := ⟨fun b u h hm => by
    by_cases e : b = a
    · subst e; rw [upd_same] at h; cases h; exact hh
    · rw [upd_ne e] at h; exact n.sub.co _ _ h hm, fun b k h => by
    by_cases e : b = a
    · subst e; rw [upd_same] at h; cases h; exact ⟨_, hh, ho⟩
    · rw [upd_ne e] at h; exact n.sub.mkd _ _ h⟩
  notb := fun b ps h => by
    by_cases e : b = a
    · subst e; rw [upd_same] at h; exact ho ps (Option.some.inj h)
    · rw [upd_ne e] at h; exact n.notb _ _ h
  old := fun b u h nt q => by
    have ne : b ≠ a := fun e => by
      subst e
      obtain ⟨ps, z⟩ := f u h
      exact nt.ntb ps z
    rw [upd_ne ne]
    exact n.old b u h nt q
  nc := fun b u k h nt q => by
    have ne : b ≠ a := fun e => by
      subst e
      obtain ⟨ps, z⟩ := f u h
      exact nt ps z
    rw [upd_ne ne]
    exact n.nc b u k h nt q
  tabs := n.tabs
theorem MuR.learn {g : G} {B H : Hp} {μ : Mu} (m : MuR g B H μ) {a : Addr} {o : HO} (hb : B a = none) (hm : ¬ Mk1 o) : MuR g (upd B a o) H μ := by
  have ne : ∀ {b k}, upd B a o b = some (.own k) → B b = some (.own k) := fun {b k} h => by
    by_cases e : b = a
    · subst e; rw [upd_same] at h; exact absurd ⟨k, Option.some.inj h⟩ hm
    · rw [upd_ne e] at h; exact h
  exact ⟨fun b k h => let ⟨c, h1, h2⟩ := m.at_ b k (ne h); ⟨c, h1, h2.nx (n := k) (fun _ e _ => e) (upd_up hb)⟩, fun b c k h1 h2 => m.uniq b c k (ne h1) (ne h2)⟩
theorem Nm.learn {g : G} {B H B' H' : Hp} {μ : Mu} (n : Nm g B H B' H' μ) {a : Addr} {o : HO} (f : Fre H a) (hb : B' a = none) (hh : H' a = some o) (ho : ∀ ps, o ≠ .tbl ps) (hm : ¬ Mk1 o := by rintro ⟨_, z⟩; first | cases z | (unfold excv at z; cases z) | (unfold LamX.CodeO at z; cases z)) : Nm g B H (upd B' a o) H' μ :=
  ⟨n.toNx.learn f hb hh ho, n.mu.learn hb hm⟩
def wL (w : Wa) : We := fun ρ μ Q E => w ρ μ (fun ds μ => Q (.lst ds) μ) E
section
variable {g : G} {X : Cx} {e : Expr} {w : Wa} {pos : Pos}
theorem dl_de (h : DL g X e w) : DE g X e (wL w) := ⟨fun gd W tk => PEw (h.run gd W tk) fun σ H Q h => by
  obtain ⟨B, ρ, μ, Q0, E0, rel, hw, hq, hx⟩ := h
  exact ⟨B, ρ, μ, _, E0, rel, hw, fun ds μ' k a vs B' H' n f hb hh r => hq _ _ k _ _ _ (n.learn f hb hh no_lst) (.lst upd_same (r.up (upd_up hb))), hx⟩⟩
theorem dl_lst {es : List Expr} (h : DA g X es w) : DL g X (.List es pos) (fun ρ μ Q E => w ρ μ (fun ds μ => ds.length ≤ sizeLine ∧ Q ds μ) E) := ⟨fun gd W tk => PEw (pe_lst (h.run gd W tk)) fun σ H Q h => by
  obtain ⟨B, ρ, μ, Q0, E0, rel, hw, hq, hx⟩ := h
  refine tDA.go rel hw hx fun ds μ1 vs B1 H1 k n r => ⟨by rw [r.len]; exact k.1, fun p hp => ?_⟩
  have nb : B1 p = none := n.sub.none hp
  exact hq ds μ1 k.2 p vs B1 _ (n.np (Np.own n.sub n.notb n.tabs hp _)) ((Fre.none hp).back n.toNx nb) nb upd_same r⟩
end
theorem tabs_write {T : List (Addr × Str)} {H : Hp} (t : LamX.Tabs T H) {p : Addr} {o o' : HO} (hp : H p = some o) (h1 : ∀ ps, o ≠ .tbl ps) (h2 : ∀ c q, o ≠ LamX.CodeO c q) : LamX.Tabs T (upd H p o') := fun x hx => by
  obtain ⟨ps, a1, a2, a3⟩ := t x hx
  refine ⟨ps, ?_, a2, fun pos cv hc => ?_⟩
  · rw [upd_ne fun z => by rw [z, hp] at a1; exact h1 ps (Option.some.inj a1)]
    exact a1
  · obtain ⟨c, e1, e2⟩ := a3 pos cv hc
    exact ⟨c, e1, by rw [upd_ne fun z => by rw [z, hp] at e2; exact h2 _ _ (Option.some.inj e2)]; exact e2⟩
theorem lst_code {xs : List V} : ∀ c q, HO.lst xs ≠ LamX.CodeO c q := fun c q z => by unfold LamX.CodeO at z; cases z
theorem dK_code {kvs : List (Key × V)} : ∀ c q, HO.dK kvs ≠ LamX.CodeO c q := fun c q z => by unfold LamX.CodeO at z; cases z
/-- an object of ours, not known, is changed -/
theorem Nx.write {g : G} {B H B' H' : Hp} (n : Nx g B H B' H') {a : Addr} {o o' : HO} (f : Fre H a) (hb : B' a = none) (hh : H' a = some o) (h1 : ∀ ps, o ≠ .tbl ps) (h2 : ∀ c q, o ≠ LamX.CodeO c q) : Nx g B H B' (upd H' a o') where
  keep := fun b u h nt c => by
    have ne : b ≠ a := fun e => by
      subst e
      obtain ⟨ps, z⟩ := f u h
      exact nt ps z
    rw [upd_ne ne]
    exact n.keep b u h nt c
  up := n.up
  sub := ⟨fun b u h hm => by rw [upd_ne (ne_of_none h hb)]; exact n.sub.co _ _ h hm, fun b k h => by rw [upd_ne (ne_of_none h hb)]; exact n.sub.mkd _ _ h⟩
  notb := n.notb
  old := n.old
  nc := n.nc
  tabs := tabs_write n.tabs hh h1 h2
theorem MuR.write {g : G} {B H : Hp} {μ : Mu} (m : MuR g B H μ) {a : Addr} {o : HO} (hb : B a = none) : MuR g B (upd H a o) μ :=
  ⟨fun b k h => let ⟨c, h1, h2⟩ := m.at_ b k h; ⟨c, h1, h2.nx (n := k) (fun u e _ => by rw [upd_ne (ne_of_none h hb)]; exact e) (Up.refl B)⟩, m.uniq⟩
theorem Nm.write {g : G} {B H B' H' : Hp} {μ : Mu} (n : Nm g B H B' H' μ) {a : Addr} {o o' : HO} (f : Fre H a) (hb : B' a = none) (hh : H' a = some o) (h1 : ∀ ps, o ≠ .tbl ps) (h2 : ∀ c q, o ≠ LamX.CodeO c q) : Nm g B H B' (upd H' a o') μ := ⟨n.toNx.write f hb hh h1 h2, n.mu.write hb⟩

/-! ### comprehensions -/
def wipeR (ρ : List Sl) : List Nat → List Sl
  | [] => ρ
  | v :: vs => (wipeR ρ vs).set v .no
theorem Rel.wipe {g : G} {B H : Hp} {σ : L2.St} {ρ : List Sl} {μ : Mu} (r : Rel g B H σ ρ μ) : ∀ vs : List Nat, Rel g B H (wipe σ vs) (wipeR ρ vs) μ
  | [] => r
  | v :: vs => (r.wipe vs).drop
theorem set_none_idem (σ : L2.St) (i : Nat) : ∀ vs : List Nat, wipe (σ.set i none) vs = (wipe σ vs).set i none
  | [] => rfl
  | v :: vs => by
    show (wipe (σ.set i none) vs).set v none = ((wipe σ vs).set v none).set i none
    rw [set_none_idem σ i vs]
    by_cases e : i = v
    · subst e; rfl
    · rw [List.set_comm _ _ e]
theorem wipe_wipe (σ : L2.St) : ∀ vs us : List Nat, (∀ i ∈ us, i ∈ vs) → wipe (wipe σ us) vs = wipe σ vs
  | vs, [], _ => rfl
  | vs, u :: us, h => by
    show wipe ((wipe σ us).set u none) vs = _
    rw [wipe_set _ _ _ _ (h u (List.mem_cons_self ..)), wipe_wipe σ vs us fun i hi => h i (List.mem_cons_of_mem _ hi)]
def noE : Ek := fun _ _ _ => False
def lcL (wg : Wg) (wt : Wt) (we : We) (ρ : List Sl) : List D → List D → Mu → (List D → Mu → Prop) → Prop
  | [], acc, μ, Q => Q acc μ
  | d :: ds, acc, μ, Q => wg d ρ (fun ρ1 => wt ρ1 μ (fun b μ => match b with
    | true => we ρ1 μ (fun z μ => acc.length < sizeLine ∧ lcL wg wt we ρ ds (acc ++ [z]) μ Q) noE
    | false => lcL wg wt we ρ ds acc μ Q) noE)
def wLc (wi : Wi) (wg : Wg) (wt : Wt) (we : We) (vs : List Nat) : Wa := fun ρ μ Q E => wi ρ μ (fun ds μ => lcL wg wt we (wipeR ρ vs) ds [] μ Q) E
def tY : Wt := fun _ μ Q _ => Q true μ
structure DTs (g : G) (X : Cx) (ifs : List Expr) (w : Wt) : Prop where
  run : Gd g X → ∀ W, Takes X W → PTs X ifs (tDT g W w)
theorem dts_nil {g : G} {X : Cx} : DTs g X [] tY := ⟨fun gd W tk => ⟨fun pins s σ H Q I h => by
  obtain ⟨B, ρ, μ, Q0, E0, rel, hw, hq, hx⟩ := h
  exact pts_nil.run pins s σ H Q I (hq true _ hw B H rel.mm)⟩⟩
theorem dts_one {g : G} {X : Cx} {c : Expr} {w : Wt} (h : DT g X c w) : DTs g X [c] w := ⟨fun gd W tk => pts_one (h.run gd W tk)⟩
theorem Gd.blk {g : G} {X : Cx} (gd : Gd g X) (s : Shared) (H : Hp) (scope : Scope) (cenv : Env) (fp : List Addr) : Gd g (X.blk s H scope cenv fp) := ⟨gd.k, gd.gd, gd.un⟩
abbrev WX0 : WX := fun _ _ _ _ => False
theorem noE_exk {g : G} {B H : Hp} {σ : L2.St} : exk g WX0 B H σ noE := fun c d _ h => h.elim
section
variable {g : G} {X : Cx} {elt tg iter : Expr} {ifs : List Expr} {scope : Scope} {own : List (Str × Nat)} {pos : Pos} {wi : Wi} {wg : Wg} {wt : Wt} {we : We} {is : List Nat} {t : TG}
/-- the reading of a comprehension, from what it does with data -/
theorem lc_read {W : WX} {vs : List Nat} (his : ∀ i ∈ is, i ∈ vs) (hg : GOk g wg is t) {σ : L2.St} {H : Hp} {Q : VK} (h : tDL g W (wLc wi wg wt we vs) σ H Q) : tLc (tI g W wi) t (tDT g WX0 wt) (tD g WX0 we) vs σ H Q := by
  obtain ⟨B, ρ, μ, Q0, E0, rel, hw, hq, hx⟩ := h
  refine ⟨B, ρ, μ, _, E0, rel, hw, fun ds μ1 k J B1 H1 n gv => ?_, hx⟩
  intro Da hD
  have nb : B1 Da = none := n.sub.none hD
  have f : Fre H Da := (Fre.none hD).back n.toNx nb
  -- the turns
  refine ⟨fun i m H' => m = ds.length - i ∧ i ≤ ds.length ∧ ∃ B' μ' acc vacc, Nm g B H B' H' μ' ∧ Up B1 B' ∧ B' Da = none ∧ H' Da = some (.lst vacc) ∧ RpA g B' vacc acc ∧ lcL wg wt we (wipeR ρ vs) (ds.drop i) acc μ' Q0,
    ⟨ds.length, by simp, Nat.zero_le _, B1, μ1, [], [], n.np (Np.own n.sub n.notb n.tabs hD _), Up.refl _, nb, upd_same, .nil, by rw [List.drop_zero]; exact k⟩, ?_⟩
  rintro i m H' ⟨rfl, hle, B', μ', acc, vacc, n', kn, nb', hh, ra, hw'⟩
  by_cases hlt : i < ds.length
  · obtain ⟨d, hd⟩ : ∃ d, ds[i]? = some d := ⟨ds[i], List.getElem?_eq_getElem hlt⟩
    obtain ⟨go, yl⟩ := gv.go i d hd B' H' n'.bs kn
    rw [drop_cons hd] at hw'
    refine .inr ⟨go, fun H2 => ∃ B' μ' acc vacc, Nm g B H B' H2 μ' ∧ Up B1 B' ∧ B' Da = none ∧ H2 Da = some (.lst vacc) ∧ RpA g B' vacc acc ∧ lcL wg wt we (wipeR ρ vs) (ds.drop (i + 1)) acc μ' Q0,
      fun H2 ⟨B', μ', acc, vacc, x⟩ => ⟨ds.length - (i + 1), by omega, rfl, hlt, B', μ', acc, vacc, x⟩, fun x H2 y => ?_⟩
    obtain ⟨B2, n2, r2⟩ := yl x H2 y
    have hh2 : H2 Da = some (.lst vacc) := n2.keep _ _ hh no_lst
    have nb2 : B2 Da = none := n2.old _ _ hh own_lst nb'
    have rw2 : Rel g B2 H2 (wipe σ vs) (wipeR ρ vs) μ' := (rel.nm (n'.np n2)).wipe vs
    refine hg (Φ := ⟨B2, fun _ => none, B2, none⟩) (Q0 := _) ⟨rw2, ⟨fun a o e => (by cases e), Up.refl _, rw2.sub, rw2.notb, fun a o e => (by cases e), fun a o k e => (by cases e), rw2.tabs⟩, Up.refl _, fun _ _ _ _ _ _ o e => (by cases e), fun _ _ _ _ z => (by cases z)⟩ r2 hw' fun σ3 ρ3 h3 s3 hwp => ?_
    refine ⟨by rw [hwp vs his, wipe_wipe _ _ _ fun i h => h], ?_⟩
    refine tDT.go s3.rel h3 noE_exk fun b μ4 B4 H4 k4 n4 => ?_
    have c4 : ∀ n, B2 Da ≠ some (.own n) := fun n z => by rw [nb2] at z; cases z
    have hh4 : H4 Da = some (.lst vacc) := n4.keep _ _ hh2 no_lst c4
    have nb4 : B4 Da = none := n4.old _ _ hh2 own_lst nb2
    have n04 := (n'.np n2).trans n4
    cases b with
    | true =>
      refine (if_pos rfl).mpr ?_
      refine tD.go (s3.rel.nm n4) k4 noE_exk fun z μ5 v B5 H5 k5 n5 r5 => ?_
      have hh5 : H5 Da = some (.lst vacc) := n5.keep _ _ hh4 no_lst (fun n z => by rw [nb4] at z; cases z)
      have nb5 : B5 Da = none := n5.old _ _ hh4 own_lst nb4
      have n05 := n04.trans n5
      have up5 : Up B' B5 := n2.up.trans (n4.up.trans n5.up)
      exact ⟨vacc, hh5, by rw [ra.len]; exact k5.1, B5, μ5, acc ++ [z], vacc ++ [v], n05.write f nb5 hh5 no_lst lst_code, kn.trans up5, nb5, upd_same, (ra.up up5).app (.cons r5 .nil), k5.2⟩
    | false =>
      refine (if_neg Bool.false_ne_true).mpr ?_
      exact ⟨B4, μ4, acc, vacc, n04, kn.trans (n2.up.trans n4.up), nb4, hh4, ra.up (n2.up.trans n4.up), k4⟩
  · have e : i = ds.length := by omega
    subst e
    rw [List.drop_length] at hw'
    exact .inl ⟨gv.stop B' H' n'.bs kn, hq _ _ hw' Da vacc B' H' n' f nb' hh ra⟩
theorem dl_comp (hc : X.calm = true) (hN : X.N.Nodup) (hi : DI g X tg iter wi) (ok : BlkOk X.N X.env.scope scope own)
    (hg : ∀ (s : Shared) (H : Hp) (C : Addr) (cl : List (Str × Addr)) (fp : List Addr), DG g (X.blk s H scope (compEnvC scope cl C X.env) fp) tg wg is t)
    (ht : ∀ (s : Shared) (H : Hp) (C : Addr) (cl : List (Str × Addr)) (fp : List Addr), DTs g (X.blk s H scope (compEnvC scope cl C X.env) fp) ifs wt)
    (he : ∀ (s : Shared) (H : Hp) (C : Addr) (cl : List (Str × Addr)) (fp : List Addr), DE g (X.blk s H scope (compEnvC scope cl C X.env) fp) elt we)
    (his : ∀ i ∈ is, i ∈ own.map (·.2) := by decide) (hs : ∀ x, foldedSetIterable iter X.env x = pure x := by intro _; rfl) : DL g X (.ListComp elt [⟨tg, iter, ifs, 0⟩] scope pos) (wLc wi wg wt we (own.map (·.2))) :=
  ⟨fun gd W tk => PEw (pe_lc hc hN (hi.run gd W tk) ok (fun s H C cl fp => (hg s H C cl fp).pg (gd.blk _ _ _ _ _) hc) (fun s H C cl fp => (ht s H C cl fp).run (gd.blk _ _ _ _ _) _ takes0) (fun s H C cl fp => (he s H C cl fp).run (gd.blk _ _ _ _ _) _ takes0) hs)
    fun σ H Q h => lc_read his (hg X.s_0 X.H_0 0 [] []).ok h⟩
/-- x = [..] on one line -/
theorem ds_setLc {i : Nat} {y : Str} {py : Pos} {spos : Pos} (hc : X.calm = true) (hN : X.N.Nodup) (hi : DI g X tg iter wi) (ok : BlkOk X.N X.env.scope scope own)
    (hg : ∀ (s : Shared) (H : Hp) (C : Addr) (cl : List (Str × Addr)) (fp : List Addr), DG g (X.blk s H scope (compEnvC scope cl C X.env) fp) tg wg is t)
    (ht : ∀ (s : Shared) (H : Hp) (C : Addr) (cl : List (Str × Addr)) (fp : List Addr), DTs g (X.blk s H scope (compEnvC scope cl C X.env) fp) ifs wt)
    (he : ∀ (s : Shared) (H : Hp) (C : Addr) (cl : List (Str × Addr)) (fp : List Addr), DE g (X.blk s H scope (compEnvC scope cl C X.env) fp) elt we)
    (hsw : swapsWith (.ListComp elt [⟨tg, iter, ifs, 0⟩] scope pos) (some (.Name y py)) spos.line X.env = pure true)
    (hy : X.N[i]? = some y := by rfl) (hyl : X.env.scope.names.lookup y = some .local := by rfl)
    (his : ∀ i ∈ is, i ∈ own.map (·.2) := by decide) (hs : ∀ x, foldedSetIterable iter X.env x = pure x := by intro _; rfl) : DS g X (.Assign [.Name y py] (.ListComp elt [⟨tg, iter, ifs, 0⟩] scope pos) spos) (sSet i (wL (wLc wi wg wt we (own.map (·.2))))) :=
  ⟨fun gs W tk => PSw (ps_setLc hc hN hy hyl hsw (hi.run gs.toGd W tk) ok (fun s H C cl fp => (hg s H C cl fp).pg (gs.toGd.blk _ _ _ _ _) hc) (fun s H C cl fp => (ht s H C cl fp).run (gs.toGd.blk _ _ _ _ _) _ takes0) (fun s H C cl fp => (he s H C cl fp).run (gs.toGd.blk _ _ _ _ _) _ takes0) hs)
    fun Dn σ H h => by
  obtain ⟨Φ, B, ρ, μ, D0, s, hw, l⟩ := h
  refine lc_read (W := W) his (hg X.s_0 X.H_0 0 [] []).ok ⟨B, ρ, μ, _, D0.ex ρ, s.rel, hw, fun ds μ' k a vs B' H' n f hb hh r => ?_, s.exk l⟩
  exact l.nx _ _ _ (upd B' a (.lst vs)) H' k ((s.nxt (n.learn f hb hh no_lst)).set (.lst upd_same (r.up (upd_up hb))))⟩
end
end Dk
namespace Dk
open PySem PySem.Spec PyProof.Rows L2

/-! ### defs -/
structure DFn (P : Program) (w : World) (K : PySem.W.Frag) (mg : Str → Option Value) (base : Heap) (g : G) (k : Nat) (f : Addr) (c : Ct) : Prop where
  run : ∀ (A : Around) (outer : List Env) (s : Shared) (H B : Hp) (us : List Value) (vs : List V) (ds : List D) (μ : Mu) (Q0 : D → Mu → Prop) (E0 : Ek) (Q : VK) (E : XK), Room k A → A.guards = some [] → Env0 P w K mg base A outer s H → Vals vs us → Bs g B H → MuR g B H μ → RpA g B vs ds → c ds μ Q0 E0 →
    (∀ d μ', Q0 d μ' → ∀ v B' H', Nm g B H B' H' μ' → Rp g B' v d → Q v H') → (∀ c d μ', E0 c d μ' → ∀ cls dd B' H', Nm g B H B' H' μ' → ExObj g B' c d cls dd → E cls dd H') →
    codeAny (model P w) A (.call (.ref f) ⟨us, []⟩) (CR (L2.CX P w) outer P w H s Q E) s
theorem DFn.mono {P : Program} {w : World} {K : PySem.W.Frag} {mg : Str → Option Value} {base : Heap} {g : G} {j k : Nat} {f : Addr} {c : Ct} (F : DFn P w K mg base g j f c) (h : j ≤ k) : DFn P w K mg base g k f c :=
  ⟨fun A outer s H B us vs ds μ Q0 E0 Q E hr => F.run A outer s H B us vs ds μ Q0 E0 Q E (hr.mono h)⟩
theorem DFn.imp {P : Program} {w : World} {K : PySem.W.Frag} {mg : Str → Option Value} {base : Heap} {g : G} {k : Nat} {f : Addr} {c c' : Ct} (F : DFn P w K mg base g k f c) (h : ∀ ds μ Q E, c' ds μ Q E → c ds μ Q E) : DFn P w K mg base g k f c' :=
  ⟨fun A outer s H B us vs ds μ Q0 E0 Q E hr hg e0 r b m ra hc hq he => F.run A outer s H B us vs ds μ Q0 E0 Q E hr hg e0 r b m ra (h _ _ _ _ hc) hq he⟩
/-- the slots at the entry -/
def startR (N : List Str) (ds : List D) : List Sl := ds.map .sh ++ List.replicate (N.length - ds.length) .no
def deOf (Q : D → Mu → Prop) (E : Ek) : De := { nx := fun _ μ => Q .non μ, rt := Q, ex := fun _ => E }
theorem startR_no {N : List Str} {ds : List D} {i : Nat} {s : Sl} (h : (startR N ds)[i]? = some s) : s.isOw = false := by
  unfold startR at h
  by_cases hi : i < ds.length
  · rw [List.getElem?_append_left (by simpa using hi), List.getElem?_map, List.getElem?_eq_getElem hi] at h
    cases h; rfl
  · rw [List.getElem?_append_right (by simpa using hi), List.getElem?_replicate] at h
    split at h
    · cases h; rfl
    · cases h
theorem start_rel {g : G} {B H : Hp} {μ : Mu} (b : Bs g B H) (m : MuR g B H μ) {N : List Str} {vs : List V} {ds : List D} (r : RpA g B vs ds) : Rel g B H (L2.start N vs) (startR N ds) μ := by
  refine ⟨b.sub, m, b.notb, b.tabs, ?_, fun i x s h1 h2 => ?_, fun i j s t n h1 h2 o1 o2 => ?_⟩
  · unfold L2.start startR
    simp [r.len]
  · unfold L2.start at h1
    unfold startR at h2
    by_cases hi : i < ds.length
    · rw [List.getElem?_append_left (by simpa using hi), List.getElem?_map] at h2
      rw [List.getElem?_append_left (by simpa [r.len] using hi), List.getElem?_map] at h1
      obtain ⟨v, h3, h4⟩ := r.get (List.getElem?_eq_getElem hi)
      rw [h3] at h1
      rw [List.getElem?_eq_getElem hi] at h2
      cases h1; cases h2
      exact h4
    · rw [List.getElem?_append_right (by simpa using hi), List.getElem?_replicate] at h2
      split at h2
      · cases h2
        cases x <;> exact True.intro
      · cases h2
  · rw [startR_no h1] at o1
    cases o1
theorem dfn_mk {P : Program} {w : World} {K : PySem.W.Frag} {mg : Str → Option Value} {base : Heap} {g : G} {k : Nat} {f : Addr} {c : Ct} {name qual : Str} {params : Arguments} {body : List Stmt} {scope : Scope} {dV kV doc pm cdv ct oc : Value} {an od : Option Addr} {osl : Array (Option Value)} {N ps : List Str} {wb : Ws} {bs : List Value} {bvs : List V} {bds : List D}
    (lk : K.lookup f = some ⟨oc, od, .func (PySem.W.fnOf name qual params body scope dV kV doc pm an cdv ct), osl⟩) (hcd : PySem.W.codeIn K cdv qual = true) (S : FnScope N ps scope) (hb : Binds K (PySem.W.fnOf name qual params body scope dV kV doc pm an cdv ct) ps bs) (hv : Vals bvs bs) (hbd : ∀ B, RpA g B bvs bds)
    (hK : K = g.K) (len : ∀ ds μ Q E, c ds μ Q E → (ds ++ bds).length = ps.length)
    (hbody : ∀ (A : Around) (outer : List Env) (s : Shared) (H : Hp) (E : XK), Room k (A.deeper (envOfC qual scope s.heap.objs.size f cdv)) → DSs g (cxOf (L2.CX P w) P w K mg base N qual scope f cdv A outer s H E) body wb)
    (h : ∀ ds μ Q E, c ds μ Q E → wb (deOf Q E) (startR N (ds ++ bds)) μ) : DFn P w K mg base g (k + 1) f c := by
  refine ⟨fun A outer s H B us vs ds μ Q0 E0 Q E hr hg e0 r b m ra hc hq he => ?_⟩
  have ra2 : RpA g B (vs ++ bvs) (ds ++ bds) := ra.app (hbd B)
  have r2 : Vals (vs ++ bvs) (us ++ bs) := r.append hv
  have hl : (us ++ bs).length = ps.length := by rw [← r2.length, ra2.len]; exact len _ _ _ _ hc
  have KX : K.In s.heap := e0.mod.kin.keeps fun b o e => (e0.bs b o e).1
  have bt := hb s us KX hl
  refine LamX.run_ofS (N := N) (ps := ps) lk hcd S hr e0 bt r2 (by rw [ra2.len]; exact len _ _ _ _ hc) fun hr' => ?_
  have gs : Gs g (cxOf (L2.CX P w) P w K mg base N qual scope f cdv A outer s H E) := ⟨⟨hK, hg, by have := hr'.un; exact (by show (A.deeper _).units + 128 < cLine; omega)⟩, passes_of rfl⟩
  refine ⟨_, (hbody A outer s H E hr').run gs _ (takes_of rfl rfl rfl rfl), ⟨B, H, B, none⟩, B, startR N (ds ++ bds), μ, deOf Q0 E0, ⟨start_rel b m ra2, b.rf.nx, Up.refl B, fun i s a h1 o _ => ?_, fun _ _ _ _ z => (by cases z)⟩, h _ _ _ _ hc, ⟨fun ρ μ' σ B' H' h' s' => ?_, fun d μ' v B' H' h' n q => hq d μ' h' v B' H' n q, fun _ _ _ _ _ h' => h'.elim, fun _ _ _ _ _ h' => h'.elim, fun ρ c d μ' σ B' H' cls dd h' s' x => he c d μ' h' cls dd B' H' s'.mm x⟩⟩
  · exact absurd o (by rw [startR_no h1]; decide)
  · exact hq _ _ h' _ B' H' s'.mm .non
end Dk
namespace Dk
open PySem PySem.Spec PyProof.Rows L2

theorem make_guards {A : Around} {C : Addr} {us : List Value} {kw : List (Str × Value)} : (A.under (.builtin "type.__call__" ⟨.ref C :: us, kw⟩)).guards = A.guards := by
  first | rfl | simp [Around.under, Code.weight, Code.isCreation, Code.isGuard, Code.isCaller, Code.frames, Code.isFrame, guardIds]
def wCall (c : Ct) (w : Wa) : We := fun ρ μ Q E => w ρ μ (fun ds μ => c ds μ Q E) E
section
variable {g : G} {X : Cx} {pins : List (Addr × Obj)} {σ : L2.St} {H B : Hp} {s : Shared} {Q : VK} {us : List Value} {vs : List V} {ds : List D} {k : Nat} {f : Addr} {c : Ct} {W : WX} {μ : Mu} {Q0 : D → Mu → Prop} {E0 : Ek}
theorem run_d (F : DFn X.prog X.w X.K X.mg X.base g k f c) (hr : Room k X.A) (gd : Gd g X) (tk : Takes X W) (I : Inv X pins σ H s) (r : Vals vs us) (b : Bs g B H) (m : MuR g B H μ) (ra : RpA g B vs ds) (hc : c ds μ Q0 E0)
    (hq : ∀ d μ', Q0 d μ' → ∀ v B' H', Nm g B H B' H' μ' → Rp g B' v d → Q v H') (hx : exk g W B H σ E0) : wpAny (model X.prog X.w) X.A (call (.ref f) us) (EP X pins σ Q) X.xe s := by
  refine wpAny_call (codeAny_mono (F.run X.A X.stack s H B us vs ds μ Q0 E0 Q (WE W σ) hr gd.gd I.env0 r b m ra hc hq fun c d μ' h cls dd B' H' n x => hx c d μ' h cls dd B' H' n x) fun r s' hq' => ?_)
  cases r with
  | error e => exact passAt tk σ pins H s e s' I hq'
  | ok fl =>
    cases fl with
    | ret u => exact I.after hq'
    | next => exact False.elim hq'
    | brk => exact False.elim hq'
    | cont => exact False.elim hq'
variable {x m : Str} {p pos apos : Pos} {e o : Expr} {es : List Expr} {w : Wa} {wo : We}
theorem de_call (F : DFn X.prog X.w X.K X.mg X.base g k f c) (hr : Room k X.A) (hg : Gl X x) (hm : X.mg x = some (.ref f)) (hk : PySem.W.keepIn X.K (.ref f) = true) (ha : DA g X (e :: es) w)
    (hdb : (x == ("__debug__" : Str)) = false := by decide) (he : starEach (e :: es) X.env = (false, eval e X.env) :: starEach es X.env := by rfl) (hpl : (backTo pos (starEach es X.env)).any (·.1) = false := by rfl) :
    DE g X (.Call (.Name x p) (e :: es) [] pos) (wCall c w) := ⟨fun gd W tk => ⟨fun pins s σ H Q I h => by
  obtain ⟨B, ρ, μ, Q0, E0, rel, hw, hq, hx⟩ := h
  refine wpAny_Call_Name_kw (ld_glob I hg hm ?_ hdb)
  refine PySem.W.callWith_K (h₀ := X.base) I.ok.mod.kin hk (thn ((ha.run gd W tk).run pos pins s σ H (fun vs H1 => ∃ ds B1 μ1, Nm g B H B1 H1 μ1 ∧ RpA g B1 vs ds ∧ c ds μ1 Q0 E0) I (tDA.go rel hw hx fun ds μ1 vs B1 H1 k n r => ⟨ds, B1, μ1, n, r, k⟩)) fun us s1 ⟨vs, H1, I1, r, ds, B1, μ1, n, ra, hc⟩ => ⟨I1.kIn, ?_⟩) he hpl
  exact run_d F hr gd tk I1 r n.bs n.mu ra hc (fun d _ h v B' H' n' r' => hq d _ h v B' H' (n.trans n') r') (hx.nx n)⟩⟩
theorem de_call0 (F : DFn X.prog X.w X.K X.mg X.base g k f c) (hr : Room k X.A) (hg : Gl X x) (hm : X.mg x = some (.ref f)) (hk : PySem.W.keepIn X.K (.ref f) = true)
    (hdb : (x == ("__debug__" : Str)) = false := by decide) : DE g X (.Call (.Name x p) [] [] pos) (wCall c aN) := ⟨fun gd W tk => ⟨fun pins s σ H Q I h => by
  obtain ⟨B, ρ, μ, Q0, E0, rel, hw, hq, hx⟩ := h
  refine wpAny_Call_Name_kw (ld_glob I hg hm ?_ hdb)
  exact PySem.W.callWith_K0 I.kIn hk (run_d (us := []) (vs := []) (ds := []) F hr gd tk I .nil rel.bs rel.mu .nil hw hq hx)⟩⟩

/-! ### own instances: fields, methods, properties -/
theorem zip_lookup : ∀ {ns : List Str} {vs : List V} {i : Nat} {f : Str}, ns.Nodup → ns[i]? = some f → (ns.zip vs).lookup f = vs[i]?
  | [], _, _, _, _, h => by simp at h
  | n :: ns, [], i, f, nd, h => by simp
  | n :: ns, v :: vs, 0, f, nd, h => by
    simp at h; subst h
    simp [List.lookup]
  | n :: ns, v :: vs, i + 1, f, nd, h => by
    have h' : ns[i]? = some f := by simpa using h
    have ne : f ≠ n := fun e => (List.nodup_cons.mp nd).1 (by rw [← e]; exact List.mem_of_getElem? h')
    have e : (f == n) = false := by simpa using ne
    show (match f == n with | true => some v | false => (ns.zip vs).lookup f) = _
    rw [e]
    show (ns.zip vs).lookup f = _
    rw [zip_lookup (List.nodup_cons.mp nd).2 h']
    simp
theorem zip_lookup_none : ∀ {ns : List Str} {vs : List V} {f : Str}, f ∉ ns → (ns.zip vs).lookup f = none
  | [], _, _, _ => by simp
  | n :: ns, [], f, h => by simp
  | n :: ns, v :: vs, f, h => by
    have e : (f == n) = false := by simpa using fun e => h (by rw [e]; exact List.mem_cons_self ..)
    show (match f == n with | true => some v | false => (ns.zip vs).lookup f) = _
    rw [e]
    exact zip_lookup_none fun z => h (List.mem_cons_of_mem _ z)
/-- o.f, f a field: its place by the class -/
def wFld (tb : List (Nat × Nat)) (o : We) : We := fun ρ μ Q E => o ρ μ (fun d μ => match d with
  | .obj c xs => (match tb.lookup c with
    | some i => (match xs[i]? with
      | some z => Q z μ
      | none => False)
    | none => False)
  | _ => False) E
structure FOk (g : G) (K : PySem.W.Frag) (f : Str) (c i : Nat) : Prop where
  cl : Cls K (g.cls c)
  no : NoAttr K (g.cls c) f
  nd : (g.flds c).Nodup
  few : (g.flds c).length < 1000
  at_ : (g.flds c)[i]? = some f
theorem mem_lookupN {β : Type} : ∀ {tb : List (Nat × β)} {c : Nat} {b : β}, tb.lookup c = some b → (c, b) ∈ tb
  | [], _, _, h => by simp at h
  | (c', b') :: tb, c, b, h => by
    by_cases e : c = c'
    · subst e
      simp [List.lookup] at h
      subst h
      exact List.mem_cons_self ..
    · have e' : (c == c') = false := by simpa using e
      simp [List.lookup, e'] at h
      exact List.mem_cons_of_mem _ (mem_lookupN h)
theorem de_fld {tb : List (Nat × Nat)} (hf : ∀ p ∈ tb, FOk g X.K m p.1 p.2) (ho : DE g X o wo) (hb : attributeBase o m X.env (eval o X.env) = eval o X.env := by rfl) : DE g X (.Attribute o m pos) (wFld tb wo) := ⟨fun gd W tk => PEw (pe_fld (ho.run gd W tk) hb) fun σ H Q h => by
  obtain ⟨B, ρ, μ, Q0, E0, rel, hw, hq, hx⟩ := h
  refine tD.go rel hw hx fun d μ1 v B1 H1 k n r => ?_
  cases r with
  | obj h1 h2 h3 =>
    rename_i a dx cc vs ds
    have k : (match tb.lookup cc with | some i => (match ds[i]? with | some z => Q0 z μ1 | none => False) | none => False) := k
    cases e1 : tb.lookup cc with
    | none => rw [e1] at k; exact k.elim
    | some i =>
      rw [e1] at k
      have k : (match ds[i]? with | some z => Q0 z μ1 | none => False) := k
      cases e2 : ds[i]? with
      | none => rw [e2] at k; exact k.elim
      | some z =>
        rw [e2] at k
        have ok := hf _ (mem_lookupN e1)
        obtain ⟨v, e3, rv⟩ := h3.get e2
        exact ⟨a, _, dx, _, v, rfl, n.sub.at h1, ok.cl, ok.no, by rw [zip_lookup ok.nd ok.at_]; exact e3, hq _ _ k v B1 H1 n rv⟩
  | _ => exact k.elim⟩
/-- o.m(..) by the class -/
def wMeth (ms : List (Nat × Ct)) (o : We) (a : Wa) : We := fun ρ μ Q E => o ρ μ (fun d μ => match d with
  | .obj c xs => (match ms.lookup c with
    | some ct => a ρ μ (fun ds μ => ct (.obj c xs :: ds) μ Q E) E
    | none => False)
  | _ => False) E
structure MOk (g : G) (X : Cx) (m : Str) (k : Nat) (c : Nat) (ct : Ct) : Prop where
  ex : ∃ f, Meth X.K (g.cls c) m f ∧ DFn X.prog X.w X.K X.mg X.base g k f ct
  cl : Cls X.K (g.cls c)
  no : m ∉ g.flds c
theorem de_meth {ms : List (Nat × Ct)} {pl : Sem Bool} (hm : ∀ p ∈ ms, MOk g X m k p.1 p.2) (hr : Room k X.A) (ho : DE g X o wo) (ha : DA g X (e :: es) w)
    (hst : starEach (e :: es) X.env = (false, eval e X.env) :: starEach es X.env := by rfl) (hpl : (backTo pos (starEach es X.env)).any (·.1) = false := by rfl)
    (ht : eval (.Call (.Attribute o m apos) (e :: es) [] pos) X.env = (do
      let ov ← eval o X.env
      standAt apos.atName
      let (f, first) ← holding [ov] (getMethod ov m pl)
      callWith pos f first (backTo pos (starEach (e :: es) X.env)) (backToKw pos (keywordEach [] X.env))) := by rfl) :
    DE g X (.Call (.Attribute o m apos) (e :: es) [] pos) (wMeth ms wo w) := ⟨fun gd W tk => ⟨fun pins s σ H Q I h => by
  obtain ⟨B, ρ, μ, Q0, E0, rel, hw, hq, hx⟩ := h
  refine PySem.W.methodCall_KW (pl := pl) (thn ((ho.run gd W tk).run pins s σ H (fun v H1 => ∃ a dx c vs ds B1 μ1 ct, v = .ref a ∧ Nm g B H B1 H1 μ1 ∧ B1 a = some (.ins (g.cls c) dx ((g.flds c).zip vs)) ∧ Rp g B1 (.ref a) (.obj c ds) ∧ ms.lookup c = some ct ∧ w ρ μ1 (fun es μ => ct (.obj c ds :: es) μ Q0 E0) E0) I
    (tD.go rel hw hx fun d μ1 v B1 H1 k n r => by
      cases r with
      | obj h1 h2 h3 =>
        rename_i a dx cc vs ds
        have k : (match ms.lookup cc with | some ct => w ρ μ1 (fun es μ => ct (.obj cc ds :: es) μ Q0 E0) E0 | none => False) := k
        cases e1 : ms.lookup cc with
        | none => rw [e1] at k; exact k.elim
        | some ct =>
          rw [e1] at k
          exact ⟨a, dx, cc, vs, ds, B1, μ1, ct, rfl, n, h1, .obj h1 h2 h3, e1, k⟩
      | _ => exact k.elim)) fun u s1 ⟨v, H1, I1, rv, a, dx, c, vs, ds, B1, μ1, ct, ev, n, ha1, ro, e1, k1⟩ => ?_) ht
  subst ev
  obtain rfl : u = Value.ref a := rv
  have ok := hm _ (mem_lookupN e1)
  obtain ⟨f, mf, F⟩ := ok.ex
  refine getmeth_ok I1 (n.sub.at ha1) ok.cl mf (zip_lookup_none ok.no) ?_
  refine PySem.W.callWith_K (first := [.ref a]) (h₀ := X.base) I.ok.mod.kin mf.kp (thn ((ha.run gd W tk).run pos pins s1 σ H1 (fun vs H2 => ∃ es B2 μ2, Nm g B1 H1 B2 H2 μ2 ∧ RpA g B2 vs es ∧ ct (.obj c ds :: es) μ2 Q0 E0) I1 (tDA.go (rel.nm n) k1 (hx.nx n) fun es μ2 vs B2 H2 k n r => ⟨es, B2, μ2, n, r, k⟩)) fun us s2 ⟨vs, H2, I2, r, es', B2, μ2, n2, ra, hc⟩ => ⟨I2.kIn, ?_⟩) hst hpl
  exact run_d (us := .ref a :: us) (vs := .ref a :: vs) F hr gd tk I2 (.cons rfl r) n2.bs n2.mu (.cons (ro.up n2.up) ra) hc (fun d _ h v B' H' n' r' => hq d _ h v B' H' ((n.trans n2).trans n') r') (hx.nx (n.trans n2))⟩⟩
theorem de_meth0 {ms : List (Nat × Ct)} {pl : Sem Bool} (hm : ∀ p ∈ ms, MOk g X m k p.1 p.2) (hr : Room k X.A) (ho : DE g X o wo)
    (ht : eval (.Call (.Attribute o m apos) [] [] pos) X.env = (do
      let ov ← eval o X.env
      standAt apos.atName
      let (f, first) ← holding [ov] (getMethod ov m pl)
      callWith pos f first (backTo pos (starEach [] X.env)) (backToKw pos (keywordEach [] X.env))) := by rfl) :
    DE g X (.Call (.Attribute o m apos) [] [] pos) (wMeth ms wo aN) := ⟨fun gd W tk => ⟨fun pins s σ H Q I h => by
  obtain ⟨B, ρ, μ, Q0, E0, rel, hw, hq, hx⟩ := h
  refine PySem.W.methodCall_KW (pl := pl) (thn ((ho.run gd W tk).run pins s σ H (fun v H1 => ∃ a dx c vs ds B1 μ1 ct, v = .ref a ∧ Nm g B H B1 H1 μ1 ∧ B1 a = some (.ins (g.cls c) dx ((g.flds c).zip vs)) ∧ Rp g B1 (.ref a) (.obj c ds) ∧ ms.lookup c = some ct ∧ ct [.obj c ds] μ1 Q0 E0) I
    (tD.go rel hw hx fun d μ1 v B1 H1 k n r => by
      cases r with
      | obj h1 h2 h3 =>
        rename_i a dx cc vs ds
        have k : (match ms.lookup cc with | some ct => ct [.obj cc ds] μ1 Q0 E0 | none => False) := k
        cases e1 : ms.lookup cc with
        | none => rw [e1] at k; exact k.elim
        | some ct =>
          rw [e1] at k
          exact ⟨a, dx, cc, vs, ds, B1, μ1, ct, rfl, n, h1, .obj h1 h2 h3, e1, k⟩
      | _ => exact k.elim)) fun u s1 ⟨v, H1, I1, rv, a, dx, c, vs, ds, B1, μ1, ct, ev, n, ha1, ro, e1, k1⟩ => ?_) ht
  subst ev
  obtain rfl : u = Value.ref a := rv
  have ok := hm _ (mem_lookupN e1)
  obtain ⟨f, mf, F⟩ := ok.ex
  refine getmeth_ok I1 (n.sub.at ha1) ok.cl mf (zip_lookup_none ok.no) ?_
  exact PySem.W.callWith_K0 (first := [.ref a]) I1.kIn mf.kp (run_d (us := [.ref a]) (vs := [.ref a]) F hr gd tk I1 (.cons rfl .nil) n.bs n.mu (.cons ro .nil) k1 (fun d _ h v B' H' n' r' => hq d _ h v B' H' (n.trans n') r') (hx.nx n))⟩⟩
/-- o.f, a property -/
def wProp (ms : List (Nat × Ct)) (o : We) : We := fun ρ μ Q E => o ρ μ (fun d μ => match d with
  | .obj c xs => (match ms.lookup c with
    | some ct => ct [.obj c xs] μ Q noE
    | none => False)
  | _ => False) E
structure POk (g : G) (X : Cx) (m : Str) (k : Nat) (c : Nat) (ct : Ct) : Prop where
  ex : ∃ p f, PropOf X.K (g.cls c) m p f ∧ DFn X.prog X.w X.K X.mg X.base g k f ct
  cl : Cls X.K (g.cls c)
theorem getprop_d {C p f a dx : Addr} {fs : List (Str × V)} {b : Bool} {E' : Value → Shared → Prop} (gd : Gd g X) (I : Inv X pins σ H s) (ea : H a = some (.ins C dx fs)) (cl : Cls X.K C) (hp : PropOf X.K C m p f)
    (F : DFn X.prog X.w X.K X.mg X.base g k f c) (hr : Room (k + 1) X.A) (bs : Bs g B H) (mm : MuR g B H μ) (ro : Rp g B (.ref a) (ds.headD .non)) (hc : c [ds.headD .non] μ Q0 noE)
    (hq : ∀ d μ', Q0 d μ' → ∀ v B' H', Nm g B H B' H' μ' → Rp g B' v d → Q v H') :
    wpAny (model X.prog X.w) X.A (getAttr (.ref a) m b) (EP X pins σ Q) E' s := by
  obtain ⟨mA, O, _, _, _, _⟩ := ins_get I.hok ea
  obtain ⟨od, J, _⟩ := O.look
  obtain ⟨rest, hrec⟩ := hp.rec_
  have I1 := I.tok (s.toks + 1)
  have hc' : (PySem.W.clsIn X.K C).isSome = true := by
    obtain ⟨cd, hc, _⟩ := PySem.W.any_some cl.hd
    rw [hc]
    rfl
  refine PySem.W.get_bind I.kIn J (PySem.W.plainGet_of (cl.get m)).1 (PySem.W.findObj_data hc' hp.at_ hp.get hp.tak) (PySem.W.plainGet_of (cl.get m)).2 (wpAny_call (PySem.W.prop_get (s := { s with toks := s.toks + 1 }) I.kIn hrec ?_))
  refine codeAny_mono (F.run X.A.in1 X.stack { s with toks := s.toks + 1 } H B [.ref a] [.ref a] [ds.headD .non] μ Q0 noE Q (fun _ _ _ => False) hr.in1 gd.gd I1.env0.in1 (.cons rfl .nil) bs mm (.cons ro .nil) hc hq fun c d _ h => h.elim) fun r s' hq => ?_
  cases r with
  | error er =>
    obtain ⟨_, _, _, _, _, _, _, _, _, _, _, _, z⟩ := (show L2.CX X.prog X.w X.stack H { s with toks := s.toks + 1 } (fun _ _ _ => False) er s' from hq)
    exact z.elim
  | ok fl =>
    cases fl with
    | ret u =>
      obtain ⟨v, H', I3, rv, q3⟩ := I1.after hq
      show wpAny _ _ (handedOut u) _ _ _
      rw [PySem.W.handedOut_of (handed_of rv)]
      exact wpAny_pure ⟨v, H', I3, rv, q3⟩
    | next => exact False.elim hq
    | brk => exact False.elim hq
    | cont => exact False.elim hq
theorem de_prop {ms : List (Nat × Ct)} (hm : ∀ p ∈ ms, POk g X m k p.1 p.2) (hr : Room (k + 1) X.A) (ho : DE g X o wo) (hb : attributeBase o m X.env (eval o X.env) = eval o X.env := by rfl) : DE g X (.Attribute o m pos) (wProp ms wo) := ⟨fun gd W tk => ⟨fun pins s σ H Q I h => by
  obtain ⟨B, ρ, μ, Q0, E0, rel, hw, hq, hx⟩ := h
  refine attr_of hb (thn ((ho.run gd W tk).run pins s σ H (fun v H1 => ∃ a dx c vs ds B1 μ1 ct, v = .ref a ∧ Nm g B H B1 H1 μ1 ∧ B1 a = some (.ins (g.cls c) dx ((g.flds c).zip vs)) ∧ Rp g B1 (.ref a) (.obj c ds) ∧ ms.lookup c = some ct ∧ ct [.obj c ds] μ1 Q0 noE) I
    (tD.go rel hw hx fun d μ1 v B1 H1 k n r => by
      cases r with
      | obj h1 h2 h3 =>
        rename_i a dx cc vs ds
        have k : (match ms.lookup cc with | some ct => ct [.obj cc ds] μ1 Q0 noE | none => False) := k
        cases e1 : ms.lookup cc with
        | none => rw [e1] at k; exact k.elim
        | some ct =>
          rw [e1] at k
          exact ⟨a, dx, cc, vs, ds, B1, μ1, ct, rfl, n, h1, .obj h1 h2 h3, e1, k⟩
      | _ => exact k.elim)) fun u s1 ⟨v, H1, I1, rv, a, dx, c, vs, ds, B1, μ1, ct, ev, n, ha1, ro, e1, k1⟩ => ?_)
  subst ev
  obtain rfl : u = Value.ref a := rv
  have ok := hm _ (mem_lookupN e1)
  obtain ⟨p, f, pf, F⟩ := ok.ex
  exact getprop_d (ds := [.obj c ds]) gd I1 (n.sub.at ha1) ok.cl pf F hr n.bs n.mu ro k1 fun d _ h v B' H' n' r' => hq d _ h v B' H' (n.trans n') r'⟩⟩
end
end Dk
namespace Dk
open PySem PySem.Spec PyProof.Rows L2

/-! ### slots that own: freeze, lists changed -/
section
variable {g : G} {Φ : Ph} {W : WX} {B H B' H' : Hp} {σ : L2.St} {ρ : List Sl} {μ : Mu} {i : Nat}
theorem Rel.slot (r : Rel g B H σ ρ μ) {s : Sl} (h : ρ[i]? = some s) : ∃ x, σ[i]? = some x ∧ SlR g B H x s := by
  have hi : i < σ.length := by rw [r.len]; exact (List.getElem?_eq_some_iff.mp h).1
  exact ⟨σ[i], List.getElem?_eq_getElem hi, r.sl i _ _ (List.getElem?_eq_getElem hi) h⟩
/-- the slot's object is known from now on -/
theorem Stt.learn (s : Stt g Φ B H σ ρ μ) {t : Sl} {a : Addr} {o : HO} {d : D} (h : ρ[i]? = some t) (ht : t.isOw = true) (e : σ[i]? = some (some (.ref a))) (hb : B a = none) (hh : H a = some o) (ho : ∀ ps, o ≠ .tbl ps)
    (r : Rp g (upd B a o) (.ref a) d) (hm : ¬ Mk1 o := by rintro ⟨_, z⟩; first | cases z | (unfold excv at z; cases z) | (unfold LamX.CodeO at z; cases z)) : Stt g Φ (upd B a o) H σ (ρ.set i (.sh d)) μ := by
  have f := s.fr i t a h ht e
  have n := s.nx.learn f hb hh ho
  have ub := upd_up (o := o) hb
  refine ⟨⟨n.sub, s.rel.mu.learn hb hm, n.notb, n.tabs, by rw [List.length_set]; exact s.rel.len, fun j x u h1 h2 => ?_, fun j k u v ne h1 h2 o1 o2 => ?_⟩, n, s.kn.trans ub, fun j u b h1 o1 e1 => ?_, fun m j c xs em h1 => ?_⟩
  · by_cases q : i = j
    · subst q
      have hi : i < ρ.length := (List.getElem?_eq_some_iff.mp h).1
      rw [List.getElem?_set_self hi] at h2
      cases h2
      rw [e] at h1
      cases h1
      exact r
    · rw [List.getElem?_set_ne q] at h2
      have old := s.rel.sl j x u h1 h2
      -- another owner stands elsewhere
      have ne : ∀ b, u.isOw = true → x = some (.ref b) → b ≠ a := fun b ou ex z => by
        subst z
        exact s.rel.dis i j t u q h h2 ht ou (by rw [e, h1, ex])
      cases x with
      | none => cases u <;> first | exact True.intro | exact old.elim
      | some v =>
        cases u with
        | no => exact True.intro
        | sh d' => exact Rp.up ub old
        | ow ds =>
          obtain ⟨b, vs, ev, h3, h4, h5⟩ := old
          exact ⟨b, vs, ev, h3, by rw [upd_ne (ne b rfl (by rw [ev]))]; exact h4, h5.up ub⟩
        | owd ks ds =>
          obtain ⟨b, vs, ev, h3, h6, h4, h5⟩ := old
          exact ⟨b, vs, ev, h3, h6, by rw [upd_ne (ne b rfl (by rw [ev]))]; exact h4, h5.up ub⟩
        | ob c xs =>
          obtain ⟨b, dx, vs, ev, h3, h6, h7, h4, h5⟩ := old
          exact ⟨b, dx, vs, ev, h3, h6, h7, by rw [upd_ne (ne b rfl (by rw [ev]))]; exact h4, h5.up ub⟩
  · obtain ⟨n1, h1'⟩ := isOw_set h1 o1
    obtain ⟨n2, h2'⟩ := isOw_set h2 o2
    exact s.rel.dis j k u v ne h1' h2' o1 o2
  · obtain ⟨n1, h1'⟩ := isOw_set h1 o1
    exact s.fr j u b h1' o1 e1
  · obtain ⟨n1, h1'⟩ := isOw_set h1 rfl
    exact s.me m j c xs em h1'
/-- the slot's object is changed: it goes on owning -/
theorem Stt.change (s : Stt g Φ B H σ ρ μ) {t u : Sl} {a : Addr} {o o' : HO} (h : ρ[i]? = some t) (ht : t.isOw = true) (hu : u.isOw = true) (e : σ[i]? = some (some (.ref a))) (hb : B a = none) (hh : H a = some o) (h1 : ∀ ps, o ≠ .tbl ps) (h2 : ∀ c q, o ≠ LamX.CodeO c q)
    (r : SlR g B (upd H a o') (some (.ref a)) u) (hob : ∀ c xs, u = .ob c xs → ∃ c' xs', t = .ob c' xs' := by intro _ _ z; cases z) : Stt g Φ B (upd H a o') σ (ρ.set i u) μ := by
  have f := s.fr i t a h ht e
  have n := s.nx.write (o' := o') f hb hh h1 h2
  have hi : i < ρ.length := (List.getElem?_eq_some_iff.mp h).1
  have back : ∀ {j : Nat} {v : Sl}, (ρ.set i u)[j]? = some v → v.isOw = true → ∃ v', ρ[j]? = some v' ∧ v'.isOw = true := fun {j v} hj ov => by
    by_cases q : i = j
    · subst q; exact ⟨t, h, ht⟩
    · rw [List.getElem?_set_ne q] at hj; exact ⟨v, hj, ov⟩
  refine ⟨⟨n.sub, s.rel.mu.write hb, n.notb, n.tabs, by rw [List.length_set]; exact s.rel.len, fun j x v h3 h4 => ?_, fun j k v v2 ne h3 h4 o1 o2 => ?_⟩, n, s.kn, fun j v b h3 o1 e1 => ?_, fun m j c xs em h3 => ?_⟩
  · by_cases q : i = j
    · subst q
      rw [List.getElem?_set_self hi] at h4
      cases h4
      rw [e] at h3
      cases h3
      exact r
    · rw [List.getElem?_set_ne q] at h4
      have old := s.rel.sl j x v h3 h4
      have ne : ∀ b, v.isOw = true → x = some (.ref b) → b ≠ a := fun b ou ex z => by
        subst z
        exact s.rel.dis i j t v q h h4 ht ou (by rw [e, h3, ex])
      cases x with
      | none => cases v <;> first | exact True.intro | exact old.elim
      | some w =>
        cases v with
        | no => exact True.intro
        | sh d' => exact old
        | ow ds =>
          obtain ⟨b, vs, ev, h5, h6, h7⟩ := old
          exact ⟨b, vs, ev, by rw [upd_ne (ne b rfl (by rw [ev]))]; exact h5, h6, h7⟩
        | owd ks ds =>
          obtain ⟨b, vs, ev, h5, h8, h6, h7⟩ := old
          exact ⟨b, vs, ev, by rw [upd_ne (ne b rfl (by rw [ev]))]; exact h5, h8, h6, h7⟩
        | ob c xs =>
          obtain ⟨b, dx, vs, ev, h5, h8, h9, h6, h7⟩ := old
          exact ⟨b, dx, vs, ev, by rw [upd_ne (ne b rfl (by rw [ev]))]; exact h5, h8, h9, h6, h7⟩
  · obtain ⟨v', a1, a2⟩ := back h3 o1
    obtain ⟨v2', a3, a4⟩ := back h4 o2
    exact s.rel.dis j k v' v2' ne a1 a3 a2 a4
  · obtain ⟨v', a1, a2⟩ := back h3 o1
    exact s.fr j v' b a1 a2 e1
  · by_cases q : i = j
    · subst q
      rw [List.getElem?_set_self hi] at h3
      obtain ⟨c', xs', rfl⟩ := hob c xs (Option.some.inj h3)
      exact s.me m i c' xs' em h
    · rw [List.getElem?_set_ne q] at h3
      exact s.me m j c xs em h3
/-- a fresh object goes to a slot that owns it -/
theorem Stt.own (s : Stt g Φ B H σ ρ μ) {u : Sl} {a : Addr} (hu : u.isOw = true) (f : Fre Φ.H a) (hn : ∀ (j : Nat) (v : Sl), ρ[j]? = some v → v.isOw = true → σ[j]? ≠ some (some (.ref a)))
    (r : SlR g B H (some (.ref a)) u) (hob : ∀ c xs, u ≠ .ob c xs := by intro _ _ z; cases z) : Stt g Φ B H (σ.set i (some (.ref a))) (ρ.set i u) μ := by
  refine ⟨⟨s.rel.sub, s.rel.mu, s.rel.notb, s.rel.tabs, by rw [List.length_set, List.length_set]; exact s.rel.len, fun j x v h3 h4 => ?_, fun j k v v2 ne h3 h4 o1 o2 => ?_⟩, s.nx, s.kn, fun j v b h3 o1 e1 => ?_, fun m j c xs em h3 => ?_⟩
  · by_cases q : i = j
    · subst q
      have hi : i < σ.length := by
        have := (List.getElem?_eq_some_iff.mp h3).1
        rw [List.length_set] at this; exact this
      rw [List.getElem?_set_self hi] at h3
      rw [List.getElem?_set_self (by rw [← s.rel.len]; exact hi)] at h4
      cases h3; cases h4
      exact r
    · rw [List.getElem?_set_ne q] at h3 h4
      exact s.rel.sl j x v h3 h4
  · by_cases q1 : i = j
    · subst q1
      have q2 : i ≠ k := ne
      have hi : i < ρ.length := by
        have := (List.getElem?_eq_some_iff.mp h3).1
        rw [List.length_set] at this; exact this
      rw [List.getElem?_set_ne q2] at h4
      rw [List.getElem?_set_self (by rw [s.rel.len]; exact hi), List.getElem?_set_ne q2]
      exact fun z => hn k v2 h4 o2 z.symm
    · rw [List.getElem?_set_ne q1] at h3
      by_cases q2 : i = k
      · subst q2
        have hi : i < ρ.length := by
          have := (List.getElem?_eq_some_iff.mp h4).1
          rw [List.length_set] at this; exact this
        rw [List.getElem?_set_self (by rw [s.rel.len]; exact hi), List.getElem?_set_ne q1]
        exact fun z => hn j v h3 o1 z
      · rw [List.getElem?_set_ne q2] at h4
        rw [List.getElem?_set_ne q1, List.getElem?_set_ne q2]
        exact s.rel.dis j k v v2 ne h3 h4 o1 o2
  · by_cases q : i = j
    · subst q
      have hi : i < ρ.length := by
        have := (List.getElem?_eq_some_iff.mp h3).1
        rw [List.length_set] at this; exact this
      rw [List.getElem?_set_self (by rw [s.rel.len]; exact hi)] at e1
      cases e1
      exact f
    · rw [List.getElem?_set_ne q] at h3 e1
      exact s.fr j v b h3 o1 e1
  · by_cases q : i = j
    · subst q
      have hi : i < ρ.length := by
        have := (List.getElem?_eq_some_iff.mp h3).1
        rw [List.length_set] at this; exact this
      rw [List.getElem?_set_self hi] at h3
      exact absurd (Option.some.inj h3) (hob c xs)
    · rw [List.getElem?_set_ne q] at h3 ⊢
      exact s.me m j c xs em h3
/-- what an owner holds stands in the heap -/
theorem SlR.there {x : Option V} {s : Sl} (h : SlR g B H x s) (o : s.isOw = true) : ∃ a u, x = some (.ref a) ∧ H a = some u ∧ B a = none ∧ (∀ ps, u ≠ .tbl ps) := by
  cases x with
  | none => cases s <;> first | exact h.elim | cases o
  | some v =>
    cases s with
    | no => cases o
    | sh d => cases o
    | ow ds =>
      obtain ⟨b, vs, rfl, h3, h4, h5⟩ := h
      exact ⟨b, _, rfl, h3, h4, fun _ z => by cases z⟩
    | owd ks ds =>
      obtain ⟨b, vs, rfl, h3, h6, h4, h5⟩ := h
      exact ⟨b, _, rfl, h3, h4, fun _ z => by cases z⟩
    | ob c xs =>
      obtain ⟨b, dx, vs, rfl, h3, h6, h7, h4, h5⟩ := h
      exact ⟨b, _, rfl, h3, h4, fun _ z => by cases z⟩
theorem Stt.apart (s : Stt g Φ B H σ ρ μ) {a : Addr} (f : Fre H a) : ∀ (j : Nat) (v : Sl), ρ[j]? = some v → v.isOw = true → σ[j]? ≠ some (some (.ref a)) := fun j v h o e => by
  obtain ⟨x, h1, h2⟩ := s.rel.slot h
  obtain ⟨b, u, rfl, h3, _, h5⟩ := h2.there o
  rw [h1] at e
  cases e
  obtain ⟨ps, z⟩ := f u h3
  exact h5 ps z
end

/-- x is not changed any more -/
def sFz (i : Nat) (w : Ws) : Ws := fun D0 ρ μ => match ρ[i]? with
  | some (.ow ds) => w D0 (ρ.set i (.sh (.lst ds))) μ
  | some (.owd ks ds) => w D0 (ρ.set i (.sh (.dic ks ds))) μ
  | some (.sh d) => w D0 ρ μ
  | _ => False
def sOwn (i : Nat) (w : Wa) : Ws := fun D0 ρ μ => w ρ μ (fun ds μ => D0.nx (ρ.set i (.ow ds)) μ) (D0.ex ρ)
def sApp (i : Nat) (w : We) : Ws := fun D0 ρ μ => match ρ[i]? with
  | some (.ow ds) => w ρ μ (fun d μ => ds.length < sizeLine ∧ D0.nx (ρ.set i (.ow (ds ++ [d]))) μ) (D0.ex ρ)
  | _ => False
def sExt (i : Nat) (w : We) : Ws := fun D0 ρ μ => match ρ[i]? with
  | some (.ow ds) => w ρ μ (fun d μ => match d with
    | .lst es => ds.length + es.length ≤ sizeLine ∧ D0.nx (ρ.set i (.ow (ds ++ es))) μ
    | _ => False) (D0.ex ρ)
  | _ => False
section
variable {g : G} {X : Cx} {e : Expr} {w : We} {wl : Wa} {st : Stmt} {rest : List Stmt} {wb : Ws} {pos pos' : Pos}
theorem dss_fz (i : Nat) (h : DSs g X rest wb) : DSs g X rest (sFz i wb) := ⟨fun gs W tk => PSsw (h.run gs W tk) fun Dn σ H h => by
  obtain ⟨Φ, B, ρ, μ, D0, s, hw, l⟩ := h
  unfold sFz at hw
  split at hw
  · rename_i ds e1
    obtain ⟨x, h1, h2⟩ := s.rel.slot e1
    cases x with
    | none => exact h2.elim
    | some v =>
      obtain ⟨a, vs, rfl, h3, h4, h5⟩ := h2
      exact ⟨Φ, _, _, μ, D0, s.learn e1 rfl h1 h4 h3 no_lst (.lst upd_same (h5.up (upd_up h4))), hw, l⟩
  · rename_i ks ds e1
    obtain ⟨x, h1, h2⟩ := s.rel.slot e1
    cases x with
    | none => exact h2.elim
    | some v =>
      obtain ⟨a, vs, rfl, h3, h6, h4, h5⟩ := h2
      exact ⟨Φ, _, _, μ, D0, s.learn e1 rfl h1 h4 h3 (fun _ z => by cases z) (.dic upd_same h6 (h5.up (upd_up h4))), hw, l⟩
  · exact ⟨Φ, B, ρ, μ, D0, s, hw, l⟩
  · exact hw.elim⟩
theorem ds_own (i : Nat) {x : Str} (hN : X.N.Nodup) (he : DL g X e wl) (hi : X.N[i]? = some x := by rfl) (hx : Loc X.env.scope x := by first | exact Or.inl rfl | exact Or.inr rfl) (hs : swapsWith e (some (.Name x pos')) pos.line X.env = pure false := by rfl)
    (hf : X.fn x = true ∨ X.env.scope.names.lookup x = some .local := by first | exact .inl rfl | exact .inr rfl | assumption) : DS g X (.Assign [.Name x pos'] e pos) (sOwn i wl) := ⟨fun gs W tk => PSw (ps_set hN hi hx (he.run gs.toGd W tk) hs hf) fun Dn σ H h => by
  obtain ⟨Φ, B, ρ, μ, D0, s, hw, l⟩ := h
  refine ⟨B, ρ, μ, _, D0.ex ρ, s.rel, hw, fun ds μ' k a vs B' H' n f hb hh r => ?_, s.exk l⟩
  have hb0 : B a = none := by
    cases e : B a with
    | none => rfl
    | some o => rw [n.up _ _ e] at hb; cases hb
  exact l.nx _ _ _ B' H' k ((s.nxt n).own (u := .ow ds) rfl (f.back s.nx hb0) (s.apart f) ⟨a, vs, rfl, hh, hb, r⟩)⟩
theorem ds_app (i : Nat) {x : Str} {px pa pc : Pos} (he : DE g X e w) (hN : X.N[i]? = some x := by rfl) (hv : Vis X.env.scope x := by first | exact Or.inl rfl | exact Or.inr (Or.inl rfl) | exact Or.inr (Or.inr rfl)) (hd : (x == ("__debug__" : Str)) = false := by decide)
    (hcd : (x == ("__classdict__" : Str)) = false := by decide) (hpe : ∀ {te : TE}, PE X (.Call (.Attribute (.Name x px) "append" pa) [e] [] pc) te → PS X (.Expr (.Call (.Attribute (.Name x px) "append" pa) [e] [] pc) pos) (tDrop te) := by exact fun h => ps_expr h)
    (hbm : ∀ {ta te : TE}, PE X (.Name x px) ta → PE X e te → PE X (.Call (.Attribute (.Name x px) "append" pa) [e] [] pc) (tBM X.K "list" rAppend ta (tCons te tNil)) := by exact fun h1 h2 => pe_bm PySem.F.plainAttrs_list PySem.F.slot_list_append PySem.F.type_list_append mt_append h1 (pa_cons h2 pa_nil)) :
    DS g X (.Expr (.Call (.Attribute (.Name x px) "append" pa) [e] [] pc) pos) (sApp i w) := ⟨fun gs W tk => PSw (hpe (hbm (pe_var (i := i) hN hv hd hcd) (he.run gs.toGd W tk))) fun Dn σ H h => by
  obtain ⟨Φ, B, ρ, μ, D0, s, hw, l⟩ := h
  unfold sApp at hw
  split at hw
  · rename_i ds e1
    obtain ⟨x, h1, h2⟩ := s.rel.slot e1
    cases x with
    | none => exact h2.elim
    | some v =>
      obtain ⟨a, vs, rfl, h3, h4, h5⟩ := h2
      refine ⟨_, h1, .inl ⟨rfl, _, SqL.of h3⟩, ?_⟩
      refine tD.go s.rel hw (s.exk l) fun d μ1 v B1 H1 k n r => ?_
      have h3' := n.keep _ _ h3 no_lst (fun k z => by rw [h4] at z; cases z)
      have h4' := n.old _ _ h3 own_lst h4
      refine ⟨a, vs, v, rfl, rfl, h3', by rw [h5.len]; exact k.1, ?_⟩
      exact l.nx _ _ _ B1 _ k.2 ((s.nxt n).change (u := .ow (ds ++ [d])) e1 rfl rfl h1 h4' h3' no_lst lst_code ⟨a, vs ++ [v], rfl, upd_same, h4', (h5.up n.up).app (.cons r .nil)⟩)
  · exact hw.elim⟩
theorem ds_ext (i : Nat) {x : Str} {px pa pc : Pos} (he : DE g X e w) (hN : X.N[i]? = some x := by rfl) (hv : Vis X.env.scope x := by first | exact Or.inl rfl | exact Or.inr (Or.inl rfl) | exact Or.inr (Or.inr rfl)) (hd : (x == ("__debug__" : Str)) = false := by decide)
    (hcd : (x == ("__classdict__" : Str)) = false := by decide) (hpe : ∀ {te : TE}, PE X (.Call (.Attribute (.Name x px) "extend" pa) [e] [] pc) te → PS X (.Expr (.Call (.Attribute (.Name x px) "extend" pa) [e] [] pc) pos) (tDrop te) := by exact fun h => ps_expr h)
    (hbm : ∀ {ta te : TE}, PE X (.Name x px) ta → PE X e te → PE X (.Call (.Attribute (.Name x px) "extend" pa) [e] [] pc) (tBM X.K "list" rExtend ta (tCons te tNil)) := by exact fun h1 h2 => pe_bm PySem.F.plainAttrs_list PySem.F.slot_list_extend PySem.F.type_list_extend mt_extend h1 (pa_cons h2 pa_nil)) :
    DS g X (.Expr (.Call (.Attribute (.Name x px) "extend" pa) [e] [] pc) pos) (sExt i w) := ⟨fun gs W tk => PSw (hpe (hbm (pe_var (i := i) hN hv hd hcd) (he.run gs.toGd W tk))) fun Dn σ H h => by
  obtain ⟨Φ, B, ρ, μ, D0, s, hw, l⟩ := h
  unfold sExt at hw
  split at hw
  · rename_i ds e1
    obtain ⟨x, h1, h2⟩ := s.rel.slot e1
    cases x with
    | none => exact h2.elim
    | some v =>
      obtain ⟨a, vs, rfl, h3, h4, h5⟩ := h2
      refine ⟨_, h1, .inl ⟨rfl, _, SqL.of h3⟩, ?_⟩
      refine tD.go s.rel hw (s.exk l) fun d μ1 v B1 H1 k n r => ?_
      have h3' := n.keep _ _ h3 no_lst (fun k z => by rw [h4] at z; cases z)
      have h4' := n.old _ _ h3 own_lst h4
      cases r with
      | lst h6 h7 =>
        rename_i b ws es
        have k : ds.length + es.length ≤ sizeLine ∧ D0.nx (ρ.set i (.ow (ds ++ es))) μ1 := k
        refine ⟨a, b, vs, ws, rfl, rfl, h3', n.sub.at h6, by rw [h5.len, h7.len]; exact k.1, ?_⟩
        exact l.nx _ _ _ B1 _ k.2 ((s.nxt n).change (u := .ow (ds ++ es)) e1 rfl rfl h1 h4' h3' no_lst lst_code ⟨a, vs ++ ws, rfl, upd_same, h4', (h5.up n.up).app h7⟩)
      | _ => exact k.elim
  · exact hw.elim⟩
end
end Dk
namespace Dk
open PySem PySem.Spec PyProof.Rows L2

/-! ### __init__, C(..) -/
/-- what an __init__ does: the fields' values -/
abbrev Ci := List D → Mu → (List D → Mu → Prop) → Ek → Prop
def sFldSet (i j : Nat) (w : We) : Ws := fun D0 ρ μ => match ρ[i]? with
  | some (.ob c xs) => w ρ μ (fun d μ => if j = xs.length then D0.nx (ρ.set i (.ob c (xs ++ [d]))) μ else if j < xs.length then D0.nx (ρ.set i (.ob c (xs.set j d))) μ else False) (D0.ex ρ)
  | _ => False
theorem putF_new {f : Str} {v : V} : ∀ {ns : List Str} {vs : List V}, f ∉ ns → vs.length = ns.length → putF f v (ns.zip vs) = ns.zip vs ++ [(f, v)]
  | [], vs, _, _ => by simp [putF]
  | n :: ns, [], _, h => by simp at h
  | n :: ns, u :: vs, h, hl => by
    have ne : ¬ n = f := fun e => h (by rw [e]; exact List.mem_cons_self ..)
    show (if n = f then _ else (n, u) :: putF f v (ns.zip vs)) = _
    rw [if_neg ne, putF_new (fun z => h (List.mem_cons_of_mem _ z)) (by simpa using hl)]
    rfl
theorem putF_old {f : Str} {v : V} : ∀ {ns : List Str} {vs : List V} {j : Nat}, ns.Nodup → ns[j]? = some f → j < vs.length → putF f v (ns.zip vs) = ns.zip (vs.set j v)
  | [], vs, j, _, h, _ => by simp at h
  | n :: ns, [], _, _, _, h => by simp at h
  | n :: ns, u :: vs, 0, nd, h, hl => by
    simp at h; subst h
    show (if n = n then _ else _) = _
    rw [if_pos rfl]
    rfl
  | n :: ns, u :: vs, j + 1, nd, h, hl => by
    have h' : ns[j]? = some f := by simpa using h
    have ne : ¬ n = f := fun e => (List.nodup_cons.mp nd).1 (by rw [e]; exact List.mem_of_getElem? h')
    show (if n = f then _ else (n, u) :: putF f v (ns.zip vs)) = _
    rw [if_neg ne, putF_old (List.nodup_cons.mp nd).2 h' (by simpa using hl)]
    rfl
section
variable {g : G} {X : Cx} {e : Expr} {w : We} {pos p p' : Pos} {f x : Str}
theorem ds_fldset (i j : Nat) {cs : List Nat} (hf : ∀ c ∈ cs, FOk g X.K f c j) (he : DE g X e w) (hN : X.N[i]? = some x := by rfl) (hv : Vis X.env.scope x := by first | exact Or.inl rfl | exact Or.inr (Or.inl rfl) | exact Or.inr (Or.inr rfl)) (hd : (x == ("__debug__" : Str)) = false := by decide)
    (hcd : (x == ("__classdict__" : Str)) = false := by decide) (hs : swapsWith e (some (.Attribute (.Name x p) f p')) pos.line X.env = pure false := by rfl) : DS g X (.Assign [.Attribute (.Name x p) f p'] e pos)
      (fun D0 ρ μ => (∃ c xs, ρ[i]? = some (.ob c xs) ∧ c ∈ cs) ∧ sFldSet i j w D0 ρ μ) := ⟨fun gs W tk => PSw (ps_fld (pe_var (i := i) hN hv hd hcd) (he.run gs.toGd W tk) hs) fun Dn σ H h => by
  obtain ⟨Φ, B, ρ, μ, D0, s, ⟨⟨c0, xs0, e0, hc0⟩, hw⟩, l⟩ := h
  unfold sFldSet at hw
  rw [e0] at hw
  have ok := hf c0 hc0
  obtain ⟨x, h1, h2⟩ := s.rel.slot e0
  cases x with
  | none => exact h2.elim
  | some v =>
    obtain ⟨a, dx, vs, rfl, h3, h6, h7, h4, h5⟩ := h2
    refine tD.go s.rel hw (s.exk l) fun d μ1 v B1 H1 k n r => ?_
    have ni : ∀ ps, HO.ins (g.cls c0) dx (((g.flds c0).take xs0.length).zip vs) ≠ .tbl ps := fun _ z => by cases z
    have h3' := n.keep _ _ h3 ni (fun k z => by rw [h4] at z; cases z)
    have h4' := n.old _ _ h3 own_ins h4
    have hlen : (((g.flds c0).take xs0.length).zip vs).length < 1000 := by
      rw [List.length_zip, List.length_take]
      have := ok.few
      omega
    refine ⟨_, h1, a, _, dx, _, rfl, h3', ok.cl, ok.no, hlen, ?_⟩
    have hjl := (List.getElem?_eq_some_iff.mp ok.at_).1
    by_cases q : j = xs0.length
    · rw [if_pos q] at k
      subst q
      refine l.nx _ _ _ B1 _ k ((s.nxt n).change (u := .ob c0 (xs0 ++ [d])) e0 rfl rfl h1 h4' h3' ni (fun c q z => by unfold LamX.CodeO at z; cases z) ⟨a, dx, vs ++ [v], rfl, ?_, by simp [h6], by rw [List.length_append]; simp; omega, h4', (h5.up n.up).app (.cons r .nil)⟩ fun c xs _ => ⟨c0, xs0, rfl⟩)
      rw [upd_same]
      have hnot : f ∉ (g.flds c0).take xs0.length := fun z => by
        obtain ⟨m, hm⟩ := List.getElem?_of_mem z
        have hm2 : m < xs0.length := by
          have := (List.getElem?_eq_some_iff.mp hm).1
          rw [List.length_take] at this; omega
        rw [List.getElem?_take_of_lt hm2] at hm
        exact Nat.ne_of_lt hm2 (nd_ix ok.nd hm ok.at_)
      have hl : vs.length = ((g.flds c0).take xs0.length).length := by rw [List.length_take]; omega
      rw [putF_new hnot hl]
      congr 2
      rw [List.length_append, List.length_singleton, List.take_add_one, ok.at_]
      show _ = (List.take xs0.length (g.flds c0) ++ [f]).zip (vs ++ [v])
      rw [List.zip_append hl.symm]
      rfl
    · rw [if_neg q] at k
      by_cases q2 : j < xs0.length
      · rw [if_pos q2] at k
        refine l.nx _ _ _ B1 _ k ((s.nxt n).change (u := .ob c0 (xs0.set j d)) e0 rfl rfl h1 h4' h3' ni (fun c q z => by unfold LamX.CodeO at z; cases z) ⟨a, dx, vs.set j v, rfl, ?_, by simp [h6], by rw [List.length_set]; exact h7, h4', (h5.up n.up).set r j⟩ fun c xs _ => ⟨c0, xs0, rfl⟩)
        rw [upd_same, putF_old (j := j) ((List.take_sublist _ _).nodup ok.nd) (by rw [List.getElem?_take_of_lt q2]; exact ok.at_) (by rw [h6]; exact q2), List.length_set]
      · rw [if_neg q2] at k
        exact k.elim⟩
end
end Dk
namespace Dk
open PySem PySem.Spec PyProof.Rows L2

/-! ### repr of data -/
/-- data whose repr is told -/
structure Shw (p : PyData) : Prop where
  sh : p.showable = true
  sz : p.shown.length ≤ sizeLine
  dp : p.depth ≤ 60
section
variable {X : Cx} {pins : List (Addr × Obj)} {σ : L2.St} {H : Hp} {s : Shared} {v : V} {u : Value} {p : PyData} {E : Value → Shared → Prop} {Q : Value → Shared → Prop} {A : Around}
theorem repr_raw (sy : SysOk X.K) (I : Inv X pins σ H s) (r : RelV v u) (d : Dq H X.K v p) (h : Shw p) (hg : A.guards = some []) (hu : A.units + 120 < cLine)
    (hQ : ∀ h' tk t, (∀ b o, s.heap.get? b = some o → h'.get? b = some o) → Q (.str p.shown t) { s with heap := h', toks := tk }) : wpAny (model X.prog X.w) A (call (.builtin "repr") [u]) Q E s := by
  obtain ⟨as, rd, ns⟩ := Dq.reads sy I p v u d r
  cases rd with
  | none => exact PySem.P.repr_of_none (hQ s.heap _ _ fun _ _ e => e)
  | bool b => exact PySem.P.repr_of_bool (by cases b <;> exact hQ s.heap _ _ fun _ _ e => e)
  | int i t => exact PySem.P.repr_of_int (by have := h.sh; simpa [PyData.showable] using this) (hQ s.heap _ _ fun _ _ e => e)
  | str x t => exact PySem.P.repr_of_str (hQ s.heap _ _ fun _ _ e => e) h.sz
  | list h1 h2 h3 h4 => exact repr_of_reads' (.list h1 h2 h3 h4) h.sh (fun _ => ns) hg (by have := h.dp; omega) (fun _ _ e => e) (fun h' u tk k => hQ h' tk u k) h.sz
  | tuple h1 h2 h3 h4 => exact repr_of_reads' (.tuple h1 h2 h3 h4) h.sh (fun _ => ns) hg (by have := h.dp; omega) (fun _ _ e => e) (fun h' u tk k => hQ h' tk u k) h.sz
  | dict h1 h2 h3 h4 h5 => exact repr_of_reads' (.dict h1 h2 h3 h4 h5) h.sh (fun _ => ns) hg (by have := h.dp; omega) (fun _ _ e => e) (fun h' u tk k => hQ h' tk u k) h.sz
def rRepr (K : PySem.W.Frag) : List V → Hp → VK → Prop := fun vs H Q => ∃ v p, vs = [v] ∧ Dq H K v p ∧ Shw p ∧ Q (.str p.shown) H
theorem call_repr (sy : SysOk X.K) (hg : X.A.guards = some []) (hu : X.A.units + 120 < cLine) : CallR X (.builtin "repr") (rRepr X.K) := fun pins s σ H xs us Q I r h => by
  obtain ⟨v, p, rfl, d, sh, q⟩ := h
  cases r with
  | cons r1 r2 =>
    cases r2
    exact repr_raw sy I r1 d sh hg hu fun h' tk t k => ⟨.str _, H, I.kept k, ⟨t, rfl⟩, q⟩
end
def fRepr : Fn := fun ds Q => match ds with
  | [d] => ∃ p, d.datD = some p ∧ Shw p ∧ Q (.str p.shown)
  | _ => False
theorem on_repr {g : G} {K : PySem.W.Frag} (hK : K = g.K) : OpN g (rRepr K) fRepr := by
  subst hK
  intro B H xs ds Q0 Q b r hf hq
  cases r with
  | nil => exact hf.elim
  | cons r1 r2 =>
    cases r2 with
    | cons _ _ => exact hf.elim
    | nil =>
      obtain ⟨p, e, sh, q⟩ := hf
      exact ⟨_, p, rfl, Dq.upB b.sub (r1.dq e), sh, hq _ q _ B H b.rf (.str _)⟩

/-! ### super().__init__(repr(value)); self.value = value -/
section
variable {prog : Program} {w : World} {A : Around} {E : Value → Shared → Prop} {h : Heap} {g : Array GenState} {d : Drawn} {t : Nat} {os : OsState}
variable {nm q : Str} {C N : Addr} {bs bm : List Value} {hdct : Bool} {sn : List Str} {sub : List Value} {ab : Bool} {col : Option Bool} {dd : Option Addr} {k0 k1 k2 k3 k5 : Option Value}
/-- the bound ValueError.__init__ called -/
theorem call_bwv {u e t0 : Addr} {rest : List Value} {Q : Value → Shared → Prop}
    (hC : h.get? C = some (excClassObj nm q C N bs bm hdct sn sub ab col dd k0 k1 k2 k3 k5 "ValueError.__new__")) (he : h.get? e = some (HandSPX.excO C t0)) (hu : h.get? u = some (PySem.W.kxs_mw "ValueError.__init__" e)) (hrest : rest.length ≤ sizeLine)
    (hq : ∀ h' t1, (∀ b o, b ≠ e → h.get? b = some o → h'.get? b = some o) → h'.get? e = some (HandSPX.excO C t1) → Q .none ⟨h', g, d, t, os⟩) :
    wpAny (model prog w) A (call (.ref u) rest) Q E ⟨h, g, d, t, os⟩ := by
  refine wpAny_call (codeAny_of_tree ?_)
  show wpAny _ A.in1 (callAny (.ref u) ⟨rest, []⟩) _ _ _
  simp only [callAny]
  refine wpAny_bind (wpAny_load hu ?_)
  simp only [PySem.W.kxs_mw, show (Value.type "method-wrapper" == Value.type "method" || Value.type "method-wrapper" == Value.type "builtin_function_or_method" || Value.type "method-wrapper" == Value.type "method-wrapper") = true by decide, if_true]
  refine PySem.W.KFB.if_so (by decide) ?_
  refine wpAny_bind (PySem.ESX.check_bound F.excBase_ValueError hC he rfl ?_)
  refine wpAny_bind (wpAny_pure (wpAny_pure ?_))
  refine ⟨Code.quiet_builtin _ (by decide +kernel), codeAny_builtin F.excBase_ValueError.initEntry ?_⟩
  rw [Around.under_plainId F.excBase_ValueError.init.plain _]
  wp_walk
  refine hq _ h.objs.size (fun b o hb ho => ?_) ?_
  · rw [Heap.get?_update_other _ _ (Ne.symm hb)]
    exact Heap.get?_push_of_some _ ho
  · rw [Heap.get?_update_self _ (Heap.get?_push_of_some _ he) rfl]
    rfl
end
end Dk
namespace Dk
open PySem PySem.Spec PyProof.Rows L2

/-- a def's context, its names' cells given -/
def cxE (CX : CXT) (P : Program) (w : World) (K : PySem.W.Frag) (mg : Str → Option Value) (base : Heap) (N : List Str) (fn : Str → Bool) (env : Env) (A : Around) (outer : List Env) (s : Shared) (H : Hp) (E : XK) : Cx where
  prog := P
  w := w
  K := K
  mg := mg
  base := base
  A := A.deeper env
  N := N
  s_0 := s
  H_0 := H
  env := env
  outer := outer
  stack := env :: outer
  ex := []
  calm := true
  fn := fn
  pn := []
  xe := fun e s' => wpAny (model P w) (A.deeper env) (leaving env e) (fun _ s'' => CX outer H s E e s'') (fun e' s'' => CX outer H s E e' s'') s'

/-- the text of RingError.__init__ -/
def ringBody (p0 p1 p2 p3 p4 p5 p6 p7 p8 p9 pa pb : Pos) : List Stmt := [.Expr (.Call (.Attribute (.Call (.Name "super" p0) [] [] p1) "__init__" p2) [.Call (.Name "repr" p3) [.Name "value" p4] [] p5] [] p6) p7, .Assign [.Attribute (.Name "self" p8) "value" p9] (.Name "value" pa) pb]
structure RingS (scope : Scope) : Prop where
  kind : scope.kind = .function
  co : scope.isCoroutine = false
  gen : scope.isGenerator = false
  ncell : ∀ x ∈ scope.names, x.2 ≠ .cell
  sup : scope.names.lookup ("super" : Str) = some .globalImplicit
  rep : scope.names.lookup ("repr" : Str) = some .globalImplicit
  cls : scope.names.lookup ("__class__" : Str) = some .free
  slf : scope.names.lookup ("self" : Str) = some .local
  val : scope.names.lookup ("value" : Str) = some .local
  free : ∀ x ∈ scope.names, x.2 = .free → x.1 = ("__class__" : Str)
/-- RingError's __init__, as it stands behind the top -/
structure RingI (P : Program) (K : PySem.W.Frag) (mg : Str → Option Value) (D f : Addr) : Prop where
  ex : ∃ (oc : Value) (od : Option Addr) (qual : Str) (params : Arguments) (scope : Scope) (dV kV doc pm : Value) (an : Option Addr) (cda cc : Addr) (ct : Value) (osl : Array (Option Value)) (p0 p1 p2 p3 p4 p5 p6 p7 p8 p9 pa pb : Pos) (ccl cl : Value) (cdd cld : Option Addr) (ccs csl : Array (Option Value)) (vs : Array Value) (file : Str) (tf : Tok) (cdD : ClassData) (ar : Arg),
    K.lookup f = some ⟨oc, od, .func (PySem.W.ksFn "__init__" qual params (ringBody p0 p1 p2 p3 p4 p5 p6 p7 p8 p9 pa pb) scope dV kV doc pm an (.ref cda) ct cc), osl⟩ ∧ PySem.W.codeIn K (.ref cda) qual = true ∧ RingS scope ∧
    (∀ (s : Shared) (u v : Value), BindsTo s (PySem.W.ksFn "__init__" qual params (ringBody p0 p1 p2 p3 p4 p5 p6 p7 p8 p9 pa pb) scope dV kV doc pm an (.ref cda) ct cc) ⟨[u, v], []⟩ [("self", u), ("value", v)]) ∧
    (params.posonlyargs ++ params.args).head? = some ar ∧ ar.arg = ("self" : Str) ∧
    K.lookup cda = some ⟨ccl, cdd, .fields vs, ccs⟩ ∧ vs[2]? = some (.str file tf) ∧ ((P.main.file : Str) == file) = true ∧
    K.lookup cc = some ⟨cl, cld, .cell (some (.ref D)), csl⟩ ∧ PySem.W.clsIn K D = some cdD ∧
    ∃ pl : Sem Bool, ∀ L : Addr, eval (.Call (.Attribute (.Call (.Name "super" p0) [] [] p1) "__init__" p2) [.Call (.Name "repr" p3) [.Name "value" p4] [] p5] [] p6) (PySem.W.ksEnv qual scope L f (.ref cda) cc) = (do
      let ov ← attributeBase (.Call (.Name "super" p0) [] [] p1) "__init__" (PySem.W.ksEnv qual scope L f (.ref cda) cc) (eval (.Call (.Name "super" p0) [] [] p1) (PySem.W.ksEnv qual scope L f (.ref cda) cc))
      standAt p2.atName
      let (fx, first) ← holding [ov] (getMethod ov "__init__" pl)
      callWith p6 fx first (backTo p6 (starEach [.Call (.Name "repr" p3) [.Name "value" p4] [] p5] (PySem.W.ksEnv qual scope L f (.ref cda) cc))) [])
  top : (P.main.scope.names.lookup ("super" : Str)).isSome = false
  ms : mg "super" = none
  mr : mg "repr" = none
  op : PySem.W.nsIn K cStatics "thirdparty.any" = some none
  sys : SysOk K
/-- an error class of RingError (at D), C itself perhaps -/
structure XC (K : PySem.W.Frag) (D C f : Addr) : Prop where
  o : OexC K C
  sub : PySem.W.mroIn K C (.ref D) = some true
  sup : PySem.W.ks_superIn K C D "__init__" = some (some (.builtin "ValueError.__init__"))
  no : PySem.W.findIn K (.ref C) "value" = some none
  iC : PySem.W.findIn K (.ref C) "__init__" = some (some (.ref f))
  tI : PySem.W.typeIn K (.ref f) = some (.type "function")

theorem cls_VE {K : PySem.W.Frag} {C : Addr} {M : Model} {h : Heap} {t1 : Addr} (T : OexC K C) (X : K.In h) {a : Addr} {od : Option Obj} (I : PySem.W.InstAt h a { cls := .ref C, dict := none, data := .fields #[.ref t1, .none, .none, .none, .bool false, .none] } C od) : PySem.W.Looks M h (isInstance (.ref a) (.type "ValueError")) true := by
  obtain ⟨nm, q, N, bs, bm, sn, sub, ab, col, dd, k0, k1, k2, k3, k5, hC, hbm⟩ := T.cls
  have hcl : PySem.W.clsIn K C = some { name := nm, bases := bs, mro := .ref C :: bm, ns := N, qualname := q, hasDict := true, slotNames := sn, subclasses := sub, abstract := ab, collection := col, hasDel := false } := by unfold PySem.W.clsIn; rw [hC] <;> rfl
  have hm : PySem.HandSPX.refsVE (.ref C :: bm) = true := hbm
  have ne := PySem.HandSPX.refsVE_ne hm
  have hob : (Value.ref C :: bm).contains (.type "ValueError") = true := (PySem.HandSPX.refsVE_contains "ValueError" _ hm).trans (by decide +kernel)
  exact I.type.andThen (PySem.W.looks_mroIn X (by unfold PySem.W.mroIn; rw [hcl, Option.bind_some, if_neg (by rw [ne]; decide), hob]))

section
variable {CX : CXT} {P : Program} {w : World} {K : PySem.W.Frag} {mg : Str → Option Value} {base : Heap} {D f C : Addr}
theorem ring_run {k : Nat} (R : RingI P K mg D f) (T : XC K D C f) {A : Around} {outer : List Env} {s : Shared} {H : Hp} {a : Addr} {v : V} {uv : Value} {p : PyData} {Q : VK} {E : XK} (hr : Room (k + 1) A) (hg : A.guards = some [])
    (e0 : Env0 P w K mg base A outer s H) (r : RelV v uv) (ea : H a = some (exo a C none)) (dp : Dq H K v p) (sh : Shw p)
    (h : ∀ dx, H dx = none → dx ≠ a → Q .non (upd (upd H dx (exd dx [("value", v)])) a (exo a C (some dx)))) :
    codeAny (model P w) A (.call (.ref f) ⟨[.ref a, uv], []⟩) (CR CX outer P w H s Q E) s := by
  obtain ⟨oc, od, qual, params, scope, dV, kV, doc, pm, an, cda, cc, ct, osl, p0, p1, p2, p3, p4, p5, p6, p7, p8, p9, pa, pb, ccl, cl, cdd, cld, ccs, csl, vs, file, tf, cdD, ar, hf, hcd, S, hb, hp, har, hcode, hvs, hfile, hcell, hD, pl, hev⟩ := R.ex
  obtain ⟨kd, names, ig, ic, more⟩ := scope
  obtain rfl : kd = .function := S.kind
  have KX : K.In s.heap := e0.mod.kin.keeps fun b o e => (e0.bs b o e).1
  have lim : s.heap.NoLimit := e0.mod.nolimit.keeps fun b o e => (e0.bs b o e).1
  refine PySem.ks_codeAny_call_defAt (binds := [("self", .ref a), ("value", uv)]) hr.depth (KX _ _ hf) rfl lim (PySem.W.codeRec_of KX hcd) rfl (hb s _ _) S.ncell (fun x hx => ?_) (fun h₀ hns hk₀ => ?_) S.co S.gen S.kind
  · simp only [List.mem_cons, List.mem_nil_iff, or_false] at hx
    rcases hx with rfl | rfl
    · exact S.slf
    · exact S.val
  have eenv : callEnv (PySem.W.ksFn "__init__" qual params (ringBody p0 p1 p2 p3 p4 p5 p6 p7 p8 p9 pa pb) (⟨.function, names, ig, ic, more⟩ : Scope) dV kV doc pm an (.ref cda) ct cc) s.heap.objs.size f = PySem.W.ksEnv qual (⟨.function, names, ig, ic, more⟩ : Scope) s.heap.objs.size f (.ref cda) cc := rfl
  rw [eenv]
  -- the context
  have ecell : ∀ x c, (PySem.W.ksEnv qual (⟨.function, names, ig, ic, more⟩ : Scope) s.heap.objs.size f (.ref cda) cc).cells.lookup x = some c → c = cc ∧ x = ("__class__" : Str) := fun x c e => by
    have e : ([(("__class__" : Str), cc)] : List (Str × Addr)).lookup x = some c := e
    by_cases q : x = ("__class__" : Str)
    · subst q
      simp [List.lookup] at e
      exact ⟨e.symm, rfl⟩
    · have q' : (x == ("__class__" : Str)) = false := by simpa using q
      simp [List.lookup, q'] at e
  have hcc : s.heap.get? cc = some ⟨cl, cld, .cell (some (.ref D)), csl⟩ := KX _ _ hcell
  have hbcc : base.get? cc = some ⟨cl, cld, .cell (some (.ref D)), csl⟩ := e0.mod.kin _ _ hcell
  have I : Inv (cxE CX P w K mg base ["self", "value"] (fun x => !(x == ("__class__" : Str))) (PySem.W.ksEnv qual (⟨.function, names, ig, ic, more⟩ : Scope) s.heap.objs.size f (.ref cda) cc) A outer s H E) [] [some (.ref a), some v] H { s with heap := h₀, toks := s.toks + ([("self", .ref a), ("value", uv)] : List (Str × Value)).length } := by
    have noA : ∀ b : Addr, b ∉ (cxE CX P w K mg base ["self", "value"] (fun x => !(x == ("__class__" : Str))) (PySem.W.ksEnv qual (⟨.function, names, ig, ic, more⟩ : Scope) s.heap.objs.size f (.ref cda) cc) A outer s H E).ex := fun b z => absurd (show b ∈ ([] : List Addr) from z) (by simp)
    refine ⟨⟨e0.mod, S.kind, rfl, rfl, Nat.le_refl _, fun y z c h1 h2 => ?_, fun y hy => ?_, fun y c hf h => ?_, fun _ => hr.hd, Around.frames_deeper e0.frames, .inr ⟨rfl, rfl⟩, fun b z => absurd z (noA b), e0.bs, e0.bsz, fun b _ _ => noA b, fun b z => absurd z (noA b), e0.funs, e0.frf⟩,
      rfl, e0.bare, Un.kept hk₀, ⟨_, hns, fun i y v' h1 h2 h3 => ?_⟩, fun y c h => ?_, e0.hok.fresh (Nat.le_refl _), fun y c h => ?_, fun p hp => absurd (show p ∈ ([] : List (Addr × Obj)) from hp) (by simp), e0.hok.kept hk₀, rfl⟩
    · rw [(ecell _ _ h1).2, (ecell _ _ h2).2]
    · have hy : names.lookup y = some .cell ∨ names.lookup y = some .free := hy
      rcases hy with hy | hy
      · exact absurd rfl (S.ncell _ (PySem.mem_of_lookup hy))
      · have := S.free _ (PySem.mem_of_lookup hy) rfl
        subst this
        exact ⟨cc, rfl⟩
    · rw [(ecell _ _ h).2] at hf
      exact absurd (show (!(("__class__" : Str) == ("__class__" : Str))) = true from hf) (by decide)
    · have lk : ∀ x : Str, (List.reverse ([("self", .ref a), ("value", uv)] : List (Str × Value))).lookup x = if x = ("value" : Str) then some uv else if x = ("self" : Str) then some (.ref a) else none := fun x => by
        show ([(("value" : Str), uv), (("self" : Str), Value.ref a)] : List (Str × Value)).lookup x = _
        by_cases q : x = ("value" : Str)
        · subst q; rfl
        · have q' : (x == ("value" : Str)) = false := by simpa using q
          rw [if_neg q]
          by_cases q2 : x = ("self" : Str)
          · subst q2; rfl
          · have q2' : (x == ("self" : Str)) = false := by simpa using q2
            rw [if_neg q2]
            simp [List.lookup, q', q2']
      match i, h1, h2 with
      | 0, h1, h2 =>
        cases (show some ("self" : Str) = some y from h1)
        cases (show some (some (V.ref a)) = some (some v') from h2)
        refine ⟨.ref a, rfl, .inl ⟨S.slf, ?_⟩⟩
        refine (lk _).trans ?_
        rw [if_neg (by decide), if_pos rfl]
      | 1, h1, h2 =>
        cases (show some ("value" : Str) = some y from h1)
        cases (show some (some v) = some (some v') from h2)
        refine ⟨uv, r, .inl ⟨S.val, ?_⟩⟩
        refine (lk _).trans ?_
        rw [if_pos rfl]
      | i + 2, h1, h2 => simp [cxE] at h1
    · rw [(ecell _ _ h).1]
      exact ⟨_, _, hk₀ _ _ hcc, rfl⟩
    · rw [(ecell _ _ h).1]
      exact (e0.bs _ _ hbcc).2
  have KX0 : K.In h₀ := KX.keeps hk₀
  obtain ⟨t1, hea⟩ := exo_at I.hok ea
  obtain ⟨nm, q, N, bs, bm, sn, sub, ab, col, dd, k0, k1, k2, k3, k5, hC, hbm⟩ := T.o.cls
  have hcl : PySem.W.clsIn K C = some { name := nm, bases := bs, mro := .ref C :: bm, ns := N, qualname := q, hasDict := true, slotNames := sn, subclasses := sub, abstract := ab, collection := col, hasDel := false } := by unfold PySem.W.clsIn; rw [hC] <;> rfl
  refine PySem.ks_wpAt_execs_cons (PySem.ks_wpAt_Expr_any (PySem.ks_wpAt_MethodCall (pl := pl) ?_ (hev _)))
  obtain ⟨oD, hD1, hD2⟩ : ∃ oD, h₀.get? D = some oD ∧ oD.data = .cls cdD := by
    unfold PySem.W.clsIn at hD
    split at hD
    · rename_i c d cd' sl ho
      cases hD
      exact ⟨_, KX0 _ _ ho, rfl⟩
    · cases hD
  refine PySem.ks_wpAt_super_base (env := PySem.W.ksEnv qual (⟨.function, names, ig, ic, more⟩ : Scope) s.heap.objs.size f (.ref cda) cc) S.sup S.cls (by decide) rfl (KX0 _ _ hf) rfl hp rfl (KX0 _ _ hcode) rfl hvs hfile R.top ?_
  obtain ⟨mb, hb1, hb2⟩ := e0.mod.blt
  refine PySem.W.ks_loadName_global rfl S.sup (PySem.Calls.loadGlobal_builtin (e0.mod.glob.keeps I.bk) R.ms (hb1.keeps I.bk) ((hb2 "super" (by decide)).trans PyProof.Rows.Boot.«super») ⟨rfl, ?_⟩)
  refine wpAny_loadName_free rfl S.cls rfl ⟨_, KX0 _ _ hcell, rfl⟩ ?_
  rw [har]
  have mself : (fun x => List.lookup x ([("self", .ref a), ("value", uv)] : List (Str × Value)).reverse) ("self" : Str) = some (.ref a) := rfl
  refine wpAny_loadName_local rfl S.slf hns mself ?_
  refine PySem.ks_wpAny_isType_cls hD1 hD2 ⟨rfl, ?_⟩
  refine PySem.ks_wpAny_call_super hD1 hD2 hea rfl (fun c z => by cases z) (PySem.W.looks_mroIn KX0 T.sub) fun h1 hso k1 => ?_
  have KX1 : K.In h1 := KX0.keeps k1
  have I1 := I.kept (t' := s.toks + ([("self", .ref a), ("value", uv)] : List (Str × Value)).length) k1
  have inst1 : PySem.W.InstAt h1 a { cls := .ref C, dict := none, data := .fields #[.ref t1, .none, .none, .none, .bool false, .none] } C none := ⟨k1 _ _ hea, rfl, rfl, trivial⟩
  have hsup := T.sup
  unfold PySem.W.ks_superIn at hsup
  rw [hcl] at hsup
  refine PySem.W.kxs_getMethod PySem.W.kxs_ValueError hso (PySem.W.looks_opaque KX1 R.op) (fun A Q E s k q => wpAny_bind ((PySem.W.looks_clsIn KX1 hcl) A _ E s k (wpAny_pure q))) rfl KX1 hsup (cls_VE T.o KX1 inst1) (PySem.W.ks_ne KX1 inst1 hcl) (by decide) ?_
  have k2 : ∀ b o, h1.get? b = some o → (h1.push (PySem.W.kxs_mw "ValueError.__init__" a)).get? b = some o := fun b o e => Heap.get?_push_of_some _ e
  have I2 := I1.kept (h' := h1.push (PySem.W.kxs_mw "ValueError.__init__" a)) (t' := s.toks + ([("self", .ref a), ("value", uv)] : List (Str × Value)).length + 1) k2
  have hu2 : (h1.push (PySem.W.kxs_mw "ValueError.__init__" a)).get? h1.objs.size = some (PySem.W.kxs_mw "ValueError.__init__" a) := Heap.get?_push_at rfl rfl
  have I3 := I2.pins_of (pins' := [(h1.objs.size, PySem.W.kxs_mw "ValueError.__init__" a)]) (fun p hp => by
    obtain rfl : p = _ := by simpa using hp
    refine ⟨hu2, I1.hok.fresh (Nat.le_refl _), fun z => ?_, fun z => I1.nofs (Nat.le_refl _) z, fun v z => by cases z⟩
    have := I1.lt
    rw [← z] at this
    exact absurd this (Nat.lt_irrefl _))
  refine PySem.W.kxs_callWith (i := "ValueError.__init__") (x := a) rfl ?_
  refine PySem.Calls.evalArgs_plain ?_
  have hNd : (["self", "value"] : List Str).Nodup := by decide
  have pr : PE (cxE CX P w K mg base ["self", "value"] (fun x => !(x == ("__class__" : Str))) (PySem.W.ksEnv qual (⟨.function, names, ig, ic, more⟩ : Scope) s.heap.objs.size f (.ref cda) cc) A outer s H E) (.Call (.Name "repr" p3) [.Name "value" p4] [] p5) _ :=
    pe_callB (call_repr R.sys hg (by have := hr.un; show (A.deeper _).units + 120 < cLine; have e : (A.deeper (PySem.W.ksEnv qual (⟨.function, names, ig, ic, more⟩ : Scope) s.heap.objs.size f (.ref cda) cc)).units = A.units + 3 := rfl; rw [e]; omega)) S.rep R.mr PyProof.Rows.Boot.«repr» (pa_cons (pe_var (i := 1) rfl (.inl S.val)) pa_nil)
  refine thn ((pa_cons pr pa_nil).run p6 _ _ _ _ (fun vs H' => vs = [.str p.shown] ∧ H' = H) I3 ⟨v, rfl, v, p, rfl, dp, sh, rfl, rfl⟩) ?_
  rintro us s1 ⟨vs1, H1, I4, r1, rfl, rfl⟩
  have hu4 : s1.heap.get? h1.objs.size = some (PySem.W.kxs_mw "ValueError.__init__" a) := (I4.pin (h1.objs.size, PySem.W.kxs_mw "ValueError.__init__" a) (by simp)).1
  refine ⟨hu4, ?_⟩
  obtain ⟨t2, he4⟩ := exo_at I4.hok ea
  have hC4 := I4.kIn _ _ hC
  have hlen : us.length ≤ sizeLine := by rw [← Paired.length r1, sizeLine_eq]; show (1 : Nat) ≤ _; decide
  obtain ⟨hp4, g4, d4, tk4, os4⟩ := s1
  refine call_bwv hC4 he4 hu4 hlen fun h5 t5 k5 hx5 => ?_
  have J := (I4.pins_of (pins' := []) (fun p hp => by simp at hp)).write (t' := tk4) (x := a) (e := a) (o := exo a C none) (by rw [ea]; exact True.intro) (.inl rfl) k5 ⟨_, hx5⟩ (exo_ok hx5)
  have eu : upd H1 a (exo a C none) = H1 := by
    funext b
    by_cases hb : b = a
    · rw [hb, upd_same, ea]
    · rw [upd_ne hb]
  rw [eu] at J
  dsimp only
  refine wpAt_of_wpAny ?_
  have hst : PSs (cxE CX P w K mg base ["self", "value"] (fun x => !(x == ("__class__" : Str))) (PySem.W.ksEnv qual (⟨.function, names, ig, ic, more⟩ : Scope) s.heap.objs.size f (.ref cda) cc) A outer s H1 E) [.Assign [.Attribute (.Name "self" p8) "value" p9] (.Name "value" pa) pb] _ :=
    pss_cons (ps_ost (pe_var (i := 0) rfl (.inl S.slf)) (pe_var (i := 1) rfl (.inl S.val))) pss_nil
  refine wpAny_mono (hst.run [] _ _ H1 { nx := fun _ H' => Q .non H', rt := Q } J ⟨v, rfl, .ref a, rfl, a, C, rfl, T.o, T.no, .inl ⟨ea, fun dx n ne => h dx n ne⟩⟩) (fun fl s' hs => ?_) fun e s' hs => hs
  cases fl with
  | next =>
    obtain ⟨σ', H', J', q⟩ := hs
    exact ⟨.non, H', J'.os, J'.bare, J'.base, J'.hok, rfl, q⟩
  | ret u =>
    obtain ⟨v', σ', H', J', rv', q⟩ := hs
    exact ⟨v', H', J'.os, J'.bare, J'.base, J'.hok, rv', q⟩
  | brk =>
    obtain ⟨_, _, _, q⟩ := hs
    exact q.elim
  | cont =>
    obtain ⟨_, _, _, q⟩ := hs
    exact q.elim
end
end Dk
namespace Dk
open PySem PySem.Spec PyProof.Rows L2

/-! ### raise C(e) -/
/-- what one argument must be -/
def one1 (k : V → Hp → Prop) : List V → Hp → Prop := fun vs H => match vs with
  | [v] => k v H
  | _ => False
section
variable {X : Cx} {e : Expr} {te : TE} {x : Str} {p pos : Pos} {D C f : Addr} {k : Nat}
theorem pmk_ring (R : RingI X.prog X.K X.mg D f) (T : XC X.K D C f) (hr : Room (k + 2) X.A) (hgd : X.A.guards = some []) (hg : Gl X x) (hm : X.mg x = some (.ref C)) (he1 : PE X e te)
    (hdb : (x == ("__debug__" : Str)) = false := by decide) (he : starEach [e] X.env = (false, eval e X.env) :: starEach [] X.env := by rfl) (hpl : (backTo pos (starEach [] X.env)).any (·.1) = false := by rfl) :
    PMk X (.Call (.Name x p) [e] [] pos) (fun σ H Q => te σ H fun v H1 => ∃ q, Dq H1 X.K v q ∧ Shw q ∧ ∀ dx, H1 dx = none → Q (.ref C) (some dx) (upd H1 dx (.xd [("value", v)]))) := by
  intro pins s σ H Q I h
  obtain ⟨nm, q, N, bs, bm, sn, sub, ab, col, dd, k0, k1, k2, k3, k5, hC, hbm⟩ := T.o.cls
  refine wpAny_Call_Name_kw (ld_glob I hg hm ?_ hdb)
  have ha : PA X [e] (tCons te tNil) := pa_cons he1 pa_nil he
  refine PySem.W.callWith_K (h₀ := X.base) I.ok.mod.kin T.o.kC (thn (ha.run pos pins s σ H (one1 fun v H1 => ∃ q, Dq H1 X.K v q ∧ Shw q ∧ ∀ dx, H1 dx = none → Q (.ref C) (some dx) (upd H1 dx (.xd [("value", v)]))) I h) fun us s1 ⟨vs, H1, I1, r1, hz⟩ => ⟨I1.kIn, ?_⟩) he hpl
  match vs, r1, hz with
  | [v], .cons (b := uv) r1 .nil, hz =>
  obtain ⟨q1, dp, sh, hq⟩ := hz
  show wpAny _ _ (call (.ref C) [uv]) _ _ _
  obtain ⟨hp, g, dr, tk, os⟩ := s1
  have hsz : hp.objs.size ≤ hp.objs.size + 1 := Nat.le_succ _
  have hn : H1 (hp.objs.size + 1) = none := I1.hok.fresh hsz
  have kk : ∀ b o, hp.get? b = some o → ((hp.push (PySem.W.kdv_tup [uv])).push (PySem.HandSPX.excO C hp.objs.size)).get? b = some o := fun b o e => Heap.get?_push_of_some _ (Heap.get?_push_of_some _ e)
  have hget : ((hp.push (PySem.W.kdv_tup [uv])).push (PySem.HandSPX.excO C hp.objs.size)).get? (hp.objs.size + 1) = some (PySem.HandSPX.excO C hp.objs.size) := by heap_get
  have I2 : Inv X pins σ (upd H1 (hp.objs.size + 1) (exo (hp.objs.size + 1) C none)) ⟨(hp.push (PySem.W.kdv_tup [uv])).push (PySem.HandSPX.excO C hp.objs.size), g, dr, tk, os⟩ :=
    I1.laid (t' := tk) (a := hp.objs.size + 1) (o := exo (hp.objs.size + 1) C none) (h' := (hp.push (PySem.W.kdv_tup [uv])).push (PySem.HandSPX.excO C hp.objs.size)) kk hsz (exo_ok hget)
  have hus : ([uv] : List Value).length ≤ sizeLine := by rw [sizeLine_eq]; show (1 : Nat) ≤ _; decide
  have dp2 : Dq (upd H1 (hp.objs.size + 1) (exo (hp.objs.size + 1) C none)) X.K v q1 := Dq.upU (fun b o z => by rw [upd_ne (ne_of_none z hn)]; exact z) dp
  refine wpAny_call (PySem.HandSPX.call_own F.excBase_ValueError (fun Y => PySem.HandSPX.refsVE_contains Y bm hbm) (I1.kIn _ _ hC) (PySem.W.looks_findIn I1.kIn T.iC) (fun self => PySem.W.bind_fn I1.kIn self T.tI) hus
    (codeAny_mono (ring_run (CX := L2.CX X.prog X.w) (Q := fun v' H2 => v' = .non ∧ ∃ dx, H1 dx = none ∧ dx ≠ hp.objs.size + 1 ∧ H2 = upd (upd (upd H1 (hp.objs.size + 1) (exo (hp.objs.size + 1) C none)) dx (exd dx [("value", v)])) (hp.objs.size + 1) (exo (hp.objs.size + 1) C (some dx))) (E := fun _ _ _ => False)
      R T (hr.make C [uv] []) (by rw [make_guards]; exact hgd) (I2.env0.make C [uv] []) r1 upd_same dp2 sh fun dx n ne => ⟨rfl, dx, by rw [upd_ne ne] at n; exact n, ne, rfl⟩) fun r s' hq' => ?_))
  cases r with
  | error er =>
    obtain ⟨_, _, _, _, _, _, _, _, _, _, _, _, z⟩ := (show L2.CX X.prog X.w X.stack _ _ (fun _ _ _ => False) er s' from hq')
    exact z.elim
  | ok fl =>
    cases fl with
    | ret u =>
      obtain ⟨v', H2, os2, bare2, un2, hok2, rv, ev, dx, hd1, hne, rfl⟩ := hq'
      subst ev
      obtain ⟨h2, g2, d2, t2, os'⟩ := s'
      have ea : (upd (upd (upd H1 (hp.objs.size + 1) (exo (hp.objs.size + 1) C none)) dx (exd dx [("value", v)])) (hp.objs.size + 1) (exo (hp.objs.size + 1) C (some dx))) (hp.objs.size + 1) = some (exo (hp.objs.size + 1) C (some dx)) := upd_same
      have ed : (upd (upd (upd H1 (hp.objs.size + 1) (exo (hp.objs.size + 1) C none)) dx (exd dx [("value", v)])) (hp.objs.size + 1) (exo (hp.objs.size + 1) C (some dx))) dx = some (exd dx [("value", v)]) := by rw [upd_ne hne, upd_same]
      have fin : upd (del (upd (upd (upd H1 (hp.objs.size + 1) (exo (hp.objs.size + 1) C none)) dx (exd dx [("value", v)])) (hp.objs.size + 1) (exo (hp.objs.size + 1) C (some dx))) (hp.objs.size + 1)) dx (.xd [("value", v)]) = upd H1 dx (.xd [("value", v)]) := by
        funext b
        by_cases hb : b = dx
        · rw [hb, upd_same, upd_same]
        · rw [upd_ne hb, upd_ne hb]
          by_cases hb2 : b = hp.objs.size + 1
          · rw [hb2, del_same, hn]
          · rw [del_ne hb2, upd_ne hb2, upd_ne hb, upd_ne hb2]
      exact ⟨rv, mk_end (raises_own T.o.exC T.o.tyC) I1 hsz kk un2 hok2 os2 bare2 ea ed hd1 (by rw [fin]; exact hq dx hd1)⟩
    | next => exact False.elim hq'
    | brk => exact False.elim hq'
    | cont => exact False.elim hq'
end
/-- raise C(e) -/
def sRaise (c : Nat) (w : We) : Ws := fun D0 ρ μ => w ρ μ (fun d μ => (∃ q, d.datD = some q ∧ Shw q) ∧ D0.ex ρ c d μ) (D0.ex ρ)
/-- what is known of an error class (its number c) of the ring of errors, behind the name x -/
structure XOk (g : G) (X : Cx) (x : Str) (c : Nat) : Prop where
  ex : ∃ D f, RingI X.prog X.K X.mg D f ∧ XC X.K D (g.cls c) f
  mg : X.mg x = some (.ref (g.cls c))
theorem no_xd {fs : List (Str × V)} : ∀ ps, HO.xd fs ≠ .tbl ps := fun ps z => by cases z
theorem ds_raise {g : G} {X : Cx} {e : Expr} {w : We} {x : Str} {c k : Nat} {p pos pos' : Pos} (hc : X.calm = true) (hx : XOk g X x c) (hr : Room (k + 2) X.A) (hg : Gl X x) (he : DE g X e w) (hdb : (x == ("__debug__" : Str)) = false := by decide)
    (he1 : starEach [e] X.env = (false, eval e X.env) :: starEach [] X.env := by rfl) (hpl : (backTo pos (starEach [] X.env)).any (·.1) = false := by rfl) : DS g X (.Raise (some (.Call (.Name x p) [e] [] pos)) none pos') (sRaise c w) := ⟨fun gs W tk => by
  obtain ⟨D, f, R, T⟩ := hx.ex
  refine PSw (ps_raise hc tk (pmk_ring R T hr gs.gd hg hx.mg (he.run gs.toGd W tk) hdb he1 hpl)) fun Dn σ H h => ?_
  obtain ⟨Φ, B, ρ, μ, D0, s, hw, l⟩ := h
  refine tD.go s.rel hw (s.exk l) fun d μ1 v B' H' k n r => ?_
  obtain ⟨⟨q, e1, sh⟩, k⟩ := k
  refine ⟨q, ?_, sh, fun dx hdx => ?_⟩
  · rw [gs.k]
    exact Dq.upB n.sub (r.dq e1)
  · have n2 := n.bs.new hdx (no_xd (fs := [("value", v)]))
    exact l.ex ρ c d μ1 σ _ _ _ _ k (s.nxt (n.np n2)) ⟨dx, v, rfl, rfl, upd_same, r.up n2.up⟩⟩
end Dk
namespace Dk
open PySem PySem.Spec PyProof.Rows L2

/-! ### __init__ -/
structure DIn (P : Program) (w : World) (K : PySem.W.Frag) (mg : Str → Option Value) (base : Heap) (g : G) (k : Nat) (f : Addr) (fd : FuncData) (ps : List Str) (c : Nat) (ci : Ci) : Prop where
  len : ∀ ds μ Q E, ci ds μ Q E → ds.length + 1 = ps.length
  run : ∀ (A : Around) (outer : List Env) (s : Shared) (H B : Hp) (a dx : Addr) (args : Args) (us : List Value) (vs : List V) (ds : List D) (μ : Mu) (Q0 : List D → Mu → Prop) (E0 : Ek) (Q : VK) (E : XK), Room k A → A.guards = some [] →
    Env0 P w K mg base A outer s (upd (upd H dx (.own a)) a (.ins (g.cls c) dx [])) → BindsTo s fd args (ps.zip us) → Vals (.ref a :: vs) us → H a = none → H dx = none → dx ≠ a → Bs g B H → MuR g B H μ → RpA g B vs ds → ci ds μ Q0 E0 →
    (∀ xs μ', Q0 xs μ' → ∀ vs' B' H' dx', Nm g B H B' H' μ' → B' a = none → H' a = some (.ins (g.cls c) dx' ((g.flds c).zip vs')) → vs'.length = (g.flds c).length → RpA g B' vs' xs → Q .non H') →
    (∀ c' d μ', E0 c' d μ' → ∀ cls dd B' H', Nm g B H B' H' μ' → ExObj g B' c' d cls dd → E cls dd H') →
    codeAny (model P w) A (.call (.ref f) args) (CR (L2.CX P w) outer P w (upd (upd H dx (.own a)) a (.ins (g.cls c) dx [])) s Q E) s
def startI (N : List Str) (c : Nat) (ds : List D) : List Sl := .ob c [] :: ds.map .sh ++ List.replicate (N.length - (ds.length + 1)) .no
def nxI (g : G) (c : Nat) (Q : List D → Mu → Prop) : List Sl → Mu → Prop := fun ρ μ => ∃ xs, ρ[0]? = some (.ob c xs) ∧ xs.length = (g.flds c).length ∧ Q xs μ
def deI (g : G) (c : Nat) (Q : List D → Mu → Prop) (E : Ek) : De := { nx := nxI g c Q, rt := fun _ _ => False, ex := fun _ => E }
theorem startI_own {N : List Str} {c : Nat} {ds : List D} {i : Nat} {s : Sl} (h : (startI N c ds)[i]? = some s) (o : s.isOw = true) : i = 0 := by
  cases i with
  | zero => rfl
  | succ i =>
    have h : (ds.map Sl.sh ++ List.replicate (N.length - (ds.length + 1)) .no)[i]? = some s := h
    by_cases hi : i < ds.length
    · rw [List.getElem?_append_left (by simpa using hi), List.getElem?_map, List.getElem?_eq_getElem hi] at h
      cases h; cases o
    · rw [List.getElem?_append_right (by simpa using hi), List.getElem?_replicate] at h
      split at h
      · cases h; cases o
      · cases h
theorem startI_rel {g : G} {B H : Hp} {μ : Mu} (b : Bs g B H) (m : MuR g B H μ) {N : List Str} {vs : List V} {ds : List D} {c : Nat} {a dx : Addr} (r : RpA g B vs ds) (ha : H a = some (.ins (g.cls c) dx [])) (hb : B a = none) (hN : 0 < N.length) : Rel g B H (L2.start N (.ref a :: vs)) (startI N c ds) μ := by
  refine ⟨b.sub, m, b.notb, b.tabs, ?_, fun i x s h1 h2 => ?_, fun i j s t n h1 h2 o1 o2 => ?_⟩
  · unfold L2.start startI
    simp [r.len]
    try omega
  · cases i with
    | zero =>
      have h1 : some (some (V.ref a)) = some x := h1
      have h2 : some (Sl.ob c []) = some s := h2
      cases h1; cases h2
      exact ⟨a, dx, [], rfl, by rw [ha]; simp, rfl, Nat.zero_le _, hb, .nil⟩
    | succ i =>
      have h1 : (vs.map some ++ List.replicate (N.length - (vs.length + 1)) none)[i]? = some x := h1
      have h2 : (ds.map Sl.sh ++ List.replicate (N.length - (ds.length + 1)) .no)[i]? = some s := h2
      by_cases hi : i < ds.length
      · rw [List.getElem?_append_left (by simpa using hi), List.getElem?_map] at h2
        rw [List.getElem?_append_left (by simpa [r.len] using hi), List.getElem?_map] at h1
        obtain ⟨v, h3, h4⟩ := r.get (List.getElem?_eq_getElem hi)
        rw [h3] at h1
        rw [List.getElem?_eq_getElem hi] at h2
        cases h1; cases h2
        exact h4
      · rw [List.getElem?_append_right (by simpa using hi), List.getElem?_replicate] at h2
        split at h2
        · cases h2
          cases x <;> exact True.intro
        · cases h2
  · exact absurd (startI_own h1 o1 ▸ startI_own h2 o2 ▸ rfl) n
theorem din_mk {P : Program} {w : World} {K : PySem.W.Frag} {mg : Str → Option Value} {base : Heap} {g : G} {k : Nat} {f : Addr} {c : Nat} {ci : Ci} {name qual : Str} {params : Arguments} {body : List Stmt} {scope : Scope} {dV kV doc pm cdv ct oc : Value} {an od : Option Addr} {osl : Array (Option Value)}
    {N ps : List Str} {wb : Ws} (lk : K.lookup f = some ⟨oc, od, .func (PySem.W.fnOf name qual params body scope dV kV doc pm an cdv ct), osl⟩) (hcd : PySem.W.codeIn K cdv qual = true) (S : FnScope N ps scope)
    (hK : K = g.K) (len : ∀ ds μ Q E, ci ds μ Q E → ds.length + 1 = ps.length)
    (hbody : ∀ (A : Around) (outer : List Env) (s : Shared) (H : Hp) (E : XK), Room k (A.deeper (envOfC qual scope s.heap.objs.size f cdv)) → DSs g (cxOf (L2.CX P w) P w K mg base N qual scope f cdv A outer s H E) body wb)
    (h : ∀ ds μ Q E, ci ds μ Q E → wb (deI g c Q E) (startI N c ds) μ) : DIn P w K mg base g (k + 1) f (PySem.W.fnOf name qual params body scope dV kV doc pm an cdv ct) ps c ci := by
  refine ⟨len, fun A outer s H B a dx args us vs ds μ Q0 E0 Q E hr hg e0 bt r na nd ne b m0 ra hc hq he => ?_⟩
  have hN : 0 < N.length := by
    have h1 := len _ _ _ _ hc
    have h2 := congrArg List.length S.pre
    rw [List.length_take] at h2
    omega
  refine LamX.run_ofS (N := N) (ps := ps) lk hcd S hr e0 bt r (by rw [List.length_cons, ra.len]; exact len _ _ _ _ hc) fun hr' => ?_
  have gs : Gs g (cxOf (L2.CX P w) P w K mg base N qual scope f cdv A outer s (upd (upd H dx (.own a)) a (.ins (g.cls c) dx [])) E) := ⟨⟨hK, hg, by have := hr'.un; exact (by show (A.deeper _).units + 128 < cLine; omega)⟩, passes_of rfl⟩
  have n1 : Np g B H B (upd (upd H dx (.own a)) a (.ins (g.cls c) dx [])) := (Np.own b.sub b.notb b.tabs nd (.own a)).trans (Np.own (Np.own b.sub b.notb b.tabs nd (.own a)).sub b.notb (Np.own b.sub b.notb b.tabs nd (.own a)).tabs (by rw [upd_ne (Ne.symm ne)]; exact na) (.ins (g.cls c) dx []))
  have hb : B a = none := b.sub.none na
  refine ⟨_, (hbody A outer s _ E hr').run gs _ (takes_of rfl rfl rfl rfl), ⟨B, H, B, some a⟩, B, startI N c ds, μ, deI g c Q0 E0, ⟨startI_rel n1.bs (m0.np n1) ra upd_same hb hN, n1.nx, Up.refl B, fun i s' a' h1 o e1 => ?_, fun m i c' xs em h1 => ?_⟩, h _ _ _ _ hc, ⟨fun ρ μ' σ B' H' h' s' => ?_, fun d _ v B' H' h' => h'.elim, fun _ _ _ _ _ h' => h'.elim, fun _ _ _ _ _ h' => h'.elim, fun ρ c' d μ' σ B' H' cls dd h' s' x => he c' d μ' h' cls dd B' H' s'.mm x⟩⟩
  · obtain rfl := startI_own h1 o
    have e1 : some (some (V.ref a)) = some (some (.ref a')) := e1
    cases e1
    exact Fre.none na
  · obtain rfl := startI_own h1 rfl
    cases em
    rfl
  · obtain ⟨xs, e1, hl, q⟩ := h'
    obtain ⟨x, h1, h2⟩ := s'.rel.slot e1
    have hme := s'.me a 0 c xs rfl e1
    rw [hme] at h1
    cases h1
    obtain ⟨a2, dx2, vs', e2, h3, h6, h7, h4, h5⟩ := h2
    cases e2
    rw [hl, List.take_length] at h3
    exact hq xs _ q vs' B' H' dx2 s'.mm h4 h3 (h6.trans hl) h5

/-! ### C(..) -/
def wMake (c : Nat) (ci : Ci) (bds : List D) (w : Wa) : We := fun ρ μ Q E => w ρ μ (fun ds μ => ci (ds ++ bds) μ (fun xs μ => Q (.obj c xs) μ) E) E
structure MkO (g : G) (X : Cx) (x : Str) (k : Nat) (c : Nat) (ci : Ci) (bds : List D) : Prop where
  ex : ∃ f fd ps bs bvs, Mk X.K (g.cls c) f ∧ DIn X.prog X.w X.K X.mg X.base g k f fd ps c ci ∧ Binds X.K fd ps bs ∧ Vals bvs bs ∧ ∀ B, RpA g B bvs bds
  mg : X.mg x = some (.ref (g.cls c))
section
variable {g : G} {X : Cx} {pins : List (Addr × Obj)} {σ : L2.St} {H B : Hp} {s : Shared} {Q : VK} {us : List Value} {vs : List V} {ds bds : List D} {k c : Nat} {ci : Ci} {W : WX} {μ : Mu} {Q0 : D → Mu → Prop} {E0 : Ek} {x : Str}
theorem run_mk (M : MkO g X x k c ci bds) (hr : Room (k + 1) X.A) (gd : Gd g X) (tk : Takes X W) (I : Inv X pins σ H s) (r : Vals vs us) (b : Bs g B H) (m0 : MuR g B H μ) (ra : RpA g B vs ds) (hc : ci (ds ++ bds) μ (fun xs μ => Q0 (.obj c xs) μ) E0)
    (hq : ∀ d μ', Q0 d μ' → ∀ v B' H', Nm g B H B' H' μ' → Rp g B' v d → Q v H') (hx : exk g W B H σ E0) : wpAny (model X.prog X.w) X.A (call (.ref (g.cls c)) us) (EP X pins σ Q) X.xe s := by
  obtain ⟨f, fd, ps, bs, bvs, M1, F, hb, hv, hbd⟩ := M.ex
  have na := I.hok.fresh (Nat.le_succ s.heap.objs.size)
  have nd := I.hok.fresh (Nat.le_refl s.heap.objs.size)
  have ne : s.heap.objs.size ≠ s.heap.objs.size + 1 := Nat.ne_of_lt (Nat.lt_succ_self _)
  have I2 := Inv.made (C := g.cls c) I
  have r2 : Vals (V.ref (s.heap.objs.size + 1) :: (vs ++ bvs)) (Value.ref (s.heap.objs.size + 1) :: (us ++ bs)) := .cons rfl (r.append hv)
  have ra2 : RpA g B (vs ++ bvs) (ds ++ bds) := ra.app (hbd B)
  have hl : (Value.ref (s.heap.objs.size + 1) :: us ++ bs).length = ps.length := by
    have e := r2.length
    have e2 := F.len _ _ _ _ hc
    have e3 := ra2.len
    rw [List.length_cons] at e
    rw [List.cons_append, ← e2, ← e3]
    exact e.symm
  refine wpAny_call (make_map (f := f) I.kIn M1.makes M1.init (beq_iff_eq.mp M1.fn) (codeAny_mono (F.run _ X.stack _ H B (s.heap.objs.size + 1) s.heap.objs.size ⟨Value.ref (s.heap.objs.size + 1) :: us, []⟩ (Value.ref (s.heap.objs.size + 1) :: (us ++ bs)) (vs ++ bvs) (ds ++ bds) μ _ E0
    (fun v H2 => v = .non ∧ Q (.ref (s.heap.objs.size + 1)) H2) (WE W σ) (hr.make (g.cls c) us []) (by rw [make_guards]; exact gd.gd) (I2.env0.make (g.cls c) us []) (hb _ (Value.ref (s.heap.objs.size + 1) :: us) I2.kIn hl) r2 na nd ne b m0 ra2 hc
    (fun xs _ q vs' B' H' dx' n hb' hh' hl' r' => ⟨rfl, ?_⟩) fun c d _ h cls dd B' H' n x => hx c d _ h cls dd B' H' n x) fun r s' hq' => ?_))
  · have n2 := n.learn (Fre.none na) hb' hh' (fun _ z => by cases z)
    exact hq _ _ q _ _ _ n2 (.obj (vs := vs') upd_same hl' (r'.up (upd_up hb')))
  · cases r with
    | error e => exact passAt tk σ pins _ _ e s' I2 hq'
    | ok fl =>
      cases fl with
      | ret u =>
        obtain ⟨v, H', I3, rv, ev, q3⟩ := I2.after hq'
        subst ev
        exact ⟨rv, ⟨V.ref (s.heap.objs.size + 1), H', I3, rfl, q3⟩⟩
      | next => exact False.elim hq'
      | brk => exact False.elim hq'
      | cont => exact False.elim hq'
variable {p pos : Pos} {e : Expr} {es : List Expr} {w : Wa}
theorem de_make (M : MkO g X x k c ci bds) (hr : Room (k + 1) X.A) (hg : Gl X x) (ha : DA g X (e :: es) w)
    (hdb : (x == ("__debug__" : Str)) = false := by decide) (he : starEach (e :: es) X.env = (false, eval e X.env) :: starEach es X.env := by rfl) (hpl : (backTo pos (starEach es X.env)).any (·.1) = false := by rfl) :
    DE g X (.Call (.Name x p) (e :: es) [] pos) (wMake c ci bds w) := ⟨fun gd W tk => ⟨fun pins s σ H Q I h => by
  obtain ⟨B, ρ, μ, Q0, E0, rel, hw, hq, hx⟩ := h
  obtain ⟨f, fd, ps, bs, bvs, M1, F, hb, hv, hbd⟩ := M.ex
  refine wpAny_Call_Name_kw (ld_glob I hg M.mg ?_ hdb)
  refine PySem.W.callWith_K (h₀ := X.base) I.ok.mod.kin M1.kp (thn ((ha.run gd W tk).run pos pins s σ H (fun vs H1 => ∃ ds B1 μ1, Nm g B H B1 H1 μ1 ∧ RpA g B1 vs ds ∧ ci (ds ++ bds) μ1 (fun xs μ => Q0 (.obj c xs) μ) E0) I (tDA.go rel hw hx fun ds μ1 vs B1 H1 k n r => ⟨ds, B1, μ1, n, r, k⟩)) fun us s1 ⟨vs, H1, I1, r, ds, B1, μ1, n, ra, hc⟩ => ⟨I1.kIn, ?_⟩) he hpl
  exact run_mk M hr gd tk I1 r n.bs n.mu ra hc (fun d _ h v B' H' n' r' => hq d _ h v B' H' (n.trans n') r') (hx.nx n)⟩⟩
theorem de_make0 (M : MkO g X x k c ci bds) (hr : Room (k + 1) X.A) (hg : Gl X x)
    (hdb : (x == ("__debug__" : Str)) = false := by decide) : DE g X (.Call (.Name x p) [] [] pos) (wMake c ci bds aN) := ⟨fun gd W tk => ⟨fun pins s σ H Q I h => by
  obtain ⟨B, ρ, μ, Q0, E0, rel, hw, hq, hx⟩ := h
  obtain ⟨f, fd, ps, bs, bvs, M1, F, hb, hv, hbd⟩ := M.ex
  refine wpAny_Call_Name_kw (ld_glob I hg M.mg ?_ hdb)
  exact PySem.W.callWith_K0 I.kIn M1.kp (run_mk (us := []) (vs := []) (ds := []) M hr gd tk I .nil rel.bs rel.mu .nil hw hq hx)⟩⟩
end
end Dk
namespace Dk
open PySem PySem.Spec PyProof.Rows L2

/-! ### what is not reached -/
theorem dss_dead {g : G} {X : Cx} {b : List Stmt} : DSs g X b (fun _ _ _ => False) := ⟨fun gs W tk => ⟨fun pins s σ H D I h => by
  obtain ⟨_, _, _, _, _, _, hw, _⟩ := h
  exact hw.elim⟩⟩
theorem de_dead {g : G} {X : Cx} {e : Expr} : DE g X e (fun _ _ _ _ => False) := ⟨fun gd W tk => ⟨fun pins s σ H Q I h => by
  obtain ⟨_, _, _, _, _, _, hw, _⟩ := h
  exact hw.elim⟩⟩

/-! ### operators that may be the classes' own -/
abbrev F2x := D → D → Mu → (D → Mu → Prop) → Ek → Prop
def w2x (f : F2x) (a b : We) : We := fun ρ μ Q E => a ρ μ (fun d μ => b ρ μ (fun e μ => f d e μ Q E) E) E
structure OpX (g : G) (X : Cx) (f : Value → Value → Sem Value) (fx : F2x) : Prop where
  run : ∀ (W : WX), Takes X W → Gd g X → ∀ (pins : List (Addr × Obj)) (s : Shared) (σ : L2.St) (H B : Hp) (x y : V) (v u : Value) (d e : D) (μ : Mu) (Q0 : D → Mu → Prop) (E0 : Ek) (Q : VK), Inv X pins σ H s → RelV x v → RelV y u → Bs g B H → MuR g B H μ → Rp g B x d → Rp g B y e → fx d e μ Q0 E0 →
    (∀ z μ', Q0 z μ' → ∀ v B' H', Nm g B H B' H' μ' → Rp g B' v z → Q v H') → exk g W B H σ E0 → wpAny (model X.prog X.w) X.A (f v u) (EP X pins σ Q) X.xe s
section
variable {g : G} {X : Cx} {a b : Expr} {wa wb : We} {pos : Pos} {f : Value → Value → Sem Value} {fx fy : F2x}
theorem ox_of {r : R2} {f2 : F2} (ho : Gd g X → OpR X f r) (hf : Gd g X → Op2 g r f2) : OpX g X f (fun d e μ Q _ => f2 d e (fun z => Q z μ)) :=
  ⟨fun W tk gd pins s σ H B x y v u d e μ Q0 E0 Q I rx ry bs m0 r1 r2 k hq hx => ho gd pins s σ H x y v u Q I rx ry (hf gd bs r1 r2 k fun z hz v B' H' n r => hq z μ hz v B' H' ⟨n.nx, m0.np n⟩ r)⟩
theorem OpX.or (h : OpX g X f fx) (h' : OpX g X f fy) : OpX g X f (fun d e μ Q E => fx d e μ Q E ∨ fy d e μ Q E) :=
  ⟨fun W tk gd pins s σ H B x y v u d e μ Q0 E0 Q I rx ry bs m0 r1 r2 k hq hx => k.elim (fun k => h.run W tk gd pins s σ H B x y v u d e μ Q0 E0 Q I rx ry bs m0 r1 r2 k hq hx) fun k => h'.run W tk gd pins s σ H B x y v u d e μ Q0 E0 Q I rx ry bs m0 r1 r2 k hq hx⟩
theorem de_binX {op : Operator} (ho : OpX g X (binaryOp op) fx) (ha : DE g X a wa) (hb : DE g X b wb) : DE g X (.BinOp a op b pos) (w2x fx wa wb) := ⟨fun gd W tk => ⟨fun pins s σ H Q I h => by
  obtain ⟨B, ρ, μ, Q0, E0, rel, hw, hq, hx⟩ := h
  refine wpAny_BinOp (binT (R := fun x y H2 => ∃ d e B2 μ2, Nm g B H B2 H2 μ2 ∧ Rp g B2 x d ∧ Rp g B2 y e ∧ fx d e μ2 Q0 E0) (ha.run gd W tk) (hb.run gd W tk) I (tD.go rel hw hx fun d μ1 v B1 H1 k1 n1 r1 => tD.go (rel.nm n1) k1 (hx.nx n1) fun e μ2 u B2 H2 k2 n2 r2 => ⟨d, e, B2, μ2, n1.trans n2, r1.up n2.up, r2, k2⟩) fun v u s2 x y H2 I2 rx ry ⟨d, e, B2, μ2, n, r1, r2, k⟩ => ?_)
  exact ho.run W tk gd pins s2 σ H2 B2 x y v u d e μ2 Q0 E0 Q I2 rx ry n.bs n.mu r1 r2 k (fun z _ hz v B' H' n' r' => hq z _ hz v B' H' (n.trans n') r') (hx.nx n)⟩⟩
theorem de_cmpX {op : CmpOp} (ho : OpX g X (compareOp op) fx) (ha : DE g X a wa) (hb : DE g X b wb) (hm : behindInMarks op b = false) : DE g X (.Compare a [op] [b] pos) (w2x fx wa wb) := ⟨fun gd W tk => ⟨fun pins s σ H Q I h => by
  obtain ⟨B, ρ, μ, Q0, E0, rel, hw, hq, hx⟩ := h
  refine wpAny_Compare1 (binT (R := fun x y H2 => ∃ d e B2 μ2, Nm g B H B2 H2 μ2 ∧ Rp g B2 x d ∧ Rp g B2 y e ∧ fx d e μ2 Q0 E0) (ha.run gd W tk) (hb.run gd W tk) I (tD.go rel hw hx fun d μ1 v B1 H1 k1 n1 r1 => tD.go (rel.nm n1) k1 (hx.nx n1) fun e μ2 u B2 H2 k2 n2 r2 => ⟨d, e, B2, μ2, n1.trans n2, r1.up n2.up, r2, k2⟩) fun v u s2 x y H2 I2 rx ry ⟨d, e, B2, μ2, n, r1, r2, k⟩ => ?_) hm
  exact ho.run W tk gd pins s2 σ H2 B2 x y v u d e μ2 Q0 E0 Q I2 rx ry n.bs n.mu r1 r2 k (fun z _ hz v B' H' n' r' => hq z _ hz v B' H' (n.trans n') r') (hx.nx n)⟩⟩
theorem dt_cmpX {op : CmpOp} (ho : OpX g X (compareOp op) fx) (ha : DE g X a wa) (hb : DE g X b wb) (hm : behindInMarks op b = false) : DT g X (.Compare a [op] [b] pos) (tB0 (w2x fx wa wb)) := ⟨fun gd W tk => ⟨fun pins s σ H Q I h => by
  obtain ⟨B, ρ, μ, Q0, E0, rel, hw, hq, hx⟩ := h
  refine wpAny_isTrue_Compare1 (binT (R := fun x y H2 => ∃ d e B2 μ2, Nm g B H B2 H2 μ2 ∧ Rp g B2 x d ∧ Rp g B2 y e ∧ fx d e μ2 (fun d μ => match d with | .bl b => Q0 b μ | _ => False) E0) (ha.run gd W tk) (hb.run gd W tk) I (tD.go rel hw hx fun d μ1 v B1 H1 k1 n1 r1 => tD.go (rel.nm n1) k1 (hx.nx n1) fun e μ2 u B2 H2 k2 n2 r2 => ⟨d, e, B2, μ2, n1.trans n2, r1.up n2.up, r2, k2⟩) fun v u s2 x y H2 I2 rx ry ⟨d, e, B2, μ2, n, r1, r2, k⟩ => ?_) hm
  refine thn (ho.run W tk gd pins s2 σ H2 B2 x y v u d e μ2 _ E0 (fun v H' => ∃ b, v = .bl b ∧ Q b H') I2 rx ry n.bs n.mu r1 r2 k (fun z μ3 hz v B' H' n' r' => ?_) (hx.nx n)) fun c s3 ⟨z, H3, I3, r3, k, e, q3⟩ => ?_
  · obtain ⟨b, rfl, q⟩ := tB0.elim hz
    cases r'
    exact ⟨b, rfl, hq b _ q B' H' (n.trans n')⟩
  · subst e
    cases r3
    exact wpAny_truthy_bool ⟨H3, I3, q3⟩⟩⟩
/-- an own def behind a special name -/
structure OOk (g : G) (X : Cx) (nm : Str) (k : Nat) (c : Nat) (ct : Ct) : Prop where
  ex : ∃ f, PySem.W.findIn X.K (.ref (g.cls c)) nm = some (some (.ref f)) ∧ PySem.W.isFn X.K (.ref f) = true ∧ DFn X.prog X.w X.K X.mg X.base g k f ct
  sf : PySem.W.selfFirst X.K (g.cls c) = true
theorem inst_of {pins : List (Addr × Obj)} {σ : L2.St} {H : Hp} {s : Shared} {a dx C : Addr} {fs : List (Str × V)} (I : Inv X pins σ H s) (h : H a = some (.ins C dx fs)) : ∃ ox od, PySem.W.InstAt s.heap a ox C (some od) := by
  obtain ⟨mA, O, _⟩ := ins_get I.hok h
  obtain ⟨od, J, _⟩ := O.look
  exact ⟨_, od, J⟩
def fOwn (ms : List (Nat × Ct)) : F2x := fun d e μ Q E => match d, e with
  | .obj c xs, .obj c' ys => (match ms.lookup c with
    | some ct => c = c' ∧ ct [.obj c xs, .obj c' ys] μ Q E
    | none => False)
  | _, _ => False
theorem ox_own {op : Operator} {ms : List (Nat × Ct)} {k : Nat} (hm : ∀ p ∈ ms, OOk g X (PySem.dunder op.info.2) k p.1 p.2) (hr : Room k X.A) : OpX g X (binaryOp op) (fOwn ms) :=
  ⟨fun W tk gd pins s σ H B x y v u d e μ Q0 E0 Q I rx ry bs m0 r1 r2 kk hq hx => by
    cases r1 with
    | obj h1 l1 a1 =>
      cases r2 with
      | obj h2 l2 a2 =>
        rename_i a dx c vs ds a' dx' c' vs' ds'
        have kk : (match ms.lookup c with | some ct => c = c' ∧ ct [.obj c ds, .obj c' ds'] μ Q0 E0 | none => False) := kk
        cases e1 : ms.lookup c with
        | none => rw [e1] at kk; exact kk.elim
        | some ct =>
          rw [e1] at kk
          obtain ⟨rfl, kk⟩ := kk
          have ok := hm _ (mem_lookupN e1)
          obtain ⟨f, hs, hf, F⟩ := ok.ex
          cases (show v = Value.ref a from rx)
          cases (show u = Value.ref a' from ry)
          obtain ⟨ox, od, J⟩ := inst_of I (bs.sub.at h1)
          obtain ⟨ox', od', J'⟩ := inst_of I (bs.sub.at h2)
          obtain ⟨m, hF⟩ := I.fr
          refine PySem.W.binop_K hF I.ok.mod.kin J J'.type ok.sf hs hf ?_
          refine wpAny_mono (run_d (us := [.ref a, .ref a']) (vs := [.ref a, .ref a']) F hr gd tk I (.cons rfl (.cons rfl .nil)) bs m0 (.cons (.obj h1 l1 a1) (.cons (.obj h2 l2 a2) .nil)) kk hq hx) (fun w s' z => ?_) fun _ _ x => x
          obtain ⟨z', H', I', rz, qz⟩ := z
          exact SlX.cmpback rz ⟨z', H', I', rz, qz⟩
      | _ => exact kk.elim
    | _ => exact kk.elim⟩
/-- == of own instances -/
def fOwnEq (ms : List (Nat × Ct)) : F2x := fun d e μ Q E => match d, e with
  | .obj c xs, .obj c' ys => (match ms.lookup c with
    | some ct => c = c' ∧ ct [.obj c xs, .obj c' ys] μ Q E
    | none => False)
  | _, _ => False
structure OEq (g : G) (X : Cx) (nm : Str) (k : Nat) (c : Nat) (ct : Ct) : Prop where
  ex : ∃ f, PySem.W.findIn X.K (.ref (g.cls c)) nm = some (some (.ref f)) ∧ PySem.W.isFn X.K (.ref f) = true ∧ DFn X.prog X.w X.K X.mg X.base g k f ct
  nf : PySem.W.notFirst X.K (g.cls c) (.ref (g.cls c)) = true
theorem ox_ownC {op : CmpOp} (hop : ∀ a b, compareOp op a b = richCompare op a b) {ms : List (Nat × Ct)} {k : Nat} (hm : ∀ p ∈ ms, OEq g X (cmpInfo op).2.1 k p.1 p.2) (hr : Room k X.A) : OpX g X (compareOp op) (fOwnEq ms) :=
  ⟨fun W tk gd pins s σ H B x y v u d e μ Q0 E0 Q I rx ry bs m0 r1 r2 kk hq hx => by
    cases r1 with
    | obj h1 l1 a1 =>
      cases r2 with
      | obj h2 l2 a2 =>
        rename_i a dx c vs ds a' dx' c' vs' ds'
        have kk : (match ms.lookup c with | some ct => c = c' ∧ ct [.obj c ds, .obj c' ds'] μ Q0 E0 | none => False) := kk
        cases e1 : ms.lookup c with
        | none => rw [e1] at kk; exact kk.elim
        | some ct =>
          rw [e1] at kk
          obtain ⟨rfl, kk⟩ := kk
          have ok := hm _ (mem_lookupN e1)
          obtain ⟨f, hs, hf, F⟩ := ok.ex
          cases (show v = Value.ref a from rx)
          cases (show u = Value.ref a' from ry)
          obtain ⟨ox, od, J⟩ := inst_of I (bs.sub.at h1)
          obtain ⟨ox', od', J'⟩ := inst_of I (bs.sub.at h2)
          obtain ⟨m, hF⟩ := I.fr
          rw [hop]
          refine PySem.W.cmp_K (op := op) (tb := .ref (g.cls c)) hr.units0 hF I.ok.mod.kin J J'.type ok.nf hs hf ?_
          refine wpAny_mono (run_d (us := [.ref a, .ref a']) (vs := [.ref a, .ref a']) F hr gd tk I (.cons rfl (.cons rfl .nil)) bs m0 (.cons (.obj h1 l1 a1) (.cons (.obj h2 l2 a2) .nil)) kk hq hx) (fun w s' z => ?_) fun _ _ x => x
          obtain ⟨z', H', I', rz, qz⟩ := z
          exact SlX.cmpback rz ⟨z', H', I', rz, qz⟩
      | _ => exact kk.elim
    | _ => exact kk.elim⟩
/-- -x, ~x of own instances -/
def wU (ms : List (Nat × Ct)) (a : We) : We := fun ρ μ Q E => a ρ μ (fun d μ => match d with
  | .obj c xs => (match ms.lookup c with
    | some ct => ct [.obj c xs] μ Q E
    | none => False)
  | _ => False) E
structure UOk (g : G) (X : Cx) (nm : Str) (k : Nat) (c : Nat) (ct : Ct) : Prop where
  ex : ∃ f, PySem.W.findIn X.K (.ref (g.cls c)) nm = some (some (.ref f)) ∧ PySem.W.isFn X.K (.ref f) = true ∧ DFn X.prog X.w X.K X.mg X.base g k f ct
theorem de_unO {op : UnaryOp} {nm : Str} {ms : List (Nat × Ct)} {k : Nat} (hop : ∀ {C f x : Addr} {ox : Obj} {od : Option Obj} {h₀ : Heap} {L : Addr} {m : Str → Option Value} {K : PySem.W.Frag} {s : Shared} {A : Around} {E : Value → Shared → Prop} {Q : Value → Shared → Prop}, Fr h₀ L s.heap m → K.In h₀ → PySem.W.InstAt s.heap x ox C od → PySem.W.findIn K (.ref C) nm = some (some (.ref f)) → PySem.W.isFn K (.ref f) = true →
    wpAny (model X.prog X.w) A (call (.ref f) [.ref x]) Q E s → wpAny (model X.prog X.w) A (unaryOp op (.ref x)) Q E s) (hm : ∀ p ∈ ms, UOk g X nm k p.1 p.2) (hr : Room k X.A) (ha : DE g X a wa) : DE g X (.UnaryOp op a pos) (wU ms wa) := ⟨fun gd W tk => ⟨fun pins s σ H Q I h => by
  obtain ⟨B, ρ, μ, Q0, E0, rel, hw, hq, hx⟩ := h
  refine UnaryOp_ (thn ((ha.run gd W tk).run pins s σ H (fun v H1 => ∃ d B1 μ1, Nm g B H B1 H1 μ1 ∧ Rp g B1 v d ∧ (match d with | .obj c xs => (match ms.lookup c with | some ct => ct [.obj c xs] μ1 Q0 E0 | none => False) | _ => False)) I (tD.go rel hw hx fun d μ1 v B1 H1 k n r => ⟨d, B1, μ1, n, r, k⟩)) fun v s1 ⟨x, H1, I1, rx, d, B1, μ1, n, r1, kk⟩ => ?_)
  cases r1 with
  | obj h1 l1 a1 =>
    rename_i a dx c vs ds
    have kk : (match ms.lookup c with | some ct => ct [.obj c ds] μ1 Q0 E0 | none => False) := kk
    cases e1 : ms.lookup c with
    | none => rw [e1] at kk; exact kk.elim
    | some ct =>
      rw [e1] at kk
      have ok := hm _ (mem_lookupN e1)
      obtain ⟨f, hs, hf, F⟩ := ok.ex
      cases (show v = Value.ref a from rx)
      obtain ⟨ox, od, J⟩ := inst_of I1 (n.sub.at h1)
      obtain ⟨m, hF⟩ := I1.fr
      refine hop hF I1.ok.mod.kin J hs hf ?_
      exact run_d (us := [.ref a]) (vs := [.ref a]) F hr gd tk I1 (.cons rfl .nil) n.bs n.mu (.cons (.obj h1 l1 a1) .nil) kk (fun d _ h v B' H' n' r' => hq d _ h v B' H' (n.trans n') r') (hx.nx n)
  | _ => exact kk.elim⟩⟩
theorem de_negO {ms : List (Nat × Ct)} {k : Nat} (hm : ∀ p ∈ ms, UOk g X "__neg__" k p.1 p.2) (hr : Room k X.A) (ha : DE g X a wa) : DE g X (.UnaryOp .USub a pos) (wU ms wa) := de_unO (fun F X0 I hs hf h => PySem.W.ksp_neg F X0 I hs hf h) hm hr ha
theorem de_invO {ms : List (Nat × Ct)} {k : Nat} (hm : ∀ p ∈ ms, UOk g X "__invert__" k p.1 p.2) (hr : Room k X.A) (ha : DE g X a wa) : DE g X (.UnaryOp .Invert a pos) (wU ms wa) := de_unO (fun F X0 I hs hf h => PySem.W.ksp_inv F X0 I hs hf h) hm hr ha
end
end Dk
namespace Dk
open PySem PySem.Spec PyProof.Rows L2

/-! ### lambdas that are handed down -/
/-- frames were laid upon those of (outer, s, H), nothing of theirs was touched -/
structure Later (outer : List Env) (s : Shared) (H : Hp) (outer' : List Env) (s' : Shared) (H' : Hp) : Prop where
  pre : ∃ pre, outer' = pre ++ outer ∧ ∀ b ∈ frs pre, s.heap.get? b = none
  un : Un (frs outer) [] H H' s.heap s'.heap
theorem frs_app (a b : List Env) : frs (a ++ b) = frs a ++ frs b := by unfold frs; rw [List.filterMap_append]
theorem Later.refl (outer : List Env) (s : Shared) (H : Hp) : Later outer s H outer s H := ⟨⟨[], rfl, fun b hb => by simp [frs] at hb⟩, Un.refl⟩
theorem Later.trans {o1 o2 o3 : List Env} {s1 s2 s3 : Shared} {H1 H2 H3 : Hp} (a : Later o1 s1 H1 o2 s2 H2) (b : Later o2 s2 H2 o3 s3 H3) : Later o1 s1 H1 o3 s3 H3 := by
  obtain ⟨p, rfl, hp⟩ := a.pre
  obtain ⟨q, rfl, hq⟩ := b.pre
  have no : ∀ c ob, s1.heap.get? c = some ob → c ∉ frs p := fun c ob e z => by
    rw [hp c z] at e; cases e
  refine ⟨⟨q ++ p, (List.append_assoc _ _ _).symm, fun c hc => ?_⟩, ⟨fun c ob e n hf hx => ?_, fun c ob e n hf hx => ?_, fun c ob e n hx => ?_, fun c ob e hx => ?_, fun c xs e => ?_, fun c o u e => ?_, fun c ps e => ?_⟩⟩
  · rw [frs_app] at hc
    rcases List.mem_append.mp hc with hc | hc
    · cases z : s1.heap.get? c with
      | none => rfl
      | some ob =>
        obtain ⟨o', e⟩ := a.un.there c ob z (by simp)
        rw [hq c hc] at e; cases e
    · exact hp c hc
  · have e1 := a.un.keep c ob e n hf hx
    exact b.un.keep c ob e1 (a.un.free c ob e n hx) (fun z => by
      rw [frs_app] at z
      exact (List.mem_append.mp z).elim (no c ob e) hf) hx
  · obtain ⟨sl, e1⟩ := a.un.slot c ob e n hf hx
    obtain ⟨sl2, e2⟩ := b.un.slot c _ e1 (a.un.free c ob e n hx) (by rw [frs_app]; exact List.mem_append_right _ hf) hx
    exact ⟨sl2, e2⟩
  · obtain ⟨o', e1⟩ := a.un.there c ob e hx
    exact b.un.free c o' e1 (a.un.free c ob e n hx) hx
  · obtain ⟨o', e1⟩ := a.un.there c ob e hx
    exact b.un.there c o' e1 hx
  · exact b.un.tups c xs (a.un.tups c xs e)
  · exact b.un.frzs c o u (a.un.frzs c o u e)
  · obtain ⟨m1, e1⟩ := a.un.tbls c ps e
    obtain ⟨m2, e2⟩ := b.un.tbls c _ e1
    exact ⟨m1 ++ m2, by rw [e2, Array.append_assoc]⟩
theorem later_of {X : Cx} {pins : List (Addr × Obj)} {σ : L2.St} {H : Hp} {s : Shared} (I : Inv X pins σ H s) (hex : X.ex = []) : Later X.outer X.s_0 X.H_0 X.stack s H := by
  have u := I.base
  rw [hex] at u
  rcases I.ok.stk with e | ⟨e, hf⟩
  · exact ⟨⟨[], by rw [e]; rfl, fun b hb => by simp [frs] at hb⟩, u⟩
  · refine ⟨⟨[X.env], by rw [e]; rfl, fun b hb => ?_⟩, u⟩
    have hb : b ∈ [X.env].filterMap (·.frame) := hb
    rw [List.filterMap_cons, hf] at hb
    have hb : b = X.env.locals := by simpa using hb
    subst hb
    exact Heap.get?_none_of_le I.ok.above
/-- what the function object at f does when it is called above (outer, s, H) -/
structure LamAt (P : Program) (w : World) (K : PySem.W.Frag) (mg : Str → Option Value) (base : Heap) (g : G) (k : Nat) (f : Addr) (t : D) (lam : Ct) (outer : List Env) (s : Shared) (H : Hp) : Prop where
  fo : ∀ outer' s' H', Later outer s H outer' s' H' → PySem.W.FnAt f s'.heap
  run : ∀ (A : Around) (outer' : List Env) (s' : Shared) (H' B : Hp) (us : List Value) (ws : List V) (es : List D) (μ : Mu) (Q0 : D → Mu → Prop) (E0 : Ek) (Q : VK) (E : XK), Later outer s H outer' s' H' → Room k A → A.guards = some [] → Env0 P w K mg base A outer' s' H' → Vals ws us → Bs g B H' → MuR g B H' μ → Rp g B (.ref f) t → RpA g B ws es → lam es μ Q0 E0 →
    (∀ d μ', Q0 d μ' → ∀ v B' H'', Nm g B H' B' H'' μ' → Rp g B' v d → Q v H'') → (∀ c d μ', E0 c d μ' → ∀ cls dd B' H'', Nm g B H' B' H'' μ' → ExObj g B' c d cls dd → E cls dd H'') →
    codeAny (model P w) A (.call (.ref f) ⟨us, []⟩) (CR (L2.CX P w) outer' P w H' s' Q E) s'
theorem LamAt.later {P : Program} {w : World} {K : PySem.W.Frag} {mg : Str → Option Value} {base : Heap} {g : G} {k : Nat} {f : Addr} {t : D} {lam : Ct} {o1 o2 : List Env} {s1 s2 : Shared} {H1 H2 : Hp} (L : LamAt P w K mg base g k f t lam o1 s1 H1) (l : Later o1 s1 H1 o2 s2 H2) : LamAt P w K mg base g k f t lam o2 s2 H2 :=
  ⟨fun o3 s3 H3 l3 => L.fo o3 s3 H3 (l.trans l3), fun A o3 s3 H3 B us ws es μ Q0 E0 Q E l3 => L.run A o3 s3 H3 B us ws es μ Q0 E0 Q E (l.trans l3)⟩
/-- a call of what a slot holds -/
def wCallV (i : Nat) (t : D) (lam : Ct) (w : Wa) : We := fun ρ μ Q E => ρ[i]? = some (.sh t) ∧ w ρ μ (fun es μ => lam es μ Q E) E
section
variable {g : G} {X : Cx} {k : Nat} {f : Addr} {t : D} {lam : Ct} {x : Str} {p pos : Pos} {e : Expr} {es : List Expr} {w : Wa}
theorem rp_ref {B : Hp} {v : V} {f c : Addr} {q : Str} {vs : List V} {ds : List D} (r : Rp g B v (.fn f c q vs ds)) : v = .ref f := by
  cases r; rfl
theorem run_lam {pins : List (Addr × Obj)} {σ : L2.St} {H B : Hp} {s : Shared} {Q : VK} {us : List Value} {vs : List V} {ds : List D} {W : WX} {μ : Mu} {Q0 : D → Mu → Prop} {E0 : Ek} (L : LamAt X.prog X.w X.K X.mg X.base g k f t lam X.outer X.s_0 X.H_0) (hex : X.ex = []) (hr : Room k X.A) (gd : Gd g X) (tk : Takes X W) (I : Inv X pins σ H s) (r : Vals vs us) (b : Bs g B H) (m0 : MuR g B H μ)
    (rt : Rp g B (.ref f) t) (ra : RpA g B vs ds) (hc : lam ds μ Q0 E0) (hq : ∀ d μ', Q0 d μ' → ∀ v B' H', Nm g B H B' H' μ' → Rp g B' v d → Q v H') (hx : exk g W B H σ E0) : wpAny (model X.prog X.w) X.A (call (.ref f) us) (EP X pins σ Q) X.xe s := by
  refine wpAny_call (codeAny_mono (L.run X.A X.stack s H B us vs ds μ Q0 E0 Q (WE W σ) (later_of I hex) hr gd.gd I.env0 r b m0 rt ra hc hq fun c d _ h cls dd B' H' n x => hx c d _ h cls dd B' H' n x) fun r s' hq' => ?_)
  cases r with
  | error e => exact passAt tk σ pins H s e s' I hq'
  | ok fl =>
    cases fl with
    | ret u => exact I.after hq'
    | next => exact False.elim hq'
    | brk => exact False.elim hq'
    | cont => exact False.elim hq'
theorem de_callV0 (i : Nat) {c : Addr} {q : Str} {vs : List V} {ds : List D} (ht : t = .fn f c q vs ds) (L : LamAt X.prog X.w X.K X.mg X.base g k f t lam X.outer X.s_0 X.H_0) (hex : X.ex = []) (hr : Room k X.A) (hN : X.N[i]? = some x) (hv : Vis X.env.scope x) (hd : (x == ("__debug__" : Str)) = false := by decide) (hcd : (x == ("__classdict__" : Str)) = false := by decide) :
    DE g X (.Call (.Name x p) [] [] pos) (wCallV i t lam aN) := ⟨fun gd W tk => ⟨fun pins s σ H Q I h => by
  obtain ⟨B, ρ, μ, Q0, E0, rel, ⟨e1, hw⟩, hq, hx⟩ := h
  obtain ⟨v, h1, h2⟩ := rel.at e1
  subst ht
  obtain rfl := rp_ref h2
  refine wpAny_Call_Name_kw (thn ((pe_var (pos := p) (i := i) hN hv hd hcd).run pins s σ H (fun v H1 => v = .ref f ∧ H1 = H) I ⟨.ref f, h1, rfl, rfl⟩) fun u s1 ⟨v, H1, I1, r1, ev, eH⟩ => ?_)
  subst ev
  subst eH
  obtain rfl : u = Value.ref f := r1
  refine PySem.W.callWith_F0 (L.fo _ _ _ (later_of I1 hex)) ?_
  exact run_lam (us := []) (vs := []) (ds := []) L hex hr gd tk I1 .nil rel.bs rel.mu h2 .nil hw hq hx⟩⟩
theorem de_callV (i : Nat) {c : Addr} {q : Str} {vs : List V} {ds : List D} (ht : t = .fn f c q vs ds) (L : LamAt X.prog X.w X.K X.mg X.base g k f t lam X.outer X.s_0 X.H_0) (hex : X.ex = []) (hr : Room k X.A) (ha : DA g X (e :: es) w) (hN : X.N[i]? = some x) (hv : Vis X.env.scope x)
    (hd : (x == ("__debug__" : Str)) = false := by decide) (hcd : (x == ("__classdict__" : Str)) = false := by decide) (he : starEach (e :: es) X.env = (false, eval e X.env) :: starEach es X.env := by rfl) (hpl : (backTo pos (starEach es X.env)).any (·.1) = false := by rfl) :
    DE g X (.Call (.Name x p) (e :: es) [] pos) (wCallV i t lam w) := ⟨fun gd W tk => ⟨fun pins s σ H Q I h => by
  obtain ⟨B, ρ, μ, Q0, E0, rel, ⟨e1, hw⟩, hq, hx⟩ := h
  obtain ⟨v, h1, h2⟩ := rel.at e1
  subst ht
  obtain rfl := rp_ref h2
  refine wpAny_Call_Name_kw (thn ((pe_var (pos := p) (i := i) hN hv hd hcd).run pins s σ H (fun v H1 => v = .ref f ∧ H1 = H) I ⟨.ref f, h1, rfl, rfl⟩) fun u s1 ⟨v, H1, I1, r1, ev, eH⟩ => ?_)
  subst ev
  subst eH
  obtain rfl : u = Value.ref f := r1
  refine PySem.W.callWith_F (L.fo _ _ _ (later_of I1 hex)) (thn ((ha.run gd W tk).run pos pins s1 σ H1 (fun vs H2 => ∃ ds B1 μ1, Nm g B H1 B1 H2 μ1 ∧ RpA g B1 vs ds ∧ lam ds μ1 Q0 E0) I1 (tDA.go rel hw hx fun ds μ1 vs B1 H1 k n r => ⟨ds, B1, μ1, n, r, k⟩)) fun us s2 ⟨vs, H2, I2, r, ds, B1, μ1, n, ra, hc⟩ => ⟨L.fo _ _ _ (later_of I2 hex), ?_⟩) he hpl
  exact run_lam L hex hr gd tk I2 r n.bs n.mu (h2.up n.up) ra hc (fun d _ h v B' H' n' r' => hq d _ h v B' H' (n.trans n') r') (hx.nx n)⟩⟩
end
end Dk
namespace Dk
open PySem PySem.Spec PyProof.Rows L2

/-! ### what a lambda captures -/
def shOf (ρ : List Sl) : List Sl := ρ.map fun s => match s with
  | .sh d => .sh d
  | _ => .no
def capt : L2.St → List Sl → List (V × D)
  | some v :: σ, .sh d :: ρ => (v, d) :: capt σ ρ
  | _ :: σ, _ :: ρ => capt σ ρ
  | _, _ => []
theorem shOf_get {ρ : List Sl} {i : Nat} {s : Sl} (h : (shOf ρ)[i]? = some s) : s = .no ∨ ∃ d, s = .sh d ∧ ρ[i]? = some (.sh d) := by
  unfold shOf at h
  rw [List.getElem?_map] at h
  cases e : ρ[i]? with
  | none => rw [e] at h; cases h
  | some t =>
    rw [e] at h
    cases t with
    | sh d =>
      have h := Option.some.inj h
      exact .inr ⟨d, h.symm, rfl⟩
    | _ =>
      have h := Option.some.inj h
      exact .inl h.symm
theorem capt_rp {g : G} {B : Hp} : ∀ {σ : L2.St} {ρ : List Sl}, (∀ (i : Nat) (v : V) (d : D), σ[i]? = some (some v) → ρ[i]? = some (.sh d) → Rp g B v d) → RpA g B ((capt σ ρ).map (·.1)) ((capt σ ρ).map (·.2))
  | [], [], _ => .nil
  | [], _ :: _, _ => .nil
  | x :: _, [], _ => by cases x <;> exact .nil
  | x :: σ, s :: ρ, h => by
    have ih := capt_rp (σ := σ) (ρ := ρ) fun i v d h1 h2 => h (i + 1) v d (by simpa using h1) (by simpa using h2)
    cases x with
    | none => exact ih
    | some v =>
      cases s with
      | sh d => exact .cons (h 0 v d rfl rfl) ih
      | _ => exact ih
theorem capt_get {g : G} {B : Hp} : ∀ {σ : L2.St} {ρ : List Sl}, RpA g B ((capt σ ρ).map (·.1)) ((capt σ ρ).map (·.2)) → ∀ (i : Nat) (v : V) (d : D), σ[i]? = some (some v) → ρ[i]? = some (.sh d) → Rp g B v d
  | [], _, _, i, v, d, h1, _ => by simp at h1
  | _ :: _, [], _, i, v, d, _, h2 => by simp at h2
  | x :: σ, s :: ρ, r, i, v, d, h1, h2 => by
    cases i with
    | zero =>
      simp at h1 h2
      subst h1; subst h2
      cases r with
      | cons r1 _ => exact r1
    | succ i =>
      have h1 : σ[i]? = some (some v) := by simpa using h1
      have h2 : ρ[i]? = some (.sh d) := by simpa using h2
      have r' : RpA g B ((capt σ ρ).map (·.1)) ((capt σ ρ).map (·.2)) := by
        cases x with
        | none => exact r
        | some v =>
          cases s with
          | sh d => cases r with
            | cons _ r => exact r
          | _ => exact r
      exact capt_get r' i v d h1 h2

/-! ### defs that take a lambda -/
structure DFnL (P : Program) (w : World) (K : PySem.W.Frag) (mg : Str → Option Value) (base : Heap) (g : G) (k kl : Nat) (f : Addr) (hc : D → Ct → Ct) : Prop where
  run : ∀ (tf tc : Addr) (tq : Str) (tvs : List V) (tds : List D) (lam : Ct) (A : Around) (outer : List Env) (s : Shared) (H B : Hp) (us : List Value) (vs : List V) (ds : List D) (μ : Mu) (Q0 : D → Mu → Prop) (E0 : Ek) (Q : VK) (E : XK), Room k A → A.guards = some [] → Env0 P w K mg base A outer s H → Vals vs us → Bs g B H → MuR g B H μ → RpA g B vs ds →
    LamAt P w K mg base g kl tf (.fn tf tc tq tvs tds) lam outer s H → hc (.fn tf tc tq tvs tds) lam ds μ Q0 E0 →
    (∀ d μ', Q0 d μ' → ∀ v B' H', Nm g B H B' H' μ' → Rp g B' v d → Q v H') → (∀ c d μ', E0 c d μ' → ∀ cls dd B' H', Nm g B H B' H' μ' → ExObj g B' c d cls dd → E cls dd H') →
    codeAny (model P w) A (.call (.ref f) ⟨us, []⟩) (CR (L2.CX P w) outer P w H s Q E) s
theorem dfl_mk {P : Program} {w : World} {K : PySem.W.Frag} {mg : Str → Option Value} {base : Heap} {g : G} {k kl : Nat} {f : Addr} {hc : D → Ct → Ct} {name qual : Str} {params : Arguments} {body : List Stmt} {scope : Scope} {dV kV doc pm cdv ct oc : Value} {an od : Option Addr} {osl : Array (Option Value)} {N ps : List Str} {wb : D → Ct → Ws} {bs : List Value} {bvs : List V} {bds : List D}
    (lk : K.lookup f = some ⟨oc, od, .func (PySem.W.fnOf name qual params body scope dV kV doc pm an cdv ct), osl⟩) (hcd : PySem.W.codeIn K cdv qual = true) (S : FnScope N ps scope) (hb : Binds K (PySem.W.fnOf name qual params body scope dV kV doc pm an cdv ct) ps bs) (hv : Vals bvs bs) (hbd : ∀ B, RpA g B bvs bds)
    (hK : K = g.K) (len : ∀ t lam ds μ Q E, hc t lam ds μ Q E → (ds ++ bds).length = ps.length)
    (hbody : ∀ (tf tc : Addr) (tq : Str) (tvs : List V) (tds : List D) (lam : Ct) (A : Around) (outer : List Env) (s : Shared) (H : Hp) (E : XK), Room k (A.deeper (envOfC qual scope s.heap.objs.size f cdv)) → LamAt P w K mg base g kl tf (.fn tf tc tq tvs tds) lam outer s H →
      DSs g (cxOf (L2.CX P w) P w K mg base N qual scope f cdv A outer s H E) body (wb (.fn tf tc tq tvs tds) lam))
    (h : ∀ t lam ds μ Q E, hc t lam ds μ Q E → wb t lam (deOf Q E) (startR N (ds ++ bds)) μ) : DFnL P w K mg base g (k + 1) kl f hc := by
  refine ⟨fun tf tc tq tvs tds lam A outer s H B us vs ds μ Q0 E0 Q E hr hg e0 r b m0 ra hl hc' hq he => ?_⟩
  have ra2 : RpA g B (vs ++ bvs) (ds ++ bds) := ra.app (hbd B)
  have r2 : Vals (vs ++ bvs) (us ++ bs) := r.append hv
  have hln : (us ++ bs).length = ps.length := by rw [← r2.length, ra2.len]; exact len _ _ _ _ _ _ hc'
  have KX : K.In s.heap := e0.mod.kin.keeps fun b o e => (e0.bs b o e).1
  have bt := hb s us KX hln
  refine LamX.run_ofS (N := N) (ps := ps) lk hcd S hr e0 bt r2 (by rw [ra2.len]; exact len _ _ _ _ _ _ hc') fun hr' => ?_
  have gs : Gs g (cxOf (L2.CX P w) P w K mg base N qual scope f cdv A outer s H E) := ⟨⟨hK, hg, by have := hr'.un; exact (by show (A.deeper _).units + 128 < cLine; omega)⟩, passes_of rfl⟩
  refine ⟨_, (hbody tf tc tq tvs tds lam A outer s H E hr' hl).run gs _ (takes_of rfl rfl rfl rfl), ⟨B, H, B, none⟩, B, startR N (ds ++ bds), μ, deOf Q0 E0, ⟨start_rel b m0 ra2, b.rf.nx, Up.refl B, fun i s a h1 o _ => ?_, fun _ _ _ _ z => (by cases z)⟩, h _ _ _ _ _ _ hc', ⟨fun ρ μ' σ B' H' h' s' => ?_, fun d μ' v B' H' h' n q => hq d μ' h' v B' H' n q, fun _ _ _ _ _ h' => h'.elim, fun _ _ _ _ _ h' => h'.elim, fun ρ c d μ' σ B' H' cls dd h' s' x => he c d μ' h' cls dd B' H' s'.mm x⟩⟩
  · exact absurd o (by rw [startR_no h1]; decide)
  · exact hq _ _ h' _ B' H' s'.mm .non

/-! ### a lambda's context -/
structure LamSP (sc scope : Scope) (ps N : List Str) : Prop where
  kind : scope.kind = .function
  co : scope.isCoroutine = false
  gen : scope.isGenerator = false
  own : ∀ y ∈ scope.names, y.2 ≠ .cell ∧ (y.2 = .local → y.1 ∈ ps)
  free : ∀ y ∈ scope.names, y.2 = .free → sc.names.lookup y.1 = some .cell ∨ sc.names.lookup y.1 = some .free
  par : ∀ p ∈ ps, scope.names.lookup p = some .local
  dis : ∀ p ∈ ps, p ∉ N
  nd : ps.Nodup
def lamCxP (X : Cx) (ps : List Str) (A : Around) (outer : List Env) (s : Shared) (H : Hp) (E : XK) (scope : Scope) (f c' : Addr) : Cx where
  prog := X.prog
  w := X.w
  K := X.K
  mg := X.mg
  base := X.base
  A := A.deeper (LamX.lamEnv X scope s.heap.objs.size f c')
  N := ps ++ X.N
  s_0 := s
  H_0 := H
  env := LamX.lamEnv X scope s.heap.objs.size f c'
  outer := outer
  stack := LamX.lamEnv X scope s.heap.objs.size f c' :: outer
  ex := []
  fn := fun _ => false
  calm := true
  pn := []
  xe := fun e s' => wpAny (model X.prog X.w) (A.deeper (LamX.lamEnv X scope s.heap.objs.size f c')) (leaving (LamX.lamEnv X scope s.heap.objs.size f c') e) (fun _ s'' => L2.CX X.prog X.w outer H s E e s'') (fun e' s'' => L2.CX X.prog X.w outer H s E e' s'') s'
theorem zip_rev_lookup {ps : List Str} {us : List Value} : ps.Nodup → us.length = ps.length → ∀ (i : Nat) (y : Str) (u : Value), ps[i]? = some y → us[i]? = some u → (ps.zip us).reverse.lookup y = some u := by
  intro nd hl i y u h1 h2
  have key : ∀ (l : List (Str × Value)), (l.map (·.1)).Nodup → (y, u) ∈ l → l.lookup y = some u := by
    intro l
    induction l with
    | nil => intro _ h; cases h
    | cons p l ih =>
      intro nd h
      obtain ⟨a, b⟩ := p
      rw [List.map_cons, List.nodup_cons] at nd
      rcases List.mem_cons.mp h with h | h
      · cases h
        simp [List.lookup]
      · have ne : y ≠ a := fun z => nd.1 (by rw [← z]; exact List.mem_map_of_mem (f := (·.1)) h)
        have e : (y == a) = false := by simpa using ne
        show (match y == a with | true => some b | false => l.lookup y) = some u
        rw [e]
        exact ih nd.2 h
  refine key _ ?_ (List.mem_reverse.mpr ?_)
  · rw [List.map_reverse, List.map_fst_zip (by omega)]
    exact List.pairwise_reverse.mpr (List.Pairwise.imp (fun h => Ne.symm h) nd)
  · have : (ps.zip us)[i]? = some (y, u) := by
      rw [List.getElem?_zip_eq_some]
      exact ⟨h1, h2⟩
    exact List.mem_of_getElem? this
section
variable {X : Cx} {pins : List (Addr × Obj)} {σ : L2.St} {H HZ : Hp} {s s1 : Shared} {ps : List Str}
theorem LamSP.has {scope : Scope} (L : LamSP X.env.scope scope ps X.N) (ok : X.Ok) : ∀ y ∈ scope.names, y.2 = .free → ∃ c, X.env.cells.lookup y.1 = some c := fun y hy e => by
  rcases L.free y hy e with k | k
  · exact ok.has _ (.inl k)
  · exact ok.has _ (.inr k)
theorem lam_startP {A : Around} {outer : List Env} {E : XK} {scope : Scope} {f c' : Addr} {h₁ : Heap} {tk : Nat} {us : List Value} {ws : List V} (I : Inv X pins σ H s) (L : LamSP X.env.scope scope ps X.N) (e0 : Env0 X.prog X.w X.K X.mg X.base A outer s1 HZ) (hd : A.handled = none)
    (un : Un (frs X.stack) [] H HZ s.heap s1.heap) (r : Vals ws us) (hl : ws.length = ps.length) (hns : h₁.Ns s1.heap.objs.size fun y => (ps.zip us).reverse.lookup y) (kp : ∀ b o, s1.heap.get? b = some o → h₁.get? b = some o) :
    Inv (lamCxP X ps A outer s1 HZ E scope f c') [] (ws.map some ++ σ) HZ { s1 with heap := h₁, toks := tk } := by
  have hfree := L.has I.ok
  have cm : ∀ {y c}, (cloFrom X.env.cells scope.names []).lookup y = some c → X.env.cells.lookup y = some c := fun {y c} e => by
    rcases cloFrom_mem (PySem.mem_of_lookup e) with hm | ⟨h1, h2⟩
    · cases hm
    · obtain ⟨c1, hc⟩ := hfree _ h1 rfl
      have hc : X.env.cells.lookup y = some c1 := hc
      have e2 : c = c1 := by
        rw [h2, hc] <;> rfl
      rw [e2]
      exact hc
  have look : ∀ {y}, scope.names.lookup y = some .free → ∃ c, (cloFrom X.env.cells scope.names []).lookup y = some c := fun {y} hk => by
    have hy : (y, NameKind.free) ∈ scope.names := PySem.mem_of_lookup hk
    exact mem_lookup (cloFrom_has (cells := X.env.cells) (acc := []) hy)
  have cellK : ∀ {c : Addr} {v : Option Value}, H c = none → s.heap.IsCell c v → h₁.IsCell c v := fun {c v} n ⟨o, ho, hd⟩ => by
    obtain ⟨sl, q⟩ := un.any ho n (by simp)
    exact ⟨_, kp _ _ q, hd⟩
  have noA : ∀ b : Addr, b ∉ (lamCxP X ps A outer s1 HZ E scope f c').ex := fun b z => absurd (show b ∈ ([] : List Addr) from z) (by simp)
  have hul : us.length = ps.length := by rw [← r.length]; exact hl
  refine ⟨⟨e0.mod, L.kind, rfl, rfl, Nat.le_refl _, fun y z c e1 e2 => I.ok.inj y z c (cm e1) (cm e2), fun y hy => ?_, fun y c z _ => (by have z : false = true := z; cases z), fun _ => hd, Around.frames_deeper e0.frames, .inr ⟨rfl, rfl⟩, fun b z => absurd z (noA b), e0.bs, e0.bsz, fun b _ _ => noA b,
      fun b z => absurd z (noA b), e0.funs, e0.frf⟩,
    rfl, e0.bare, Un.kept kp, ⟨_, hns, fun i y v e1 e2 e3 => ?_⟩, fun y c e => ?_, e0.hok.fresh (Nat.le_refl _), fun y c e => ?_, fun q hq => absurd (show q ∈ ([] : List (Addr × Obj)) ++ [] from hq) (by simp), e0.hok.kept kp, ?_⟩
  · have hy : scope.names.lookup y = some .cell ∨ scope.names.lookup y = some .free := hy
    rcases hy with hy | hy
    · exact absurd rfl (L.own _ (PySem.mem_of_lookup hy)).1
    · exact look hy
  · have e1 : (ps ++ X.N)[i]? = some y := e1
    by_cases hi : i < ps.length
    · rw [List.getElem?_append_left hi] at e1
      rw [List.getElem?_append_left (by simpa [hl] using hi), List.getElem?_map] at e2
      cases ew : ws[i]? with
      | none => rw [ew] at e2; cases e2
      | some w0 =>
        rw [ew] at e2
        cases e2
        obtain ⟨u, hu, rv⟩ := r.get ew
        exact ⟨u, rv, .inl ⟨L.par y (List.mem_of_getElem? e1), zip_rev_lookup L.nd hul i y u e1 hu⟩⟩
    · have hge : ps.length ≤ i := Nat.le_of_not_lt hi
      rw [List.getElem?_append_right hge] at e1
      rw [List.getElem?_append_right (by simpa [hl] using hge), List.length_map, hl] at e2
      have hyN : y ∈ X.N := List.mem_of_getElem? e1
      have e3 : Vis scope y := e3
      rcases e3 with k | k | k
      · exact absurd hyN (L.dis y ((L.own _ (PySem.mem_of_lookup k)).2 rfl))
      · exact absurd rfl (L.own _ (PySem.mem_of_lookup k)).1
      · obtain ⟨m, hn, hloc⟩ := I.loc
        have hvis : Vis X.env.scope y := (L.free _ (PySem.mem_of_lookup k) rfl).elim (fun k => .inr (.inl k)) (fun k => .inr (.inr k))
        obtain ⟨w', rr, q⟩ := hloc _ y v e1 e2 hvis
        obtain ⟨c2, h2⟩ := look k
        refine ⟨w', rr, .inr ⟨.inr k, c2, h2, ?_⟩⟩
        have c1 := cm h2
        rcases q with ⟨k', _⟩ | ⟨_, c3, e', z⟩
        · have k' : X.env.scope.names.lookup y = some .local := k'
          rcases L.free _ (PySem.mem_of_lookup k) rfl with k2 | k2 <;> rw [show X.env.scope.names.lookup y = _ from k2] at k' <;> cases k'
        · rw [c1] at e'
          cases e'
          exact cellK (I.freeC y _ c1) z
  · obtain ⟨w', z⟩ := I.cell y c (cm e)
    exact ⟨w', cellK (I.freeC y c (cm e)) z⟩
  · obtain ⟨v, o, ho, hd⟩ := I.cell y c (cm e)
    exact un.free c o ho (I.freeC y c (cm e)) (by simp)
  · show _ = (ps ++ X.N).length
    rw [List.length_append, List.length_append, List.length_map, hl, I.len]
/-- the token of a lambda, told of slots -/
def tokOf (f c : Addr) (q : Str) (σ : L2.St) (ρ : List Sl) : D := .fn f c q ((capt σ ρ).map (·.1)) ((capt σ ρ).map (·.2))
def wCallL (hc : D → Ct → Ct) (n : Nat) (wb : We) (w : Wa) : We := fun ρ μ Q E => w ρ μ (fun es μ => ∀ t, hc t (fun as μ Q E => as.length = n ∧ wb (as.map .sh ++ shOf ρ) μ Q E) (t :: es) μ Q E) E
theorem rel_lam {g : G} {B H' : Hp} {ρ : List Sl} {μ : Mu} {ws : List V} {es : List D} (b : Bs g B H') (m0 : MuR g B H' μ) (hlen : σ.length = ρ.length) (hsl : ∀ (i : Nat) (d : D), ρ[i]? = some (.sh d) → ∃ v, σ[i]? = some (some v)) (rt : RpA g B ((capt σ ρ).map (·.1)) ((capt σ ρ).map (·.2))) (ra : RpA g B ws es) : Rel g B H' (ws.map some ++ σ) (es.map .sh ++ shOf ρ) μ := by
  have key : ∀ (i : Nat) (s : Sl), (es.map Sl.sh ++ shOf ρ)[i]? = some s → s.isOw = false := fun i s h => by
    by_cases hi : i < es.length
    · rw [List.getElem?_append_left (by simpa using hi), List.getElem?_map, List.getElem?_eq_getElem hi] at h
      cases h; rfl
    · rw [List.getElem?_append_right (by simpa using hi)] at h
      rcases shOf_get h with rfl | ⟨d, rfl, _⟩ <;> rfl
  refine ⟨b.sub, m0, b.notb, b.tabs, by unfold shOf; simp [ra.len, hlen], fun i x s h1 h2 => ?_, fun i j s t n h1 h2 o1 o2 => ?_⟩
  · by_cases hi : i < es.length
    · rw [List.getElem?_append_left (by simpa using hi), List.getElem?_map] at h2
      rw [List.getElem?_append_left (by simpa [ra.len] using hi), List.getElem?_map] at h1
      obtain ⟨v, h3, h4⟩ := ra.get (List.getElem?_eq_getElem hi)
      rw [h3] at h1
      rw [List.getElem?_eq_getElem hi] at h2
      cases h1; cases h2
      exact h4
    · rw [List.getElem?_append_right (by simpa using hi), List.length_map] at h2
      rw [List.getElem?_append_right (by simpa [ra.len] using hi), List.length_map, ra.len] at h1
      rcases shOf_get h2 with rfl | ⟨d, rfl, h3⟩
      · cases x <;> exact True.intro
      · obtain ⟨v, h4⟩ := hsl _ d h3
        rw [h4] at h1
        cases h1
        exact capt_get rt _ v d h4 h3
  · rw [key i s h1] at o1
    cases o1
theorem lamAt_of {g : G} {k : Nat} {wb : We} {c' f : Addr} {params : Arguments} {body : Expr} {scope : Scope} {pm ctv : Value} {ρ : List Sl} {μ0 : Mu} {B : Hp} (I : Inv X pins σ H s) (rel : Rel g B H σ ρ μ0) (hK : X.K = g.K) (L : LamSP X.env.scope scope ps X.N) (hf : s.heap.get? f = some (PySem.W.kla_obj "<lambda>" (X.env.qual ++ "<lambda>") params body scope (cloFrom X.env.cells scope.names []) pm c' ctv)) (hfn : H f = none) (hfr : f ∉ frs X.stack)
    (hbind : ∀ (q : Str) (cl : List (Str × Addr)) (pm cv ctv : Value) (us : List Value), us.length = ps.length → bindArgs (PySem.W.kla_fn "<lambda>" q params body scope cl pm cv ctv) ⟨us, []⟩ = pure (ps.zip us))
    (hbody : ∀ (A : Around) (outer : List Env) (s : Shared) (H : Hp) (E : XK) (f c' : Addr), Room k (A.deeper (LamX.lamEnv X scope s.heap.objs.size f c')) → DE g (lamCxP X ps A outer s H E scope f c') body wb) :
    LamAt X.prog X.w X.K X.mg X.base g (k + 1) f (tokOf f c' (X.env.qual ++ "<lambda>") σ ρ) (fun as μ Q E => as.length = ps.length ∧ wb (as.map .sh ++ shOf ρ) μ Q E) X.stack s H := by
  have of1 : ∀ {outer' s' H'}, Later X.stack s H outer' s' H' → s'.heap.get? f = some (PySem.W.kla_obj "<lambda>" (X.env.qual ++ "<lambda>") params body scope (cloFrom X.env.cells scope.names []) pm c' ctv) := fun l => l.un.keep f _ hf hfn hfr (by simp)
  refine ⟨fun outer' s' H' l => ⟨_, _, _, _, of1 l⟩, fun A outer' s' H' B' us ws es μ Q0 E0 Q E l hr hg e0 r b m0 rt ra hc hq he => ?_⟩
  obtain ⟨hln, hc⟩ := hc
  unfold tokOf at rt
  cases rt with
  | fn hcode rcap =>
    have hus : us.length = ps.length := by rw [← r.length, ra.len]; exact hln
    obtain ⟨⟨oc, vs, t, hoc, hdc, hvc⟩, _, _⟩ := e0.hok c' _ (b.sub.at hcode)
    have lim : s'.heap.NoLimit := e0.mod.nolimit.keeps fun b o e => (e0.bs b o e).1
    refine PySem.W.kla_callFunE hr.depth (of1 l) rfl L.co L.gen rfl ⟨c', oc, vs, t, rfl, hoc, hdc, hvc⟩ ?_
    rw [hbind _ _ _ _ _ us hus]
    refine wpAny_pure (wpAny_newFunctionEnv (fun y hy => (L.own y hy).1) (fun y hy => L.par y.1 (List.of_mem_zip hy).1) (fun h₁ hns hsb => ⟨lim.fresh _ hsb, ?_⟩) L.kind)
    show codeAny _ _ (.expr body (LamX.lamEnv X scope s'.heap.objs.size f c')) _ _
    have kp : ∀ b o, s'.heap.get? b = some o → h₁.get? b = some o := fun b o e => hsb.extBut b o (Nat.ne_of_lt (Heap.lt_size e)) (Heap.get?_push_of_some _ e)
    have J := lam_startP (E := E) (scope := scope) (f := f) (c' := c') (h₁ := h₁) (tk := s'.toks + (ps.zip us).length) I L e0 hr.hd l.un r (by rw [ra.len]; exact hln) hns kp
    have hr' := hr.deeper (LamX.lamEnv X scope s'.heap.objs.size f c')
    have gd : Gd g (lamCxP X ps A outer' s' H' E scope f c') := ⟨hK, hg, by have := hr'.un; show (A.deeper _).units + 128 < cLine; omega⟩
    have hb := (hbody A outer' s' H' E f c' hr').run gd (fun cls d _ H => E cls d H) (takes_of rfl rfl rfl rfl)
    refine PySem.W.kla_codeExpr (wpAny_mono (hb.run [] _ _ H' Q J ⟨B', es.map .sh ++ shOf ρ, μ, Q0, E0, rel_lam b m0 rel.len (fun i d h => let ⟨v, h1, _⟩ := rel.at h; ⟨v, h1⟩) rcap ra, hc, hq, fun c d _ h cls dd B2 H2 n x => he c d _ h cls dd B2 H2 n x⟩) (fun v s2 hq => ?_) fun e s2 hq => hq)
    obtain ⟨w', H2, J', rv, q⟩ := hq
    exact ⟨w', H2, J'.os, J'.bare, J'.base, J'.hok, rv, q⟩
variable {g : G} {k kl : Nat} {fa : Addr} {hc : D → Ct → Ct} {x : Str} {p lpos pos : Pos} {c P : Addr} {params : Arguments} {body : Expr} {scope : Scope} {es : List Expr} {w : Wa} {wb : We}
/-- x(lambda ..: body, e, ..) -/
theorem de_callL (F : DFnL X.prog X.w X.K X.mg X.base g k (kl + 1) fa hc) (hr : Room k X.A) (hg : Gl X x) (hm : X.mg x = some (.ref fa)) (hk : PySem.W.keepIn X.K (.ref fa) = true)
    (TB : LamX.TabB X.base X.mg c P) (hcode : X.env.code = .ref c) (hmT : (P, X.env.qual ++ "<lambda>") ∈ g.T) (hu : ∀ p ∈ g.T, p.1 = P → p.2 = X.env.qual ++ "<lambda>") (L : LamSP X.env.scope scope ps X.N) (hdef : defaultsOf params X.env = ([], []))
    (hbind : ∀ (q : Str) (cl : List (Str × Addr)) (pm cv ctv : Value) (us : List Value), us.length = ps.length → bindArgs (PySem.W.kla_fn "<lambda>" q params body scope cl pm cv ctv) ⟨us, []⟩ = pure (ps.zip us))
    (hbody : ∀ (A : Around) (outer : List Env) (s : Shared) (H : Hp) (E : XK) (f c' : Addr), Room kl (A.deeper (LamX.lamEnv X scope s.heap.objs.size f c')) → DE g (lamCxP X ps A outer s H E scope f c') body wb) (ha : DA g X es w)
    (hdb : (x == ("__debug__" : Str)) = false := by decide) (he : starEach (.Lambda params body scope lpos :: es) X.env = (false, eval (.Lambda params body scope lpos) X.env) :: starEach es X.env := by rfl) (hpl : (backTo pos (starEach es X.env)).any (·.1) = false := by rfl) :
    DE g X (.Call (.Name x p) (.Lambda params body scope lpos :: es) [] pos) (wCallL hc ps.length wb w) := ⟨fun gd W tk => ⟨fun pins s σ H Q I h => by
  obtain ⟨B, ρ, μ, Q0, E0, rel, hw, hq, hx⟩ := h
  refine wpAny_Call_Name_kw (ld_glob I hg hm ?_ hdb)
  refine PySem.W.callWith_K (h₀ := X.base) I.ok.mod.kin hk ?_ he hpl
  rw [he]
  show wpAny _ _ (spliced ((false, eval (.Lambda params body scope lpos) X.env) :: backTo pos (starEach es X.env))) _ _ s
  refine Calls.spliced_cons (LamX.lam_make2 I TB hcode hmT hu rel.tabs hdef (L.has I.ok) fun f c' pm' ctv H1 s1 I1 eN T1 hf hfn hfr hco => ?_)
  have hm : ¬ Mk1 (LamX.CodeO c' (X.env.qual ++ "<lambda>")) := by rintro ⟨_, z⟩; unfold LamX.CodeO at z; cases z
  have same : ∀ o, B c' = some o → ¬ Mk1 o → o = LamX.CodeO c' (X.env.qual ++ "<lambda>") := fun o e nm => by
    have e2 := eN _ _ (rel.sub.co _ _ e nm) (fun ps z => rel.notb _ ps (by rw [e, z]))
    rw [hco] at e2
    exact (Option.some.inj e2).symm
  have nmk : ∀ k, B c' ≠ some (.own k) := fun k z => by
    obtain ⟨m, _, h2⟩ := rel.mu.at_ _ _ z
    have no : ∀ u, H c' = some u → Ownd u → False := fun u e ow => by
      have e2 := eN _ _ e ow.ntb
      rw [hco] at e2
      have e3 := Option.some.inj e2
      unfold LamX.CodeO at e3
      subst e3
      rcases ow with ⟨_, h⟩ | ⟨_, h⟩ | ⟨_, _, _, h⟩ <;> cases h
    cases m with
    | pt k => obtain ⟨_, _, _, e, _⟩ := h2; exact no _ e own_lst
    | ob c xs => obtain ⟨_, _, e, _⟩ := h2; exact no _ e own_ins
    | ls ds => obtain ⟨_, e, _⟩ := h2; exact no _ e own_lst
    | dc ks ds => obtain ⟨_, e, _⟩ := h2; exact no _ e own_dK
  have upB : Up B (upd B c' (LamX.CodeO c' (X.env.qual ++ "<lambda>"))) := fun a o e => by
    by_cases z : a = c'
    · subst z
      rw [upd_same, same o e (by rintro ⟨k, rfl⟩; exact nmk k e)]
    · rw [upd_ne z]; exact e
  have mks : ∀ a k, upd B c' (LamX.CodeO c' (X.env.qual ++ "<lambda>")) a = some (.own k) → B a = some (.own k) := fun a k e => by
    by_cases z : a = c'
    · subst z
      rw [upd_same] at e; exact absurd ⟨k, Option.some.inj e⟩ hm
    · rw [upd_ne z] at e; exact e
  have nx1 : Nm g B H (upd B c' (LamX.CodeO c' (X.env.qual ++ "<lambda>"))) H1 μ := {
    keep := fun a o e n _ => eN a o e n
    up := upB
    sub := ⟨fun a o e nm => by
      by_cases z : a = c'
      · subst z
        rw [upd_same] at e; cases e; exact hco
      · rw [upd_ne z] at e
        exact eN _ _ (rel.sub.co _ _ e nm) (fun ps z => rel.notb _ ps (by rw [e, z])), fun a k e => by
      obtain ⟨u, e1, e2⟩ := rel.sub.mkd a k (mks a k e)
      exact ⟨u, eN _ _ e1 e2, e2⟩⟩
    notb := fun a ps e => by
      by_cases z : a = c'
      · subst z
        rw [upd_same] at e
        exact LamX.codeO_ne ps (Option.some.inj e)
      · rw [upd_ne z] at e; exact rel.notb a ps e
    old := fun a o e ow q => by
      have z : a ≠ c' := fun z => by
        subst z
        have e2 := eN _ _ e ow.ntb
        rw [hco] at e2
        have e3 := Option.some.inj e2
        unfold LamX.CodeO at e3
        subst e3
        rcases ow with ⟨_, h⟩ | ⟨_, h⟩ | ⟨_, _, _, h⟩ <;> cases h
      rw [upd_ne z]; exact q
    nc := fun a o k e n q z => by rw [mks a k z] at q; cases q
    tabs := T1
    mu := ⟨fun a k e => let ⟨m, h1, h2⟩ := rel.mu.at_ a k (mks a k e); ⟨m, h1, h2.nx (n := k) (fun o e n => eN a o e n) upB⟩, fun a b k h1 h2 => rel.mu.uniq a b k (mks a k h1) (mks b k h2)⟩ }
  have I1p : Inv X ((f, PySem.W.kla_obj "<lambda>" (X.env.qual ++ "<lambda>") params body scope (cloFrom X.env.cells scope.names []) pm' c' ctv) :: pins) σ H1 s1 := I1.pins_of fun q hq' => by
    rcases List.mem_cons.mp hq' with e | e
    · subst e
      refine ⟨hf, hfn, fun z => ?_, fun z => hfr ?_, fun v z => by cases z⟩
      · obtain ⟨m, ⟨o, es', ep, ho, hd, _⟩, _⟩ := I1.loc
        have z : f = X.env.locals := z
        rw [← z, hf] at ho
        cases ho
        cases hd
      · rcases I1.ok.stk with e | ⟨e, _⟩
        · rw [e]; exact z
        · rw [e, show X.env :: X.outer = [X.env] ++ X.outer from rfl, frs_app]; exact List.mem_append_right _ z
    · exact I1.pin q (List.mem_append_right _ e)
  refine thn ((ha.run gd W tk).run pos _ s1 σ H1 (fun vs H2 => ∃ ds B2 μ2, Nm g (upd B c' (LamX.CodeO c' (X.env.qual ++ "<lambda>"))) H1 B2 H2 μ2 ∧ RpA g B2 vs ds ∧ ∀ t, hc t (fun as μ Q E => as.length = ps.length ∧ wb (as.map .sh ++ shOf ρ) μ Q E) (t :: ds) μ2 Q0 E0) I1p (tDA.go (rel.nm nx1) hw (hx.nx nx1) fun ds μ2 vs B1 H1 k n r => ⟨ds, B1, μ2, n, r, k⟩)) fun us s2 ⟨vs, H2, I2, r, ds, B2, μ2, n2, ra, k2⟩ => ⟨I2.kIn, ?_⟩
  have n := nx1.trans n2
  have hf2 := ClX.pin_at I2
  have hfn2 := ClX.pin_un I2
  have I2' := ClX.unpin I2
  have rel2 := rel.nm n
  have lam := lamAt_of (k := kl) (wb := wb) I2' rel2 gd.k L hf2 hfn2 hfr hbind hbody
  have hcode2 : B2 c' = some (LamX.CodeO c' (X.env.qual ++ "<lambda>")) := n2.up _ _ upd_same
  have rt : Rp g B2 (.ref f) (tokOf f c' (X.env.qual ++ "<lambda>") σ ρ) := .fn hcode2 (capt_rp fun i v d h1 h2 => by
    obtain ⟨v', h3, h4⟩ := rel2.at h2
    rw [h1] at h3
    cases h3
    exact h4)
  refine wpAny_call (codeAny_mono (F.run f c' (X.env.qual ++ "<lambda>") _ _ _ X.A X.stack s2 H2 B2 (.ref f :: us) (.ref f :: vs) (tokOf f c' (X.env.qual ++ "<lambda>") σ ρ :: ds) μ2 Q0 E0 Q (WE W σ) hr gd.gd I2'.env0 (.cons rfl r) n2.bs n2.mu (.cons rt ra) lam (k2 _)
    (fun d _ h v B' H' n' r' => hq d _ h v B' H' (n.trans n') r') fun c d _ h cls dd B' H' n' x => hx c d _ h cls dd B' H' (n.trans n') x) fun r s' hq' => ?_)
  cases r with
  | error e => exact passAt tk σ pins H2 s2 e s' I2' hq'
  | ok fl =>
    cases fl with
    | ret u => exact I2'.after hq'
    | next => exact False.elim hq'
    | brk => exact False.elim hq'
    | cont => exact False.elim hq'⟩⟩
end
end Dk
namespace Dk
open PySem PySem.Spec PyProof.Rows L2

/-! ### errors that are caught and held -/
def excw (a : Addr) (cls : Value) (d : Option Addr) : HO := .ext fun h => ∃ (o : Obj) (vs : Array Value), h.get? a = some o ∧ o.cls = cls ∧ o.dict = d ∧ o.data = .fields vs
theorem excw_ok {P : Program} {w : World} {H : Hp} {h : Heap} {a : Addr} {cls : Value} {d : Option Addr} {o : Obj} {vs : Array Value} (e : h.get? a = some o) (z : Zc cls d o) (hd : o.data = .fields vs) : ObjOk P w H h a (excw a cls d) :=
  ⟨⟨o, vs, e, z.1, z.2, hd⟩, ⟨o, e⟩, fun _ _ ⟨o, vs, e, r⟩ k => ⟨o, vs, k o e, r⟩⟩
section
variable {X : Cx} {pins : List (Addr × Obj)} {σ : L2.St} {H : Hp} {s : Shared}
/-- an object of ours is watched from now on -/
theorem track {a : Addr} {o : HO} {ob : Obj} {vs : Array Value} (I : Inv X pins σ H s) (h0 : X.s_0.heap.get? a = none) (na : H a = none) (nL : a ≠ X.env.locals) (he : s.heap.get? a = some ob) (hd : ob.data = .fields vs) (hp : ∀ p ∈ X.pn ++ pins, p.1 ≠ a) (new : ObjOk X.prog X.w (upd H a o) s.heap a o) : Inv X pins σ (upd H a o) s where
  ok := I.ok
  os := I.os
  bare := I.bare
  base := {
    keep := I.base.keep
    slot := I.base.slot
    free := fun b ob e n hx => by
      have z : b ≠ a := fun z => by subst z; rw [h0] at e; cases e
      rw [upd_ne z]; exact I.base.free b ob e n hx
    there := I.base.there
    tups := fun b xs e => by
      have q := I.base.tups b xs e
      rw [upd_ne (ne_of_none q na)]; exact q
    frzs := fun b ob u e => by
      have q := I.base.frzs b ob u e
      rw [upd_ne (ne_of_none q na)]; exact q
    tbls := fun b ps e => by
      obtain ⟨m, q⟩ := I.base.tbls b ps e
      exact ⟨m, by rw [upd_ne (ne_of_none q na)]; exact q⟩ }
  loc := I.loc
  cell := I.cell
  free := by rw [upd_ne (Ne.symm nL)]; exact I.free
  freeC := fun y c e => by
    have z : c ≠ a := fun z => by
      obtain ⟨v, o', ho, hd'⟩ := I.cell y c e
      rw [z, he] at ho
      cases ho
      rw [hd] at hd'; cases hd'
    rw [upd_ne z]; exact I.freeC y c e
  pin := fun p hp' => by
    obtain ⟨e, n, r⟩ := I.pin p hp'
    exact ⟨e, by rw [upd_ne (hp p hp')]; exact n, r⟩
  hok := fun b u e => by
    by_cases z : b = a
    · subst z
      rw [upd_same] at e; cases e
      exact new
    · rw [upd_ne z] at e
      exact (I.hok b u e).stay (fun _ _ _ q => q) (fun c q => by rw [upd_ne (ne_of_none q na)]; exact q) fun c xs q => by rw [upd_ne (ne_of_none q na)]; exact q
  len := I.len
theorem suite2 {a : Addr} (I : Inv X pins σ H s) : Inv (X.suite a (X.pn ++ pins)) [] σ H s :=
  ⟨I.ok.suite _ _, I.os, I.bare, I.base, I.loc, I.cell, I.free, I.freeC, fun p hp => I.pin p (by rw [List.append_nil] at hp; exact hp), I.hok, I.len⟩
theorem unsuite2 {a : Addr} {pn' : List (Addr × Obj)} (I : Inv (X.suite a (X.pn ++ pins)) pn' σ H s) (ok : X.Ok) : Inv X pins σ H s :=
  ⟨ok, I.os, I.bare, I.base, I.loc, I.cell, I.free, I.freeC, fun p hp => I.pin p (List.mem_append_left _ hp), I.hok, I.len⟩
end
/-- what is wished of an error that the clause may take: the suite finds it held -/
def wTell (K : PySem.W.Frag) (c : Value) (i : Nat) (ts : TS) (Wout : WX) (D : Ends) : WX := fun cls d σ H =>
  ∃ b, PySem.W.exmOne K cls c = some b ∧ (b = true → ∀ a, H a = none → ts { nx := fun σ' H' => D.nx (σ'.set i none) H', rt := D.rt, bk := fun σ' H' => D.bk (σ'.set i none) H', ct := fun σ' H' => D.ct (σ'.set i none) H' } (σ.set i (some (.ref a))) (upd H a (excw a cls d))) ∧
    (b = false → Wout cls d σ H)
section
variable {X : Cx} {x n : Str} {c : Value} {i : Nat} {body suite : List Stmt} {b₀ : Stmt} {np pos pos' : Pos} {tb : WX → TS} {ts : TS} {Wout : WX}
theorem ps_try_tell (hs : X.stack = X.env :: X.outer) (hf : X.env.frame = some X.env.locals) (hN : X.N.Nodup) (hi : X.N[i]? = some n) (hln : X.env.kindOf n = some .local) (hc : Names X x c) (tk : Takes X Wout) (hex : X.ex = [])
    (hb : ∀ (W : WX) (pn : List (Addr × Obj)) (xe : Value → Shared → Prop), Takes (X.tr pn xe) W → PassesOwn (model X.prog X.w) X.A X.env xe → PSs (X.tr pn xe) body (tb W))
    (hsu : ∀ (a : Addr) (pn : List (Addr × Obj)), PSs (X.suite a pn) (b₀ :: suite) ts) :
    PS X (.Try body [.ExceptHandler (some (.Name x np)) (some n) (b₀ :: suite) pos'] [] [] pos) (fun D σ H => tb (wTell X.K c i ts Wout D) D σ H) := by
  refine ⟨fun pins s σ H D I h => wpAny_Try_except ?_⟩
  have ok := I.ok
  have hfr : X.A.frames = some (X.env :: X.outer) := by rw [ok.frames, hs]
  refine wpAny_mono ((hb (wTell X.K c i ts Wout D) (X.pn ++ pins) (fun e s₁ => wpAny (model X.prog X.w) X.A (noteFrame e X.env) (fun _ s₂ => wpAny (model X.prog X.w) X.A (setFlight e none) (fun _ s₃ =>
    wpAny (model X.prog X.w) X.A (handleBy e X.env [.ExceptHandler (some (.Name x np)) (some n) (b₀ :: suite) pos']) (SP X pins D) X.xe s₃) X.xe s₂) X.xe s₁) (fun u s' xx => ?_) PassesOwn.looking).run [] s σ H D (I.toTry _) h) (fun f s1 hsp => ?_) (fun e s1 he => he)
  · obtain ⟨a, B, sI, pins', σ', H', cls, d, rfl, J', nb, up, sky, na, os, ag, b, hb1, hyes, hno⟩ := xx
    have J : Inv X pins σ' H' sI := J'.ofTry ok
    have bna : B.get? a = none := by rcases sky with z | z | z <;> exact z.2.1
    have sky' : Sky B (X.env :: X.outer) a (Zc cls d) X.env.locals s'.heap := by rw [← hs]; exact sky
    show wpAny (model X.prog X.w) X.A (noteFrame (.ref a) X.env) _ _ _
    refine Sky.land Zc.steady hfr hf sky' fun h3 fl3 up3 => ?_
    have J3 : Inv X pins σ' H' { s' with heap := h3 } := J.landed nb fl3.1 (up.trans up3) os ag
    obtain ⟨oe3, vs3, he3, hz3, hd3⟩ := fl3.there
    have nfr : a ∉ frs (X.env :: X.outer) := fun hm => by
      obtain ⟨_, o', e', hnf⟩ := fl3.2.2.1.mem hm
      rw [he3] at e'; cases e'
      exact hnf _ hd3
    have nL : a ≠ X.env.locals := fun z => nfr (List.mem_filterMap.mpr ⟨X.env, List.mem_cons_self, by rw [hf, z]⟩)
    -- it is no object of the time ahead
    have nsI : sI.heap.get? a = none := by
      cases z : sI.heap.get? a with
      | none => rfl
      | some o =>
        have := nb a o z (by rw [hs]; exact nfr)
        rw [bna] at this; cases this
    have n0 : X.s_0.heap.get? a = none := by
      cases z : X.s_0.heap.get? a with
      | none => rfl
      | some o =>
        obtain ⟨o', e'⟩ := J.base.there a o z (by rw [hex]; simp)
        rw [nsI] at e'; cases e'
    have npin : ∀ p ∈ X.pn ++ pins, p.1 ≠ a := fun p hp z => by
      have e := (J.pin p hp).1
      rw [z, nsI] at e; cases e
    refine wpAny_handleBy_cons (codeAny_handlers_test ?_) (by intro q; cases q)
    have LT : PySem.W.Looks (model X.prog X.w) h3 (typeOf (.ref a)) cls := fun A Q E s k q => wpAny_typeOf_ref (k _ _ he3) (by rw [hz3.1]; exact q)
    have LM := PySem.W.exm_one (M := model X.prog X.w) (J3.kIn) LT hb1
    have S3 := suite2 (a := a) J3
    have test : ∀ {Q : Value → Shared → Prop} {E : Value → Shared → Prop}, Q c { s' with heap := h3 } → wpAny (model X.prog X.w) (X.A.mark (some (.ref a))) (eval (.Name x np) X.env) Q E { s' with heap := h3 } := fun {Q E} q => by
      rcases hc with ⟨hg, hdbg, hm | ⟨hm, hv, hnn⟩⟩
      · exact ld_glob (X := X.suite a (X.pn ++ pins)) S3 hg hm q hdbg
      · exact ld_blt (X := X.suite a (X.pn ++ pins)) S3 hg hm hv q hnn hdbg
    refine test (LM.here ?_)
    cases b with
    | true =>
      refine codeAny_handlers_suite_as (HandSPX.lands_againZ fl3 fun h4 fl4 up4 => ?_)
      have J4 : Inv X pins σ' H' { s' with heap := h4 } := J.landed nb fl4.1 ((up.trans up3).trans up4) os ag
      obtain ⟨oe4, vs4, he4, hz4, hd4⟩ := fl4.there
      have J5 : Inv X pins σ' (upd H' a (excw a cls d)) { s' with heap := h4 } := track J4 n0 na nL he4 hd4 npin (excw_ok he4 hz4 hd4)
      refine store_ok (X := X.suite a (X.pn ++ pins)) (v := .ref a) (suite2 (a := a) J5) hN hi (.inl hln) rfl (fun s5 S5 => ?_) (.inr hln)
      refine wpAny_mono ((hsu a (X.pn ++ pins)).run [] s5 _ _ _ S5 (hyes rfl a na)) (fun f s6 hsp => ?_) (fun _ _ z => False.elim z)
      have fin : ∀ {σ6 : L2.St} {H6 : Hp} {Q : Shared → Prop}, Inv (X.suite a (X.pn ++ pins)) [] σ6 H6 s6 → (∀ s7, Inv X pins (σ6.set i none) H6 s7 → Q s7) →
          wpAny (model X.prog X.w) X.A (do bindName X.env n .none; unbindBehindTheSuite X.env n pos') (fun _ s7 => Q s7) X.xe s6 := fun S6 hq => gone_ok (unsuite2 S6 ok) hN hi hln hq
      cases f with
      | ret u =>
        obtain ⟨v6, σ6, H6, S6, r6, q6⟩ := hsp
        exact fin S6 fun s7 J7 => ⟨v6, _, H6, J7, r6, q6⟩
      | next =>
        obtain ⟨σ6, H6, S6, q6⟩ := hsp
        exact fin S6 fun s7 J7 => ⟨_, H6, J7, q6⟩
      | brk =>
        obtain ⟨σ6, H6, S6, q6⟩ := hsp
        exact fin S6 fun s7 J7 => ⟨_, H6, J7, q6⟩
      | cont =>
        obtain ⟨σ6, H6, S6, q6⟩ := hsp
        exact fin S6 fun s7 J7 => ⟨_, H6, J7, q6⟩
    | false =>
      show wpAny _ X.A (handleBy (.ref a) X.env []) _ _ _
      refine wpAny_handleBy_nil ?_
      obtain ⟨k1, k2, k3, oe, vs, T, oT, ts', he, hz, hd, h1, hr⟩ := id fl3
      unfold PySem.passOn
      refine wpAny_bind (wpAny_field he hd h1 ?_)
      rw [if_neg (show ¬ ((Value.ref T == Value.none) = true) from by simp)]
      have away : wpAny (model X.prog X.w) X.A (setFlight (.ref a) X.env.frame) (fun _ s4 => wpAny (model X.prog X.w) X.A (throw (.ref a) : Sem Flow) (SP X pins D) X.xe s4) X.xe { s' with heap := h3 } := by
        rw [hf]
        exact HandSPX.setFlight_upZ fl3 fun h4 hh4 up4 => wpAny_throw (tk _ _ ⟨a, B, sI, pins, σ', H', cls, d, rfl, J, nb, (up.trans up3).trans up4, .inr (.inr (by rw [hs]; exact hh4)), na, os, ag, hno rfl⟩)
      first
        | exact wpAny_bind (wpAny_pure (wpAny_bind away))
        | exact wpAny_bind away
  · cases f with
    | next =>
      obtain ⟨σ', H', J', q⟩ := hsp
      exact wpAny_execs_nil ⟨σ', H', J'.ofTry ok, q⟩
    | ret u =>
      obtain ⟨v, σ', H', J', r, q⟩ := hsp
      exact ⟨v, σ', H', J'.ofTry ok, r, q⟩
    | brk =>
      obtain ⟨σ', H', J', q⟩ := hsp
      exact ⟨σ', H', J'.ofTry ok, q⟩
    | cont =>
      obtain ⟨σ', H', J', q⟩ := hsp
      exact ⟨σ', H', J'.ofTry ok, q⟩
end
end Dk
namespace Dk
open PySem PySem.Spec PyProof.Rows L2

def sTryAs (i : Nat) (cat : Nat → Option Bool) (wb ws : Ws) : Ws := fun D0 ρ μ => wb { D0 with ex := fun ρ' c d μ => ∃ b, cat c = some b ∧ (b = true → ws { nx := fun ρ2 μ => D0.nx (ρ2.set i .no) μ, rt := D0.rt, ex := fun _ => noE, bk := fun ρ2 μ => D0.bk (ρ2.set i .no) μ, ct := fun ρ2 μ => D0.ct (ρ2.set i .no) μ } (ρ'.set i (.sh (.exc c d))) μ) ∧ (b = false → D0.ex ρ' c d μ) } ρ μ
theorem takesF {X : Cx} : Takes X WX0 := fun _ _ x => by
  obtain ⟨_, _, _, _, _, _, _, _, _, _, _, _, _, _, _, _, z⟩ := x
  exact z.elim
theorem no_ext {φ : Heap → Prop} : ∀ ps, HO.ext φ ≠ .tbl ps := fun ps z => by cases z
section
variable {g : G} {X : Cx} {x n : Str} {cv : Value} {cat : Nat → Option Bool} {body suite : List Stmt} {b₀ : Stmt} {np pos pos' : Pos} {wb ws : Ws}
theorem ds_tryAs (i : Nat) (hs : X.stack = X.env :: X.outer) (hf : X.env.frame = some X.env.locals) (hN : X.N.Nodup) (hc : Names X x cv) (hex : X.ex = []) (hcat : ∀ c b, cat c = some b → PySem.W.exmOne X.K (.ref (g.cls c)) cv = some b)
    (hb : ∀ pn xe, DSs g (X.tr pn xe) body wb) (hsu : ∀ a pn, DSs g (X.suite a pn) (b₀ :: suite) ws) (hi : X.N[i]? = some n := by rfl) (hln : X.env.kindOf n = some .local := by rfl) :
    DS g X (.Try body [.ExceptHandler (some (.Name x np)) (some n) (b₀ :: suite) pos'] [] [] pos) (sTryAs i cat wb ws) := ⟨fun gs W tk => by
  refine PSw (ps_try_tell (tb := fun W => tS g W wb) (ts := tS g WX0 ws) (Wout := W) hs hf hN hi hln hc tk hex (fun W' pn xe tk' po => (hb pn xe).run ⟨⟨gs.k, gs.gd, gs.un⟩, po⟩ W' tk') fun a pn => (hsu a pn).run ⟨⟨gs.k, gs.gd, gs.un⟩, PassesOwn.never⟩ WX0 takesF) fun Dn σ H h => ?_
  obtain ⟨Φ, B, ρ, μ, D0, s, hw, l⟩ := h
  refine ⟨Φ, B, ρ, μ, _, s, hw, ⟨l.nx, l.rt, l.bk, l.ct, fun ρ' c d μ1 σ' B' H' cls dd h' s' x => ?_⟩⟩
  obtain ⟨b, e1, h1, h2⟩ := h'
  obtain ⟨dx, v, rfl, rfl, hdx, rv⟩ := id x
  refine ⟨b, hcat c b e1, fun hb a na => ?_, fun hb => l.ex ρ' c d μ1 σ' B' H' _ _ (h2 hb) s' x⟩
  have n1 := s'.rel.bs.new na (no_ext (φ := fun h => ∃ (o : Obj) (vs : Array Value), h.get? a = some o ∧ o.cls = .ref (g.cls c) ∧ o.dict = some dx ∧ o.data = .fields vs))
  have r1 : Rp g (upd B' a (excw a (.ref (g.cls c)) (some dx))) (.ref a) (.exc c d) := .exc (dx := dx) upd_same (n1.up _ _ hdx) (rv.up n1.up)
  exact ⟨Φ, _, _, μ1, _, (s'.npt n1).set r1, h1 hb, ⟨fun ρ2 μ2 σ2 B2 H2 h2 s2 => l.nx _ _ _ B2 H2 h2 s2.drop, l.rt, fun ρ2 μ2 σ2 B2 H2 h2 s2 => l.bk _ _ _ B2 H2 h2 s2.drop, fun ρ2 μ2 σ2 B2 H2 h2 s2 => l.ct _ _ _ B2 H2 h2 s2.drop, fun _ _ _ _ _ _ _ _ _ h => h.elim⟩⟩⟩
end
end Dk
namespace Dk
open PySem PySem.Spec PyProof.Rows L2

/-! ### errors that are held: what isinstance asks, their value -/
section
open PySem.W PySem.Calls
variable {prog : Program} {w : World} {A : Around} {E : Value → Shared → Prop} {s : Shared} {K : Frag} {x D : Addr} {ox od : Obj}
/-- x.__class__, x an error with its dict -/
theorem cls_of_err {Q : Option Value → Shared → Prop} (C : ExcC K D) (X : K.In s.heap) (I : InstAt s.heap x ox D (some od)) (h : Q (some (.ref D)) { s with toks := s.toks + 1 }) : wpAny (model prog w) A (getAttr? (.ref x) "__class__") Q E s := by
  have hf : findObj K D (some od) "__class__" = some (.bind (.builtin "getset_descriptor.__get__") (.builtin "object.__class__")) := findObj_data (by obtain ⟨cd, hc, _⟩ := any_some C.hd; rw [hc]; rfl) C.ha C.hn C.ht
  obtain ⟨hp, g, d, t, os⟩ := s
  have T0 := I.type (M := model prog w)
  have sub : Looks (model prog w) hp (isInstance (.ref x) (.type "BaseException")) true := T0.andThen (looks_subIn X C.hs)
  have n1 : (Value.builtin "BaseException.__getattribute__" == Value.builtin "object.__getattribute__") = false := by decide +kernel
  have n2 : (onTheHeap (Value.ref D) && Value.builtin "BaseException.__getattribute__" == Value.builtin "object.__getattribute__") = false := by rw [n1]; rfl
  unfold getAttr? getAttrBy? getAttrBy
  refine wpAny_bind (wpAny_mkText (wpAny_bind (wpAny_attempt (wpAny_holding (wpAny_bind (T0.at (wpAny_bind ((looks_findIn (M := model prog w) X C.hg).at ?_))))))))
  show wpAny _ _ (if (onTheHeap (Value.ref D) && Value.builtin "BaseException.__getattribute__" == Value.builtin "object.__getattribute__") = true then _ else _) _ _ _
  rw [n2, if_neg Bool.false_ne_true]
  unfold getAttrByItsOwn hookBefore
  refine wpAny_bind ?_
  rw [if_pos (show onTheHeap (Value.ref D) = true from rfl)]
  refine (looks_findIn (M := model prog w) X C.hk).at (wpAny_bind (wpAny_attempt (wpAny_holding ?_)))
  unfold callGetattribute
  rw [show (false && onTheHeap (Value.builtin "BaseException.__getattribute__")) = false from rfl, if_neg Bool.false_ne_true]
  unfold boundAndCalled
  rw [PySem.F.excAttr_ValueError.ga.bind (.ref x)]
  refine wpAny_bind (wpAny_pure ?_)
  show wpAny _ _ (call (.builtin "BaseException.__getattribute__") [.ref x, .str "__class__" t]) _ _ _
  refine wpAny_call (codeAny_call_builtin PySem.F.excAttr_ValueError.ga.plain PySem.F.entry_bexc_ga (@check_slot (model prog w) _ _ ⟨hp, g, d, t + 1, os⟩ "BaseException.__getattribute__" "BaseException" "__getattribute__" (.ref x) [.str "__class__" t] [] _ (by decide +kernel) (by decide +kernel) sub (PySem.F.args_bexc_ga (.ref x) (.str "__class__" t)) ?_))
  unfold Builtin.«object.__getattribute__»
  refine wpAny_bind (wpAny_of_eq (a := ((Value.ref x : Value), [Value.str "__class__" t])) (by first | rfl | (simp only [slotArgs]; rfl)) ?_)
  refine wpAny_bind (wpAny_pure (wpAny_bind (T0.at (wpAny_bind ((looks_find (M := model prog w) X I hf).at ?_)))))
  show wpAny _ _ (holding [Value.builtin "object.__class__"] (call (.builtin "getset_descriptor.__get__") [.builtin "object.__class__", .ref x, .ref D]) >>= ret) _ _ _
  refine wpAny_bind (wpAny_holding (wpAny_call (class_get (s := ⟨hp, g, d, t + 1, os⟩) (ox := ox) (od := some od) X I C.hm (wpAny_pure ?_))))
  show wpAny _ _ (handedOut (.ref D)) _ _ _
  rw [handedOut_of (v := .ref D) rfl]
  first
    | exact wpAny_pure (wpAny_pure h)
    | exact wpAny_pure h
    | exact wpAny_pure (wpAny_bind (wpAny_pure (wpAny_pure h)))
theorem kit_err (C : ExcC K D) : KitX K (.ref x) (.ref D) (fun h => InstAt h x ox D (some od)) := by
  have K0 := handS_kitx_exc (x := x) (ox := ox) C.hg C.hk C.hs C.hd C.ha C.hn C.ht C.hm
  refine ⟨fun _ _ _ I => I.type, fun M h X I => ?_, K0.ne, fun X I k => cls_of_err C X I k⟩
  obtain ⟨cdD, hcD, _⟩ := any_some C.hd
  unfold clsIn at hcD
  split at hcD
  · rename_i ho
    intro A' Q' E' s' k q
    unfold isType loadHead
    exact wpAny_bind (wpAny_loadPart (k _ _ (X _ _ ho)) (wpAny_pure q))
  · cases hcD
end
/-- the kinds of data -/
inductive Kt where
  | ty (T : String) | cl (c : Nat) | ex (c : Nat)
def Kt.val (g : G) : Kt → Value
  | .ty T => .type T
  | .cl c => .ref (g.cls c)
  | .ex c => .ref (g.cls c)
def kty : D → Option Kt
  | .non => some (.ty "NoneType")
  | .bl _ => some (.ty "bool")
  | .int _ => some (.ty "int")
  | .str _ => some (.ty "str")
  | .lst _ => some (.ty "list")
  | .tup _ => some (.ty "tuple")
  | .dic _ _ => some (.ty "dict")
  | .obj c _ => some (.cl c)
  | .exc c _ => some (.ex c)
  | _ => none
structure IsO (K : PySem.W.Frag) (C : Addr) : Prop where
  cl : Cls K C
  ha : PySem.W.findIn K (.ref C) "__class__" = some (some (.builtin "object.__class__"))
  hn : PySem.W.specialIn K (.builtin "object.__class__") "__get__" = some (some (.builtin "getset_descriptor.__get__"))
  ht : PySem.W.takesIn K (.builtin "object.__class__") = some true
  hm : PySem.W.mroIn K C (.type "object") = some true
structure IsA (g : G) (K : PySem.W.Frag) (ans : Kt → Option Bool) (u : Value) : Prop where
  one : ∀ t b, ans t = some b → PySem.W.kitOne K (t.val g) u = some b
  cl : ∀ c b, ans (.cl c) = some b → IsO K (g.cls c)
  ex : ∀ c b, ans (.ex c) = some b → ExcC K (g.cls c)
section
variable {g : G} {X : Cx} {pins : List (Addr × Obj)} {σ : L2.St} {H B : Hp} {s : Shared}
theorem exc_inst {a C : Addr} {d : Option Addr} {dx : Addr} {fs : List (Str × V)} (I : Inv X pins σ H s) (h1 : H a = some (excv a C (some dx))) (h2 : H dx = some (.xd fs)) :
    ∃ ox od, PySem.W.InstAt s.heap a ox C (some od) ∧ ∃ mA, s.heap.Ns1 dx mA ∧ (∀ f, RelO (fs.lookup f) (mA f)) ∧ ∀ n, PySem.W.lookIn n od = some (mA n) := by
  obtain ⟨⟨o, vs, e, hc, hd, hdt⟩, _, _⟩ := (show ObjOk X.prog X.w H s.heap a (.ext _) from I.hok a _ h1)
  obtain ⟨mA, hns, hr⟩ := (show ObjOk X.prog X.w H s.heap dx (.xd fs) from I.hok dx _ h2)
  obtain ⟨od, ho, hl⟩ := lookIn_ns hns
  exact ⟨o, od, ⟨e, hc, by unfold PySem.W.notCls; rw [hdt] <;> rfl, by rw [hd]; exact ho⟩, mA, hns, hr, hl⟩
theorem kit_d {v : V} {u : Value} {d : D} {t : Kt} {ans : Kt → Option Bool} {cu : Value} {b : Bool} (I : Inv X pins σ H s) (bs : Bs g B H) (ru : RelV v u) (r : Rp g B v d) (hK : X.K = g.K) (A : IsA g X.K ans cu) (ht : kty d = some t) (hb : ans t = some b) :
    ∃ P : Heap → Prop, PySem.W.KitX X.K u (t.val g) P ∧ P s.heap ∧ u ≠ .builtin "__main__.__loader__#opaque" := by
  cases r with
  | non => cases ht; exact kit_of I ru (.base .non)
  | bl b => cases ht; exact kit_of I ru (.base (.bl b))
  | int i => cases ht; exact kit_of I ru (.base (.int i))
  | str z => cases ht; exact kit_of I ru (.base (.str z))
  | lst h _ => cases ht; exact kit_of I ru (.base (.lst (bs.sub.at h)))
  | dic h _ _ => cases ht; exact kit_of I ru (.base (.dK (bs.sub.at h)))
  | tup h _ =>
    cases ht
    rcases h with (h | ⟨o, h⟩) | ⟨o, its, n, h1, h2, h3, h4, h5⟩
    · exact kit_of I ru (.base (.tup (bs.sub.at h)))
    · exact kit_of I ru (.fTuple (bs.sub.at h))
    · exact kit_of I ru (.kTuple (by rw [hK]; exact h1) h2)
  | obj h _ _ =>
    cases ht
    have c := A.cl _ b hb
    exact kit_of I ru (.base (.ins (bs.sub.at h) c.cl c.ha c.hn c.ht c.hm))
  | exc h1 h2 _ =>
    cases ht
    have c := A.ex _ b hb
    obtain ⟨ox, od, J, _⟩ := exc_inst (d := none) I (bs.sub.at h1) (bs.sub.at h2)
    cases (show u = Value.ref _ from ru)
    exact ⟨_, kit_err c, J, fun z => nomatch z⟩
  | scr _ => cases ht
  | cel _ => cases ht
  | fn _ _ => cases ht
  | lam _ _ => cases ht
end
def wIsi (ans : Kt → Option Bool) (w : We) : We := fun ρ μ Q E => w ρ μ (fun d μ => ∃ t b, kty d = some t ∧ ans t = some b ∧ Q (.bl b) μ) E
section
variable {g : G} {X : Cx} {e c : Expr} {w : We} {p pos : Pos} {ans : Kt → Option Bool} {cv : V} {u : Value}
theorem de_isi (hg : Gl X "isinstance") (hm : X.mg "isinstance" = none) (hu : ClsV cv u) (A : IsA g X.K ans u) (he : DE g X e w) (hc : PE X c (tC cv))
    (h1 : starEach [e, c] X.env = (false, eval e X.env) :: starEach [c] X.env := by rfl) (h2 : starEach [c] X.env = (false, eval c X.env) :: starEach [] X.env := by rfl) (hpl : (backTo pos (starEach [c] X.env)).any (·.1) = false := by rfl) :
    DE g X (.Call (.Name "isinstance" p) [e, c] [] pos) (wIsi ans w) := ⟨fun gd W tk => ⟨fun pins s σ H Q I h => by
  obtain ⟨B, ρ, μ, Q0, E0, rel, hw, hq, hx⟩ := h
  refine wpAny_Call_Name_kw (ld_blt I hg hm PyProof.Rows.Boot.«isinstance» ?_ (by decide) (by decide))
  have ha : PA X [e, c] _ := pa_cons (he.run gd W tk) (pa_cons hc pa_nil h2) h1
  refine PyProof.Rows.callWith_builtin1 (thn (ha.run pos pins s σ H (fun vs H1 => ∃ v d B1 μ1 t b, vs = [v, cv] ∧ Nm g B H B1 H1 μ1 ∧ Rp g B1 v d ∧ kty d = some t ∧ ans t = some b ∧ Q0 (.bl b) μ1) I
    (tD.go rel hw hx fun d μ1 v B1 H1 ⟨t, b, k1, k2, k3⟩ n r => ⟨v, d, B1, μ1, t, b, rfl, n, r, k1, k2, k3⟩)) fun us s1 ⟨vs, H1, I1, r1, v, d, B1, μ1, t, b, ev, n, r, k1, k2, k3⟩ => ?_) h1 hpl
  subst ev
  obtain ⟨u1, u2, rfl, q1, q2⟩ := vals2 r1
  have e2 := hu.eq q2
  subst e2
  obtain ⟨P, Z, p, hx⟩ := kit_d I1 n.bs q1 r gd.k A k1 k2
  exact PySem.W.kia_one Z I1.kIn p (A.one t b k2) hx fun tk => ⟨.bl b, H1, I1.tok tk, rfl, hq _ _ k3 _ B1 H1 n (.bl b)⟩⟩⟩
/-- e.value, e a held error -/
def wXv (cs : List Nat) (w : We) : We := fun ρ μ Q E => w ρ μ (fun d μ => match d with
  | .exc c d => c ∈ cs ∧ Q d μ
  | _ => False) E
structure XvOk (g : G) (K : PySem.W.Frag) (c : Nat) : Prop where
  xf : XfC K (g.cls c)
  no : PySem.W.findIn K (.ref (g.cls c)) "value" = some none
theorem de_xval {cs : List Nat} (hcs : ∀ c ∈ cs, XvOk g X.K c) (he : DE g X e w) (hb : attributeBase e "value" X.env (eval e X.env) = eval e X.env := by rfl) : DE g X (.Attribute e "value" pos) (wXv cs w) := ⟨fun gd W tk => ⟨fun pins s σ H Q I h => by
  obtain ⟨B, ρ, μ, Q0, E0, rel, hw, hq, hx⟩ := h
  refine attr_of hb (thn ((he.run gd W tk).run pins s σ H (fun v H1 => ∃ a dx c v' d B1 μ1, v = .ref a ∧ Nm g B H B1 H1 μ1 ∧ B1 a = some (excv a (g.cls c) (some dx)) ∧ B1 dx = some (.xd [("value", v')]) ∧ Rp g B1 v' d ∧ c ∈ cs ∧ Q0 d μ1) I
    (tD.go rel hw hx fun d μ1 v B1 H1 k n r => by
      cases r with
      | exc h1 h2 r => exact ⟨_, _, _, _, _, B1, μ1, rfl, n, h1, h2, r, k.1, k.2⟩
      | _ => exact k.elim)) fun u s1 ⟨v, H1, I1, rv, a, dx, c, v', d, B1, μ1, ev, n, h1, h2, r, hc, k⟩ => ?_)
  subst ev
  obtain rfl : u = Value.ref a := rv
  have T := hcs c hc
  obtain ⟨ox, od, J, mA, hns, hr, hl⟩ := exc_inst (d := none) I1 (n.sub.at h1) (n.sub.at h2)
  obtain ⟨u, hu, ru⟩ := RelO.some_of (v := v') (o := mA "value") (by simpa using hr "value")
  exact HandSPX.exc_get I1.kIn J T.xf.ga T.xf.gg T.xf.exC (PySem.W.findObj_own T.xf.hdC T.no rfl (by rw [hl, hu])) (handed_of ru) ⟨v', H1, I1.tok _, ru, hq _ _ k _ B1 H1 n r⟩⟩⟩
end
end Dk
namespace Dk
open PySem PySem.Spec PyProof.Rows L2

/-! ### built-ins -/
theorem RpA.one {g : G} {B : Hp} {vs : List V} {d : D} (r : RpA g B vs [d]) : ∃ v, vs = [v] ∧ Rp g B v d := by
  cases r with
  | cons r t => cases t; exact ⟨_, rfl, r⟩
theorem RpA.two {g : G} {B : Hp} {vs : List V} {d e : D} (r : RpA g B vs [d, e]) : ∃ v u, vs = [v, u] ∧ Rp g B v d ∧ Rp g B u e := by
  cases r with
  | cons r t =>
    obtain ⟨u, rfl, r2⟩ := t.one
    exact ⟨_, _, rfl, r, r2⟩
def fLen : Fn := fun ds Q => (∃ z, ds = [.str z] ∧ z.length ≤ sizeLine ∧ Q (.int z.length)) ∨ (∃ xs, ds = [.lst xs] ∧ Q (.int xs.length)) ∨ (∃ xs, ds = [.tup xs] ∧ Q (.int xs.length)) ∨ ∃ ns, ds = [.scr ns] ∧ Q (.int ns.length)
def fAbs : Fn := fun ds Q => ∃ i, ds = [.int i] ∧ Q (.int i.natAbs)
def fInt : Fn := fun ds Q => (∃ i, ds = [.int i] ∧ Q (.int i)) ∨ ∃ b, ds = [.bl b] ∧ Q (.int (if b then 1 else 0))
def fMax : Fn := fun ds Q => (∃ i j, ds = [.int i, .int j] ∧ Q (.int (max i j))) ∨ ∃ ns : List Int, ds = [.lst (ns.map .int)] ∧ 0 < ns.length ∧ ∀ m, m ∈ ns → (∀ y, y ∈ ns → y ≤ m) → Q (.int m)
def fMin : Fn := fun ds Q => (∃ i j, ds = [.int i, .int j] ∧ Q (.int (min i j))) ∨ ∃ ns : List Int, ds = [.lst (ns.map .int)] ∧ 0 < ns.length ∧ ∀ m, m ∈ ns → (∀ y, y ∈ ns → m ≤ y) → Q (.int m)
def fSum : Fn := fun ds Q => ∃ ns : List Int, ds = [.lst (ns.map .int)] ∧ Q (.int ns.sum)
def fAll : Fn := fun ds Q => ∃ bs : List Bool, ds = [.lst (bs.map .bl)] ∧ Q (.bl (bs.all id))
def fAny : Fn := fun ds Q => ∃ bs : List Bool, ds = [.lst (bs.map .bl)] ∧ Q (.bl (bs.any id))
def fTuple : Fn := fun ds Q => (∃ xs, ds = [.lst xs] ∧ Q (.tup xs)) ∨ (∃ xs, ds = [.tup xs] ∧ Q (.tup xs)) ∨ ∃ ns, ds = [.scr ns] ∧ Q (.tup (ns.map .int))
def fList : Fn := fun ds Q => (∃ xs, ds = [.lst xs] ∧ Q (.lst xs)) ∨ (∃ xs, ds = [.tup xs] ∧ Q (.lst xs)) ∨ ∃ ns, ds = [.scr ns] ∧ Q (.lst (ns.map .int))
def fStr : Fn := fun ds Q => ∃ i : Int, ds = [.int i] ∧ i.natAbs.log2 < 1920 ∧ Q (.str (toString i))
section
variable {g : G} {X : Cx} {p pos : Pos} {e : Expr} {es : List Expr} {w : Wa}
abbrev Blt (X : Cx) (x : Str) : Prop := Gl X x ∧ X.mg x = none
theorem Rp.sq {B H : Hp} (b : Bs g B H) {v : V} {xs : List D} (r : Rp g B v (.lst xs)) : ∃ a vs, v = .ref a ∧ SqL g.K H a vs ∧ RpA g B vs xs := by
  cases r with
  | lst h r => exact ⟨_, _, rfl, SqL.of (b.sub.at h), r⟩
theorem Rp.sqs {B H : Hp} (b : Bs g B H) {v : V} {ns : List Int} (r : Rp g B v (.scr ns)) : ∃ a, v = .ref a ∧ SqL g.K H a (ns.map V.int) := by
  cases r with
  | scr h => exact ⟨_, rfl, b.sub.sql h⟩
theorem Rp.st {B H : Hp} (b : Bs g B H) {v : V} {xs : List D} (r : Rp g B v (.tup xs)) : ∃ a vs, v = .ref a ∧ SqT g.K H a vs ∧ RpA g B vs xs ∧ SqT g.K B a vs := by
  cases r with
  | tup h r => exact ⟨_, _, rfl, b.sub.sqt h, r, h⟩
theorem de_len (hb : Blt X "len") (ha : DA g X (e :: es) w) (he : starEach (e :: es) X.env = (false, eval e X.env) :: starEach es X.env := by rfl) (hpl : (backTo pos (starEach es X.env)).any (·.1) = false := by rfl) : DE g X (.Call (.Name "len" p) (e :: es) [] pos) (wN fLen w) :=
  de_callB (fun _ => call_len) (fun gd {B H xs ds Q0 Q} b r hf hq => by
    rw [gd.k]
    rcases hf with ⟨z, rfl, h1, q⟩ | ⟨xs, rfl, q⟩ | ⟨xs, rfl, q⟩ | ⟨ns, rfl, q⟩
    · obtain ⟨v, rfl, q1⟩ := r.one
      cases q1
      exact ⟨.str z, z.length, rfl, ⟨h1, rfl⟩, hq _ q _ B H b.rf (.int _)⟩
    · obtain ⟨v, rfl, q1⟩ := r.one
      obtain ⟨a, vs, rfl, hs, ra⟩ := q1.sq b
      exact ⟨_, _, rfl, .inl ⟨vs, hs, rfl⟩, hq _ q _ B H b.rf (by rw [ra.len]; exact .int _)⟩
    · obtain ⟨v, rfl, q1⟩ := r.one
      obtain ⟨a, vs, rfl, hs, ra, _⟩ := q1.st b
      exact ⟨_, _, rfl, .inr ⟨vs, hs, rfl⟩, hq _ q _ B H b.rf (by rw [ra.len]; exact .int _)⟩
    · obtain ⟨v, rfl, q1⟩ := r.one
      obtain ⟨a, rfl, hs⟩ := q1.sqs b
      exact ⟨_, _, rfl, .inl ⟨_, hs, rfl⟩, hq _ q _ B H b.rf (by rw [List.length_map]; exact .int _)⟩) hb.1 hb.2 PyProof.Rows.Boot.«len» ha (by decide) (by decide) he hpl
theorem de_abs (hb : Blt X "abs") (ha : DA g X (e :: es) w) (he : starEach (e :: es) X.env = (false, eval e X.env) :: starEach es X.env := by rfl) (hpl : (backTo pos (starEach es X.env)).any (·.1) = false := by rfl) : DE g X (.Call (.Name "abs" p) (e :: es) [] pos) (wN fAbs w) :=
  de_callB (fun _ => call_abs) (fun gd {B H xs ds Q0 Q} b r hf hq => by
    obtain ⟨i, rfl, q⟩ := hf
    obtain ⟨v, rfl, q1⟩ := r.one
    cases q1
    refine ⟨i, rfl, hq _ q _ B H b.rf ?_⟩
    have : (if i < 0 then -i else i) = (i.natAbs : Int) := by split <;> omega
    rw [this]; exact .int _) hb.1 hb.2 PyProof.Rows.Boot.«abs» ha (by decide) (by decide) he hpl
theorem de_int1 (hb : Blt X "int") (ha : DA g X (e :: es) w) (he : starEach (e :: es) X.env = (false, eval e X.env) :: starEach es X.env := by rfl) (hpl : (backTo pos (starEach es X.env)).any (·.1) = false := by rfl) : DE g X (.Call (.Name "int" p) (e :: es) [] pos) (wN fInt w) :=
  de_callTy (fun _ => call_int1) (fun gd {B H xs ds Q0 Q} b r hf hq => by
    rcases hf with ⟨i, rfl, q⟩ | ⟨k, rfl, q⟩
    · obtain ⟨v, rfl, q1⟩ := r.one
      cases q1
      exact .inl ⟨i, rfl, hq _ q _ B H b.rf (.int _)⟩
    · obtain ⟨v, rfl, q1⟩ := r.one
      cases q1
      exact .inr ⟨k, rfl, hq _ q _ B H b.rf (.int _)⟩) hb.1 hb.2 PyProof.Rows.Boot.«int» ha (by decide) (by decide) he hpl
theorem de_str1 (hb : Blt X "str") (ha : DA g X (e :: es) w) (he : starEach (e :: es) X.env = (false, eval e X.env) :: starEach es X.env := by rfl) (hpl : (backTo pos (starEach es X.env)).any (·.1) = false := by rfl) : DE g X (.Call (.Name "str" p) (e :: es) [] pos) (wN fStr w) :=
  de_callTy (fun _ => call_str_int) (fun gd {B H xs ds Q0 Q} b r hf hq => by
    obtain ⟨i, rfl, h1, q⟩ := hf
    obtain ⟨v, rfl, q1⟩ := r.one
    cases q1
    exact ⟨i, rfl, h1, hq _ q _ B H b.rf (.str _)⟩) hb.1 hb.2 PyProof.Rows.Boot.«str» ha (by decide) (by decide) he hpl
theorem de_max (hc : X.calm = true) (hb : Blt X "max") (ha : DA g X (e :: es) w) (he : starEach (e :: es) X.env = (false, eval e X.env) :: starEach es X.env := by rfl) (hpl : (backTo pos (starEach es X.env)).any (·.1) = false := by rfl) : DE g X (.Call (.Name "max" p) (e :: es) [] pos) (wN fMax w) :=
  de_callB (r := fun xs H Q => (∃ i j, xs = [.int i, .int j] ∧ Q (.int (if j > i then j else i)) H) ∨ rMax X.K xs H Q) (fun _ pins s σ H xs us Q I r h => h.elim (fun h => call_max2 hc pins s σ H xs us Q I r h) fun h => cr_max hc pins s σ H xs us Q I r h) (fun gd {B H xs ds Q0 Q} b r hf hq => by
    rw [gd.k]
    rcases hf with ⟨i, j, rfl, q⟩ | ⟨ns, rfl, hl, q⟩
    · obtain ⟨v, u, rfl, r1, r2⟩ := r.two
      cases r1; cases r2
      refine .inl ⟨i, j, rfl, hq _ q _ B H b.rf ?_⟩
      have : (if j > i then j else i) = max i j := by split <;> omega
      rw [this]; exact .int _
    · obtain ⟨v, rfl, q1⟩ := r.one
      obtain ⟨a, vs, rfl, hs, ra⟩ := q1.sq b
      obtain rfl := ra.ints_inv
      exact .inr ⟨a, ns, rfl, hs, hl, fun m h1 h2 => hq _ (q m h1 h2) _ B H b.rf (.int _)⟩) hb.1 hb.2 PyProof.Rows.Boot.«max» ha (by decide) (by decide) he hpl
theorem de_min (hc : X.calm = true) (hb : Blt X "min") (ha : DA g X (e :: es) w) (he : starEach (e :: es) X.env = (false, eval e X.env) :: starEach es X.env := by rfl) (hpl : (backTo pos (starEach es X.env)).any (·.1) = false := by rfl) : DE g X (.Call (.Name "min" p) (e :: es) [] pos) (wN fMin w) :=
  de_callB (r := fun xs H Q => (∃ i j, xs = [.int i, .int j] ∧ Q (.int (if j < i then j else i)) H) ∨ rMin X.K xs H Q) (fun _ pins s σ H xs us Q I r h => h.elim (fun h => call_min2 hc pins s σ H xs us Q I r h) fun h => cr_min hc pins s σ H xs us Q I r h) (fun gd {B H xs ds Q0 Q} b r hf hq => by
    rw [gd.k]
    rcases hf with ⟨i, j, rfl, q⟩ | ⟨ns, rfl, hl, q⟩
    · obtain ⟨v, u, rfl, r1, r2⟩ := r.two
      cases r1; cases r2
      refine .inl ⟨i, j, rfl, hq _ q _ B H b.rf ?_⟩
      have : (if j < i then j else i) = min i j := by split <;> omega
      rw [this]; exact .int _
    · obtain ⟨v, rfl, q1⟩ := r.one
      obtain ⟨a, vs, rfl, hs, ra⟩ := q1.sq b
      obtain rfl := ra.ints_inv
      exact .inr ⟨a, ns, rfl, hs, hl, fun m h1 h2 => hq _ (q m h1 h2) _ B H b.rf (.int _)⟩) hb.1 hb.2 PyProof.Rows.Boot.«min» ha (by decide) (by decide) he hpl
theorem de_sum (hc : X.calm = true) (hb : Blt X "sum") (ha : DA g X (e :: es) w) (he : starEach (e :: es) X.env = (false, eval e X.env) :: starEach es X.env := by rfl) (hpl : (backTo pos (starEach es X.env)).any (·.1) = false := by rfl) : DE g X (.Call (.Name "sum" p) (e :: es) [] pos) (wN fSum w) :=
  de_callB (fun _ => cr_sum hc) (fun gd {B H xs ds Q0 Q} b r hf hq => by
    rw [gd.k]
    obtain ⟨ns, rfl, q⟩ := hf
    obtain ⟨v, rfl, q1⟩ := r.one
    obtain ⟨a, vs, rfl, hs, ra⟩ := q1.sq b
    obtain rfl := ra.ints_inv
    exact ⟨a, ns, rfl, hs, hq _ q _ B H b.rf (.int _)⟩) hb.1 hb.2 PyProof.Rows.Boot.«sum» ha (by decide) (by decide) he hpl
theorem de_all (hc : X.calm = true) (hb : Blt X "all") (ha : DA g X (e :: es) w) (he : starEach (e :: es) X.env = (false, eval e X.env) :: starEach es X.env := by rfl) (hpl : (backTo pos (starEach es X.env)).any (·.1) = false := by rfl) : DE g X (.Call (.Name "all" p) (e :: es) [] pos) (wN fAll w) :=
  de_callB (fun _ => cr_all hc) (fun gd {B H xs ds Q0 Q} b r hf hq => by
    rw [gd.k]
    obtain ⟨ns, rfl, q⟩ := hf
    obtain ⟨v, rfl, q1⟩ := r.one
    obtain ⟨a, vs, rfl, hs, ra⟩ := q1.sq b
    obtain rfl := ra.bls_inv
    exact ⟨a, ns, rfl, hs, hq _ q _ B H b.rf (.bl _)⟩) hb.1 hb.2 PyProof.Rows.Boot.«all» ha (by decide) (by decide) he hpl
theorem de_any (hc : X.calm = true) (hb : Blt X "any") (ha : DA g X (e :: es) w) (he : starEach (e :: es) X.env = (false, eval e X.env) :: starEach es X.env := by rfl) (hpl : (backTo pos (starEach es X.env)).any (·.1) = false := by rfl) : DE g X (.Call (.Name "any" p) (e :: es) [] pos) (wN fAny w) :=
  de_callB (fun _ => cr_any hc) (fun gd {B H xs ds Q0 Q} b r hf hq => by
    rw [gd.k]
    obtain ⟨ns, rfl, q⟩ := hf
    obtain ⟨v, rfl, q1⟩ := r.one
    obtain ⟨a, vs, rfl, hs, ra⟩ := q1.sq b
    obtain rfl := ra.bls_inv
    exact ⟨a, ns, rfl, hs, hq _ q _ B H b.rf (.bl _)⟩) hb.1 hb.2 PyProof.Rows.Boot.«any» ha (by decide) (by decide) he hpl
theorem de_repr (sy : SysOk X.K) (hb : Blt X "repr") (ha : DA g X (e :: es) w) (he : starEach (e :: es) X.env = (false, eval e X.env) :: starEach es X.env := by rfl) (hpl : (backTo pos (starEach es X.env)).any (·.1) = false := by rfl) : DE g X (.Call (.Name "repr" p) (e :: es) [] pos) (wN fRepr w) :=
  de_callB (fun gd => call_repr sy gd.gd (by have := gd.un; omega)) (fun gd => on_repr gd.k) hb.1 hb.2 PyProof.Rows.Boot.«repr» ha (by decide) (by decide) he hpl
theorem de_tuple (hb : Blt X "tuple") (ha : DA g X (e :: es) w) (he : starEach (e :: es) X.env = (false, eval e X.env) :: starEach es X.env := by rfl) (hpl : (backTo pos (starEach es X.env)).any (·.1) = false := by rfl) : DE g X (.Call (.Name "tuple" p) (e :: es) [] pos) (wN fTuple w) :=
  de_callTy (fun _ => call_tuple_of) (fun gd {B H xs ds Q0 Q} b r hf hq => by
    rw [gd.k]
    rcases hf with ⟨xs, rfl, q⟩ | ⟨xs, rfl, q⟩ | ⟨ns, rfl, q⟩
    · obtain ⟨v, rfl, q1⟩ := r.one
      obtain ⟨a, vs, rfl, hs, ra⟩ := q1.sq b
      exact ⟨a, vs, rfl, .inl ⟨hs, fun l hl => let ⟨n, r2⟩ := b.tup ra hl; hq _ q _ _ _ n r2⟩⟩
    · obtain ⟨v, rfl, q1⟩ := r.one
      obtain ⟨a, vs, rfl, hs, ra, hB⟩ := q1.st b
      exact ⟨a, vs, rfl, .inr ⟨hs, hq _ q _ B H b.rf (.tup hB ra)⟩⟩
    · obtain ⟨v, rfl, q1⟩ := r.one
      obtain ⟨a, rfl, hs⟩ := q1.sqs b
      exact ⟨a, _, rfl, .inl ⟨hs, fun l hl => let ⟨n, r2⟩ := b.tup (RpA.ints (ns := ns)) hl; hq _ q _ _ _ n r2⟩⟩) hb.1 hb.2 PyProof.Rows.Boot.«tuple» ha (by decide) (by decide) he hpl
theorem de_list (hb : Blt X "list") (ha : DA g X (e :: es) w) (he : starEach (e :: es) X.env = (false, eval e X.env) :: starEach es X.env := by rfl) (hpl : (backTo pos (starEach es X.env)).any (·.1) = false := by rfl) : DE g X (.Call (.Name "list" p) (e :: es) [] pos) (wN fList w) :=
  de_callTy (fun _ => call_list_of) (fun gd {B H xs ds Q0 Q} b r hf hq => by
    rw [gd.k]
    rcases hf with ⟨xs, rfl, q⟩ | ⟨xs, rfl, q⟩ | ⟨ns, rfl, q⟩
    · obtain ⟨v, rfl, q1⟩ := r.one
      obtain ⟨a, vs, rfl, hs, ra⟩ := q1.sq b
      exact ⟨a, vs, rfl, .inl hs, fun l hl => let ⟨n, r2⟩ := b.lst ra hl; hq _ q _ _ _ n r2⟩
    · obtain ⟨v, rfl, q1⟩ := r.one
      obtain ⟨a, vs, rfl, hs, ra, hB⟩ := q1.st b
      exact ⟨a, vs, rfl, .inr hs, fun l hl => let ⟨n, r2⟩ := b.lst ra hl; hq _ q _ _ _ n r2⟩
    · obtain ⟨v, rfl, q1⟩ := r.one
      obtain ⟨a, rfl, hs⟩ := q1.sqs b
      exact ⟨a, _, rfl, .inl hs, fun l hl => let ⟨n, r2⟩ := b.lst (RpA.ints (ns := ns)) hl; hq _ q _ _ _ n r2⟩) hb.1 hb.2 PyProof.Rows.Boot.«list» ha (by decide) (by decide) he hpl
/-- list(range(n)), list(range(a, b)) -/
def wRg1 (c : List D → D) (w : We) : We := fun ρ μ Q E => w ρ μ (fun d μ => ∃ n, d = .int n ∧ RgOk 0 n ∧ Q (c (rgD 0 n.toNat)) μ) E
theorem rg_rp {B : Hp} (a b : Int) : RpA g B (rgV a b) (rgD a (b - a).toNat) := by
  have : rgV a b = ((List.range (b - a).toNat).map fun i => a + ((i : Nat) : Int)).map V.int := by unfold rgV; rw [List.map_map]; rfl
  have h2 : rgD a (b - a).toNat = ((List.range (b - a).toNat).map fun i => a + ((i : Nat) : Int)).map D.int := by unfold rgD; rw [List.map_map]; rfl
  rw [this, h2]
  exact RpA.ints
theorem de_listRg {a : Expr} {wa : We} {p2 pos2 : Pos} (hc : X.calm = true) (hl : Blt X "list") (hr : Blt X "range") (ha : DE g X a wa) (na : starEach [a] X.env = (false, eval a X.env) :: starEach [] X.env := by rfl)
    (nb : starEach [.Call (.Name "range" p2) [a] [] pos2] X.env = (false, eval (.Call (.Name "range" p2) [a] [] pos2) X.env) :: starEach [] X.env := by rfl) : DE g X (.Call (.Name "list" p) [.Call (.Name "range" p2) [a] [] pos2] [] pos) (wRg1 .lst wa) := ⟨fun gd W tk => PEw (pe_listRg hc hl.1 hl.2 (prg_1 hr.1 hr.2 (ha.run gd W tk) na) nb) fun σ H Q h => by
  obtain ⟨B, ρ, μ, Q0, E0, rel, hw, hq, hx⟩ := h
  refine tD.go rel hw hx fun d μ1 v B1 H1 k1 n1 r1 => ?_
  obtain ⟨n, rfl, ok, k⟩ := k1
  cases r1
  refine ⟨n, rfl, ok, fun q hn => ?_⟩
  have r := rg_rp (g := g) (B := B1) 0 n
  rw [Int.sub_zero] at r
  obtain ⟨n2, r2⟩ := n1.bs.lst r hn
  exact hq _ _ k _ _ _ (n1.np n2) r2⟩
/-- C(*e) -/
def wMakeS (c : Nat) (ci : Ci) (bds : List D) (w : We) : We := fun ρ μ Q E => w ρ μ (fun d μ => ∃ ds, (d = .lst ds ∨ d = .tup ds) ∧ ci (ds ++ bds) μ (fun xs μ => Q (.obj c xs) μ) E) E
theorem de_makeS {x : Str} {k c : Nat} {ci : Ci} {bds : List D} {we : We} {sp_ : Pos} (M : MkO g X x k c ci bds) (hr : Room (k + 1) X.A) (hg : Gl X x) (he : DE g X e we) (hdb : (x == ("__debug__" : Str)) = false := by decide) (hst : starEach [.Starred e sp_] X.env = [(true, eval e X.env)] := by rfl) :
    DE g X (.Call (.Name x p) [.Starred e sp_] [] pos) (wMakeS c ci bds we) := ⟨fun gd W tk => ⟨fun pins s σ H Q I h => by
  obtain ⟨B, ρ, μ, Q0, E0, rel, hw, hq, hx⟩ := h
  obtain ⟨f, fd, ps, bs, bvs, M1, F, hb, hv, hbd⟩ := M.ex
  refine wpAny_Call_Name_kw (ld_glob I hg M.mg ?_ hdb)
  refine PySem.W.callWith_S (h₀ := X.base) I.ok.mod.kin M1.kp (thn ((he.run gd W tk).run pins s σ H (fun v H1 => ∃ a vs ds B1 μ1, v = .ref a ∧ (SqT X.K H1 a vs ∨ SqL X.K H1 a vs) ∧ Nm g B H B1 H1 μ1 ∧ RpA g B1 vs ds ∧ ci (ds ++ bds) μ1 (fun xs μ => Q0 (.obj c xs) μ) E0) I (tD.go rel hw hx fun d μ1 v B1 H1 k n r => by
    obtain ⟨ds, hd, k⟩ := k
    rw [gd.k]
    rcases hd with rfl | rfl
    · obtain ⟨a, vs, rfl, hs, ra⟩ := r.sq n.bs
      exact ⟨a, vs, ds, B1, μ1, rfl, .inr hs, n, ra, k⟩
    · obtain ⟨a, vs, rfl, hs, ra, _⟩ := r.st n.bs
      exact ⟨a, vs, ds, B1, μ1, rfl, .inl hs, n, ra, k⟩)) fun v s1 ⟨y, H1, I1, ry, a, vs, ds, B1, μ1, ey, hxs, n, ra, hc⟩ => ?_) hst
  subst ey
  obtain rfl : v = Value.ref a := ry
  exact StX.star_any I1 hxs fun us s2 I2 rv => ⟨I2.kIn, run_mk M hr gd tk I2 rv n.bs n.mu ra hc (fun d _ h v B' H' n' r' => hq d _ h v B' H' (n.trans n') r') (hx.nx n)⟩⟩⟩
end
end Dk
namespace Dk
open PySem PySem.Spec PyProof.Rows L2

/-! ### the end of a law -/
/-- what may be tracked ahead of the law -/
structure At0 (cs : List (Addr × Addr)) (K : PySem.W.Frag) (a : Addr) (ns : List Int) (H : Hp) : Prop where
  tb : ∀ p ∈ cs, H p.2 = some (.tbl #[])
  only : ∀ b, H b = none ∨ b ∈ cs.map (·.2) ∨ ∃ o xs, H b = some (.frz o (.lst xs))
  scr : SqL K H a (ns.map V.int)
section
variable {P : Program} {w : World} {K : PySem.W.Frag} {mg mb : Str → Option Value} {fa a : Addr} {cs : List (Addr × Addr)} {s₁ : Shared} {vs : List Value} {ns : List Int}
/-- the base: nothing that is tracked -/
theorem mod_of {H : Hp} (KX : K.In s₁.heap) (hns : s₁.heap.Ns mainGlobals mg) (hb : s₁.heap.Ns builtinsNs mb) (hbb : ∀ x : Str, x ≠ "__name__" → mb x = bootBuiltins x) (hlim : s₁.heap.NoLimit)
    (free : ∀ b o, s₁.heap.get? b = some o → (∀ its n, o.data ≠ .seq its n) → o.data ≠ .fields #[] → H b = none) (hK : ∀ b o, K.lookup b = some o → H b = none) : L2.Mod K mg (hidT s₁.heap H) ∧ (∀ b m, s₁.heap.Ns b m → (hidT s₁.heap H).Ns b m) := by
  have nsK : ∀ b m, s₁.heap.Ns b m → (hidT s₁.heap H).Ns b m := fun b m ⟨o, es, ep, e, d, r⟩ =>
    ⟨o, es, ep, hidT_get e (free b o e (fun _ _ z => by rw [d] at z; cases z) fun z => by rw [d] at z; cases z), d, r⟩
  exact ⟨⟨fun b o e => hidT_get (KX b o e) (hK b o e), nsK _ _ hns, ⟨mb, nsK _ _ hb, hbb⟩, let ⟨mc, h1, h2⟩ := hlim; ⟨mc, nsK _ _ h1, h2⟩⟩, nsK⟩
theorem law_endD (KX : K.In s₁.heap) (hns : s₁.heap.Ns mainGlobals mg) (hb : s₁.heap.Ns builtinsNs mb) (hbb : ∀ x : Str, x ≠ "__name__" → mb x = bootBuiltins x) (hlim : s₁.heap.NoLimit) (hg : s₁.gens = #[])
    (hT : ∀ p ∈ cs, s₁.heap.get? p.2 = some { cls := .none, data := .fields #[] }) (nT : ∀ p ∈ cs, K.lookup p.2 = none) (C : ∀ p ∈ cs, PySem.W.CodeHd s₁.heap p.1 p.2)
    (hbm : ∃ (bm : Addr) (ob : Obj), mg "__builtins__" = some (.ref bm) ∧ bm ≠ builtinsNs ∧ s₁.heap.get? bm = some ob ∧ ob.cls = .type "module" ∧ ob.dict = some builtinsNs ∧ ob.data = .plain)
    (ha : s₁.heap.get? a = some { cls := .type "list", data := .seq vs.toArray }) (hi : IntsAre vs ns) (hl : ns.length ≤ sizeLine)
    (F : ∀ (base : Heap) (H : Hp), K.In base → base.Ns mainGlobals mg → (∀ p ∈ cs, LamX.TabB base mg p.1 p.2) → Env0 P w K mg base callerA [] s₁ H → At0 cs K a ns H →
      codeAny (model P w) callerA (.call (.ref fa) ⟨[.ref a], []⟩) (CR (L2.CX P w) [] P w H s₁ (fun v _ => v = .bl true) fun _ _ _ => False) s₁) :
    codeAny (model P w) callerA (.call (.ref fa) ⟨[.ref a], []⟩) (fun r s' => r = .ok (.ret (.bool true)) ∧ OldK s₁.heap s'.heap ∧ s'.os = s₁.os ∧ AllBare s'.gens) s₁ := by
  have rv := vals_ints hi
  have lenV := hi.length
  have isT : ∀ b ∈ cs.map (·.2), s₁.heap.get? b = some { cls := .none, data := .fields #[] } := fun b hb => by
    obtain ⟨p, hp, rfl⟩ := List.mem_map.mp hb
    exact hT p hp
  have nTK : ∀ b ∈ cs.map (·.2), K.lookup b = none := fun b hb => by
    obtain ⟨p, hp, rfl⟩ := List.mem_map.mp hb
    exact nT p hp
  have aT : a ∉ cs.map (·.2) := fun z => by
    have q := isT a z
    rw [ha] at q
    have q := congrArg Obj.data (Option.some.inj q)
    cases q
  have memT : ∀ p ∈ cs, p.2 ∈ cs.map (·.2) := fun p hp => List.mem_map.mpr ⟨p, hp, rfl⟩
  have core : ∀ H : Hp, At0 cs K a ns H → HOk P w H s₁.heap → (∀ b, H b ≠ none → (b = a ∧ K.lookup a = none) ∨ b ∈ cs.map (·.2)) →
      codeAny (model P w) callerA (.call (.ref fa) ⟨[.ref a], []⟩) (fun r s' => r = .ok (.ret (.bool true)) ∧ OldK s₁.heap s'.heap ∧ s'.os = s₁.os ∧ AllBare s'.gens) s₁ := by
    intro H h0 hok hA
    have free : ∀ b o, s₁.heap.get? b = some o → (∀ its n, o.data ≠ .seq its n) → o.data ≠ .fields #[] → H b = none := fun b o e h1 h2 => Classical.byContradiction fun q => by
      rcases hA b q with ⟨e', _⟩ | e'
      · rw [e', ha] at e
        cases e
        exact h1 _ _ rfl
      · rw [isT b e'] at e
        cases e
        exact h2 rfl
    have hK : ∀ b o, K.lookup b = some o → H b = none := fun b o e => Classical.byContradiction fun q => by
      rcases hA b q with ⟨rfl, e'⟩ | e'
      · rw [e'] at e; cases e
      · rw [nTK b e'] at e; cases e
    obtain ⟨hM, nsK⟩ := mod_of KX hns hb hbb hlim free hK
    have TB : ∀ p ∈ cs, LamX.TabB (hidT s₁.heap H) mg p.1 p.2 := fun p hp => by
      have hTp := hT p hp
      refine ⟨?_, ?_, fun z => ?_⟩
      · obtain ⟨o, us, file, tf, flags, tg, inF, text, tt, e1, r1, r2, r3, rr⟩ := C p hp
        refine ⟨o, us, file, tf, flags, tg, inF, text, tt, hidT_get e1 (free _ _ e1 (fun its n z => ?_) fun z => ?_), r1, r2, r3, rr⟩
        · rw [r2] at z
          cases z
        · rw [r2] at z
          cases z
          simp at r3
      · obtain ⟨bm, ob, b1, b2, b3, b4, b5, b6⟩ := hbm
        refine ⟨bm, ob, b1, b2, fun q => ?_, fun q => ?_, hidT_get b3 (free _ _ b3 (fun its n z => by rw [b6] at z; cases z) fun z => by rw [b6] at z; cases z), b4, b5, b6⟩
        · obtain ⟨o, es, ep, e, hd, _⟩ := hns
          rw [q, e] at b3
          cases b3
          rw [hd] at b6
          cases b6
        · rw [q, hTp] at b3
          cases b3
          cases b6
      · obtain ⟨o, es, ep, e, hd, _⟩ := hns
        rw [z, hTp] at e
        cases e
        cases hd
    have e0 : Env0 P w K mg (hidT s₁.heap H) callerA [] s₁ H := ⟨rfl, hM, fun b o e => of_hidT e, Nat.le_of_eq (hidT_size _ _), trivial, fun b hb => absurd (show b ∈ ([] : List Addr) from hb) (by simp), hok, .of_eq hg⟩
    refine codeAny_mono (F _ H hM.kin (nsK _ _ hns) TB e0 h0) fun r s' h => ?_
    cases r with
    | error e =>
      obtain ⟨_, _, _, _, _, _, _, _, _, _, _, _, z⟩ := (show L2.CX P w [] H s₁ (fun _ _ _ => False) e s' from h)
      exact z.elim
    | ok fl =>
      cases fl with
      | next => exact False.elim h
      | brk => exact False.elim h
      | cont => exact False.elim h
      | ret u =>
        obtain ⟨v, H', os, bare, un, hok', r', q⟩ := h
        obtain rfl : v = .bl true := q
        obtain rfl : u = Value.bool true := r'
        have key : ∀ b o, b ∉ cs.map (·.2) → s₁.heap.get? b = some o → s'.heap.get? b = some o := fun b o nb e => by
          rcases h0.only b with z | z | ⟨ob, xs, z⟩
          · exact un.keep b o e z (by intro z; exact absurd (show b ∈ ([] : List Addr) from z) (by simp)) (by simp)
          · exact absurd z nb
          · obtain ⟨e1, _⟩ := hok b _ z
            obtain ⟨e2, _⟩ := hok' b _ (un.frzs b ob _ z)
            rw [e] at e1; cases e1
            exact e2
        have grown : ∀ p ∈ cs, ∃ more : Array Value, s'.heap.get? p.2 = some { cls := .none, data := .fields more } := fun p hp =>
          let ⟨_, z⟩ := un.tbls p.2 #[] (h0.tb p hp)
          ⟨_, hok' p.2 _ z⟩
        refine ⟨rfl, ⟨fun b o e => ?_, fun b o e => ?_⟩, os, bare⟩
        · by_cases hb : b ∈ cs.map (·.2)
          · obtain ⟨p, hp, rfl⟩ := List.mem_map.mp hb
            obtain ⟨more, hm⟩ := grown p hp
            have e' := e
            rw [hT p hp] at e'
            cases e'
            exact .inr (.inl ⟨((C p hp).tab (hT p hp)).isCodeTable, rfl, #[], more, rfl, by rw [Array.empty_append]; exact hm⟩)
          · exact .inl (key b o hb e)
        · by_cases hb : b ∈ cs.map (·.2)
          · obtain ⟨p, hp, rfl⟩ := List.mem_map.mp hb
            obtain ⟨more, hm⟩ := grown p hp
            exact ⟨_, hm⟩
          · exact ⟨o, key b o hb e⟩
  have pick : ∃ F0 : Option HO, (F0 = none ∧ (∃ o, K.lookup a = some o) ∨ F0 = some (.frz { cls := .type "list", data := .seq vs.toArray } (.lst (ns.map V.int))) ∧ K.lookup a = none) := by
    cases hk : K.lookup a with
    | some o => exact ⟨none, .inl ⟨rfl, o, rfl⟩⟩
    | none => exact ⟨_, .inr ⟨rfl, rfl⟩⟩
  obtain ⟨F0, hF0⟩ := pick
  have atT : ∀ b ∈ cs.map (·.2), (fun b => if b = a then F0 else if b ∈ cs.map (·.2) then some (HO.tbl #[]) else none : Hp) b = some (.tbl #[]) := fun b hb => by
    show (if b = a then F0 else if b ∈ cs.map (·.2) then some (HO.tbl #[]) else none) = _
    have ne : ¬ b = a := fun z => aT (by rw [← z]; exact hb)
    rw [if_neg ne, if_pos hb]
  refine core (fun b => if b = a then F0 else if b ∈ cs.map (·.2) then some (HO.tbl #[]) else none) ⟨fun p hp => atT _ (memT p hp), fun b => ?_, ?_⟩ (fun b u z => ?_) (fun b z => ?_)
  · by_cases hb : b ∈ cs.map (·.2)
    · exact .inr (.inl hb)
    · by_cases hb2 : b = a
      · rcases hF0 with ⟨rfl, _⟩ | ⟨rfl, _⟩
        · exact .inl (if_pos hb2)
        · exact .inr (.inr ⟨_, _, if_pos hb2⟩)
      · exact .inl (by rw [if_neg hb2, if_neg hb])
  · rcases hF0 with ⟨rfl, o, hk⟩ | ⟨rfl, hk⟩
    · have e := KX a o hk
      rw [ha] at e
      cases e
      exact .inr ⟨_, vs.toArray, _, hk, rfl, rfl, rfl, by rw [List.size_toArray, lenV]; exact hl, by simpa using rv⟩
    · exact .inl (.inr ⟨_, if_pos rfl⟩)
  · by_cases hb2 : b = a
    · have z : F0 = some u := (if_pos hb2).symm.trans z
      rcases hF0 with ⟨rfl, _⟩ | ⟨rfl, _⟩
      · cases z
      · cases z
        rw [hb2]
        exact ⟨ha, by rw [List.length_map]; exact hl, vs, _, rv, ha⟩
    · have z : (if b ∈ cs.map (·.2) then some (HO.tbl #[]) else none) = some u := (if_neg hb2).symm.trans z
      by_cases hb : b ∈ cs.map (·.2)
      · rw [if_pos hb] at z
        cases z
        exact isT b hb
      · rw [if_neg hb] at z; cases z
  · by_cases hb2 : b = a
    · rcases hF0 with ⟨rfl, _⟩ | ⟨rfl, hk⟩
      · exact absurd (if_pos hb2) z
      · exact .inl ⟨hb2, hk⟩
    · by_cases hb : b ∈ cs.map (·.2)
      · exact .inr hb
      · exact absurd (by rw [if_neg hb2, if_neg hb]) z
/-- what is known where the law begins -/
def B0 (H : Hp) : Hp := fun b => match H b with
  | some (.frz o u) => some (.frz o u)
  | _ => none
theorem b0_at {H : Hp} {b : Addr} {o : HO} (e : B0 H b = some o) : H b = some o ∧ ∃ ob u, o = .frz ob u := by
  unfold B0 at e
  split at e
  · rename_i ob u z
    cases e
    exact ⟨z, ob, u, rfl⟩
  · cases e
theorem bs0 {g : G} {H : Hp} (hT : LamX.Tabs g.T H) : Bs g (B0 H) H :=
  ⟨⟨fun b o e _ => (b0_at e).1, fun b n e => by obtain ⟨_, _, z⟩ := (b0_at e).2; cases z⟩, fun b ps e => by (obtain ⟨_, _, z⟩ := (b0_at e).2; cases z), hT⟩
theorem mu0 {g : G} {H : Hp} : MuR g (B0 H) H [] :=
  ⟨fun b n e => by (obtain ⟨_, _, z⟩ := (b0_at e).2; cases z), fun b _ n e => by (obtain ⟨_, _, z⟩ := (b0_at e).2; cases z)⟩
theorem scr0 {g : G} {cs : List (Addr × Addr)} {H : Hp} (hK : g.K = K) (h : At0 cs K a ns H) : Rp g (B0 H) (.ref a) (.scr ns) := by
  subst hK
  refine .scr ?_
  rcases h.scr with (z | ⟨o, z⟩) | z
  · rcases h.only a with y | y | ⟨_, _, y⟩
    · rw [y] at z; cases z
    · obtain ⟨p, hp, rfl⟩ := List.mem_map.mp y
      rw [h.tb p hp] at z; cases z
    · rw [y] at z; cases z
  · exact .inl (.inr ⟨o, by unfold B0; rw [z]⟩)
  · exact .inr z
/-- the law's def, run where the law begins -/
theorem run_law {mg : Str → Option Value} {base : Heap} {g : G} {k : Nat} {ct : Ct} {H : Hp} (F : DFn P w K mg base g k fa ct) (hr : Room k callerA) (hK : g.K = K) (hT : ∀ p ∈ g.T, p.1 ∈ cs.map (·.2)) (hc : ct [.scr ns] [] (fun d _ => d = .bl true) noE) (e0 : Env0 P w K mg base callerA [] s₁ H) (h0 : At0 cs K a ns H) :
    codeAny (model P w) callerA (.call (.ref fa) ⟨[.ref a], []⟩) (CR (L2.CX P w) [] P w H s₁ (fun v _ => v = .bl true) fun _ _ _ => False) s₁ := by
  have tb : LamX.Tabs g.T H := fun p hp => by
    obtain ⟨q, hq, e⟩ := List.mem_map.mp (hT p hp)
    exact LamX.TabS.nil (by rw [← e]; exact h0.tb q hq)
  exact F.run callerA [] s₁ H (B0 H) [.ref a] [.ref a] [.scr ns] [] _ noE _ _ hr rfl e0 (.cons rfl .nil) (bs0 tb) mu0 (.cons (scr0 hK h0) .nil) hc (fun d _ hd v B' H' n r => by subst hd; cases r; rfl) fun _ _ _ h => h.elim
end
end Dk
namespace Dk
open PySem PySem.Spec PyProof.Rows L2

/-! ### the law's pot -/
def potAt (k : Nat) (μ : Mu) (Q : D → Mu → Prop) : Nat → Prop
  | 0 => ∀ v : Int, v.natAbs < 2 ^ 2000 → Q (.int v) μ
  | 1 => ∀ v : Int, v.natAbs < 2 ^ 70 → Q (.int v) μ
  | 2 => ∀ v : Int, 0 ≤ v → v ≤ k → Q (.int v) μ
  | _ => False
def wPot (i : Nat) (w : We) : We := fun ρ μ Q E => w ρ μ (fun d μ => match d with
  | .cel n => (match μ[n]? with
    | some (.pt k) => potAt k μ Q i
    | _ => False)
  | _ => False) E
section
variable {g : G} {X : Cx} {a e : Expr} {wa we : We} {pos p1 : Pos}
theorem de_potIx (i : Nat) {z : Int} {j} (ha : DE g X a wa) (hz : z = (i : Int) := by rfl) : DE g X (.Subscript a (.Constant (.int z) j p1) pos) (wPot i wa) := ⟨fun gd W tk => PEw (pe_ix ix_list (ha.run gd W tk) pe_int (by exact fun _ _ => rfl)) fun σ H Q h => by
  obtain ⟨B, ρ, μ, Q0, E0, rel, hw, hq, hx⟩ := h
  refine tD.go rel hw hx fun d μ' v B1 H1 k1 n1 r1 => ?_
  cases d with
  | cel n =>
    dsimp only at k1
    split at k1
    · rename_i k hk
      cases r1 with
      | cel hb =>
        obtain ⟨m, hm, hc⟩ := n1.mu.at_ _ _ hb
        rw [hk] at hm
        cases hm
        obtain ⟨v0, v1, v2, hh, b0, b1, b2, b3⟩ := hc
        subst hz
        match i, k1 with
        | 0, k1 => exact ⟨_, _, _, _, rfl, rfl, SqL.of hh, by rfl, hq _ _ (k1 v0 b0) _ B1 H1 n1 (.int _)⟩
        | 1, k1 => exact ⟨_, _, _, _, rfl, rfl, SqL.of hh, by rfl, hq _ _ (k1 v1 b1) _ B1 H1 n1 (.int _)⟩
        | 2, k1 => exact ⟨_, _, _, _, rfl, rfl, SqL.of hh, by rfl, hq _ _ (k1 v2 b2 b3) _ B1 H1 n1 (.int _)⟩
    · exact k1.elim
  | _ => exact k1.elim⟩
/-- a cell is written -/
theorem Nm.cell {B H : Hp} {B0 H0 : Hp} {μ : Mu} (n : Nm g B0 H0 B H μ) {p : Addr} {c : Nat} {o o' : HO} {m : Mc} (hb : B p = some (.own c)) (hh : H p = some o) (h2 : ∀ x q, o ≠ LamX.CodeO x q) (ht : ∀ ps, o' ≠ .tbl ps)
    (hm : McR g B (upd H p o') p m) : Nm g B H B (upd H p o') (μ.set c m) := by
  have h1 : ∀ ps, o ≠ .tbl ps := fun ps z => by
    obtain ⟨u, e, t⟩ := n.sub.mkd p c hb
    rw [hh] at e
    cases e
    exact t ps z
  have ne : ∀ {b : Addr} {u : HO}, B b = some u → ¬ Mk1 u → b ≠ p := fun {b u} e hm z => by
    subst z
    rw [hb] at e
    cases e
    exact hm ⟨c, rfl⟩
  refine ⟨⟨fun b u e t nb => ?_, Up.refl B, ⟨fun b u e hm => ?_, fun b k e => ?_⟩, n.notb, fun _ _ _ _ q => q, fun b u k e t q z => ?_, tabs_write n.tabs hh h1 h2⟩, ⟨fun b k e => ?_, n.mu.uniq⟩⟩
  · rw [upd_ne fun z => nb c (by rw [z]; exact hb)]
    exact e
  · rw [upd_ne (ne e hm)]
    exact n.sub.co b u e hm
  · by_cases q : b = p
    · subst q
      exact ⟨o', upd_same, ht⟩
    · rw [upd_ne q]
      exact n.sub.mkd b k e
  · rw [q] at z; cases z
  · by_cases q : b = p
    · subst q
      rw [hb] at e
      cases e
      obtain ⟨m0, e0, _⟩ := n.mu.at_ _ _ hb
      refine ⟨m, ?_, hm⟩
      rw [List.getElem?_set_self (List.getElem?_eq_some_iff.mp e0).1]
    · obtain ⟨m0, e0, r0⟩ := n.mu.at_ _ _ e
      refine ⟨m0, ?_, r0.nx (n := k) (fun u e _ => by rw [upd_ne q]; exact e) (Up.refl B)⟩
      rw [List.getElem?_set_ne fun z => q (n.mu.uniq _ _ _ e (by rw [← z]; exact hb))]
      exact e0
def potPut (k : Nat) (Q : Nat → Prop) (v : Int) : Nat → Prop
  | 0 => v.natAbs < 2 ^ 2000 ∧ ∃ k', k ≤ k' ∧ Q k'
  | 2 => 0 ≤ v ∧ ∃ k', k ≤ k' ∧ v ≤ (k' : Int) ∧ Q k'
  | _ => False
/-- pot[i] = e -/
def sPot (i : Nat) (wo we : We) : Ws := fun D0 ρ μ => we ρ μ (fun v μ => wo ρ μ (fun d μ => match v, d with
  | .int v, .cel n => (match μ[n]? with
    | some (.pt k) => potPut k (fun k' => D0.nx ρ (μ.set n (.pt k'))) v i
    | _ => False)
  | _, _ => False) (D0.ex ρ)) (D0.ex ρ)
theorem ds_pot (i : Nat) {z : Int} {j} {p2 : Pos} (he : DE g X e we) (ho : DE g X a wa) (hz : z = (i : Int) := by rfl)
    (hs : swapsWithSole [.Subscript a (.Constant (.int z) j p1) p2] e pos.line X.env = pure false := by rfl) (hw : swappedStores [.Subscript a (.Constant (.int z) j p1) p2] e X.env = pure none := by rfl) :
    DS g X (.Assign [.Subscript a (.Constant (.int z) j p1) p2] e pos) (sPot i wa we) := ⟨fun gs W tk => PSw (ps_asg (he.run gs.toGd W tk) (pg_sub (ho.run gs.toGd W tk) pe_int set_list) hs hw) fun Dn σ H h => by
  obtain ⟨Φ, B, ρ, μ, D0, s, hh, l⟩ := h
  refine tD.go s.rel hh (s.exk l) fun v μ1 u B1 H1 k1 n1 r1 => ?_
  refine tD.go (s.nxt n1).rel k1 ((s.nxt n1).exk l) fun d μ2 x B2 H2 k2 n2 r2 => ?_
  split at k2
  · rename_i vi n
    have s2 := (s.nxt n1).nxt n2
    split at k2
    · rename_i k hk
      cases r1
      cases r2 with
      | cel hb =>
        obtain ⟨m, hm, hc⟩ := n2.mu.at_ _ _ hb
        rw [hk] at hm
        cases hm
        obtain ⟨v0, v1, v2, hl, b0, b1, b2, b3⟩ := hc
        subst hz
        match i, k2 with
        | 0, k2 =>
          obtain ⟨k3, k', k4, k5⟩ := k2
          refine ⟨_, _, _, 0, rfl, rfl, hl, by rfl, ?_⟩
          exact l.nx _ _ _ _ _ k5 (s2.nxt (Nm.cell n2 hb hl lst_code no_lst ⟨vi, v1, v2, upd_same, k3, b1, b2, by omega⟩))
        | 2, k2 =>
          obtain ⟨k3, k', k4, k6, k5⟩ := k2
          refine ⟨_, _, _, 2, rfl, rfl, hl, by rfl, ?_⟩
          exact l.nx _ _ _ _ _ k5 (s2.nxt (Nm.cell n2 hb hl lst_code no_lst ⟨v0, v1, vi, upd_same, b0, b1, k3, k6⟩))
    · exact k2.elim
  · exact k2.elim⟩
/-- a cell is made -/
theorem Nm.born {B H : Hp} {B0 H0 : Hp} {μ : Mu} (n : Nm g B0 H0 B H μ) {p : Addr} {o : HO} {m : Mc} (hp : H p = none) (ht : ∀ ps, o ≠ .tbl ps)
    (hm : McR g (upd B p (.own μ.length)) (upd H p o) p m) : Nm g B H (upd B p (.own μ.length)) (upd H p o) (μ ++ [m]) := by
  have nb : B p = none := n.sub.none hp
  have fresh : ∀ b k, B b = some (.own k) → k < μ.length := fun b k e => by
    obtain ⟨_, e0, _⟩ := n.mu.at_ _ _ e
    exact (List.getElem?_eq_some_iff.mp e0).1
  have inv : ∀ {b k}, b ≠ p → upd B p (.own μ.length) b = some (.own k) → B b = some (.own k) := fun {b k} q e => by rw [upd_ne q] at e; exact e
  refine ⟨⟨fun b u e t _ => ?_, upd_up nb, ⟨fun b u e hm => ?_, fun b k e => ?_⟩, fun b ps e => ?_, fun b u e _ q => ?_, fun b u k e t q z => ?_, Tabs.upd n.tabs hp o⟩, ⟨fun b k e => ?_, fun b c k e1 e2 => ?_⟩⟩
  · rw [upd_ne (ne_of_none e hp)]; exact e
  · by_cases q : b = p
    · subst q; rw [upd_same] at e; cases e; exact absurd ⟨_, rfl⟩ hm
    · rw [upd_ne q] at e ⊢; exact n.sub.co b u e hm
  · by_cases q : b = p
    · subst q; exact ⟨o, upd_same, ht⟩
    · rw [upd_ne q] at e ⊢; exact n.sub.mkd b k e
  · by_cases q : b = p
    · subst q; rw [upd_same] at e; cases e
    · rw [upd_ne q] at e; exact n.notb b ps e
  · rw [upd_ne (ne_of_none e hp)]; exact q
  · rw [upd_ne (ne_of_none e hp), q] at z; cases z
  · by_cases q : b = p
    · subst q
      rw [upd_same] at e
      cases e
      exact ⟨m, by simp, hm⟩
    · have e' := inv q e
      obtain ⟨m0, e0, r0⟩ := n.mu.at_ _ _ e'
      exact ⟨m0, by rw [List.getElem?_append_left (fresh _ _ e')]; exact e0, r0.nx (n := k) (fun u e _ => by rw [upd_ne q]; exact e) (upd_up nb)⟩
  · by_cases q : b = p
    · by_cases q2 : c = p
      · rw [q, q2]
      · have e' := inv q2 e2
        subst q
        rw [upd_same] at e1
        cases e1
        exact absurd (fresh _ _ e') (Nat.lt_irrefl _)
    · have e' := inv q e1
      by_cases q2 : c = p
      · subst q2
        rw [upd_same] at e2
        cases e2
        exact absurd (fresh _ _ e') (Nat.lt_irrefl _)
      · exact n.mu.uniq _ _ _ e' (inv q2 e2)
def wMkPot (w : Wa) : We := fun ρ μ Q E => w ρ μ (fun ds μ => match ds with
  | [.int i, .int j, .int m] => i.natAbs < 2 ^ 2000 ∧ j.natAbs < 2 ^ 70 ∧ m = 0 ∧ Q (.cel μ.length) (μ ++ [.pt 0])
  | _ => False) E
theorem de_mkPot {es : List Expr} {w : Wa} (h : DA g X es w) : DE g X (.List es pos) (wMkPot w) := ⟨fun gd W tk => PEw (pe_lst (h.run gd W tk)) fun σ H Q h => by
  obtain ⟨B, ρ, μ, Q0, E0, rel, hw, hq, hx⟩ := h
  refine tDA.go rel hw hx fun ds μ1 vs B1 H1 k n r => ?_
  split at k
  · rename_i i j m
    obtain ⟨k1, k2, rfl, k3⟩ := k
    cases r with
    | cons a1 r =>
    cases r with
    | cons a2 r =>
    cases r with
    | cons a3 r =>
    cases r
    cases a1; cases a2; cases a3
    refine ⟨(by decide : 3 ≤ sizeLine), fun p hp => ?_⟩
    exact hq _ _ k3 _ _ _ (n.trans (Nm.born n hp no_lst ⟨i, j, 0, upd_same, k1, k2, by decide, by decide⟩)) (.cel upd_same)
  · exact k.elim⟩
end
end Dk
namespace Dk
open PySem PySem.Spec PyProof.Rows L2

/-! ### the law's own def, from its statement -/
/-- what is known of the law's def at the head's heap -/
def LawD (l : PySem.W.OpenLaw) (w : World) (K : PySem.W.Frag) (n : Nat) (mg : Str → Option Value) (fa : Addr) (h : Heap) : Prop :=
  ∃ (cs : List (Addr × Addr)) (g : G) (k : Nat) (ct : Ct), Room k callerA ∧ g.K = K ∧ (∀ p ∈ g.T, p.1 ∈ cs.map (·.2)) ∧ (∀ p ∈ cs, h.get? p.2 = some { cls := .none, data := .fields #[] }) ∧ (∀ p ∈ cs, K.lookup p.2 = none) ∧ (∀ p ∈ cs, PySem.W.CodeHd h p.1 p.2) ∧
    (∀ ns : List Int, ns.length ≤ n → (∀ z ∈ ns, Builtin.Int.intBits z ≤ 1048576) → ct [.scr ns] [] (fun d _ => d = .bl true) noE) ∧
    ∀ base : Heap, K.In base → base.Ns mainGlobals mg → (∀ p ∈ cs, LamX.TabB base mg p.1 p.2) → DFn l.prog w K mg base g k fa ct
theorem walkD {l : PySem.W.OpenLaw} {n : Nat} {q : Program} {loose : List Str} {XP : (Str → Option Value) → Heap → Prop} {YP : World → Heap → Prop} {d : DefRec} {K : Params → PySem.W.Frag}
    (hn : l.most = some n) (hn2 : n ≤ sizeLine) (hdf : d.params.defaults = []) (hY : ∀ (w : World) (h : Heap), YP w h → (K w.params).In h)
    (F : ∀ (w : World) (mg mb : Str → Option Value) (mean : ExcName → Option Value) (fa : Addr) (h : Heap), YP w h → (K w.params).In h → Top q (PySem.W.looseW q loose) mean mg mb h → mg d.name = some (.ref fa) → LawD l w (K w.params) n mg fa h) :
    PySem.W.WalkO q loose XP YP l.row.toRowW d [] (fun f vs => PySem.call f vs) := by
  refine Att.attach_callB hn hdf fun w s₀ s₁ mg mb fa o pm cd doc a vs ns G Y ho hd hcd hmg hobj hints hlen hbits hg => ?_
  have KX := hY w _ Y
  obtain ⟨cs, g, k, ct, hr, hK, hT0, hT, nT, C, hsp, hF⟩ := F w mg mb _ fa _ Y KX G.T hmg
  refine law_endD KX G.T.g G.T.b G.T.builtins G.T.nolimit hg hT nT C G.T.bmain hobj hints (Nat.le_trans hlen hn2) fun base H kin hns hTB e0 h0 => ?_
  exact run_law (hF base kin hns hTB) hr hK hT0 (hsp ns hlen hbits) e0 h0
end Dk
namespace Dk
open PySem PySem.Spec PyProof.Rows L2

/-! ### a def as it stands behind the top -/
structure FnF (K : PySem.W.Frag) (x qual : Str) (st : Stmt) (ps : List Str) (f : Addr) (cdv : Value) : Prop where
  ex : ∃ (oc : Value) (od : Option Addr) (kV doc pm : Value) (an : Option Addr) (ct : Value) (osl : Array (Option Value)),
    K.lookup f = some ⟨oc, od, .func (PySem.W.fnOf x qual (defArgs st) (defBody st) (defScope st) .none kV doc pm an cdv ct), osl⟩ ∧ PySem.W.codeIn K cdv qual = true ∧ Binds K (PySem.W.fnOf x qual (defArgs st) (defBody st) (defScope st) .none kV doc pm an cdv ct) ps []
  kp : PySem.W.keepIn K (.ref f) = true
theorem fnf_mk {K : PySem.W.Frag} {x qual : Str} {st : Stmt} {ps : List Str} {f : Addr} {oc : Value} {od an : Option Addr} {osl : Array (Option Value)} {kV doc pm cdv ct : Value}
    (l : K.lookup f = some ⟨oc, od, .func (PySem.W.fnOf x qual (defArgs st) (defBody st) (defScope st) .none kV doc pm an cdv ct), osl⟩) (c : PySem.W.codeIn K cdv qual = true) (k : PySem.W.keepIn K (.ref f) = true)
    (h : ∀ us : List Value, us.length = ps.length → bindArgs (PySem.W.fnOf x qual (defArgs st) (defBody st) (defScope st) .none kV doc pm an cdv ct) ⟨us, []⟩ = pure (ps.zip us)) : FnF K x qual st ps f cdv :=
  ⟨⟨oc, od, kV, doc, pm, an, ct, osl, l, c, .all h⟩, k⟩
theorem dfn_of {P : Program} {w : World} {K : PySem.W.Frag} {mg : Str → Option Value} {base : Heap} {g : G} {k : Nat} {f : Addr} {c : Ct} {x qual : Str} {st : Stmt} {cdv : Value} {N ps : List Str} {wb : Ws}
    (F : FnF K x qual st ps f cdv) (hK : K = g.K) (S : FnScope N ps (defScope st)) 
    (hbody : ∀ (A : Around) (outer : List Env) (s : Shared) (H : Hp) (E : XK), Room k (A.deeper (envOfC qual (defScope st) s.heap.objs.size f cdv)) → DSs g (cxOf (L2.CX P w) P w K mg base N qual (defScope st) f cdv A outer s H E) (defBody st) wb)
    (len : ∀ ds μ Q E, c ds μ Q E → ds.length = ps.length) (h : ∀ ds μ Q E, c ds μ Q E → wb (deOf Q E) (startR N ds) μ) : DFn P w K mg base g (k + 1) f c := by
  obtain ⟨oc, od, kV, doc, pm, an, ct, osl, lk, hcd, hb⟩ := F.ex
  exact dfn_mk lk hcd S hb .nil (fun B => .nil) hK (fun ds μ Q E h => by rw [List.append_nil]; exact len ds μ Q E h) hbody (fun ds μ Q E h' => by rw [List.append_nil]; exact h ds μ Q E h')
/-- the same, the code object not told -/
theorem dfn_ofE {P : Program} {w : World} {K : PySem.W.Frag} {mg : Str → Option Value} {base : Heap} {g : G} {k : Nat} {f : Addr} {c : Ct} {x qual : Str} {st : Stmt} {N ps : List Str} {wb : Ws}
    (F : ∃ cdv, FnF K x qual st ps f cdv) (hK : K = g.K) (S : FnScope N ps (defScope st))
    (hbody : ∀ (cdv : Value) (A : Around) (outer : List Env) (s : Shared) (H : Hp) (E : XK), Room k (A.deeper (envOfC qual (defScope st) s.heap.objs.size f cdv)) → DSs g (cxOf (L2.CX P w) P w K mg base N qual (defScope st) f cdv A outer s H E) (defBody st) wb)
    (len : ∀ ds μ Q E, c ds μ Q E → ds.length = ps.length) (h : ∀ ds μ Q E, c ds μ Q E → wb (deOf Q E) (startR N ds) μ) : DFn P w K mg base g (k + 1) f c := by
  obtain ⟨cdv, F⟩ := F
  exact dfn_of F hK S (hbody cdv) len h
/-- a call of a def by its name -/
structure CalO (P : Program) (w : World) (K : PySem.W.Frag) (mg : Str → Option Value) (base : Heap) (g : G) (k : Nat) (x : Str) (c : Ct) : Prop where
  ex : ∃ f, DFn P w K mg base g k f c ∧ mg x = some (.ref f) ∧ PySem.W.keepIn K (.ref f) = true
section
variable {g : G} {X : Cx} {k : Nat} {c : Ct} {x : Str} {p pos : Pos} {e : Expr} {es : List Expr} {w : Wa}
theorem de_cal (F : CalO X.prog X.w X.K X.mg X.base g k x c) (hr : Room k X.A) (ha : DA g X (e :: es) w) (hg : Gl X x := by rfl)
    (hdb : (x == ("__debug__" : Str)) = false := by decide) (he : starEach (e :: es) X.env = (false, eval e X.env) :: starEach es X.env := by rfl) (hpl : (backTo pos (starEach es X.env)).any (·.1) = false := by rfl) :
    DE g X (.Call (.Name x p) (e :: es) [] pos) (wCall c w) := by
  obtain ⟨f, F1, F2, F3⟩ := F.ex
  exact de_call F1 hr hg F2 F3 ha hdb he hpl
end
/-! ### the same facts, no context in them -/
section
variable (P : Program) (w : World) (K : PySem.W.Frag) (mg : Str → Option Value) (base : Heap) (g : G)
structure MsF (m : Str) (k : Nat) (ms : List (Nat × Ct)) : Prop where
  ok : ∀ p ∈ ms, (∃ f, Meth K (g.cls p.1) m f ∧ DFn P w K mg base g k f p.2) ∧ Cls K (g.cls p.1) ∧ m ∉ g.flds p.1
structure PsF (m : Str) (k : Nat) (ms : List (Nat × Ct)) : Prop where
  ok : ∀ p ∈ ms, (∃ a f, PropOf K (g.cls p.1) m a f ∧ DFn P w K mg base g k f p.2) ∧ Cls K (g.cls p.1)
structure MkF (x : Str) (k : Nat) (c : Nat) (ci : Ci) (bds : List D) : Prop where
  ex : ∃ f fd ps bs bvs, Mk K (g.cls c) f ∧ DIn P w K mg base g k f fd ps c ci ∧ Binds K fd ps bs ∧ Vals bvs bs ∧ ∀ B, RpA g B bvs bds
  mg : mg x = some (.ref (g.cls c))
structure XkF (x : Str) (c : Nat) : Prop where
  ex : ∃ D f, RingI P K mg D f ∧ XC K D (g.cls c) f
  mg : mg x = some (.ref (g.cls c))
structure OpF (nm : Str) (k : Nat) (ms : List (Nat × Ct)) : Prop where
  ok : ∀ p ∈ ms, (∃ f, PySem.W.findIn K (.ref (g.cls p.1)) nm = some (some (.ref f)) ∧ PySem.W.isFn K (.ref f) = true ∧ DFn P w K mg base g k f p.2) ∧ PySem.W.selfFirst K (g.cls p.1) = true
structure EqF (nm : Str) (k : Nat) (ms : List (Nat × Ct)) : Prop where
  ok : ∀ p ∈ ms, (∃ f, PySem.W.findIn K (.ref (g.cls p.1)) nm = some (some (.ref f)) ∧ PySem.W.isFn K (.ref f) = true ∧ DFn P w K mg base g k f p.2) ∧ PySem.W.notFirst K (g.cls p.1) (.ref (g.cls p.1)) = true
structure UnF (nm : Str) (k : Nat) (ms : List (Nat × Ct)) : Prop where
  ok : ∀ p ∈ ms, (∃ f, PySem.W.findIn K (.ref (g.cls p.1)) nm = some (some (.ref f)) ∧ PySem.W.isFn K (.ref f) = true ∧ DFn P w K mg base g k f p.2)
end
section
variable {g : G} {X : Cx} {k c : Nat} {ms : List (Nat × Ct)} {ci : Ci} {bds : List D} {m x : Str} {p pos apos : Pos} {e o : Expr} {es : List Expr} {w : Wa} {wo we wa wb : We} {a b : Expr}
theorem de_methF {pl : Sem Bool} (hm : MsF X.prog X.w X.K X.mg X.base g m k ms) (hr : Room k X.A) (ho : DE g X o wo) (ha : DA g X (e :: es) w)
    (hst : starEach (e :: es) X.env = (false, eval e X.env) :: starEach es X.env := by rfl) (hpl : (backTo pos (starEach es X.env)).any (·.1) = false := by rfl)
    (ht : eval (.Call (.Attribute o m apos) (e :: es) [] pos) X.env = (do
      let ov ← eval o X.env
      standAt apos.atName
      let (f, first) ← holding [ov] (getMethod ov m pl)
      callWith pos f first (backTo pos (starEach (e :: es) X.env)) (backToKw pos (keywordEach [] X.env))) := by rfl) : DE g X (.Call (.Attribute o m apos) (e :: es) [] pos) (wMeth ms wo w) :=
  de_meth (fun p hp => ⟨(hm.ok p hp).1, (hm.ok p hp).2.1, (hm.ok p hp).2.2⟩) hr ho ha hst hpl ht
theorem de_meth0F {pl : Sem Bool} (hm : MsF X.prog X.w X.K X.mg X.base g m k ms) (hr : Room k X.A) (ho : DE g X o wo)
    (ht : eval (.Call (.Attribute o m apos) [] [] pos) X.env = (do
      let ov ← eval o X.env
      standAt apos.atName
      let (f, first) ← holding [ov] (getMethod ov m pl)
      callWith pos f first (backTo pos (starEach [] X.env)) (backToKw pos (keywordEach [] X.env))) := by rfl) : DE g X (.Call (.Attribute o m apos) [] [] pos) (wMeth ms wo aN) :=
  de_meth0 (fun p hp => ⟨(hm.ok p hp).1, (hm.ok p hp).2.1, (hm.ok p hp).2.2⟩) hr ho ht
theorem de_propF (hm : PsF X.prog X.w X.K X.mg X.base g m k ms) (hr : Room (k + 1) X.A) (ho : DE g X o wo) (hb : attributeBase o m X.env (eval o X.env) = eval o X.env := by rfl) : DE g X (.Attribute o m pos) (wProp ms wo) :=
  de_prop (fun p hp => ⟨(hm.ok p hp).1, (hm.ok p hp).2⟩) hr ho hb
theorem MkF.mko (M : MkF X.prog X.w X.K X.mg X.base g x k c ci bds) : MkO g X x k c ci bds := ⟨M.ex, M.mg⟩
theorem XkF.xk (M : XkF X.prog X.K X.mg g x c) : XOk g X x c := ⟨M.ex, M.mg⟩
theorem OpF.opx {op : Operator} (M : OpF X.prog X.w X.K X.mg X.base g (PySem.dunder op.info.2) k ms) (hr : Room k X.A) : OpX g X (binaryOp op) (fOwn ms) := ox_own (fun p hp => ⟨(M.ok p hp).1, (M.ok p hp).2⟩) hr
theorem de_opF {op : Operator} (M : OpF X.prog X.w X.K X.mg X.base g (PySem.dunder op.info.2) k ms) (hr : Room k X.A) (ha : DE g X a wa) (hb : DE g X b wb) : DE g X (.BinOp a op b pos) (w2x (fOwn ms) wa wb) := de_binX (M.opx hr) ha hb
theorem de_eqF (M : EqF X.prog X.w X.K X.mg X.base g "__eq__" k ms) (hr : Room k X.A) (ha : DE g X a wa) (hb : DE g X b wb) : DE g X (.Compare a [.Eq] [b] pos) (w2x (fOwnEq ms) wa wb) :=
  de_cmpX (ox_ownC (fun _ _ => rfl) (fun p hp => ⟨(M.ok p hp).1, (M.ok p hp).2⟩) hr) ha hb (nomark _)
theorem dt_eqF (M : EqF X.prog X.w X.K X.mg X.base g "__eq__" k ms) (hr : Room k X.A) (ha : DE g X a wa) (hb : DE g X b wb) : DT g X (.Compare a [.Eq] [b] pos) (tB0 (w2x (fOwnEq ms) wa wb)) :=
  dt_cmpX (ox_ownC (fun _ _ => rfl) (fun p hp => ⟨(M.ok p hp).1, (M.ok p hp).2⟩) hr) ha hb (nomark _)
theorem de_negF (M : UnF X.prog X.w X.K X.mg X.base g "__neg__" k ms) (hr : Room k X.A) (ha : DE g X a wa) : DE g X (.UnaryOp .USub a pos) (wU ms wa) := de_negO (fun p hp => ⟨M.ok p hp⟩) hr ha
theorem de_makeF (M : MkF X.prog X.w X.K X.mg X.base g x k c ci bds) (hr : Room (k + 1) X.A) (ha : DA g X (e :: es) w) (hg : Gl X x := by rfl)
    (hdb : (x == ("__debug__" : Str)) = false := by decide) (he : starEach (e :: es) X.env = (false, eval e X.env) :: starEach es X.env := by rfl) (hpl : (backTo pos (starEach es X.env)).any (·.1) = false := by rfl) :
    DE g X (.Call (.Name x p) (e :: es) [] pos) (wMake c ci bds w) := de_make M.mko hr hg ha hdb he hpl
theorem de_make0F (M : MkF X.prog X.w X.K X.mg X.base g x k c ci bds) (hr : Room (k + 1) X.A) (hg : Gl X x := by rfl)
    (hdb : (x == ("__debug__" : Str)) = false := by decide) : DE g X (.Call (.Name x p) [] [] pos) (wMake c ci bds aN) := de_make0 M.mko hr hg hdb
theorem de_makeSF {sp_ : Pos} (M : MkF X.prog X.w X.K X.mg X.base g x k c ci bds) (hr : Room (k + 1) X.A) (he : DE g X e we) (hg : Gl X x := by rfl) (hdb : (x == ("__debug__" : Str)) = false := by decide) (hst : starEach [.Starred e sp_] X.env = [(true, eval e X.env)] := by rfl) :
    DE g X (.Call (.Name x p) [.Starred e sp_] [] pos) (wMakeS c ci bds we) := de_makeS M.mko hr hg he hdb hst
theorem ds_raiseF {pos' : Pos} (hx : XkF X.prog X.K X.mg g x c) (hr : Room (k + 2) X.A) (he : DE g X e we) (hc : X.calm = true := by rfl) (hg : Gl X x := by rfl) (hdb : (x == ("__debug__" : Str)) = false := by decide)
    (he1 : starEach [e] X.env = (false, eval e X.env) :: starEach [] X.env := by rfl) (hpl : (backTo pos (starEach [] X.env)).any (·.1) = false := by rfl) : DS g X (.Raise (some (.Call (.Name x p) [e] [] pos)) none pos') (sRaise c we) := ds_raise hc hx.xk hr hg he hdb he1 hpl
end
/-! ### a lambda handed on -/
def wCallT (hc : D → Ct → Ct) (t : D) (lam : Ct) (w : Wa) : We := fun ρ μ Q E => w ρ μ (fun ds μ => hc t lam ds μ Q E) E
section
variable {g : G} {X : Cx} {k kl : Nat} {f fa c : Addr} {q : Str} {tvs : List V} {tds : List D} {lam : Ct} {hc : D → Ct → Ct} {x : Str} {p pos : Pos} {e : Expr} {es : List Expr} {w : Wa}
/-- a def that takes a lambda -/
structure CalL (P : Program) (w : World) (K : PySem.W.Frag) (mg : Str → Option Value) (base : Heap) (g : G) (k kl : Nat) (x : Str) (hc : D → Ct → Ct) : Prop where
  ex : ∃ f, DFnL P w K mg base g k kl f hc ∧ mg x = some (.ref f) ∧ PySem.W.keepIn K (.ref f) = true
theorem de_callT {t : D} (F : CalL X.prog X.w X.K X.mg X.base g k kl x hc) (ht : t = .fn f c q tvs tds) (L : LamAt X.prog X.w X.K X.mg X.base g kl f t lam X.outer X.s_0 X.H_0) (hr : Room k X.A) (ha : DA g X (e :: es) w) (hex : X.ex = [] := by rfl) (hg : Gl X x := by rfl)
    (hdb : (x == ("__debug__" : Str)) = false := by decide) (he : starEach (e :: es) X.env = (false, eval e X.env) :: starEach es X.env := by rfl) (hpl : (backTo pos (starEach es X.env)).any (·.1) = false := by rfl) :
    DE g X (.Call (.Name x p) (e :: es) [] pos) (wCallT hc t lam w) := ⟨fun gd W tk => ⟨fun pins s σ H Q I h => by
  subst ht
  obtain ⟨B, ρ, μ, Q0, E0, rel, hw, hq, hx⟩ := h
  obtain ⟨fa, F, hm, hk⟩ := F.ex
  refine wpAny_Call_Name_kw (ld_glob I hg hm ?_ hdb)
  refine PySem.W.callWith_K (h₀ := X.base) I.ok.mod.kin hk (thn ((ha.run gd W tk).run pos pins s σ H (fun vs H1 => ∃ ds B1 μ1, Nm g B H B1 H1 μ1 ∧ RpA g B1 vs ds ∧ hc (.fn f c q tvs tds) lam ds μ1 Q0 E0) I (tDA.go rel hw hx fun ds μ1 vs B1 H1 k n r => ⟨ds, B1, μ1, n, r, k⟩)) fun us s1 ⟨vs, H1, I1, r, ds, B1, μ1, n, ra, hc'⟩ => ⟨I1.kIn, ?_⟩) he hpl
  refine wpAny_call (codeAny_mono (F.run f c q tvs tds lam X.A X.stack s1 H1 B1 us vs ds μ1 Q0 E0 Q (WE W σ) hr gd.gd I1.env0 r n.bs n.mu ra (L.later (later_of I1 hex)) hc'
    (fun d _ h v B' H' n' r' => hq d _ h v B' H' (n.trans n') r') fun c d _ h cls dd B' H' n' x => hx c d _ h cls dd B' H' (n.trans n') x) fun r s' hq' => ?_)
  cases r with
  | error e => exact passAt tk σ pins H1 s1 e s' I1 hq'
  | ok fl =>
    cases fl with
    | ret u => exact I1.after hq'
    | next => exact False.elim hq'
    | brk => exact False.elim hq'
    | cont => exact False.elim hq'⟩⟩
end
theorem dfl_ofE {P : Program} {w : World} {K : PySem.W.Frag} {mg : Str → Option Value} {base : Heap} {g : G} {k kl : Nat} {f : Addr} {hc : D → Ct → Ct} {x qual : Str} {st : Stmt} {N ps : List Str} {wb : D → Ct → Ws}
    (F : ∃ cdv, FnF K x qual st ps f cdv) (hK : K = g.K) (S : FnScope N ps (defScope st))
    (hbody : ∀ (cdv : Value) (t : D) (tf tc : Addr) (tq : Str) (tvs : List V) (tds : List D) (lam : Ct) (A : Around) (outer : List Env) (s : Shared) (H : Hp) (E : XK), Room k (A.deeper (envOfC qual (defScope st) s.heap.objs.size f cdv)) → t = .fn tf tc tq tvs tds → LamAt P w K mg base g kl tf t lam outer s H →
      DSs g (cxOf (L2.CX P w) P w K mg base N qual (defScope st) f cdv A outer s H E) (defBody st) (wb t lam))
    (len : ∀ t lam ds μ Q E, hc t lam ds μ Q E → ds.length = ps.length) (h : ∀ t lam ds μ Q E, hc t lam ds μ Q E → wb t lam (deOf Q E) (startR N ds) μ) : DFnL P w K mg base g (k + 1) kl f hc := by
  obtain ⟨cdv, F⟩ := F
  obtain ⟨oc, od, kV, doc, pm, an, ct, osl, lk, hcd, hb⟩ := F.ex
  exact dfl_mk lk hcd S hb .nil (fun B => .nil) hK (fun t lam ds μ Q E h => by rw [List.append_nil]; exact len t lam ds μ Q E h) (fun tf tc tq tvs tds lam A outer s H E hr L => hbody cdv _ tf tc tq tvs tds lam A outer s H E hr rfl L) (fun t lam ds μ Q E h' => by rw [List.append_nil]; exact h t lam ds μ Q E h')
theorem ds_par {g : G} {X : Cx} (i j : Nat) {x y : Str} {a b : Expr} {w : Wa} {px py pt : Pos} {kt k2 : Nat} {pt2 pos : Pos} (hc : X.calm = true) (hN : X.N.Nodup) (ha : DA g X [a, b] w) (hi : X.N[i]? = some x := by rfl) (hj : X.N[j]? = some y := by rfl) (hij : i ≠ j := by decide)
    (hx : X.env.scope.names.lookup x = some .local := by rfl) (hy : X.env.scope.names.lookup y = some .local := by rfl)
    (hw : swappedStores [.Tuple [.Name x px, .Name y py] kt pt] (.Tuple [a, b] k2 pt2) X.env = pure (some [x, y]) := by rfl)
    (hs : swapsWithSole [.Tuple [.Name x px, .Name y py] kt pt] (.Tuple [a, b] k2 pt2) pos.line X.env = pure false := by rfl) :
    DS g X (.Assign [.Tuple [.Name x px, .Name y py] kt pt] (.Tuple [a, b] k2 pt2) pos) (sPar i j w) := ⟨fun gs W tk => PSw (ps_par hc hN hi hj hij hx hy (ha.run gs.toGd W tk) hw hs) fun Dn σ H h => by
  obtain ⟨Φ, B, ρ, μ, D0, s, hw, l⟩ := h
  refine tDA.go s.rel hw (s.exk l) fun ds μ1 vs B1 H1 k n r => ?_
  cases r with
  | nil => exact k.elim
  | cons r1 r =>
    cases r with
    | nil => exact k.elim
    | cons r2 r =>
      cases r with
      | cons _ _ => exact k.elim
      | nil => exact ⟨_, _, rfl, l.nx _ _ _ B1 H1 k (((s.nxt n).set r1).set r2)⟩⟩
/-- a reading, with what it is for left open -/
def wMono (w : We) : We := fun ρ μ Q E => ∃ Q1 E1, w ρ μ Q1 E1 ∧ (∀ d μ, Q1 d μ → Q d μ) ∧ ∀ c d μ, E1 c d μ → E c d μ
theorem de_mono {g : G} {X : Cx} {e : Expr} {w : We} (h : DE g X e w) : DE g X e (wMono w) := ⟨fun gd W tk => PEw (h.run gd W tk) fun σ H Q h => by
  obtain ⟨B, ρ, μ, Q0, E0, rel, ⟨Q1, E1, hw, i1, i2⟩, hq, hx⟩ := h
  exact ⟨B, ρ, μ, Q1, E1, rel, hw, fun d μ' k => hq d μ' (i1 d μ' k), fun c d μ' k => hx c d μ' (i2 c d μ' k)⟩⟩
end Dk
namespace Dk
open PySem PySem.Spec PyProof.Rows L2

/-! ### readings of the built-ins, by shapes -/
section
variable {Q : D → Prop}
theorem fInt_i {i : Int} : fInt [.int i] Q = Q (.int i) := by unfold fInt; simp
theorem fInt_b {b : Bool} : fInt [.bl b] Q = Q (.int (if b then 1 else 0)) := by unfold fInt; simp
theorem fAbs_i {i : Int} : fAbs [.int i] Q = Q (.int i.natAbs) := by unfold fAbs; simp
theorem fLen_s {z : Str} : fLen [.str z] Q = (z.length ≤ sizeLine ∧ Q (.int z.length)) := by unfold fLen; simp
theorem fLen_l {xs : List D} : fLen [.lst xs] Q = Q (.int xs.length) := by unfold fLen; simp
theorem fLen_t {xs : List D} : fLen [.tup xs] Q = Q (.int xs.length) := by unfold fLen; simp
theorem fLen_c {ns : List Int} : fLen [.scr ns] Q = Q (.int ns.length) := by unfold fLen; simp
theorem fMax_2 {i j : Int} : fMax [.int i, .int j] Q = Q (.int (max i j)) := by
  unfold fMax
  apply propext
  refine ⟨fun h => ?_, fun h => .inl ⟨i, j, rfl, h⟩⟩
  rcases h with ⟨a, b, e, h⟩ | ⟨ns, e, _⟩
  · cases e; exact h
  · cases e
theorem fMin_2 {i j : Int} : fMin [.int i, .int j] Q = Q (.int (min i j)) := by
  unfold fMin
  apply propext
  refine ⟨fun h => ?_, fun h => .inl ⟨i, j, rfl, h⟩⟩
  rcases h with ⟨a, b, e, h⟩ | ⟨ns, e, _⟩
  · cases e; exact h
  · cases e
theorem fTuple_l {xs : List D} : fTuple [.lst xs] Q = Q (.tup xs) := by unfold fTuple; simp
theorem fTuple_t {xs : List D} : fTuple [.tup xs] Q = Q (.tup xs) := by unfold fTuple; simp
theorem fTuple_c {ns : List Int} : fTuple [.scr ns] Q = Q (.tup (ns.map .int)) := by unfold fTuple; simp
theorem fList_l {xs : List D} : fList [.lst xs] Q = Q (.lst xs) := by unfold fList; simp
theorem fList_t {xs : List D} : fList [.tup xs] Q = Q (.lst xs) := by unfold fList; simp
theorem bl_inj {bs cs : List Bool} : (bs.map D.bl = cs.map D.bl) = (bs = cs) := by
  apply propext
  refine ⟨fun h => ?_, fun h => by rw [h]⟩
  induction bs generalizing cs with
  | nil => cases cs with
    | nil => rfl
    | cons c cs => cases h
  | cons b bs ih => cases cs with
    | nil => cases h
    | cons c cs =>
      have h : D.bl b :: bs.map D.bl = D.bl c :: cs.map D.bl := h
      injection h with h1 h2
      injection h1 with h1
      rw [h1, ih h2]
theorem fAll_l {bs : List Bool} : fAll [.lst (bs.map .bl)] Q = Q (.bl (bs.all id)) := by
  unfold fAll
  apply propext
  refine ⟨fun ⟨cs, h, q⟩ => ?_, fun q => ⟨bs, rfl, q⟩⟩
  injection h with h
  injection h with h
  rw [bl_inj.mp h]
  exact q
theorem fAny_l {bs : List Bool} : fAny [.lst (bs.map .bl)] Q = Q (.bl (bs.any id)) := by
  unfold fAny
  apply propext
  refine ⟨fun ⟨cs, h, q⟩ => ?_, fun q => ⟨bs, rfl, q⟩⟩
  injection h with h
  injection h with h
  rw [bl_inj.mp h]
  exact q
theorem fStr_i {i : Int} : fStr [.int i] Q = (i.natAbs.log2 < 1920 ∧ Q (.str (toString i))) := by unfold fStr; simp
end

/-! ### sizes -/
theorem lg_le {x : Int} {m : Nat} (h : x.natAbs < 2 ^ m) : x.natAbs.log2 ≤ m := by
  by_cases e : x.natAbs = 0
  · rw [e]; exact Nat.zero_le _
  · exact Nat.le_of_lt ((Nat.log2_lt e).mpr h)
theorem cmul_of {x y : Int} {m n : Nat} (hx : x.natAbs < 2 ^ m) (hy : y.natAbs < 2 ^ n) (h : m + n < 1000000 := by decide) : CMulW x y := by
  have a := lg_le hx
  have b := lg_le hy
  unfold CMulW
  omega
theorem bits_of {x : Int} {m : Nat} (hx : x.natAbs < 2 ^ m) : Builtin.Int.intBits x ≤ m := PySem.intBits_le_iff.mpr hx
theorem fmod_lt {x y : Int} (h : 0 < y) : 0 ≤ x.fmod y ∧ x.fmod y < y := ⟨Int.fmod_nonneg_of_pos x h, Int.fmod_lt_of_pos x h⟩
theorem fdiv_small {x y : Int} {m : Nat} (h : 0 < y) (hx : x.natAbs < 2 ^ m) : (x.fdiv y).natAbs < 2 ^ m := by
  rw [Int.fdiv_eq_ediv_of_nonneg _ (Int.le_of_lt h)]
  have h1 := Int.mul_ediv_add_emod x y
  have h2 := Int.emod_nonneg x (by omega : y ≠ 0)
  have h3 := Int.emod_lt_of_pos x h
  have h4 : -(x.natAbs : Int) ≤ x / y := by
    apply Int.le_ediv_of_mul_le h
    have : (x.natAbs : Int) * 1 ≤ x.natAbs * y := Int.mul_le_mul_of_nonneg_left (by omega) (by omega)
    rw [Int.neg_mul]
    omega
  have h5 : x / y ≤ x.natAbs := by
    apply Int.le_trans (Int.ediv_le_ediv h (by omega : x ≤ (x.natAbs : Int)))
    exact Int.ediv_le_self _ (by omega)
  omega
theorem prime5 {v : Int} (h : 0 ≤ v) (a b c d e : Int) : ∃ z, atI [D.int a, D.int b, D.int c, D.int d, D.int e] (v.fmod 5) = some (.int z) ∧ z ∈ [a, b, c, d, e] := by
  have h1 := (fmod_lt (x := v) (y := 5) (by decide)).1
  have h2 := (fmod_lt (x := v) (y := 5) (by decide)).2
  generalize v.fmod 5 = m at h1 h2
  have : m = 0 ∨ m = 1 ∨ m = 2 ∨ m = 3 ∨ m = 4 := by omega
  rcases this with rfl | rfl | rfl | rfl | rfl
  · exact ⟨a, rfl, by simp⟩
  · exact ⟨b, rfl, by simp⟩
  · exact ⟨c, rfl, by simp⟩
  · exact ⟨d, rfl, by simp⟩
  · exact ⟨e, rfl, by simp⟩
/-- the numbers with which a pot is made -/
theorem pot_ok {z n a b c : Int} {R : Prop} (h0 : 0 ≤ n) (h1 : n < 2 ^ 20) (ha : a.natAbs < 2 ^ 20) (hb : b.natAbs < 2 ^ 20) (q : R) :
    (0 : Int) ≤ 60 ∧ (Builtin.Int.intBits 10 : Int) * 60 ≤ 2 ^ 27 ∧ (0 : Int) ≤ 5 ∧ (Builtin.Int.intBits (10 ^ Int.toNat 60) : Int) * 5 ≤ 2 ^ 27 ∧ ((10 : Int) ^ Int.toNat 60) ^ Int.toNat 5 ≠ 0 ∧ (0 : Int) ≤ 18 ∧ (Builtin.Int.intBits 10 : Int) * 18 ≤ 2 ^ 27 ∧
      CMulW ((z.natAbs : Int).fmod ((10 ^ Int.toNat 60) ^ Int.toNat 5)) (if decide ((10 : Int) ^ Int.toNat 18 ≤ (z.natAbs : Int)) = true then 1 else 0) ∧
      (2305843009213693951 : Int) ≠ 0 ∧ CMulW (z.fmod 2305843009213693951) a ∧ CMulW b n ∧ CMulW (b * n) n ∧ (2305843009213693921 : Int) ≠ 0 ∧
      ((z.natAbs : Int).fmod ((10 ^ Int.toNat 60) ^ Int.toNat 5) * if decide ((10 : Int) ^ Int.toNat 18 ≤ (z.natAbs : Int)) = true then 1 else 0).natAbs < 2 ^ 2000 ∧
      ((z.fmod 2305843009213693951 * a + b * n * n + c).fmod 2305843009213693921).natAbs < 2 ^ 70 ∧ True ∧ R := by
  have big : (0 : Int) < ((10 : Int) ^ Int.toNat 60) ^ Int.toNat 5 := by decide +kernel
  have big2 : ((10 : Int) ^ Int.toNat 60) ^ Int.toNat 5 < 2 ^ 1000 := by decide +kernel
  have big3 : (2 : Int) ^ 1000 = ((2 ^ 1000 : Nat) : Int) := by decide +kernel
  have big4 : (2 : Nat) ^ 1000 ≤ 2 ^ 2000 := Nat.pow_le_pow_right (by decide) (by decide)
  have f1 := (fmod_lt (x := (z.natAbs : Int)) big).1
  have f2 := (fmod_lt (x := (z.natAbs : Int)) big).2
  generalize (z.natAbs : Int).fmod ((10 ^ Int.toNat 60) ^ Int.toNat 5) = y at f1 f2
  have y1 : y.natAbs < 2 ^ 1000 := by
    rw [big3] at big2
    generalize (2 : Nat) ^ 1000 = t at *
    omega
  have f3 := (fmod_lt (x := z) (y := 2305843009213693951) (by decide)).1
  have f4 := (fmod_lt (x := z) (y := 2305843009213693951) (by decide)).2
  have f5 := (fmod_lt (x := z.fmod 2305843009213693951 * a + b * n * n + c) (y := 2305843009213693921) (by decide)).1
  have f6 := (fmod_lt (x := z.fmod 2305843009213693951 * a + b * n * n + c) (y := 2305843009213693921) (by decide)).2
  have i1 : (if decide ((10 : Int) ^ Int.toNat 18 ≤ (z.natAbs : Int)) = true then (1 : Int) else 0) = 1 ∨ (if decide ((10 : Int) ^ Int.toNat 18 ≤ (z.natAbs : Int)) = true then (1 : Int) else 0) = 0 := by
    by_cases e : decide ((10 : Int) ^ Int.toNat 18 ≤ (z.natAbs : Int)) = true
    · exact .inl (if_pos e)
    · exact .inr (if_neg e)
  generalize (if decide ((10 : Int) ^ Int.toNat 18 ≤ (z.natAbs : Int)) = true then (1 : Int) else 0) = i at i1
  have n1 : n.natAbs < 2 ^ 20 := by omega
  have p1 : (b * n).natAbs < 2 ^ 40 := by
    rw [Int.natAbs_mul]
    exact Nat.lt_of_lt_of_le (Nat.mul_lt_mul'' hb n1) (by decide)
  refine ⟨by decide, by decide +kernel, by decide, by decide +kernel, Int.ne_of_gt big, by decide, by decide +kernel, cmul_of y1 (n := 2) (by rcases i1 with rfl | rfl <;> decide), by decide, cmul_of (m := 61) (n := 20) (by omega) ha, cmul_of hb n1, cmul_of p1 n1, by decide, ?_, by omega, True.intro, q⟩
  rcases i1 with rfl | rfl
  · rw [Int.mul_one]; exact Nat.lt_of_lt_of_le y1 big4
  · rw [Int.mul_zero]; exact Nat.pos_of_ne_zero (Nat.pos_iff_ne_zero.mp (Nat.two_pow_pos 2000))
/-! ### isinstance -/
section
variable {g : G} {X : Cx} {e : Expr} {w : We} {p p2 pos : Pos} {ans : Kt → Option Bool} {cn : Str}
theorem de_isiB {T : String} (hm : X.mg "isinstance" = none) (hm2 : X.mg cn = none) (hv : bootBuiltins cn = some (.type T)) (A : IsA g X.K ans (.type T)) (he : DE g X e w) (hg : Gl X "isinstance" := by rfl) (hg2 : Gl X cn := by rfl) (hn : cn ≠ "__name__" := by decide) (hd : (cn == ("__debug__" : Str)) = false := by decide)
    (h1 : starEach [e, .Name cn p2] X.env = (false, eval e X.env) :: starEach [.Name cn p2] X.env := by rfl) (h2 : starEach [.Name cn p2] X.env = (false, eval (.Name cn p2) X.env) :: starEach [] X.env := by rfl) (hpl : (backTo pos (starEach [.Name cn p2] X.env)).any (·.1) = false := by rfl) :
    DE g X (.Call (.Name "isinstance" p) [e, .Name cn p2] [] pos) (wIsi ans w) := de_isi hg hm (.ty T) A he (pe_bltn hg2 hm2 hv rfl hn hd) h1 h2 hpl
theorem de_isiC {C : Addr} (hm : X.mg "isinstance" = none) (hm2 : X.mg cn = some (.ref C)) (A : IsA g X.K ans (.ref C)) (he : DE g X e w) (hg : Gl X "isinstance" := by rfl) (hg2 : Gl X cn := by rfl) (hd : (cn == ("__debug__" : Str)) = false := by decide)
    (h1 : starEach [e, .Name cn p2] X.env = (false, eval e X.env) :: starEach [.Name cn p2] X.env := by rfl) (h2 : starEach [.Name cn p2] X.env = (false, eval (.Name cn p2) X.env) :: starEach [] X.env := by rfl) (hpl : (backTo pos (starEach [.Name cn p2] X.env)).any (·.1) = false := by rfl) :
    DE g X (.Call (.Name "isinstance" p) [e, .Name cn p2] [] pos) (wIsi ans w) := de_isi hg hm (.own C) A he (pe_glob (v := .ref C) hg2 hm2 rfl hd) h1 h2 hpl
end
/-- answers of built-in types alone -/
def ansT (l : List (String × Bool)) : Kt → Option Bool
  | .ty T => l.lookup T
  | _ => none
theorem isA_T {g : G} {K : PySem.W.Frag} {l : List (String × Bool)} {u : Value} (h : ∀ p ∈ l, PySem.W.kitOne K (.type p.1) u = some p.2) : IsA g K (ansT l) u where
  one := fun t b e => by
    cases t with
    | ty T => exact h (T, b) (by
        have e : l.lookup T = some b := e
        exact (List.lookup_eq_some_iff.mp e).elim fun l1 ⟨l2, e1, _⟩ => by rw [e1]; simp)
    | cl c => cases e
    | ex c => cases e
  cl := fun c b e => by cases e
  ex := fun c b e => by cases e
theorem kit_ii {K : PySem.W.Frag} : PySem.W.kitOne K (.type "int") (.type "int") = some true := by rfl
theorem kit_ib {K : PySem.W.Frag} : PySem.W.kitOne K (.type "int") (.type "bool") = some false := by rfl
/-! ### what may be shown -/
theorem Shw.of {d : PyData} (hl : PyData.layable0 d = true) (hi : d.intsShort 13 = true) (hs : d.showable = true) (hd : d.depth ≤ 60) : Shw d :=
  ⟨hs, Nat.le_trans (PyData.shown_le_of_layable0 hl hi) (by decide), hd⟩
theorem int12 {a : Int} (h : a.natAbs < 10 ^ 12) : PyData.showable (.int a) = true ∧ PyData.intsShort 13 (.int a) = true ∧ PyData.weight (.int a) ≤ 41 := by
  have h1 := lg_le (x := a) (m := 40) (by omega)
  refine ⟨by simp only [PyData.showable, decide_eq_true_eq]; omega, by simp only [PyData.intsShort, decide_eq_true_eq]; exact PyData.shown_int_le h, ?_⟩
  simp only [PyData.weight]
  split <;> omega
theorem Shw.t3 {a b c : Int} (ha : a.natAbs < 10 ^ 12) (hb : b.natAbs < 10 ^ 12) (hc : c.natAbs < 10 ^ 12) : Shw (.tuple [.int a, .int b, .int c]) := by
  obtain ⟨a1, a2, a3⟩ := int12 ha
  obtain ⟨b1, b2, b3⟩ := int12 hb
  obtain ⟨c1, c2, c3⟩ := int12 hc
  refine .of ?_ ?_ ?_ ?_
  · have : (PyData.canLay0 (.tuple [.int a, .int b, .int c]) && decide (PyData.depth (.tuple [.int a, .int b, .int c]) ≤ 64) && decide (PyData.weight (.tuple [.int a, .int b, .int c]) ≤ 2 ^ 20)) = true := by
      have w : PyData.weight (.tuple [.int a, .int b, .int c]) = (.int a : PyData).weight + 1 + ((.int b : PyData).weight + 1 + ((.int c : PyData).weight + 1 + 0)) := by simp only [PyData.weight, PyData.weightAll]
      rw [w]
      simp only [PyData.canLay0, PyData.canLayAll0, PyData.depth, PyData.depthAll, Bool.and_true, Bool.true_and, Bool.and_eq_true, decide_eq_true_eq]
      exact ⟨by rfl, by omega⟩
    exact this
  · simp only [PyData.intsShort, PyData.intsShortAll] at *
    simp [a2, b2, c2]
  · simp only [PyData.showable, PyData.showableAll] at *
    simp [a1, b1, c1]
  · simp only [PyData.depth, PyData.depthAll]; decide
/-! ### texts that may be compared -/
theorem sok_of (s : String) : PyData.strOk (Str.ofString s) = true := by
  unfold PyData.strOk
  rw [Str.ofString_eq_toList]
  simp only [List.all_toArray, List.all_map, List.all_eq_true, Function.comp, decide_eq_true_eq]
  intro c _
  have := c.valid
  rcases this with h | h
  · have : c.toNat < 0xd800 := h
    omega
  · have : c.toNat < 0x110000 := h.2
    omega
theorem sok_app {x y : Str} (hx : PyData.strOk x = true) (hy : PyData.strOk y = true) : PyData.strOk (x ++ y) = true := by
  unfold PyData.strOk at *
  show (x.cps ++ y.cps).all _ = true
  rw [Array.all_append, hx, hy]
  rfl
theorem sok_join : ∀ {ts : List Str}, (∀ t ∈ ts, PyData.strOk t = true) → PyData.strOk (Str.join ", " ts) = true
  | [], _ => by
    show PyData.strOk Str.empty = true
    simp [PyData.strOk, Str.empty]
  | [x], h => h x (by simp)
  | x :: y :: r, h => by
    show PyData.strOk (x ++ ", " ++ Str.join ", " (y :: r)) = true
    exact sok_app (sok_app (h x (by simp)) (sok_of ", ")) (sok_join fun t ht => h t (List.mem_cons_of_mem _ ht))
theorem sok_tup {ts : List Str} (h : ∀ t ∈ ts, PyData.strOk t = true) : PyData.strOk (tupleText ts) = true := by
  unfold tupleText
  refine sok_app (sok_app (sok_of "(") (sok_join h)) ?_
  split <;> exact sok_of _
theorem sok_t3 (a b c : Int) : PyData.strOk (PyData.shown (.tuple [.int a, .int b, .int c])) = true := by
  simp only [PyData.shown, PyData.shownAll]
  refine sok_tup fun t ht => ?_
  simp only [List.mem_cons, List.not_mem_nil, or_false] at ht
  rcases ht with rfl | rfl | rfl <;> exact sok_of _
theorem eqStr {z : Str} (h : PyData.strOk z = true) : eqD (.str z) (.str z) = some true := by
  show (if (SeqAt.shaped (.str z) && SeqAt.shaped (.str z)) = true then some (PyData.eqv (.str z) (.str z)) else none) = some true
  have h1 : PyData.eqv (.str z) (.str z) = true := by simp [PyData.eqv]
  have h2 : SeqAt.shaped (.str z) = true := by
    unfold SeqAt.shaped
    simp [PyData.canLay0, PyData.depth, h]
  rw [h1, h2]
  rfl
end Dk
namespace Dk
open PySem PySem.Spec PyProof.Rows L2 He

/-! ### the head: what stands behind the top, by names -/
/-- a property's getter -/
def pga (K : PySem.W.Frag) (C : Addr) (m : Str) : Addr := match PySem.W.recIn K (ma K C m) "property" with
  | some (.ref g :: _) => g
  | _ => 0
/-- a static method's def -/
def sga (K : PySem.W.Frag) (C : Addr) (m : Str) : Addr := match PySem.W.recIn K (ma K C m) "staticmethod" with
  | some (.ref g :: _) => g
  | _ => 0
/-- where a def stands -/
inductive Whr where
  | glo (x : Str) | met (C m : Str) | prp (C m : Str) | stc (C m : Str)
def Whr.at_ (K : PySem.W.Frag) : Whr → Addr
  | .glo x => ga K x
  | .met C m => ma K (ga K C) m
  | .prp C m => pga K (ga K C) m
  | .stc C m => sga K (ga K C) m
structure DefQ where
  wh : Whr
  name : Str
  qual : Str
  st : Stmt
  dfl : List Dv := []
abbrev FnX : Type := Option (Str × Str × Arguments × FuncBody × Scope × Addr × List Str × Addr)
def fnX (K : PySem.W.Frag) (a : Addr) : FnX := match K.lookup a with
  | some ⟨_, _, .func fd, _⟩ => some (fd.name, fd.qualname, fd.params, fd.body, fd.scope, fd.globals, fd.closure.map (·.1), fd.builtins)
  | _ => none
def DefQ.val (d : DefQ) : FnX := some (d.name, d.qual, defArgs d.st, .stmts (defBody d.st), defScope d.st, mainGlobals, [], builtinsNs)
def DefQ.ok (K : PySem.W.Frag) (d : DefQ) : Bool := PySem.W.keepIn K (.ref (d.wh.at_ K)) && (match K.lookup (d.wh.at_ K) with
  | some ⟨_, _, .func fd, _⟩ => PySem.W.codeIn K fd.code d.qual && dflB K fd.defaults (d.dfl.map (Dv.v K))
  | _ => false)
theorem DefQ.funD {K : PySem.W.Frag} {d : DefQ} (e : fnX K (d.wh.at_ K) = d.val) (c : d.ok K = true) : ∃ fd, FunD K d.name d.qual (defArgs d.st) (defBody d.st) (defScope d.st) (d.dfl.map (Dv.v K)) [] (d.wh.at_ K) fd := by
  obtain ⟨kp, c2⟩ := ba c
  unfold fnX at e
  cases q : K.lookup (d.wh.at_ K) with
  | none =>
    rw [q] at c2
    cases c2
  | some o =>
    obtain ⟨oc, od, dt, osl⟩ := o
    rw [q] at c2 e
    cases dt with
    | func fd =>
      obtain ⟨n1, n2, n3, n4, n5, n6, n7, n8, n9, n10, n11, n12, n13, n14, n15⟩ := fd
      have e2 : (some (n1, n2, n3, n4, n5, n6, n7.map (·.1), n15) : FnX) = some (d.name, d.qual, defArgs d.st, .stmts (defBody d.st), defScope d.st, mainGlobals, [], builtinsNs) := e
      simp only [Option.some.injEq, Prod.mk.injEq, List.map_eq_nil_iff] at e2
      obtain ⟨h1, h2, h3, h4, h5, h6, h7, h8⟩ := e2
      subst h1 h2 h3 h4 h5 h6 h7 h8
      have c3 : (PySem.W.codeIn K n13 d.qual && dflB K n8 (d.dfl.map (Dv.v K))) = true := c2
      obtain ⟨k1, k2⟩ := ba c3
      exact ⟨_, ⟨oc, od, n8, n9, n10, n11, n12, n13, n14, osl, rfl, q, k1, dflB_ok k2, .inl rfl⟩, kp⟩
    | _ => cases c2
/-- a def without defaults -/
theorem fnf_of {K : PySem.W.Frag} {d : DefQ} {ps : List Str} (e : fnX K (d.wh.at_ K) = d.val) (c : d.ok K = true) (hd : d.dfl = [])
    (hb : ∀ (kV doc pm : Value) (an : Option Addr) (cdv ct : Value) (us : List Value), us.length = ps.length → bindArgs (PySem.W.fnOf d.name d.qual (defArgs d.st) (defBody d.st) (defScope d.st) .none kV doc pm an cdv ct) ⟨us, []⟩ = pure (ps.zip us)) :
    FnF K d.name d.qual d.st ps (d.wh.at_ K) (.ref (match K.lookup (d.wh.at_ K) with
      | some ⟨_, _, .func fd, _⟩ => (match fd.code with
        | .ref c => c
        | _ => 0)
      | _ => 0)) := by
  obtain ⟨fd, ⟨oc, od, dV, kV, doc, pm, an, cdv, ct, osl, rfl, lk, hcd, hD, _⟩, kp⟩ := DefQ.funD e c
  rw [hd] at hD
  rcases hD with ⟨_, rfl⟩ | ⟨z, _⟩
  · obtain ⟨c0, rfl⟩ := codeIn_ref hcd
    rw [lk]
    exact ⟨⟨oc, od, kV, doc, pm, an, ct, osl, lk, hcd, .all (hb kV doc pm an _ ct)⟩, kp⟩
  · exact absurd rfl z
/-- its code object -/
def cdA (K : PySem.W.Frag) (a : Addr) : Addr := match K.lookup a with
  | some ⟨_, _, .func fd, _⟩ => (match fd.code with
    | .ref c => c
    | _ => 0)
  | _ => 0
def tbA (K : PySem.W.Frag) (a : Addr) : Addr := tabOf K (cdA K a)

/-! ### further facts -/
/-- a class of errors below D (at f: D's own __init__) -/
def xcB (K : PySem.W.Frag) (D C f : Addr) : Bool := (match K.lookup C with
    | some ⟨.type "type", _, .cls cd, sl⟩ => (match cd.mro, sl.toList with
      | .ref C' :: bm, [_, _, _, _, some (.builtin n), _] => C' == C && (n == "ValueError.__new__" && (!cd.hasDel && (cd.hasDict && PySem.HandSPX.refsVE bm)))
      | _, _ => false)
    | _ => false) && (eqO (PySem.W.findIn K (.ref C) "__setattr__") (some (some (.builtin "object.__setattr__"))) && (decide (PySem.W.subIn K (.ref C) (.type "BaseException") = some true) && (decide (PySem.W.typeIn K (.ref C) = some (.type "type")) && (PySem.W.keepIn K (.ref C) &&
    (decide (PySem.W.mroIn K C (.ref D) = some true) && (eqO (PySem.W.ks_superIn K C D "__init__") (some (some (.builtin "ValueError.__init__"))) && (eqO (PySem.W.findIn K (.ref C) "value") (some none) && (eqO (PySem.W.findIn K (.ref C) "__init__") (some (some (.ref f))) && decide (PySem.W.typeIn K (.ref f) = some (.type "function"))))))))))
theorem xcB_ok {K : PySem.W.Frag} {D C f : Addr} (h : xcB K D C f = true) : XC K D C f := by
  obtain ⟨h0, h⟩ := ba h
  obtain ⟨h1, h⟩ := ba h
  obtain ⟨h2, h⟩ := ba h
  obtain ⟨h3, h⟩ := ba h
  obtain ⟨h4, h⟩ := ba h
  obtain ⟨h5, h⟩ := ba h
  obtain ⟨h6, h⟩ := ba h
  obtain ⟨h7, h⟩ := ba h
  obtain ⟨h8, h9⟩ := ba h
  refine ⟨⟨?_, eqO_ok h1, of_decide_eq_true h2, of_decide_eq_true h3, h4⟩, of_decide_eq_true h5, eqO_ok h6, eqO_ok h7, eqO_ok h8, of_decide_eq_true h9⟩
  split at h0
  · rename_i dd cd sl ho
    split at h0
    · rename_i C' bm k0 k1 k2 k3 n k5 hm hs
      obtain ⟨a1, h0⟩ := ba h0
      obtain ⟨a2, h0⟩ := ba h0
      obtain ⟨a3, h0⟩ := ba h0
      obtain ⟨a4, a5⟩ := ba h0
      have a1 := beq_iff_eq.mp a1
      have a2 := beq_iff_eq.mp a2
      subst a1 a2
      obtain ⟨nm, bs, mro, ns, qn, hd, sn, sub, ab, col, del⟩ := cd
      have a3 : (!del) = true := a3
      cases del with
      | true => cases a3
      | false =>
        have a4 : hd = true := a4
        have hm : mro = _ := hm
        subst a4 hm
        have hsl : sl = #[k0, k1, k2, k3, some (.builtin "ValueError.__new__"), k5] := by
          obtain ⟨l⟩ := sl
          simp only at hs
          rw [hs]
        subst hsl
        exact ⟨nm, qn, ns, bs, bm, sn, sub, ab, col, dd, k0, k1, k2, k3, k5, ho, a5⟩
    · cases h0
  · cases h0
def excB (K : PySem.W.Frag) (C : Addr) : Bool := eqO (PySem.W.findIn K (.ref C) "__getattribute__") (some (some (.builtin "BaseException.__getattribute__"))) && (eqO (PySem.W.findIn K (.ref C) "__getattr__") (some none) && (decide (PySem.W.subIn K (.ref C) (.type "BaseException") = some true) && (PySem.W.hasDictIn K C &&
  (eqO (PySem.W.findIn K (.ref C) "__class__") (some (some (.builtin "object.__class__"))) && (eqO (PySem.W.specialIn K (.builtin "object.__class__") "__get__") (some (some (.builtin "getset_descriptor.__get__"))) && (decide (PySem.W.takesIn K (.builtin "object.__class__") = some true) && decide (PySem.W.mroIn K C (.type "object") = some true)))))))
theorem excB_ok {K : PySem.W.Frag} {C : Addr} (h : excB K C = true) : ExcC K C := by
  obtain ⟨h1, h⟩ := ba h
  obtain ⟨h2, h⟩ := ba h
  obtain ⟨h3, h⟩ := ba h
  obtain ⟨h4, h⟩ := ba h
  obtain ⟨h5, h⟩ := ba h
  obtain ⟨h6, h⟩ := ba h
  obtain ⟨h7, h8⟩ := ba h
  exact ⟨eqO_ok h1, eqO_ok h2, of_decide_eq_true h3, h4, eqO_ok h5, eqO_ok h6, of_decide_eq_true h7, of_decide_eq_true h8⟩
/-- an own class whose instances are compared, made, asked -/
def clB (K : PySem.W.Frag) (x : Str) : Bool := (Fa.cls x).ok K && (PySem.W.selfFirst K (ga K x) && (PySem.W.notFirst K (ga K x) (.ref (ga K x)) && ((Fa.mkr x).ok K && (eqO (PySem.W.findIn K (.ref (ga K x)) "__class__") (some (some (.builtin "object.__class__"))) &&
  (eqO (PySem.W.specialIn K (.builtin "object.__class__") "__get__") (some (some (.builtin "getset_descriptor.__get__"))) && (decide (PySem.W.takesIn K (.builtin "object.__class__") = some true) && decide (PySem.W.mroIn K (ga K x) (.type "object") = some true)))))))
structure ClF (K : PySem.W.Frag) (x : Str) : Prop where
  cl : Cls K (ga K x)
  sf : PySem.W.selfFirst K (ga K x) = true
  nf : PySem.W.notFirst K (ga K x) (.ref (ga K x)) = true
  make : Mk K (ga K x) (ma K (ga K x) "__init__")
  is_ : IsO K (ga K x)
theorem clB_ok {K : PySem.W.Frag} {x : Str} (h : clB K x = true) : ClF K x := by
  obtain ⟨h1, h⟩ := ba h
  obtain ⟨h2, h⟩ := ba h
  obtain ⟨h3, h⟩ := ba h
  obtain ⟨h4, h⟩ := ba h
  obtain ⟨h5, h⟩ := ba h
  obtain ⟨h6, h⟩ := ba h
  obtain ⟨h7, h8⟩ := ba h
  exact ⟨cls_ok h1, h2, h3, mkr_ok h4, ⟨cls_ok h1, eqO_ok h5, eqO_ok h6, of_decide_eq_true h7, of_decide_eq_true h8⟩⟩
def prB (K : PySem.W.Frag) (C : Addr) (m : Str) : Bool := eqO (PySem.W.findIn K (.ref C) m) (some (some (.ref (ma K C m)))) && (eqO (PySem.W.specialIn K (.ref (ma K C m)) "__get__") (some (some (.builtin "property.__get__"))) && (decide (PySem.W.takesIn K (.ref (ma K C m)) = some true) &&
  (match PySem.W.recIn K (ma K C m) "property" with
    | some (.ref g :: _) => g == pga K C m
    | _ => false)))
theorem prB_ok {K : PySem.W.Frag} {C : Addr} {m : Str} (h : prB K C m = true) : PropOf K C m (ma K C m) (pga K C m) := by
  obtain ⟨h1, h⟩ := ba h
  obtain ⟨h2, h⟩ := ba h
  obtain ⟨h3, h4⟩ := ba h
  refine ⟨eqO_ok h1, eqO_ok h2, of_decide_eq_true h3, ?_⟩
  split at h4
  · rename_i g r e
    exact ⟨r, by rw [e, beq_iff_eq.mp h4]⟩
  · cases h4
/-- C.m is a static method -/
def stB (K : PySem.W.Frag) (C : Addr) (m : Str) : Bool := (match PySem.W.findCls K (.ref C) (.type "type") m with
    | some (.get (.builtin n) (.ref q) .none (.ref C')) => n == "staticmethod.__get__" && (q == ma K C m && C' == C)
    | _ => false) && (PySem.W.readsIn K C (.type "type") && (eqO (PySem.W.specialIn K (.ref C) "__getattribute__") (some (some (.builtin "type.__getattribute__"))) && (match PySem.W.recIn K (ma K C m) "staticmethod" with
    | some (.ref f :: _) => f == sga K C m
    | _ => false)))
structure StC (K : PySem.W.Frag) (C : Addr) (m : Str) : Prop where
  rd : PySem.W.readsIn K C (.type "type") = true
  ga : PySem.W.specialIn K (.ref C) "__getattribute__" = some (some (.builtin "type.__getattribute__"))
  at_ : PySem.W.findCls K (.ref C) (.type "type") m = some (.get (.builtin "staticmethod.__get__") (.ref (ma K C m)) .none (.ref C))
  rc : ∃ rest, PySem.W.recIn K (ma K C m) "staticmethod" = some (.ref (sga K C m) :: rest)
theorem stB_ok {K : PySem.W.Frag} {C : Addr} {m : Str} (h : stB K C m = true) : StC K C m := by
  obtain ⟨h1, h⟩ := ba h
  obtain ⟨h2, h⟩ := ba h
  obtain ⟨h3, h4⟩ := ba h
  refine ⟨h2, eqO_ok h3, ?_, ?_⟩
  · split at h1
    · rename_i n q C' e
      obtain ⟨a1, a2⟩ := ba h1
      obtain ⟨a2, a3⟩ := ba a2
      rw [e, beq_iff_eq.mp a1, beq_iff_eq.mp a2, beq_iff_eq.mp a3]
    · cases h1
  · split at h4
    · rename_i g r e
      exact ⟨r, by rw [e, beq_iff_eq.mp h4]⟩
    · cases h4
/-- RingError's __init__ -/
def rgB (K : PySem.W.Frag) (mainFile : Str) (D f : Addr) (qual : Str) : Bool := (match K.lookup f with
    | some ⟨_, _, .func fd, _⟩ => PySem.W.codeIn K fd.code qual && (dflB K fd.defaults [] && (match fd.code with
        | .ref cda => (match K.lookup cda with
          | some ⟨_, _, .fields vs, _⟩ => (match (vs[2]? : Option Value) with
            | some (.str file _) => mainFile == file
            | _ => false)
          | _ => false)
        | _ => false)) && (match fd.closure with
        | [(_, cc)] => (match K.lookup cc with
          | some ⟨_, _, .cell (some (.ref D')), _⟩ => D' == D
          | _ => false)
        | _ => false)
    | _ => false) && ((PySem.W.clsIn K D).isSome && eqO (PySem.W.nsIn K cStatics "thirdparty.any") (some none))
structure RgF (K : PySem.W.Frag) (mainFile : Str) (D f : Addr) (qual : Str) (params : Arguments) (body : List Stmt) (scope : Scope) : Prop where
  ex : ∃ (oc : Value) (od : Option Addr) (kV doc pm : Value) (an : Option Addr) (cda cc : Addr) (ct : Value) (osl : Array (Option Value)) (ccl cl : Value) (cdd cld : Option Addr) (ccs csl : Array (Option Value)) (vs : Array Value) (file : Str) (tf : Tok) (cdD : ClassData),
    K.lookup f = some ⟨oc, od, .func (PySem.W.ksFn "__init__" qual params body scope .none kV doc pm an (.ref cda) ct cc), osl⟩ ∧ PySem.W.codeIn K (.ref cda) qual = true ∧
    K.lookup cda = some ⟨ccl, cdd, .fields vs, ccs⟩ ∧ vs[2]? = some (.str file tf) ∧ (mainFile == file) = true ∧
    K.lookup cc = some ⟨cl, cld, .cell (some (.ref D)), csl⟩ ∧ PySem.W.clsIn K D = some cdD
  op : PySem.W.nsIn K cStatics "thirdparty.any" = some none
def rgVal (qual : Str) (params : Arguments) (body : List Stmt) (scope : Scope) : FnX := some (("__init__" : Str), qual, params, .stmts body, scope, mainGlobals, [("__class__" : Str)], builtinsNs)
theorem rgB_ok {K : PySem.W.Frag} {mf : Str} {D f : Addr} {qual : Str} {params : Arguments} {body : List Stmt} {scope : Scope} (e : fnX K f = rgVal qual params body scope) (h : rgB K mf D f qual = true) :
    RgF K mf D f qual params body scope := by
  obtain ⟨h1, h⟩ := ba h
  obtain ⟨h2, h3⟩ := ba h
  refine ⟨?_, eqO_ok h3⟩
  obtain ⟨cdD, hD⟩ := Option.isSome_iff_exists.mp h2
  unfold fnX at e
  cases q : K.lookup f with
  | none => rw [q] at h1; cases h1
  | some o =>
    obtain ⟨oc, od, dt, osl⟩ := o
    rw [q] at h1 e
    cases dt with
    | func fd =>
      obtain ⟨n1, n2, n3, n4, n5, n6, n7, n8, n9, n10, n11, n12, n13, n14, n15⟩ := fd
      have e2 : (some (n1, n2, n3, n4, n5, n6, n7.map (·.1), n15) : FnX) = some (("__init__" : Str), qual, params, .stmts body, scope, mainGlobals, [("__class__" : Str)], builtinsNs) := e
      simp only [Option.some.injEq, Prod.mk.injEq] at e2
      obtain ⟨g1, g2, g3, g4, g5, g6, g7, g8⟩ := e2
      subst g1 g2 g3 g4 g5 g6 g8
      obtain ⟨h4, k3⟩ := ba h1
      obtain ⟨k1, h5⟩ := ba h4
      obtain ⟨k0, k2⟩ := ba h5
      clear h1 h4 h5 e
      dsimp only at k0 k1 k2 k3
      have k0 : n8 = .none := by
        cases n8 with
        | none => rfl
        | _ => cases k0
      subst k0
      obtain ⟨cda, rfl⟩ := codeIn_ref k1
      have k2 : (match K.lookup cda with
          | some ⟨_, _, .fields vs, _⟩ => (match (vs[2]? : Option Value) with
            | some (.str file _) => mf == file
            | _ => false)
          | _ => false) = true := k2
      split at k2
      · rename_i ccl cdd vs ccs lc
        split at k2
        · rename_i file tf hv
          match n7, g7, k3, q with
          | [(y, cc)], g7, k3, q =>
            have hy : y = ("__class__" : Str) := by
              have : [y] = [("__class__" : Str)] := g7
              exact List.head_eq_of_cons_eq this
            subst hy
            have k3 : (match K.lookup cc with
              | some ⟨_, _, .cell (some (.ref D')), _⟩ => D' == D
              | _ => false) = true := k3
            split at k3
            · rename_i cl cld D' csl lcc
              have := beq_iff_eq.mp k3
              subst this
              exact ⟨oc, od, n9, n10, n11, n12, cda, cc, n14, osl, ccl, cl, cdd, cld, ccs, csl, vs, file, tf, cdD, rfl, k1, lc, hv, k2, lcc, hD⟩
            · cases k3
        · cases k2
      · cases k2
    | _ => cases h1
/-! ### the Hook -/
def asC (g : Addr → Option Obj) : Nat → List Addr
  | 0 => [mainGlobals, cStatics]
  | n + 1 => growD g (asC g n)
def asK (g : Addr → Option Obj) (n : Nat) : List Addr := sysModules :: asC g n
def sysB (K : PySem.W.Frag) : Bool := match K.lookup sysModules with
  | some o => (match o.cls with
    | .type n => !(n == "list")
    | _ => true)
  | none => false
theorem sysB_ok {K : PySem.W.Frag} (h : sysB K = true) : SysOk K := by
  unfold sysB at h
  split at h
  · rename_i o e
    refine ⟨o, e, fun z => ?_⟩
    rw [z] at h
    simp at h
  · cases h
/-- what the law leans on: defs, tables of code objects, a test; the ring's __init__ -/
structure SaysK (fn : List DefQ) (tf : List Whr) (ex : PySem.W.Frag → Bool) (rg : PySem.W.Frag → FnX) (rv : FnX) (h : Heap) (K : PySem.W.Frag) : Prop where
  ok : ∀ d ∈ fn, d.ok K = true
  txt : ∀ d ∈ fn, fnX K (d.wh.at_ K) = d.val
  more : ex K = true
  ring : rg K = rv
  hd : ∀ p ∈ tf, PySem.W.codeHdIn K (cdA K (p.at_ K)) (tbA K (p.at_ K)) = true
  out : ∀ p ∈ tf, K.lookup (tbA K (p.at_ K)) = none
  empty : ∀ p ∈ tf, h.get? (tbA K (p.at_ K)) = some { cls := .none, data := .fields #[] }
abbrev AlK : Type := Bool × FnX × List FnX
def tabsK (g : Addr → Option Obj) (tf : List Whr) (K : PySem.W.Frag) : Bool := tf.all fun p => PySem.W.codeHdIn K (cdA K (p.at_ K)) (tbA K (p.at_ K)) && (match g (tbA K (p.at_ K)) with
  | some o => emptyTab o
  | none => false)
def obsK0 (fn : List DefQ) (tf : List Whr) (ex : PySem.W.Frag → Bool) (rg : PySem.W.Frag → FnX) (g : Addr → Option Obj) (K : PySem.W.Frag) : AlK := ((fn.all fun d => d.ok K) && (ex K && tabsK g tf K), rg K, fn.map fun d => fnX K (d.wh.at_ K))
def obsK (n : Nat) (fn : List DefQ) (tf : List Whr) (ex : PySem.W.Frag → Bool) (rg : PySem.W.Frag → FnX) (g : Addr → Option Obj) : AlK := obsK0 fn tf ex rg g (frT g (asK g n))
def valK (fn : List DefQ) (rv : FnX) : AlK := (true, rv, fn.map DefQ.val)
theorem map_eq_mem {α β : Type} {f f' : α → β} : ∀ {l : List α}, l.map f = l.map f' → ∀ a ∈ l, f a = f' a
  | [], _, a, h => by cases h
  | b :: l, e, a, h => by
    have e' : f b :: l.map f = f' b :: l.map f' := e
    injection e' with e1 e2
    rcases List.mem_cons.mp h with rfl | h
    · exact e1
    · exact map_eq_mem e2 a h
theorem saysK_of {n : Nat} {fn : List DefQ} {tf : List Whr} {ex : PySem.W.Frag → Bool} {rg : PySem.W.Frag → FnX} {rv : FnX} {h : Heap} (e : obsK n fn tf ex rg h.get? = valK fn rv) : SaysK fn tf ex rg rv h (frT h.get? (asK h.get? n)) := by
  generalize hK : frT h.get? (asK h.get? n) = K
  unfold obsK at e
  rw [hK] at e
  have e1 : ((fn.all fun d => d.ok K) && (ex K && tabsK h.get? tf K)) = true := congrArg (fun z : AlK => z.1) e
  have e2 : rg K = rv := congrArg (fun z : AlK => z.2.1) e
  have e3 : fn.map (fun d => fnX K (d.wh.at_ K)) = fn.map DefQ.val := congrArg (fun z : AlK => z.2.2) e
  obtain ⟨a1, a2⟩ := ba e1
  obtain ⟨a3, a4⟩ := ba a2
  have key : ∀ p ∈ tf, PySem.W.codeHdIn K (cdA K (p.at_ K)) (tbA K (p.at_ K)) = true ∧ ∃ o, h.get? (tbA K (p.at_ K)) = some o ∧ emptyTab o = true := fun p hp => by
    obtain ⟨h3, h4⟩ := ba (List.all_eq_true.mp a4 p hp)
    refine ⟨h3, ?_⟩
    cases q : h.get? (tbA K (p.at_ K)) with
    | none => rw [q] at h4; cases h4
    | some o => rw [q] at h4; exact ⟨o, rfl, h4⟩
  exact ⟨fun d hd => List.all_eq_true.mp a1 d hd, map_eq_mem e3, a3, e2, fun p hp => (key p hp).1, fun p hp => by
    obtain ⟨_, o, q, z⟩ := key p hp
    rw [← hK] at q ⊢
    exact frT_none q z, fun p hp => by
    obtain ⟨_, o, q, z⟩ := key p hp
    rw [q, emptyTab_eq z]⟩
def hookK (n : Nat) (fn : List DefQ) (tf : List Whr) (ex : PySem.W.Frag → Bool) (rg : PySem.W.Frag → FnX) (rv : FnX) : PySem.W.Hook where
  α := AlK
  obs := fun s => obsK n fn tf ex rg s.heap.get?
  val := fun _ => valK fn rv
  says := fun _ h => ∃ K : PySem.W.Frag, K.In h ∧ SaysK fn tf ex rg rv h K
  of := fun _ _ e => ⟨_, frT_in, saysK_of e⟩
  keeps := fun _ _ _ ⟨K, hK, c⟩ k => ⟨K, PySem.W.Frag.In.keeps hK k, ⟨c.ok, c.txt, c.more, c.ring, c.hd, c.out, fun p hp => k _ _ (c.empty p hp)⟩⟩
theorem obsK_eq {n : Nat} {fn : List DefQ} {tf : List Whr} {ex : PySem.W.Frag → Bool} {rg : PySem.W.Frag → FnX} {rv : FnX} {g : Addr → Option Obj} {s : Shared} (h : ∀ a, g a = s.heap.get? a) : obsK n fn tf ex rg g = (hookK n fn tf ex rg rv).obs s := by
  have e : g = s.heap.get? := funext h
  rw [e] <;> rfl
/-! ### the end -/
theorem walkK {l : PySem.W.OpenLaw} {n : Nat} {q : Program} {loose : List Str} {XP : (Str → Option Value) → Heap → Prop} {YP : World → Heap → Prop} {d : DefRec}
    (hn : l.most = some n) (hn2 : n ≤ sizeLine) (hdf : d.params.defaults = [])
    (F : ∀ (w : World) (mg : Str → Option Value) (fa : Addr) (h : Heap), YP w h → h.Ns mainGlobals mg → mg d.name = some (.ref fa) → ∃ K : PySem.W.Frag, K.In h ∧ LawD l w K n mg fa h) :
    PySem.W.WalkO q loose XP YP l.row.toRowW d [] (fun f vs => PySem.call f vs) := by
  refine Att.attach_callB hn hdf fun w s₀ s₁ mg mb fa o pm cd doc a vs ns G Y ho hd hcd hmg hobj hints hlen hbits hg => ?_
  obtain ⟨K, KX, cs, g, k, ct, hr, hK, hT0, hT, nT, C, hsp, hF⟩ := F w mg fa _ Y G.T.g hmg
  refine law_endD KX G.T.g G.T.b G.T.builtins G.T.nolimit hg hT nT C G.T.bmain hobj hints (Nat.le_trans hlen hn2) fun base H kin hns hTB e0 h0 => ?_
  exact run_law (hF base kin hns hTB) hr hK hT0 (hsp ns hlen hbits) e0 h0
end Dk
namespace Dk
open PySem PySem.Spec PyProof.Rows L2
/-! ### loops by invariants -/
theorem forL_inv {wg : Wg} {b : Ws} {D0 : De} (I : List D → List Sl → Mu → Prop)
    (hs : ∀ d rest ρ μ (N : List Sl → Mu → Prop), I (d :: rest) ρ μ → (∀ ρ' μ', I rest ρ' μ' → N ρ' μ') → wg d ρ (fun ρ1 => b { D0 with nx := N, ct := N, bk := D0.nx } ρ1 μ))
    (hn : ∀ ρ μ, I [] ρ μ → D0.nx ρ μ) : ∀ {ds : List D} {ρ : List Sl} {μ : Mu}, I ds ρ μ → sForL wg b ds D0 ρ μ
  | [], ρ, μ, h => hn ρ μ h
  | d :: ds, ρ, μ, h => hs d ds ρ μ (sForL wg b ds D0) h fun ρ' μ' h' => forL_inv I hs hn h'
theorem lcL_inv {wg : Wg} {wt : Wt} {we : We} {ρ : List Sl} {Q : List D → Mu → Prop} (I : List D → List D → Mu → Prop)
    (hs : ∀ d rest acc μ (N : List D → Mu → Prop), I (d :: rest) acc μ → (∀ acc' μ', I rest acc' μ' → N acc' μ') → wg d ρ (fun ρ1 => wt ρ1 μ (fun b μ => match b with
      | true => we ρ1 μ (fun z μ => acc.length < sizeLine ∧ N (acc ++ [z]) μ) noE
      | false => N acc μ) noE))
    (hn : ∀ acc μ, I [] acc μ → Q acc μ) : ∀ {ds acc : List D} {μ : Mu}, I ds acc μ → lcL wg wt we ρ ds acc μ Q
  | [], acc, μ, h => hn acc μ h
  | d :: ds, acc, μ, h => hs d ds acc μ (fun acc' μ' => lcL wg wt we ρ ds acc' μ' Q) h fun acc' μ' h' => lcL_inv I hs hn h'
/-- a while by a measure -/
theorem wh_inv {t : Wt} {b : Ws} {D0 : De} (I : Nat → List Sl → Mu → Prop)
    (hs : ∀ m ρ μ (N : List Sl → Mu → Prop), I m ρ μ → (∀ m' ρ' μ', m' < m → I m' ρ' μ' → N ρ' μ') → t ρ μ (fun c μ => match c with
      | true => b { D0 with nx := N, ct := N, bk := D0.nx } ρ μ
      | false => D0.nx ρ μ) (D0.ex ρ)) : ∀ (n m : Nat) {ρ : List Sl} {μ : Mu}, m < n → I m ρ μ → sWh t b n D0 ρ μ
  | 0, _, _, _, h, _ => absurd h (Nat.not_lt_zero _)
  | n + 1, m, ρ, μ, h, i => hs m ρ μ (sWh t b n D0) i fun m' ρ' μ' h' i' => wh_inv I hs n m' (by omega) i'
theorem while_inv {t : Wt} {b : Ws} {D0 : De} (I : Nat → List Sl → Mu → Prop)
    (hs : ∀ m ρ μ (N : List Sl → Mu → Prop), I m ρ μ → (∀ m' ρ' μ', m' < m → I m' ρ' μ' → N ρ' μ') → t ρ μ (fun c μ => match c with
      | true => b { D0 with nx := N, ct := N, bk := D0.nx } ρ μ
      | false => D0.nx ρ μ) (D0.ex ρ)) {m : Nat} {ρ : List Sl} {μ : Mu} (h : I m ρ μ) : sWhile t b D0 ρ μ := ⟨m + 1, wh_inv I hs (m + 1) m (Nat.lt_succ_self m) h⟩
end Dk
namespace Dk
open PySem PySem.Spec PyProof.Rows L2

/-! ### slices -/
def cutD {α : Type} (xs : List α) (lo hi : Option Int) : List α := (xs.drop (HT.sIx xs.length 0 lo)).take (HT.sIx xs.length xs.length hi - HT.sIx xs.length 0 lo)
theorem RpA.cut {g : G} {B : Hp} {vs : List V} {ds : List D} (r : RpA g B vs ds) (lo hi : Option Int) : RpA g B (cutD vs lo hi) (cutD ds lo hi) := by
  unfold cutD
  rw [r.len]
  exact (r.drop _).take _
def fSl : D → Option Int → Option Int → (D → Prop) → Prop := fun d lo hi Q => match d with
  | .lst xs => Q (.lst (cutD xs lo hi))
  | .tup xs => Q (.tup (cutD xs lo hi))
  | .str z => z.length ≤ sizeLine ∧ Q (.str (cutS z lo hi))
  | _ => False
abbrev Wo := List Sl → Mu → (Option Int → Mu → Prop) → Ek → Prop
def pN : Wo := fun _ μ Q _ => Q none μ
def pS (w : We) : Wo := fun ρ μ Q E => w ρ μ (fun d μ => match d with
  | .int i => Q (some i) μ
  | _ => False) E
def wSl (w : We) (l h : Wo) : We := fun ρ μ Q E => w ρ μ (fun d μ => l ρ μ (fun lo μ => h ρ μ (fun hi μ => fSl d lo hi (fun z => Q z μ)) E) E) E
def tDO (g : G) (W : WX) (w : Wo) : TO := fun σ H Q => ∃ B ρ μ Q0 E0, Rel g B H σ ρ μ ∧ w ρ μ Q0 E0 ∧ (∀ o μ', Q0 o μ' → ∀ B' H', Nm g B H B' H' μ' → Q o H') ∧ exk g W B H σ E0
structure DO (g : G) (X : Cx) (e : Option Expr) (w : Wo) : Prop where
  run : Gd g X → ∀ W, Takes X W → PO X e (tDO g W w)
theorem POw {X : Cx} {e : Option Expr} {t t' : TO} (h : PO X e t) (i : ∀ σ H Q, t' σ H Q → t σ H Q) : PO X e t' := ⟨fun pins s σ H Q I q => h.run pins s σ H Q I (i σ H Q q)⟩
section
variable {g : G} {X : Cx} {a : Expr} {wa : We} {wl wh : Wo} {lo hi : Option Expr} {pos p2 : Pos}
theorem do_n : DO g X none pN := ⟨fun gd W tk => POw po_none fun σ H Q h => by
  obtain ⟨B, ρ, μ, Q0, E0, rel, hw, hq, _⟩ := h
  exact hq _ _ hw B H rel.mm⟩
theorem do_s (ha : DE g X a wa) : DO g X (some a) (pS wa) := ⟨fun gd W tk => POw (po_some (ha.run gd W tk)) fun σ H Q h => by
  obtain ⟨B, ρ, μ, Q0, E0, rel, hw, hq, hx⟩ := h
  refine tD.go rel hw hx fun d μ1 v B1 H1 k n r => ?_
  cases d with
  | int i => cases r; exact ⟨i, rfl, hq _ _ k B1 H1 n⟩
  | _ => exact k.elim⟩
def rSlX (K : PySem.W.Frag) : V → Option Int → Option Int → Hp → VK → Prop := fun x lo hi H Q => rSlL K x lo hi H Q ∨ rSlA K x lo hi H Q ∨ rSlS x lo hi H Q
theorem cutD_all {α : Type} {xs : List α} {lo hi : Option Int} (h : HT.sIx xs.length 0 lo = 0 ∧ HT.sIx xs.length xs.length hi = xs.length) : cutD xs lo hi = xs := by
  unfold cutD
  rw [h.1, h.2, List.drop_zero, Nat.sub_zero, List.take_length]
theorem de_slice (ha : DE g X a wa) (hl : DO g X lo wl) (hh : DO g X hi wh) : DE g X (.Subscript a (.Slice lo hi none p2) pos) (wSl wa wl wh) := ⟨fun gd W tk => PEw (pe_slice (r := rSlX X.K) (sl_list.or (sl_tupA.or sl_str)) (ha.run gd W tk) (hl.run gd W tk) (hh.run gd W tk)) fun σ H Q h => by
  obtain ⟨B, ρ, μ, Q0, E0, rel, hw, hq, hx⟩ := h
  refine tD.go rel hw hx fun d μ1 v B1 H1 k n r => ⟨B1, ρ, μ1, _, E0, rel.nm n, k, fun l μ2 k2 B2 H2 n2 => ⟨B2, ρ, μ2, _, E0, (rel.nm n).nm n2, k2, fun u μ3 k3 B3 H3 n3 => ?_, (hx.nx n).nx n2⟩, hx.nx n⟩
  have r3 := r.up (n2.up.trans n3.up)
  have bs := n3.bs
  have nn := (n.trans n2).trans n3
  rw [gd.k]
  cases r3 with
  | lst h1 a1 =>
    refine .inl ⟨_, _, rfl, SqL.of (bs.sub.at h1), fun p hp => ?_⟩
    obtain ⟨n4, r4⟩ := bs.lst (a1.cut l u) hp
    exact hq _ _ k3 _ _ _ (nn.np n4) r4
  | tup h1 a1 =>
    refine .inr (.inl ⟨_, _, rfl, bs.sub.sqt h1, fun e => ?_, fun _ p hp => ?_⟩)
    · have e2 := cutD_all e
      have a2 := a1.cut l u
      have e3 := cutD_all (by rw [a1.len] at e; exact e)
      have k3 : Q0 (.tup (cutD _ l u)) μ3 := k3
      rw [e3] at k3
      exact hq _ _ k3 _ _ _ nn (.tup h1 a1)
    · obtain ⟨n4, r4⟩ := bs.tup (a1.cut l u) hp
      exact hq _ _ k3 _ _ _ (nn.np n4) r4
  | str z => exact .inr (.inr ⟨z, rfl, k3.1, hq _ _ k3.2 _ _ _ nn (.str _)⟩)
  | _ => exact k3.elim⟩

/-! ### in -/
def D.flat : D → Bool
  | .non => true
  | .bl _ => true
  | .int _ => true
  | .str _ => true
  | _ => false
def eqF : D → D → Bool
  | .non, .non => true
  | .bl a, .bl b => a == b
  | .bl a, .int b => (if a then 1 else 0) == b
  | .int a, .bl b => a == (if b then 1 else 0)
  | .int a, .int b => a == b
  | .str a, .str b => a == b
  | _, _ => false
def inD (x : D) (xs : List D) : Bool := xs.any fun y => eqF y x
theorem Rp.flat {B : Hp} {v : V} {d : D} (r : Rp g B v d) (h : d.flat = true) : flatV v = true := by
  cases r <;> first | rfl | cases h
theorem Rp.eqF {B : Hp} {v u : V} {d e : D} (r : Rp g B v d) (q : Rp g B u e) (h : d.flat = true) (h' : e.flat = true) : eqV v u = Dk.eqF d e := by
  cases r <;> cases q <;> first | rfl | (cases h; done) | (cases h'; done)
theorem RpA.flat {B : Hp} : ∀ {vs : List V} {ds : List D}, RpA g B vs ds → ds.all D.flat = true → vs.all flatV = true
  | _, _, .nil, _ => rfl
  | _, _, .cons r t, h => by
    rw [List.all_cons, Bool.and_eq_true] at h ⊢
    exact ⟨r.flat h.1, t.flat h.2⟩
theorem RpA.inD {B : Hp} {x : V} {d : D} (rx : Rp g B x d) (hx : d.flat = true) : ∀ {vs : List V} {ds : List D}, RpA g B vs ds → ds.all D.flat = true → inV x vs = Dk.inD d ds
  | _, _, .nil, _ => rfl
  | _, _, .cons r t, h => by
    rw [List.all_cons, Bool.and_eq_true] at h
    have := t.inD rx hx h.2
    unfold inV Dk.inD at *
    rw [List.any_cons, List.any_cons, r.eqF rx h.1 hx, this]
def fIn (neg : Bool) : F2 := fun d c Q => match c with
  | .lst ys => d.flat = true ∧ ys.all D.flat = true ∧ Q (.bl (if neg then !inD d ys else inD d ys))
  | .tup ys => d.flat = true ∧ ys.all D.flat = true ∧ Q (.bl (if neg then !inD d ys else inD d ys))
  | .str z => (match d with
    | .str i => Q (.bl (if neg then !(!(Builtin.Str.occurrences z i 0 z.length 1).isEmpty) else !(Builtin.Str.occurrences z i 0 z.length 1).isEmpty))
    | _ => False)
  | _ => False
def rInX (K : PySem.W.Frag) (neg : Bool) : R2 := fun x y H Q => rIn K neg x y H Q ∨ ∃ i j, x = .str i ∧ y = .str j ∧ Q (.bl (if neg then !(!(Builtin.Str.occurrences j i 0 j.length 1).isEmpty) else !(Builtin.Str.occurrences j i 0 j.length 1).isEmpty)) H
theorem f2_in {neg : Bool} {K : PySem.W.Frag} (hK : K = g.K) : Op2 g (rInX K neg) (fIn neg) := by
  subst hK
  intro B H x y d e Q0 Q b rx ry hf hq
  cases ry with
  | lst h r =>
    obtain ⟨h1, h2, h3⟩ := hf
    refine .inl ⟨_, _, rfl, .inl (SqL.of (b.sub.at h)), rx.flat h1, r.flat h2, ?_⟩
    rw [RpA.inD rx h1 r h2]
    exact hq _ h3 _ B H b.rf (.bl _)
  | tup h r =>
    obtain ⟨h1, h2, h3⟩ := hf
    refine .inl ⟨_, _, rfl, .inr (b.sub.sqt h), rx.flat h1, r.flat h2, ?_⟩
    rw [RpA.inD rx h1 r h2]
    exact hq _ h3 _ B H b.rf (.bl _)
  | str z =>
    cases rx <;> first | exact hf.elim | skip
    exact .inr ⟨_, _, rfl, rfl, hq _ hf _ B H b.rf (.bl _)⟩
  | _ => exact hf.elim
theorem op_inX : OpR X (compareOp .In) (rInX X.K false) := op_in_seq.or op_in_str
theorem op_ninX : OpR X (compareOp .NotIn) (rInX X.K true) := op_notIn_seq.or op_notIn_str
variable {b : Expr} {wb : We}
theorem de_in (ha : DE g X a wa) (hb : DE g X b wb) (hm : behindInMarks .In b = false := by rfl) : DE g X (.Compare a [.In] [b] pos) (w2 (fIn false) wa wb) := de_cmp (fun _ => op_inX) (fun gd => f2_in gd.k) ha hb hm
theorem dt_in (ha : DE g X a wa) (hb : DE g X b wb) (hm : behindInMarks .In b = false := by rfl) : DT g X (.Compare a [.In] [b] pos) (tB0 (w2 (fIn false) wa wb)) := dt_cmp (fun _ => op_inX) (fun gd => f2_in gd.k) ha hb hm
theorem de_nin (ha : DE g X a wa) (hb : DE g X b wb) (hm : behindInMarks .NotIn b = false := by rfl) : DE g X (.Compare a [.NotIn] [b] pos) (w2 (fIn true) wa wb) := de_cmp (fun _ => op_ninX) (fun gd => f2_in gd.k) ha hb hm
theorem dt_nin (ha : DE g X a wa) (hb : DE g X b wb) (hm : behindInMarks .NotIn b = false := by rfl) : DT g X (.Compare a [.NotIn] [b] pos) (tB0 (w2 (fIn true) wa wb)) := dt_cmp (fun _ => op_ninX) (fun gd => f2_in gd.k) ha hb hm
end
end Dk
namespace Dk
open PySem PySem.Spec PyProof.Rows L2

/-! ### methods of texts -/
def wS0 (f : Str → (D → Prop) → Prop) (o : We) : We := fun ρ μ Q E => o ρ μ (fun d μ => match d with
  | .str z => f z (fun z => Q z μ)
  | _ => False) E
def wS1 (f : Str → F1) (o e : We) : We := fun ρ μ Q E => o ρ μ (fun d μ => match d with
  | .str z => e ρ μ (fun d2 μ => f z d2 (fun z => Q z μ)) E
  | _ => False) E
section
variable {g : G} {X : Cx} {o e a : Expr} {wo we wa : We} {apos pos : Pos} {p : Pos} {es : List Expr} {w : Wa}
theorem de_s0 {id : String} {name : Str} {r : V → List V → Hp → VK → Prop} {f : Str → (D → Prop) → Prop} (slot : Slot "str" name id) (ty : typeOf (.builtin id) = pure (.type "method_descriptor")) (rule : MtR X id r)
    (hf : ∀ {B H : Hp} {z : Str} {Q0 : D → Prop} {Q : VK}, Bs g B H → f z Q0 → (∀ d, Q0 d → ∀ v B' H', Np g B H B' H' → Rp g B' v d → Q v H') → r (.str z) [] H Q) (ho : DE g X o wo)
    (hbase : attributeBase o name X.env (eval o X.env) = eval o X.env := by rfl) (hline : (apos.endLine == pos.line) = true := by rfl) : DE g X (.Call (.Attribute o name apos) [] [] pos) (wS0 f wo) := ⟨fun gd W tk => PEw (pe_m0 slot ty rule (ho.run gd W tk) hbase hline) fun σ H Q h => by
  obtain ⟨B, ρ, μ, Q0, E0, rel, hw, hq, hx⟩ := h
  refine tD.go rel hw hx fun d μ1 v B1 H1 k n r => ?_
  cases d with
  | str z =>
    cases r
    exact ⟨⟨z, rfl⟩, hf n.bs k fun d hd v2 B2 H2 n2 r2 => hq _ _ hd _ _ _ (n.np n2) r2⟩
  | _ => exact k.elim⟩
theorem de_s1 {id : String} {name : Str} {r : V → List V → Hp → VK → Prop} {f : Str → F1} (slot : Slot "str" name id) (ty : typeOf (.builtin id) = pure (.type "method_descriptor")) (rule : MtR X id r)
    (hf : Gd g X → ∀ {B H : Hp} {z : Str} {x : V} {d : D} {Q0 : D → Prop} {Q : VK}, Bs g B H → Rp g B x d → f z d Q0 → (∀ d, Q0 d → ∀ v B' H', Np g B H B' H' → Rp g B' v d → Q v H') → r (.str z) [x] H Q) (ho : DE g X o wo) (he : DE g X e we)
    (hs : starEach [e] X.env = [(false, eval e X.env)] := by rfl) (hbase : attributeBase o name X.env (eval o X.env) = eval o X.env := by rfl) (hline : (apos.endLine == pos.line) = true := by rfl) : DE g X (.Call (.Attribute o name apos) [e] [] pos) (wS1 f wo we) := ⟨fun gd W tk => PEw (pe_m1 slot ty rule (ho.run gd W tk) (he.run gd W tk) hs hbase hline) fun σ H Q h => by
  obtain ⟨B, ρ, μ, Q0, E0, rel, hw, hq, hx⟩ := h
  refine tD.go rel hw hx fun d μ1 v B1 H1 k n r => ?_
  cases d with
  | str z =>
    cases r
    refine ⟨⟨z, rfl⟩, tD.go (rel.nm n) k (hx.nx n) fun d2 μ2 v2 B2 H2 k2 n2 r2 => ?_⟩
    exact hf gd n2.bs r2 k2 fun d hd v3 B3 H3 n3 r3 => hq _ _ hd _ _ _ ((n.trans n2).np n3) r3
  | _ => exact k.elim⟩
def fUpper : Str → (D → Prop) → Prop := fun z Q => z.length ≤ 5592405 ∧ Q (.str (Txt.upper z))
def fSplit : Str → F1 := fun z e Q => match e with
  | .str b => (b.length == 0) = false ∧ z.length + 2 ≤ sizeLine ∧ Q (.lst ((Txt.split z b).map .str))
  | _ => False
def fStarts : Str → F1 := fun z e Q => match e with
  | .str b => Q (.bl (Txt.startswith z b))
  | _ => False
def fEnds : Str → F1 := fun z e Q => match e with
  | .str b => Q (.bl (Txt.endswith z b))
  | _ => False
def fJoin : Str → F1 := fun z e Q => ∃ ys : List Str, (e = .lst (ys.map .str) ∨ e = .tup (ys.map .str)) ∧ (ys.map (·.length)).sum + ys.length * z.length ≤ 16777216 ∧ Q (.str (Txt.join z ys))
theorem de_upper (ho : DE g X o wo) (hbase : attributeBase o "upper" X.env (eval o X.env) = eval o X.env := by rfl) (hline : (apos.endLine == pos.line) = true := by rfl) : DE g X (.Call (.Attribute o "upper" apos) [] [] pos) (wS0 fUpper wo) :=
  de_s0 F.slot_str_upper F.type_str_upper mt_upper (fun b h hq => ⟨_, rfl, rfl, h.1, hq _ h.2 _ _ _ b.rf (.str _)⟩) ho hbase hline
theorem de_split (ho : DE g X o wo) (he : DE g X e we) (hs : starEach [e] X.env = [(false, eval e X.env)] := by rfl) (hbase : attributeBase o "split" X.env (eval o X.env) = eval o X.env := by rfl) (hline : (apos.endLine == pos.line) = true := by rfl) : DE g X (.Call (.Attribute o "split" apos) [e] [] pos) (wS1 fSplit wo we) :=
  de_s1 F.slot_str_split F.type_str_split mt_split (fun gd => by
    intro B H z x d Q0 Q b r h hq
    cases r with
    | str y =>
      refine ⟨_, _, rfl, rfl, h.1, h.2.1, fun p hp => ?_⟩
      obtain ⟨n, q⟩ := b.lst (g := g) (vs := (Txt.split z y).map V.str) (ds := (Txt.split z y).map D.str) RpA.strs hp
      exact hq _ h.2.2 _ _ _ n q
    | _ => exact h.elim) ho he hs hbase hline
theorem de_starts (ho : DE g X o wo) (he : DE g X e we) (hs : starEach [e] X.env = [(false, eval e X.env)] := by rfl) (hbase : attributeBase o "startswith" X.env (eval o X.env) = eval o X.env := by rfl) (hline : (apos.endLine == pos.line) = true := by rfl) : DE g X (.Call (.Attribute o "startswith" apos) [e] [] pos) (wS1 fStarts wo we) :=
  de_s1 F.slot_str_startswith F.type_str_startswith mt_startswith (fun gd => by
    intro B H z x d Q0 Q b r h hq
    cases r with
    | str y => exact ⟨_, _, rfl, rfl, hq _ h _ _ _ b.rf (.bl _)⟩
    | _ => exact h.elim) ho he hs hbase hline
theorem de_ends (ho : DE g X o wo) (he : DE g X e we) (hs : starEach [e] X.env = [(false, eval e X.env)] := by rfl) (hbase : attributeBase o "endswith" X.env (eval o X.env) = eval o X.env := by rfl) (hline : (apos.endLine == pos.line) = true := by rfl) : DE g X (.Call (.Attribute o "endswith" apos) [e] [] pos) (wS1 fEnds wo we) :=
  de_s1 F.slot_str_endswith F.type_str_endswith mt_endswith (fun gd => by
    intro B H z x d Q0 Q b r h hq
    cases r with
    | str y => exact ⟨_, _, rfl, rfl, hq _ h _ _ _ b.rf (.bl _)⟩
    | _ => exact h.elim) ho he hs hbase hline
theorem de_join (ho : DE g X o wo) (he : DE g X e we) (hs : starEach [e] X.env = [(false, eval e X.env)] := by rfl) (hbase : attributeBase o "join" X.env (eval o X.env) = eval o X.env := by rfl) (hline : (apos.endLine == pos.line) = true := by rfl) : DE g X (.Call (.Attribute o "join" apos) [e] [] pos) (wS1 fJoin wo we) :=
  de_s1 F.slot_str_join F.type_str_join mt_join (fun gd => by
    intro B H z x d Q0 Q b r h hq
    obtain ⟨ys, e | e, h2, h3⟩ := h
    · subst e
      obtain ⟨p, vs, rfl, s1, s2⟩ := r.sq b
      rw [s2.strs_inv] at s1
      rw [gd.k]
      exact ⟨z, p, ys, rfl, rfl, .inl s1, h2, hq _ h3 _ _ _ b.rf (.str _)⟩
    · subst e
      obtain ⟨p, vs, rfl, s1, s2, _⟩ := r.st b
      rw [s2.strs_inv] at s1
      rw [gd.k]
      exact ⟨z, p, ys, rfl, rfl, .inr s1, h2, hq _ h3 _ _ _ b.rf (.str _)⟩) ho he hs hbase hline

/-! ### sorted -/
def fSortedI : Fn := fun ds Q => ∃ ns : List Int, ds = [.lst (ns.map .int)] ∧ ∀ ns' : List Int, ns'.Perm ns → ns'.Pairwise (· ≤ ·) → Q (.lst (ns'.map .int))
theorem de_sorted (hb : Blt X "sorted") (ha : DA g X (e :: es) w) (he : starEach (e :: es) X.env = (false, eval e X.env) :: starEach es X.env := by rfl) (hpl : (backTo pos (starEach es X.env)).any (·.1) = false := by rfl) : DE g X (.Call (.Name "sorted" p) (e :: es) [] pos) (wN fSortedI w) :=
  de_callB (fun _ => L2.cr_sortedI) (fun gd => by
    intro B H xs ds Q0 Q b r h hq
    obtain ⟨ns, rfl, h2⟩ := h
    obtain ⟨v, rfl, r1⟩ := r.one
    obtain ⟨a, vs, rfl, s1, s2⟩ := r1.sq b
    rw [s2.ints_inv] at s1
    rw [gd.k]
    refine ⟨a, ns, rfl, s1, fun ns' p hp hw hn => ?_⟩
    obtain ⟨n, q⟩ := b.lst (g := g) (vs := ns'.map V.int) (ds := ns'.map D.int) RpA.ints hn
    exact hq _ (h2 ns' hp hw) _ _ _ n q) hb.1 hb.2 PyProof.Rows.Boot.«sorted» ha (by decide) (by decide) he hpl
end
end Dk
namespace Dk
open PySem PySem.Spec PyProof.Rows L2

/-! ### own ==, != beside any value -/
/-- kinds that may stand there -/
structure KnC (g : G) (K : PySem.W.Frag) (ok : Kt → Bool) : Prop where
  cl : ∀ c, ok (.cl c) = true → IsO K (g.cls c)
  ex : ∀ c, ok (.ex c) = true → ExcC K (g.cls c)
section
variable {g : G} {X : Cx} {pins : List (Addr × Obj)} {σ : L2.St} {H B : Hp} {s : Shared}
theorem kit_k {v : V} {u : Value} {d : D} {t : Kt} {ok : Kt → Bool} (I : Inv X pins σ H s) (bs : Bs g B H) (ru : RelV v u) (r : Rp g B v d) (hK : X.K = g.K) (A : KnC g X.K ok) (ht : kty d = some t) (hb : ok t = true) :
    ∃ P : Heap → Prop, PySem.W.KitX X.K u (t.val g) P ∧ P s.heap := by
  cases r with
  | non => cases ht; obtain ⟨P, a, b, _⟩ := kit_of I ru (.base .non); exact ⟨P, a, b⟩
  | bl b => cases ht; obtain ⟨P, a, b, _⟩ := kit_of I ru (.base (.bl b)); exact ⟨P, a, b⟩
  | int i => cases ht; obtain ⟨P, a, b, _⟩ := kit_of I ru (.base (.int i)); exact ⟨P, a, b⟩
  | str z => cases ht; obtain ⟨P, a, b, _⟩ := kit_of I ru (.base (.str z)); exact ⟨P, a, b⟩
  | lst h _ => cases ht; obtain ⟨P, a, b, _⟩ := kit_of I ru (.base (.lst (bs.sub.at h))); exact ⟨P, a, b⟩
  | dic h _ _ => cases ht; obtain ⟨P, a, b, _⟩ := kit_of I ru (.base (.dK (bs.sub.at h))); exact ⟨P, a, b⟩
  | tup h _ =>
    cases ht
    rcases h with (h | ⟨o, h⟩) | ⟨o, its, n, h1, h2, h3, h4, h5⟩
    · obtain ⟨P, a, b, _⟩ := kit_of I ru (.base (.tup (bs.sub.at h))); exact ⟨P, a, b⟩
    · obtain ⟨P, a, b, _⟩ := kit_of I ru (.fTuple (bs.sub.at h)); exact ⟨P, a, b⟩
    · obtain ⟨P, a, b, _⟩ := kit_of I ru (.kTuple (by rw [hK]; exact h1) h2); exact ⟨P, a, b⟩
  | obj h _ _ =>
    cases ht
    have c := A.cl _ hb
    obtain ⟨P, a, b, _⟩ := kit_of I ru (.base (.ins (bs.sub.at h) c.cl c.ha c.hn c.ht c.hm)); exact ⟨P, a, b⟩
  | exc h1 h2 _ =>
    cases ht
    have c := A.ex _ hb
    obtain ⟨ox, od, J, _⟩ := exc_inst (d := none) I (bs.sub.at h1) (bs.sub.at h2)
    cases (show u = Value.ref _ from ru)
    exact ⟨_, kit_err c, J⟩
  | scr _ => cases ht
  | cel _ => cases ht
  | fn _ _ => cases ht
  | lam _ _ => cases ht
def fOwnA (ok : Kt → Bool) (ms : List (Nat × Ct)) : F2x := fun d e μ Q E => match d with
  | .obj c xs => (match ms.lookup c with
    | some ct => (∃ t, kty e = some t ∧ ok t = true) ∧ ct [.obj c xs, e] μ Q E
    | none => False)
  | _ => False
/-- facts for it -/
structure OwA (P : Program) (w : World) (K : PySem.W.Frag) (mg : Str → Option Value) (base : Heap) (g : G) (ok : Kt → Bool) (nm : Str) (k : Nat) (ms : List (Nat × Ct)) : Prop where
  kn : KnC g K ok
  ex : ∀ p ∈ ms, ∃ f, PySem.W.findIn K (.ref (g.cls p.1)) nm = some (some (.ref f)) ∧ PySem.W.isFn K (.ref f) = true ∧ DFn P w K mg base g k f p.2
  nf : ∀ p ∈ ms, ∀ t, ok t = true → PySem.W.notFirst K (g.cls p.1) (t.val g) = true
theorem ox_ownA {op : CmpOp} {ok : Kt → Bool} (hop : ∀ a b, compareOp op a b = richCompare op a b) {ms : List (Nat × Ct)} {k : Nat} (O : OwA X.prog X.w X.K X.mg X.base g ok (cmpInfo op).2.1 k ms) (hr : Room k X.A) : OpX g X (compareOp op) (fOwnA ok ms) :=
  ⟨fun W tk gd pins s σ H B x y v u d e μ Q0 E0 Q I rx ry bs m0 r1 r2 kk hq hx => by
    cases r1 with
    | obj h1 l1 a1 =>
      rename_i a dx c vs ds
      have kk : (match ms.lookup c with | some ct => (∃ t, kty e = some t ∧ ok t = true) ∧ ct [.obj c ds, e] μ Q0 E0 | none => False) := kk
      cases e1 : ms.lookup c with
      | none => rw [e1] at kk; exact kk.elim
      | some ct =>
        rw [e1] at kk
        obtain ⟨⟨t, ht, hok⟩, kk⟩ := kk
        have hm := mem_lookupN e1
        obtain ⟨f, hs, hf, F⟩ := O.ex _ hm
        cases (show v = Value.ref a from rx)
        obtain ⟨ox, od, J⟩ := inst_of I (bs.sub.at h1)
        obtain ⟨P, Z, pz⟩ := kit_k I bs ry r2 gd.k O.kn ht hok
        obtain ⟨m, hF⟩ := I.fr
        rw [hop]
        refine PySem.W.cmp_K (op := op) (tb := t.val g) hr.units0 hF I.ok.mod.kin J (Z.ty _ _ I.kIn pz) (O.nf _ hm t hok) hs hf ?_
        refine wpAny_mono (run_d (us := [.ref a, u]) (vs := [.ref a, y]) F hr gd tk I (.cons rfl (.cons ry .nil)) bs m0 (.cons (.obj h1 l1 a1) (.cons r2 .nil)) kk hq hx) (fun w s' z => ?_) fun _ _ x => x
        obtain ⟨z', H', I', rz, qz⟩ := z
        exact SlX.cmpback rz ⟨z', H', I', rz, qz⟩
    | _ => exact kk.elim⟩
/-! != by the own == -/
theorem nsAt {K : PySem.W.Frag} {h : Heap} {N : Addr} {m : Str → Option Value} {n : Str} {v : Value} (hX : K.In h) (G : h.Ns N m) (e : PySem.W.nsIn K N n = some (some v)) : m n = some v := by
  obtain ⟨o, es, ep, ho, hd, _, hf⟩ := G
  unfold PySem.W.nsIn at e
  split at e
  · rename_i c d es' n' sl q
    have := hX _ _ q
    rw [ho] at this
    cases this
    cases hd
    split at e
    · rename_i en he
      cases e
      rw [← hf]
      unfold nsFind findBy
      rw [← Array.find?_toList, he]
      rfl
    · split at e <;> cases e
  · cases e
def neB (K : PySem.W.Frag) (C : Addr) (f : Addr) : Bool := (match K.lookup C with
    | some ⟨.type "type", _, .cls cd, sl⟩ => (match cd.mro, sl.toList with
      | [.ref C', .type o], [_, _, _, _, some (.builtin _), _] => C' == C && (o == "object" && (!cd.hasDel && (PySem.W.nsOkIn K cd.ns && (PySem.W.nsIn K cd.ns "__ne__" == some none && PySem.W.nsIn K cd.ns "__eq__" == some (some (.ref f))))))
      | _, _ => false)
    | _ => false) && (match K.lookup f with
    | some ⟨.type "function", _, _, _⟩ => true
    | _ => false)
structure NeF (K : PySem.W.Frag) (C f : Addr) : Prop where
  ok : neB K C f = true
theorem NeF.own {K : PySem.W.Frag} {C f x : Addr} (n : NeF K C f) {h : Heap} (hX : K.In h) {o : Obj} (hx : h.get? x = some o) (hc : o.cls = .ref C) : h.OwnEqNoNe x C f "object" [.type "object"] := by
  obtain ⟨h0, h1⟩ := Bool.and_eq_true_iff.mp n.ok
  have hf : ∃ of, h.get? f = some of ∧ of.cls = .type "function" := by
    split at h1
    · rename_i e; exact ⟨_, hX _ _ e, rfl⟩
    · cases h1
  obtain ⟨of, hf1, hf2⟩ := hf
  split at h0
  · rename_i dd cd sl ho
    split at h0
    · rename_i C' ob k0 k1 k2 k3 nn k5 hm hs
      simp only [Bool.and_eq_true, beq_iff_eq, Bool.not_eq_true'] at h0
      obtain ⟨rfl, rfl, hdel, hok, hne, heq⟩ := h0
      obtain ⟨nm, bs, mro, ns, qn, hd, sn, sub, ab, col, del⟩ := cd
      dsimp only at hm hdel hok hne heq
      subst hm hdel
      have hsl : sl = #[k0, k1, k2, k3, some (.builtin nn), k5] := by
        obtain ⟨l⟩ := sl
        simp only at hs
        rw [hs]
      subst hsl
      have hns : h.Ns ns (h.nsMap ns) := .of_isNs (PySem.W.isNs_of_in hX hok)
      exact ⟨o, of, nm, qn, ns, bs, hd, sn, sub, ab, col, dd, k0, k1, k2, k3, k5, nn, _, _, hx, hc, hX _ _ ho, hns, nsAt hX hns heq, hf1, hf2, F.cmp_object.mro, F.cmp_object.eq.lookup, PySem.W.ns_none_of hX hns hne⟩
    · cases h0
  · cases h0
theorem run_d1 {k : Nat} {f : Addr} {c : Ct} {us : List Value} {vs : List V} {ds : List D} {μ : Mu} {Q0 : D → Mu → Prop} {E0 : Ek} {W : WX} {Q : VK} (F : DFn X.prog X.w X.K X.mg X.base g k f c) (hr : Room (k + 1) X.A) (gd : Gd g X) (tk : Takes X W) (I : Inv X pins σ H s) (r : Vals vs us) (b : Bs g B H) (m : MuR g B H μ) (ra : RpA g B vs ds) (hc : c ds μ Q0 E0)
    (hq : ∀ d μ', Q0 d μ' → ∀ v B' H', Nm g B H B' H' μ' → Rp g B' v d → Q v H') (hx : exk g W B H σ E0) : wpAny (model X.prog X.w) X.A.in1 (call (.ref f) us) (EP X pins σ Q) X.xe s := by
  refine wpAny_call (codeAny_mono (F.run X.A.in1 X.stack s H B us vs ds μ Q0 E0 Q (WE W σ) hr.in1 gd.gd I.env0.in1 r b m ra hc hq fun c d μ' h cls dd B' H' n x => hx c d μ' h cls dd B' H' n x) fun r s' hq' => ?_)
  cases r with
  | error e => exact passAt tk σ pins H s e s' I hq'
  | ok fl =>
    cases fl with
    | ret u => exact I.after hq'
    | next => exact False.elim hq'
    | brk => exact False.elim hq'
    | cont => exact False.elim hq'
theorem cmp_neK {K : PySem.W.Frag} {h₀ : Heap} {L : Addr} {m : Str → Option Value} {prog : Program} {w : World} {A : Around} {E : Value → Shared → Prop} {Q : Value → Shared → Prop} {x y C f : Addr} {ox : Obj} {od : Option Obj} {tb : Value} {s : Shared} (hu : A.units + 1 < cLine) (F0 : Fr h₀ L s.heap m) (X₀ : K.In h₀) (I : PySem.W.InstAt s.heap x ox C od) (O : s.heap.OwnEqNoNe x C f "object" [.type "object"])
    (hb : PySem.W.Looks (model prog w) s.heap (typeOf (.ref y)) tb) (hn : PySem.W.notFirst K C tb = true)
    (hcall : wpAny (model prog w) A.in1 (call (.ref f) [.ref x, .ref y]) (fun v s' => ∃ b, v = .bool b ∧ Q (.bool (!b)) s') E s) : wpAny (model prog w) A (richCompare .NotEq (.ref x) (.ref y)) Q E s := by
  have X := X₀.keeps F0.keep
  have one : wpAny (model prog w) A (tryCompare (.ref x) (cmpInfo .NotEq).2.1 (.ref y)) (fun r s' => ∃ v, r = some v ∧ Q v s') E s := by
    obtain ⟨hp, gs, d, t, os⟩ := s
    refine tryCompare_ne_ownEq (B := "object") (bm := [.type "object"]) F.cmp_object O hu (wpAny_mono hcall (fun v s' hv => ?_) fun _ _ e => e)
    obtain ⟨b, rfl, hq⟩ := hv
    exact ⟨b, rfl, _, rfl, hq⟩
  unfold richCompare
  simp only [oneThing_ref]
  refine wpAny_holding (wpAny_bind (wpAny_cRoomFor (by omega) ?_))
  refine wpAny_bind (I.type.here (wpAny_bind (hb.here ?_)))
  split
  · rename_i q
    have e : PySem.W.subIn K tb (.ref C) = some false := by
      rcases Bool.or_eq_true_iff.mp hn with e | e
      · rw [beq_iff_eq.mp e] at q; simp at q
      · exact beq_iff_eq.mp e
    refine wpAny_bind ((PySem.W.looks_subIn X e).here ?_)
    simp only [Bool.false_eq_true, if_false]
    refine wpAny_bind (wpAny_mono one (fun r s' z => ?_) fun _ _ e => e)
    obtain ⟨v, rfl, hq⟩ := z
    exact wpAny_pure hq
  · refine wpAny_bind (wpAny_pure ?_)
    simp only [Bool.false_eq_true, if_false]
    refine wpAny_bind (wpAny_mono one (fun r s' z => ?_) fun _ _ e => e)
    obtain ⟨v, rfl, hq⟩ := z
    exact wpAny_pure hq
/-- what stands at an address -/
def D.isRef : D → Bool
  | .lst _ => true
  | .tup _ => true
  | .obj _ _ => true
  | .dic _ _ => true
  | .exc _ _ => true
  | _ => false
theorem Rp.isRef {v : V} {d : D} (r : Rp g B v d) (h : d.isRef = true) : ∃ a, v = .ref a := by
  cases r <;> first | exact ⟨_, rfl⟩ | (cases h; done)
def fOwnNe (ok : Kt → Bool) (ms : List (Nat × Ct)) : F2x := fun d e μ Q E => match d with
  | .obj c xs => (match ms.lookup c with
    | some ct => (∃ t, kty e = some t ∧ ok t = true) ∧ e.isRef = true ∧ ct [.obj c xs, e] μ (fun z μ => ∃ b, z = .bl b ∧ Q (.bl (!b)) μ) E
    | none => False)
  | _ => False
structure OwN (P : Program) (w : World) (K : PySem.W.Frag) (mg : Str → Option Value) (base : Heap) (g : G) (ok : Kt → Bool) (k : Nat) (ms : List (Nat × Ct)) : Prop where
  kn : KnC g K ok
  ex : ∀ p ∈ ms, ∃ f, NeF K (g.cls p.1) f ∧ DFn P w K mg base g k f p.2
  nf : ∀ p ∈ ms, ∀ t, ok t = true → PySem.W.notFirst K (g.cls p.1) (t.val g) = true
theorem ox_ownNe {ok : Kt → Bool} {ms : List (Nat × Ct)} {k : Nat} (O : OwN X.prog X.w X.K X.mg X.base g ok k ms) (hr : Room (k + 1) X.A) : OpX g X (compareOp .NotEq) (fOwnNe ok ms) :=
  ⟨fun W tk gd pins s σ H B x y v u d e μ Q0 E0 Q I rx ry bs m0 r1 r2 kk hq hx => by
    cases r1 with
    | obj h1 l1 a1 =>
      rename_i a dx c vs ds
      have kk : (match ms.lookup c with | some ct => (∃ t, kty e = some t ∧ ok t = true) ∧ e.isRef = true ∧ ct [.obj c ds, e] μ (fun z μ => ∃ b, z = .bl b ∧ Q0 (.bl (!b)) μ) E0 | none => False) := kk
      cases e1 : ms.lookup c with
      | none => rw [e1] at kk; exact kk.elim
      | some ct =>
        rw [e1] at kk
        obtain ⟨⟨t, ht, hok⟩, href, kk⟩ := kk
        have hm := mem_lookupN e1
        obtain ⟨f, hs, F⟩ := O.ex _ hm
        cases (show v = Value.ref a from rx)
        obtain ⟨b, rfl⟩ := r2.isRef href
        cases (show u = Value.ref b from ry)
        obtain ⟨ox, od, J⟩ := inst_of I (bs.sub.at h1)
        obtain ⟨P, Z, pz⟩ := kit_k I bs ry r2 gd.k O.kn ht hok
        obtain ⟨m, hF⟩ := I.fr
        show wpAny _ _ (richCompare .NotEq _ _) _ _ _
        refine cmp_neK (tb := t.val g) (by have := hr.un; omega) hF I.ok.mod.kin J (hs.own I.kIn J.at_ J.cls) (Z.ty _ _ I.kIn pz) (O.nf _ hm t hok) ?_
        refine wpAny_mono (run_d1 (us := [.ref a, .ref b]) (vs := [.ref a, .ref b]) (Q := fun v H' => ∃ z, v = .bl z ∧ Q (.bl (!z)) H') F hr gd tk I (.cons rfl (.cons rfl .nil)) bs m0 (.cons (.obj h1 l1 a1) (.cons r2 .nil)) kk (fun d' μ' ⟨z, e, hz⟩ v' B' H' n r => ?_) hx) (fun w s' z => ?_) fun _ _ x => x
        · subst e
          cases r
          exact ⟨z, rfl, hq _ _ hz _ _ _ n (.bl _)⟩
        · obtain ⟨z', H', I', rz, b, rfl, qz⟩ := z
          cases (show w = Value.bool b from rz)
          exact ⟨b, rfl, .bl (!b), H', I', rfl, qz⟩
    | _ => exact kk.elim⟩
end
end Dk
namespace Dk
open PySem PySem.Spec PyProof.Rows L2
/-! ### self.a, self.b = e, in __init__ -/
def gFld (K : PySem.W.Frag) (ta : TE) (f : Str) : TG := fun v σ H Q => ta σ H fun x H1 => ∃ a C dx fs, x = .ref a ∧ H1 a = some (.ins C dx fs) ∧ Cls K C ∧ NoAttr K C f ∧ fs.length < 1000 ∧ Q σ (upd H1 a (.ins C dx (putF f v fs)))
section
variable {g : G} {X : Cx} {o : Expr} {f : Str} {ta : TE} {pos : Pos}
theorem pg_fld (ho : PE X o ta) : PG X (.Attribute o f pos) (gFld X.K ta f) := ⟨fun pins s σ H v u Q I r h => by
  rw [assign_Attribute]
  have key := thn (ho.run pins s σ H _ I h) (Q' := fun ov s' => wpAny (model X.prog X.w) X.A (setAttr ov f u) (fun _ s'' => ∃ σ' H', Inv X pins σ' H' s'' ∧ Q σ' H') X.xe s') fun ov s1 ⟨x, H1, I1, rx, a, C, dx, fs, ex, ea, c, n, l, q⟩ => by
    subst ex
    cases (show ov = Value.ref a from rx)
    exact setattr_ok I1 ea c n l r fun s3 I3 => ⟨σ, _, I3, q⟩
  exact fun Γ p hΓ => by
    simp only [Sem.wp_bind', Sem.wp_holding, Sem.wp_cmd_standAt, Sem.wp_release, Sem.wp_pure']
    exact Sem.wp_mono (model X.prog X.w) Γ _ (fun ov _ s₂ h₂ => h₂ Γ _ hΓ) (fun _ _ _ h' => h') _ _ (key Γ p hΓ)⟩
/-- fields, one behind another -/
structure DFs (g : G) (X : Cx) (i : Nat) (cs : List Nat) (es : List Expr) (j n : Nat) (t : TGs) : Prop where
  pg : PGs X es t
  ok : ∀ {Φ : Ph} {B H : Hp} {σ : L2.St} {ρ : List Sl} {μ : Mu} {vs : List V} {ds : List D} {c : Nat} {xs : List D} {Q : L2.St → Hp → Prop}, Stt g Φ B H σ ρ μ → RpA g B vs ds → ds.length = n → ρ[i]? = some (.ob c xs) → c ∈ cs → xs.length = j →
    (∀ H', Stt g Φ B H' σ (ρ.set i (.ob c (xs ++ ds))) μ → Q σ H') → t vs σ H Q
theorem set_self {ρ : List Sl} {i : Nat} {s : Sl} (h : ρ[i]? = some s) : ρ.set i s = ρ := by
  apply List.ext_getElem?
  intro j
  by_cases e : i = j
  · subst e
    rw [List.getElem?_set_self (List.getElem?_eq_some_iff.mp h).1, h]
  · rw [List.getElem?_set_ne e]
theorem dfs_nil {i j : Nat} {cs : List Nat} : DFs g X i cs [] j 0 gNil := ⟨pgs_nil, fun {Φ B H σ ρ μ vs ds c xs Q} s r hl e hc hj q => by
  cases ds with
  | nil =>
    cases r
    refine ⟨rfl, q H ?_⟩
    rw [List.append_nil, set_self e]
    exact s
  | cons _ _ => cases hl⟩
theorem dfs_cons {i j n : Nat} {cs : List Nat} {es : List Expr} {t : TGs} {f : Str} {x : Str} {p p' : Pos} (hf : ∀ c ∈ cs, FOk g X.K f c j) (hN : X.N[i]? = some x) (hr : DFs g X i cs es (j + 1) n t) (hv : Vis X.env.scope x := by first | exact Or.inl rfl | exact Or.inr (Or.inl rfl) | exact Or.inr (Or.inr rfl)) (hd : (x == ("__debug__" : Str)) = false := by decide)
    (hcd : (x == ("__classdict__" : Str)) = false := by decide) (hs : (assignEach (.Attribute (.Name x p) f p' :: es) X.env).map (·.2) = assign (.Attribute (.Name x p) f p') X.env :: (assignEach es X.env).map (·.2) := by rfl) : DFs g X i cs (.Attribute (.Name x p) f p' :: es) j (n + 1) (gCons (gFld X.K (tVar i) f) t) :=
  ⟨pgs_cons (pg_fld (pe_var (i := i) hN hv hd hcd)) hr.pg hs, fun {Φ B H σ ρ μ vs ds c xs Q} s r hl e hc hj q => by
    cases r with
    | nil => cases hl
    | @cons v vs d ds r1 r2 =>
      have ok := hf c hc
      obtain ⟨y, h1, h2⟩ := s.rel.slot e
      cases y with
      | none => exact h2.elim
      | some v0 =>
        obtain ⟨a, dx, ws, rfl, h3, h6, h7, h4, h5⟩ := h2
        have hjl := (List.getElem?_eq_some_iff.mp ok.at_).1
        have hlen : (((g.flds c).take xs.length).zip ws).length < 1000 := by
          rw [List.length_zip, List.length_take]
          have := ok.few
          omega
        have ni : ∀ ps, HO.ins (g.cls c) dx (((g.flds c).take xs.length).zip ws) ≠ .tbl ps := fun _ z => by cases z
        refine ⟨v, vs, rfl, _, h1, a, _, dx, _, rfl, h3, ok.cl, ok.no, hlen, ?_⟩
        have s2 : Stt g Φ B (upd H a (.ins (g.cls c) dx (putF f v (((g.flds c).take xs.length).zip ws)))) σ (ρ.set i (.ob c (xs ++ [d]))) μ := s.change (u := .ob c (xs ++ [d])) e rfl rfl h1 h4 h3 ni (fun c q z => by unfold LamX.CodeO at z; cases z) ⟨a, dx, ws ++ [v], rfl, by
          rw [upd_same]
          have hnot : f ∉ (g.flds c).take xs.length := fun z => by
            obtain ⟨m, hm⟩ := List.getElem?_of_mem z
            have hm2 : m < xs.length := by
              have := (List.getElem?_eq_some_iff.mp hm).1
              rw [List.length_take] at this; omega
            rw [List.getElem?_take_of_lt hm2] at hm
            exact Nat.ne_of_lt hm2 (by rw [hj]; exact nd_ix ok.nd hm ok.at_)
          have hl : ws.length = ((g.flds c).take xs.length).length := by rw [List.length_take]; omega
          rw [putF_new hnot hl]
          congr 2
          have hat := ok.at_
          rw [← hj] at hat
          rw [List.length_append, List.length_singleton, List.take_add_one, hat]
          show _ = (List.take xs.length (g.flds c) ++ [f]).zip (ws ++ [v])
          rw [List.zip_append hl.symm]
          rfl, by simp [h6], by rw [List.length_append]; simp; omega, h4, h5.app (.cons r1 .nil)⟩ fun _ _ _ => ⟨c, xs, rfl⟩
        refine hr.ok (c := c) (xs := xs ++ [d]) s2 r2 (by simpa using hl) (List.getElem?_set_self (List.getElem?_eq_some_iff.mp e).1) hc (by rw [List.length_append, hj]; rfl) fun H' s3 => q H' ?_
        rw [List.set_set, List.append_assoc] at s3
        exact s3⟩
def sUnpF (i : Nat) (cs : List Nat) (j n : Nat) (w : We) : Ws := fun D0 ρ μ => (∃ c xs, ρ[i]? = some (.ob c xs) ∧ c ∈ cs ∧ xs.length = j) ∧ w ρ μ (fun d μ => ∃ ds c xs, d = .tup ds ∧ ds.length = n ∧ ρ[i]? = some (.ob c xs) ∧ D0.nx (ρ.set i (.ob c (xs ++ ds))) μ) (D0.ex ρ)
theorem ds_unpF {i j n : Nat} {cs : List Nat} {e : Expr} {es : List Expr} {w : We} {t : TGs} {kk : Nat} {tpos : Pos} (hc : X.calm = true) (he : DE g X e w) (hr : DFs g X i cs es j n t) (hn : (assignEach es X.env).length = n := by rfl) (hst : (assignEach es X.env).findIdx? (·.1) = none := by rfl)
    (hs : swapsWithSole [.Tuple es kk tpos] e pos.line X.env = pure false := by rfl) (hw : swappedStores [.Tuple es kk tpos] e X.env = pure none := by rfl) (h1 : (assignEach [.Tuple es kk tpos] X.env).map (·.2) = [assign (.Tuple es kk tpos) X.env] := by rfl) : DS g X (.Assign [.Tuple es kk tpos] e pos) (sUnpF i cs j n w) :=
  ⟨fun gs W tk => PSw (ps_asg (he.run gs.toGd W tk) (pg_tup hc hr.pg hn hst) hs hw h1) fun Dn σ H h => by
  obtain ⟨Φ, B, ρ, μ, D0, s, ⟨⟨c, xs, e0, hc0, hj⟩, hw⟩, l⟩ := h
  refine tD.go s.rel hw (s.exk l) fun d μ1 v B1 H1 k n1 r => ?_
  obtain ⟨ds, c', xs', rfl, hl, e1, k⟩ := k
  rw [e0] at e1
  cases e1
  obtain ⟨a, vs, rfl, s1, s2, _⟩ := r.st n1.bs
  rw [gs.k]
  refine ⟨a, vs, rfl, s1, by rw [s2.len]; exact hl, hr.ok (s.nxt n1) s2 hl e0 hc0 hj fun H' s3 => ?_⟩
  exact l.nx _ _ _ B1 H' k s3⟩
/-! list(range(a, b)) -/
def wRg2 (c : List D → D) (wa wb : We) : We := fun ρ μ Q E => wa ρ μ (fun d μ => wb ρ μ (fun e μ => ∃ m n, d = .int m ∧ e = .int n ∧ RgOk m n ∧ Q (c (rgD m (n - m).toNat)) μ) E) E
theorem de_listRg2 {a b : Expr} {wa wb : We} {p p2 pos2 : Pos} (hc : X.calm = true) (hl : Blt X "list") (hr : Blt X "range") (ha : DE g X a wa) (hb : DE g X b wb) (na : starEach [a, b] X.env = (false, eval a X.env) :: starEach [b] X.env := by rfl) (nb2 : starEach [b] X.env = (false, eval b X.env) :: starEach [] X.env := by rfl) (hp : (backTo pos2 (starEach [b] X.env)).any (·.1) = false := by rfl)
    (nb : starEach [.Call (.Name "range" p2) [a, b] [] pos2] X.env = (false, eval (.Call (.Name "range" p2) [a, b] [] pos2) X.env) :: starEach [] X.env := by rfl) : DE g X (.Call (.Name "list" p) [.Call (.Name "range" p2) [a, b] [] pos2] [] pos) (wRg2 .lst wa wb) := ⟨fun gd W tk => PEw (pe_listRg hc hl.1 hl.2 (prg_2 hr.1 hr.2 (ha.run gd W tk) (hb.run gd W tk) na nb2 hp) nb) fun σ H Q h => by
  obtain ⟨B, ρ, μ, Q0, E0, rel, hw, hq, hx⟩ := h
  refine tD.go rel hw hx fun d μ1 v B1 H1 k1 n1 r1 => tD.go (rel.nm n1) k1 (hx.nx n1) fun e μ2 u B2 H2 k2 n2 r2 => ?_
  obtain ⟨m, n, rfl, rfl, ok, k⟩ := k2
  cases r1
  cases r2
  refine ⟨m, n, rfl, rfl, ok, fun q hn => ?_⟩
  have r := rg_rp (g := g) (B := B2) m n
  obtain ⟨n3, r3⟩ := n2.bs.lst r hn
  exact hq _ _ k _ _ _ ((n1.trans n2).np n3) r3⟩
end
end Dk
namespace Dk
open PySem PySem.Spec PyProof.Rows L2

/-! ### lambdas told of a base: they may be called in comprehensions, too -/
/-- the base with all that stands still as the lambda is made -/
def stdH (H : Hp) (fs : List Addr) : Hp := fun b => if b ∈ fs then some (.own 0) else H b
noncomputable def baseX (h : Heap) (H : Hp) (fs : List Addr) : Heap := hidT h (stdH H fs)
theorem stdH_none {H : Hp} {fs : List Addr} {b : Addr} (h : stdH H fs b = none) : H b = none ∧ b ∉ fs := by
  unfold stdH at h
  by_cases e : b ∈ fs
  · rw [if_pos e] at h; cases h
  · rw [if_neg e] at h; exact ⟨h, e⟩
theorem baseX_get {h : Heap} {H : Hp} {fs : List Addr} {b : Addr} {o : Obj} (e : h.get? b = some o) (n : H b = none) (hf : b ∉ fs) : (baseX h H fs).get? b = some o :=
  hidT_get e (by unfold stdH; rw [if_neg hf]; exact n)
theorem of_baseX {h : Heap} {H : Hp} {fs : List Addr} {b : Addr} {o : Obj} (e : (baseX h H fs).get? b = some o) : h.get? b = some o ∧ H b = none ∧ b ∉ fs := by
  obtain ⟨h1, h2⟩ := of_hidT e
  exact ⟨h1, stdH_none h2⟩
/-- a greater base -/
structure BUp (mg : Str → Option Value) (base base' : Heap) : Prop where
  up : ∀ b o, base.get? b = some o → base'.get? b = some o
  sz : base.objs.size ≤ base'.objs.size
theorem BUp.tab {mg : Str → Option Value} {base base' : Heap} (u : BUp mg base base') {c P : Addr} (t : LamX.TabB base mg c P) : LamX.TabB base' mg c P := ⟨t.code.keeps u.up, t.bm.keeps u.up, t.gP⟩
theorem BUp.refl {mg : Str → Option Value} {base : Heap} : BUp mg base base := ⟨fun _ _ e => e, Nat.le_refl _⟩
theorem BUp.trans {mg : Str → Option Value} {a b c : Heap} (x : BUp mg a b) (y : BUp mg b c) : BUp mg a c := ⟨fun p o e => y.up p o (x.up p o e), Nat.le_trans x.sz y.sz⟩
theorem BUp.mod {K : PySem.W.Frag} {mg : Str → Option Value} {base base' : Heap} (u : BUp mg base base') (m : L2.Mod K mg base) : L2.Mod K mg base' :=
  ⟨m.kin.keeps u.up, m.glob.keeps u.up, let ⟨mb, h1, h2⟩ := m.blt; ⟨mb, h1.keeps u.up, h2⟩, m.nolimit.keeps u.up⟩
/-- what the function object at f does, wherever the base stands -/
structure LamB (P : Program) (w : World) (K : PySem.W.Frag) (mg : Str → Option Value) (base : Heap) (g : G) (k : Nat) (f : Addr) (t : D) (lam : Ct) : Prop where
  fo : PySem.W.FnAt f base
  run : ∀ (A : Around) (outer : List Env) (s : Shared) (H B : Hp) (us : List Value) (ws : List V) (es : List D) (μ : Mu) (Q0 : D → Mu → Prop) (E0 : Ek) (Q : VK) (E : XK), Room k A → A.guards = some [] → Env0 P w K mg base A outer s H → Vals ws us → Bs g B H → MuR g B H μ → Rp g B (.ref f) t → RpA g B ws es → lam es μ Q0 E0 →
    (∀ d μ', Q0 d μ' → ∀ v B' H'', Nm g B H B' H'' μ' → Rp g B' v d → Q v H'') → (∀ c d μ', E0 c d μ' → ∀ cls dd B' H'', Nm g B H B' H'' μ' → ExObj g B' c d cls dd → E cls dd H'') →
    codeAny (model P w) A (.call (.ref f) ⟨us, []⟩) (CR (L2.CX P w) outer P w H s Q E) s
/-- a def that takes a lambda -/
structure DFnM (P : Program) (w : World) (K : PySem.W.Frag) (mg : Str → Option Value) (base : Heap) (g : G) (k kl : Nat) (f : Addr) (hc : D → Ct → Ct) : Prop where
  run : ∀ (tf tc : Addr) (tq : Str) (tvs : List V) (tds : List D) (lam : Ct) (A : Around) (outer : List Env) (s : Shared) (H B : Hp) (us : List Value) (vs : List V) (ds : List D) (μ : Mu) (Q0 : D → Mu → Prop) (E0 : Ek) (Q : VK) (E : XK), Room k A → A.guards = some [] → Env0 P w K mg base A outer s H → Vals vs us → Bs g B H → MuR g B H μ → RpA g B vs ds →
    LamB P w K mg base g kl tf (.fn tf tc tq tvs tds) lam → hc (.fn tf tc tq tvs tds) lam ds μ Q0 E0 →
    (∀ d μ', Q0 d μ' → ∀ v B' H', Nm g B H B' H' μ' → Rp g B' v d → Q v H') → (∀ c d μ', E0 c d μ' → ∀ cls dd B' H', Nm g B H B' H' μ' → ExObj g B' c d cls dd → E cls dd H') →
    codeAny (model P w) A (.call (.ref f) ⟨us, []⟩) (CR (L2.CX P w) outer P w H s Q E) s
theorem dfm_mk {P : Program} {w : World} {K : PySem.W.Frag} {mg : Str → Option Value} {base : Heap} {g : G} {k kl : Nat} {f : Addr} {hc : D → Ct → Ct} {name qual : Str} {params : Arguments} {body : List Stmt} {scope : Scope} {dV kV doc pm cdv ct oc : Value} {an od : Option Addr} {osl : Array (Option Value)} {N ps : List Str} {wb : D → Ct → Ws} {bs : List Value} {bvs : List V} {bds : List D}
    (lk : K.lookup f = some ⟨oc, od, .func (PySem.W.fnOf name qual params body scope dV kV doc pm an cdv ct), osl⟩) (hcd : PySem.W.codeIn K cdv qual = true) (S : FnScope N ps scope) (hb : Binds K (PySem.W.fnOf name qual params body scope dV kV doc pm an cdv ct) ps bs) (hv : Vals bvs bs) (hbd : ∀ B, RpA g B bvs bds)
    (hK : K = g.K) (len : ∀ t lam ds μ Q E, hc t lam ds μ Q E → (ds ++ bds).length = ps.length)
    (hbody : ∀ (tf tc : Addr) (tq : Str) (tvs : List V) (tds : List D) (lam : Ct) (A : Around) (outer : List Env) (s : Shared) (H : Hp) (E : XK), Room k (A.deeper (envOfC qual scope s.heap.objs.size f cdv)) → LamB P w K mg base g kl tf (.fn tf tc tq tvs tds) lam →
      DSs g (cxOf (L2.CX P w) P w K mg base N qual scope f cdv A outer s H E) body (wb (.fn tf tc tq tvs tds) lam))
    (h : ∀ t lam ds μ Q E, hc t lam ds μ Q E → wb t lam (deOf Q E) (startR N (ds ++ bds)) μ) : DFnM P w K mg base g (k + 1) kl f hc := by
  refine ⟨fun tf tc tq tvs tds lam A outer s H B us vs ds μ Q0 E0 Q E hr hg e0 r b m0 ra hl hc' hq he => ?_⟩
  have ra2 : RpA g B (vs ++ bvs) (ds ++ bds) := ra.app (hbd B)
  have r2 : Vals (vs ++ bvs) (us ++ bs) := r.append hv
  have hln : (us ++ bs).length = ps.length := by rw [← r2.length, ra2.len]; exact len _ _ _ _ _ _ hc'
  have KX : K.In s.heap := e0.mod.kin.keeps fun b o e => (e0.bs b o e).1
  have bt := hb s us KX hln
  refine LamX.run_ofS (N := N) (ps := ps) lk hcd S hr e0 bt r2 (by rw [ra2.len]; exact len _ _ _ _ _ _ hc') fun hr' => ?_
  have gs : Gs g (cxOf (L2.CX P w) P w K mg base N qual scope f cdv A outer s H E) := ⟨⟨hK, hg, by have := hr'.un; exact (by show (A.deeper _).units + 128 < cLine; omega)⟩, passes_of rfl⟩
  refine ⟨_, (hbody tf tc tq tvs tds lam A outer s H E hr' hl).run gs _ (takes_of rfl rfl rfl rfl), ⟨B, H, B, none⟩, B, startR N (ds ++ bds), μ, deOf Q0 E0, ⟨start_rel b m0 ra2, b.rf.nx, Up.refl B, fun i s a h1 o _ => ?_, fun _ _ _ _ z => (by cases z)⟩, h _ _ _ _ _ _ hc', ⟨fun ρ μ' σ B' H' h' s' => ?_, fun d μ' v B' H' h' n q => hq d μ' h' v B' H' n q, fun _ _ _ _ _ h' => h'.elim, fun _ _ _ _ _ h' => h'.elim, fun ρ c d μ' σ B' H' cls dd h' s' x => he c d μ' h' cls dd B' H' s'.mm x⟩⟩
  · exact absurd o (by rw [startR_no h1]; decide)
  · exact hq _ _ h' _ B' H' s'.mm .non
theorem dfm_ofE {P : Program} {w : World} {K : PySem.W.Frag} {mg : Str → Option Value} {base : Heap} {g : G} {k kl : Nat} {f : Addr} {hc : D → Ct → Ct} {x qual : Str} {st : Stmt} {N ps : List Str} {wb : D → Ct → Ws}
    (F : ∃ cdv, FnF K x qual st ps f cdv) (hK : K = g.K) (S : FnScope N ps (defScope st))
    (hbody : ∀ (cdv : Value) (t : D) (tf tc : Addr) (tq : Str) (tvs : List V) (tds : List D) (lam : Ct) (A : Around) (outer : List Env) (s : Shared) (H : Hp) (E : XK), Room k (A.deeper (envOfC qual (defScope st) s.heap.objs.size f cdv)) → t = .fn tf tc tq tvs tds → LamB P w K mg base g kl tf t lam →
      DSs g (cxOf (L2.CX P w) P w K mg base N qual (defScope st) f cdv A outer s H E) (defBody st) (wb t lam))
    (len : ∀ t lam ds μ Q E, hc t lam ds μ Q E → ds.length = ps.length) (h : ∀ t lam ds μ Q E, hc t lam ds μ Q E → wb t lam (deOf Q E) (startR N ds) μ) : DFnM P w K mg base g (k + 1) kl f hc := by
  obtain ⟨cdv, F⟩ := F
  obtain ⟨oc, od, kV, doc, pm, an, ct, osl, lk, hcd, hb⟩ := F.ex
  exact dfm_mk lk hcd S hb .nil (fun B => .nil) hK (fun t lam ds μ Q E h => by rw [List.append_nil]; exact len t lam ds μ Q E h) (fun tf tc tq tvs tds lam A outer s H E hr L => hbody cdv _ tf tc tq tvs tds lam A outer s H E hr rfl L) (fun t lam ds μ Q E h' => by rw [List.append_nil]; exact h t lam ds μ Q E h')
section
variable {g : G} {X : Cx} {k : Nat} {f : Addr} {t : D} {lam : Ct} {x : Str} {p pos : Pos} {e : Expr} {es : List Expr} {w : Wa}
theorem run_lamB {pins : List (Addr × Obj)} {σ : L2.St} {H B : Hp} {s : Shared} {Q : VK} {us : List Value} {vs : List V} {ds : List D} {W : WX} {μ : Mu} {Q0 : D → Mu → Prop} {E0 : Ek} (L : LamB X.prog X.w X.K X.mg X.base g k f t lam) (hr : Room k X.A) (gd : Gd g X) (tk : Takes X W) (I : Inv X pins σ H s) (r : Vals vs us) (b : Bs g B H) (m0 : MuR g B H μ)
    (rt : Rp g B (.ref f) t) (ra : RpA g B vs ds) (hc : lam ds μ Q0 E0) (hq : ∀ d μ', Q0 d μ' → ∀ v B' H', Nm g B H B' H' μ' → Rp g B' v d → Q v H') (hx : exk g W B H σ E0) : wpAny (model X.prog X.w) X.A (call (.ref f) us) (EP X pins σ Q) X.xe s := by
  refine wpAny_call (codeAny_mono (L.run X.A X.stack s H B us vs ds μ Q0 E0 Q (WE W σ) hr gd.gd I.env0 r b m0 rt ra hc hq fun c d _ h cls dd B' H' n x => hx c d _ h cls dd B' H' n x) fun r s' hq' => ?_)
  cases r with
  | error e => exact passAt tk σ pins H s e s' I hq'
  | ok fl =>
    cases fl with
    | ret u => exact I.after hq'
    | next => exact False.elim hq'
    | brk => exact False.elim hq'
    | cont => exact False.elim hq'
theorem fnAt_keeps {h h' : Heap} (F : PySem.W.FnAt f h) (k : ∀ b o, h.get? b = some o → h'.get? b = some o) : PySem.W.FnAt f h' := by
  obtain ⟨a, b, c, d, e⟩ := F
  exact ⟨a, b, c, d, k _ _ e⟩
theorem de_callW0 (i : Nat) {c : Addr} {q : Str} {vs : List V} {ds : List D} (ht : t = .fn f c q vs ds) (L : LamB X.prog X.w X.K X.mg X.base g k f t lam) (hr : Room k X.A) (hN : X.N[i]? = some x := by rfl) (hv : Vis X.env.scope x := by first | exact Or.inl rfl | exact Or.inr (Or.inl rfl) | exact Or.inr (Or.inr rfl)) (hd : (x == ("__debug__" : Str)) = false := by decide) (hcd : (x == ("__classdict__" : Str)) = false := by decide) :
    DE g X (.Call (.Name x p) [] [] pos) (wCallV i t lam aN) := ⟨fun gd W tk => ⟨fun pins s σ H Q I h => by
  obtain ⟨B, ρ, μ, Q0, E0, rel, ⟨e1, hw⟩, hq, hx⟩ := h
  obtain ⟨v, h1, h2⟩ := rel.at e1
  subst ht
  obtain rfl := rp_ref h2
  refine wpAny_Call_Name_kw (thn ((pe_var (pos := p) (i := i) hN hv hd hcd).run pins s σ H (fun v H1 => v = .ref f ∧ H1 = H) I ⟨.ref f, h1, rfl, rfl⟩) fun u s1 ⟨v, H1, I1, r1, ev, eH⟩ => ?_)
  subst ev
  subst eH
  obtain rfl : u = Value.ref f := r1
  refine PySem.W.callWith_F0 (fnAt_keeps L.fo I1.bk) ?_
  exact run_lamB (us := []) (vs := []) (ds := []) L hr gd tk I1 .nil rel.bs rel.mu h2 .nil hw hq hx⟩⟩
theorem de_callW (i : Nat) {c : Addr} {q : Str} {vs : List V} {ds : List D} (ht : t = .fn f c q vs ds) (L : LamB X.prog X.w X.K X.mg X.base g k f t lam) (hr : Room k X.A) (ha : DA g X (e :: es) w) (hN : X.N[i]? = some x := by rfl) (hv : Vis X.env.scope x := by first | exact Or.inl rfl | exact Or.inr (Or.inl rfl) | exact Or.inr (Or.inr rfl))
    (hd : (x == ("__debug__" : Str)) = false := by decide) (hcd : (x == ("__classdict__" : Str)) = false := by decide) (he : starEach (e :: es) X.env = (false, eval e X.env) :: starEach es X.env := by rfl) (hpl : (backTo pos (starEach es X.env)).any (·.1) = false := by rfl) :
    DE g X (.Call (.Name x p) (e :: es) [] pos) (wCallV i t lam w) := ⟨fun gd W tk => ⟨fun pins s σ H Q I h => by
  obtain ⟨B, ρ, μ, Q0, E0, rel, ⟨e1, hw⟩, hq, hx⟩ := h
  obtain ⟨v, h1, h2⟩ := rel.at e1
  subst ht
  obtain rfl := rp_ref h2
  refine wpAny_Call_Name_kw (thn ((pe_var (pos := p) (i := i) hN hv hd hcd).run pins s σ H (fun v H1 => v = .ref f ∧ H1 = H) I ⟨.ref f, h1, rfl, rfl⟩) fun u s1 ⟨v, H1, I1, r1, ev, eH⟩ => ?_)
  subst ev
  subst eH
  obtain rfl : u = Value.ref f := r1
  refine PySem.W.callWith_F (fnAt_keeps L.fo I1.bk) (thn ((ha.run gd W tk).run pos pins s1 σ H1 (fun vs H2 => ∃ ds B1 μ1, Nm g B H1 B1 H2 μ1 ∧ RpA g B1 vs ds ∧ lam ds μ1 Q0 E0) I1 (tDA.go rel hw hx fun ds μ1 vs B1 H1 k n r => ⟨ds, B1, μ1, n, r, k⟩)) fun us s2 ⟨vs, H2, I2, r, ds, B1, μ1, n, ra, hc⟩ => ⟨fnAt_keeps L.fo I2.bk, ?_⟩) he hpl
  exact run_lamB L hr gd tk I2 r n.bs n.mu (h2.up n.up) ra hc (fun d _ h v B' H' n' r' => hq d _ h v B' H' (n.trans n') r') (hx.nx n)⟩⟩
/-- handed on to another def -/
structure CalM (P : Program) (w : World) (K : PySem.W.Frag) (mg : Str → Option Value) (base : Heap) (g : G) (k kl : Nat) (x : Str) (hc : D → Ct → Ct) : Prop where
  ex : ∃ f, DFnM P w K mg base g k kl f hc ∧ mg x = some (.ref f) ∧ PySem.W.keepIn K (.ref f) = true
theorem de_callX {kl : Nat} {hc : D → Ct → Ct} {c : Addr} {q : Str} {tvs : List V} {tds : List D} (F : CalM X.prog X.w X.K X.mg X.base g k kl x hc) (ht : t = .fn f c q tvs tds) (L : LamB X.prog X.w X.K X.mg X.base g kl f t lam) (hr : Room k X.A) (ha : DA g X (e :: es) w) (hg : Gl X x := by rfl)
    (hdb : (x == ("__debug__" : Str)) = false := by decide) (he : starEach (e :: es) X.env = (false, eval e X.env) :: starEach es X.env := by rfl) (hpl : (backTo pos (starEach es X.env)).any (·.1) = false := by rfl) :
    DE g X (.Call (.Name x p) (e :: es) [] pos) (wCallT hc t lam w) := ⟨fun gd W tk => ⟨fun pins s σ H Q I h => by
  subst ht
  obtain ⟨B, ρ, μ, Q0, E0, rel, hw, hq, hx⟩ := h
  obtain ⟨fa, F, hm, hk⟩ := F.ex
  refine wpAny_Call_Name_kw (ld_glob I hg hm ?_ hdb)
  refine PySem.W.callWith_K (h₀ := X.base) I.ok.mod.kin hk (thn ((ha.run gd W tk).run pos pins s σ H (fun vs H1 => ∃ ds B1 μ1, Nm g B H B1 H1 μ1 ∧ RpA g B1 vs ds ∧ hc (.fn f c q tvs tds) lam ds μ1 Q0 E0) I (tDA.go rel hw hx fun ds μ1 vs B1 H1 k n r => ⟨ds, B1, μ1, n, r, k⟩)) fun us s1 ⟨vs, H1, I1, r, ds, B1, μ1, n, ra, hc'⟩ => ⟨I1.kIn, ?_⟩) he hpl
  refine wpAny_call (codeAny_mono (F.run f c q tvs tds lam X.A X.stack s1 H1 B1 us vs ds μ1 Q0 E0 Q (WE W σ) hr gd.gd I1.env0 r n.bs n.mu ra L hc'
    (fun d _ h v B' H' n' r' => hq d _ h v B' H' (n.trans n') r') fun c d _ h cls dd B' H' n' x => hx c d _ h cls dd B' H' (n.trans n') x) fun r s' hq' => ?_)
  cases r with
  | error e => exact passAt tk σ pins H1 s1 e s' I1 hq'
  | ok fl =>
    cases fl with
    | ret u => exact I1.after hq'
    | next => exact False.elim hq'
    | brk => exact False.elim hq'
    | cont => exact False.elim hq'⟩⟩
end
/-! ### a lambda's context over a greater base -/
def lamCxB (X : Cx) (base' : Heap) (ps N0 : List Str) (A : Around) (outer : List Env) (s : Shared) (H : Hp) (E : XK) (scope : Scope) (f c' : Addr) : Cx where
  prog := X.prog
  w := X.w
  K := X.K
  mg := X.mg
  base := base'
  A := A.deeper (LamX.lamEnv X scope s.heap.objs.size f c')
  N := ps ++ N0
  s_0 := s
  H_0 := H
  env := LamX.lamEnv X scope s.heap.objs.size f c'
  outer := outer
  stack := LamX.lamEnv X scope s.heap.objs.size f c' :: outer
  ex := []
  fn := fun _ => false
  calm := true
  pn := []
  xe := fun e s' => wpAny (model X.prog X.w) (A.deeper (LamX.lamEnv X scope s.heap.objs.size f c')) (leaving (LamX.lamEnv X scope s.heap.objs.size f c') e) (fun _ s'' => L2.CX X.prog X.w outer H s E e s'') (fun e' s'' => L2.CX X.prog X.w outer H s E e' s'') s'
/-- a lambda's names: N0 are the def's, but for those that its parameters hide -/
structure LamSN (sc scope : Scope) (ps N0 N : List Str) : Prop where
  sp : LamSP sc scope ps N0
  len : N0.length = N.length
  at_ : ∀ (i : Nat) (y : Str), N0[i]? = some y → scope.names.lookup y = some .free → N[i]? = some y
def lamSNB (sc scope : Scope) (ps N0 N : List Str) : Bool := scope.kind == .function && (!scope.isCoroutine && (!scope.isGenerator && ((scope.names.all fun y => !(y.2 == .cell) && (!(y.2 == .local) || ps.contains y.1)) && ((scope.names.all fun y => !(y.2 == .free) || (sc.names.lookup y.1 == some .cell || sc.names.lookup y.1 == some .free)) &&
  ((ps.all fun p => scope.names.lookup p == some .local) && ((ps.all fun p => !N0.contains p) && (decide ps.Nodup && (N0.length == N.length && ((N0.zip N).all fun p => p.1 == p.2 || !(scope.names.lookup p.1 == some .free))))))))))
theorem lamSPN_by {sc scope : Scope} {ps N0 N : List Str} (h : lamSNB sc scope ps N0 N = true) : LamSN sc scope ps N0 N := by
  unfold lamSNB at h
  simp only [Bool.and_eq_true, Bool.or_eq_true, Bool.not_eq_true', beq_iff_eq, List.all_eq_true, decide_eq_true_eq] at h
  obtain ⟨h1, h2, h3, h4, h5, h6, h7, h8, h9, h10⟩ := h
  refine ⟨⟨h1, h2, h3, fun y hy => ⟨fun e => ?_, fun e => ?_⟩, fun y hy e => ?_, h6, fun p hp z => ?_, h8⟩, h9, fun i y e f => ?_⟩
  · have := (h4 y hy).1
    rw [e] at this
    exact absurd this (by decide)
  · rcases (h4 y hy).2 with z | z
    · rw [e] at z; exact absurd z (by decide)
    · exact List.contains_iff_mem.mp z
  · rcases h5 y hy with z | z
    · rw [e] at z; exact absurd z (by decide)
    · exact z
  · have := h7 p hp
    rw [List.contains_iff_mem.mpr z] at this
    cases this
  · have hi : i < N0.length := (List.getElem?_eq_some_iff.mp e).1
    have hi2 : i < N.length := by omega
    have hz : (N0.zip N)[i]? = some (y, N[i]) := by
      rw [List.getElem?_zip_eq_some]
      exact ⟨e, List.getElem?_eq_getElem hi2⟩
    rcases h10 _ (List.mem_of_getElem? hz) with z | z
    · have z : y = N[i] := z
      rw [z]; exact List.getElem?_eq_getElem hi2
    · have z : (scope.names.lookup y == some NameKind.free) = false := z
      rw [f] at z
      exact absurd z (by decide)
section
variable {X : Cx} {pins : List (Addr × Obj)} {σ : L2.St} {H HZ : Hp} {s s1 : Shared} {ps N0 : List Str} {base' : Heap}
theorem LamSN.has {scope : Scope} (L : LamSN X.env.scope scope ps N0 X.N) (ok : X.Ok) : ∀ y ∈ scope.names, y.2 = .free → ∃ c, X.env.cells.lookup y.1 = some c := fun y hy e => by
  rcases L.sp.free y hy e with k | k
  · exact ok.has _ (.inl k)
  · exact ok.has _ (.inr k)
/-- what stands still in (s, H), but for the frames, stands in the base -/
def Holds (X : Cx) (s : Shared) (H : Hp) (base' : Heap) : Prop := ∀ b o, s.heap.get? b = some o → H b = none → b ∉ frs X.stack → base'.get? b = some o
/-- the def's cells are no frames -/
def CellsOk (X : Cx) : Prop := ∀ x c, X.env.cells.lookup x = some c → c ∉ frs X.stack
theorem lam_startB {A : Around} {outer : List Env} {E : XK} {scope : Scope} {f c' : Addr} {h₁ : Heap} {tk : Nat} {us : List Value} {ws : List V} (I : Inv X pins σ H s) (LN : LamSN X.env.scope scope ps N0 X.N) (e0 : Env0 X.prog X.w X.K X.mg base' A outer s1 HZ) (hd : A.handled = none)
    (hb : Holds X s H base') (hcl : CellsOk X) (r : Vals ws us) (hl : ws.length = ps.length) (hns : h₁.Ns s1.heap.objs.size fun y => (ps.zip us).reverse.lookup y) (kp : ∀ b o, s1.heap.get? b = some o → h₁.get? b = some o) :
    Inv (lamCxB X base' ps N0 A outer s1 HZ E scope f c') [] (ws.map some ++ σ) HZ { s1 with heap := h₁, toks := tk } := by
  have hfree := LN.has I.ok
  have L := LN.sp
  have cm : ∀ {y c}, (cloFrom X.env.cells scope.names []).lookup y = some c → X.env.cells.lookup y = some c := fun {y c} e => by
    rcases cloFrom_mem (PySem.mem_of_lookup e) with hm | ⟨h1, h2⟩
    · cases hm
    · obtain ⟨c1, hc⟩ := hfree _ h1 rfl
      have hc : X.env.cells.lookup y = some c1 := hc
      have e2 : c = c1 := by
        rw [h2, hc] <;> rfl
      rw [e2]
      exact hc
  have look : ∀ {y}, scope.names.lookup y = some .free → ∃ c, (cloFrom X.env.cells scope.names []).lookup y = some c := fun {y} hk => by
    have hy : (y, NameKind.free) ∈ scope.names := PySem.mem_of_lookup hk
    exact mem_lookup (cloFrom_has (cells := X.env.cells) (acc := []) hy)
  have cellB : ∀ {y : Str} {c : Addr} {o : Obj}, X.env.cells.lookup y = some c → s.heap.get? c = some o → s1.heap.get? c = some o ∧ HZ c = none := fun {y c o} hy ho => e0.bs _ _ (hb _ _ ho (I.freeC y c hy) (hcl y c hy))
  have cellK : ∀ {y : Str} {c : Addr} {v : Option Value}, X.env.cells.lookup y = some c → s.heap.IsCell c v → h₁.IsCell c v := fun {y c v} hy ⟨o, ho, hd⟩ => ⟨o, kp _ _ (cellB hy ho).1, hd⟩
  have noA : ∀ b : Addr, b ∉ (lamCxB X base' ps N0 A outer s1 HZ E scope f c').ex := fun b z => absurd (show b ∈ ([] : List Addr) from z) (by simp)
  have hul : us.length = ps.length := by rw [← r.length]; exact hl
  refine ⟨⟨e0.mod, L.kind, rfl, rfl, Nat.le_refl _, fun y z c e1 e2 => I.ok.inj y z c (cm e1) (cm e2), fun y hy => ?_, fun y c z _ => (by have z : false = true := z; cases z), fun _ => hd, Around.frames_deeper e0.frames, .inr ⟨rfl, rfl⟩, fun b z => absurd z (noA b), e0.bs, e0.bsz, fun b _ _ => noA b,
      fun b z => absurd z (noA b), e0.funs, e0.frf⟩,
    rfl, e0.bare, Un.kept kp, ⟨_, hns, fun i y v e1 e2 e3 => ?_⟩, fun y c e => ?_, e0.hok.fresh (Nat.le_refl _), fun y c e => ?_, fun q hq => absurd (show q ∈ ([] : List (Addr × Obj)) ++ [] from hq) (by simp), e0.hok.kept kp, ?_⟩
  · have hy : scope.names.lookup y = some .cell ∨ scope.names.lookup y = some .free := hy
    rcases hy with hy | hy
    · exact absurd rfl (L.own _ (PySem.mem_of_lookup hy)).1
    · exact look hy
  · have e1 : (ps ++ N0)[i]? = some y := e1
    by_cases hi : i < ps.length
    · rw [List.getElem?_append_left hi] at e1
      rw [List.getElem?_append_left (by simpa [hl] using hi), List.getElem?_map] at e2
      cases ew : ws[i]? with
      | none => rw [ew] at e2; cases e2
      | some w0 =>
        rw [ew] at e2
        cases e2
        obtain ⟨u, hu, rv⟩ := r.get ew
        exact ⟨u, rv, .inl ⟨L.par y (List.mem_of_getElem? e1), zip_rev_lookup L.nd hul i y u e1 hu⟩⟩
    · have hge : ps.length ≤ i := Nat.le_of_not_lt hi
      rw [List.getElem?_append_right hge] at e1
      rw [List.getElem?_append_right (by simpa [hl] using hge), List.length_map, hl] at e2
      have hyN : y ∈ N0 := List.mem_of_getElem? e1
      have e3 : Vis scope y := e3
      rcases e3 with k | k | k
      · exact absurd hyN (L.dis y ((L.own _ (PySem.mem_of_lookup k)).2 rfl))
      · exact absurd rfl (L.own _ (PySem.mem_of_lookup k)).1
      · obtain ⟨m, hn, hloc⟩ := I.loc
        have hvis : Vis X.env.scope y := (L.free _ (PySem.mem_of_lookup k) rfl).elim (fun k => .inr (.inl k)) (fun k => .inr (.inr k))
        obtain ⟨w', rr, q⟩ := hloc _ y v (LN.at_ _ y e1 k) e2 hvis
        obtain ⟨c2, h2⟩ := look k
        refine ⟨w', rr, .inr ⟨.inr k, c2, h2, ?_⟩⟩
        have c1 := cm h2
        rcases q with ⟨k', _⟩ | ⟨_, c3, e', z⟩
        · have k' : X.env.scope.names.lookup y = some .local := k'
          rcases L.free _ (PySem.mem_of_lookup k) rfl with k2 | k2 <;> rw [show X.env.scope.names.lookup y = _ from k2] at k' <;> cases k'
        · rw [c1] at e'
          cases e'
          exact cellK c1 z
  · obtain ⟨w', z⟩ := I.cell y c (cm e)
    exact ⟨w', cellK (cm e) z⟩
  · obtain ⟨v, o, ho, hd⟩ := I.cell y c (cm e)
    exact (cellB (cm e) ho).2
  · show _ = (ps ++ N0).length
    rw [List.length_append, List.length_append, List.length_map, hl, I.len, LN.len]
end
end Dk
namespace Dk
open PySem PySem.Spec PyProof.Rows L2
section
variable {X : Cx} {pins : List (Addr × Obj)} {σ : L2.St} {H HZ : Hp} {s s1 : Shared} {ps N0 : List Str} {base' : Heap}
theorem funFrames_at {h base : Heap} : ∀ {l : List Env}, h.FunFrames base l → ∀ L ∈ frs l, ∃ o, h.get? L = some o
  | [], _, L, hL => by cases hL
  | env :: l, ⟨_, ⟨L0, o, hf, _, ho, _⟩, hr⟩, L, hL => by
    unfold frs at hL
    rw [List.filterMap_cons, hf] at hL
    rcases List.mem_cons.mp hL with e | e
    · rw [e]; exact ⟨o, ho⟩
    · exact funFrames_at hr L e
theorem cellsOk_of (I : Inv X pins σ H s) (hfn : ∀ x, X.fn x = true) : CellsOk X := fun x c hc hm => by
  have hge := I.ok.cab x c (hfn x) hc
  have hout : c ∉ frs X.outer := fun z => by
    obtain ⟨o, e⟩ := funFrames_at I.ok.funs c z
    exact absurd (Heap.lt_size e) (Nat.not_lt.mpr hge)
  rcases I.ok.stk with e | ⟨e, hf⟩
  · rw [e] at hm; exact hout hm
  · rw [e] at hm
    unfold frs at hm
    rw [List.filterMap_cons, hf] at hm
    rcases List.mem_cons.mp hm with e2 | e2
    · obtain ⟨v, o, ho, hd⟩ := I.cell x c hc
      obtain ⟨m, ⟨o', es, ep, ho', hd', _⟩, _⟩ := I.loc
      rw [e2] at ho
      rw [ho] at ho'
      cases ho'
      rw [hd] at hd'
      cases hd'
    · exact hout e2
theorem lamB_of {g : G} {k : Nat} {wb : We} {c' f : Addr} {params : Arguments} {body : Expr} {scope : Scope} {pm ctv : Value} {ρ : List Sl} {μ0 : Mu} {B : Hp} (I : Inv X pins σ H s) (rel : Rel g B H σ ρ μ0) (hK : X.K = g.K) (LN : LamSN X.env.scope scope ps N0 X.N) (hf : s.heap.get? f = some (PySem.W.kla_obj "<lambda>" (X.env.qual ++ "<lambda>") params body scope (cloFrom X.env.cells scope.names []) pm c' ctv)) (hfn : H f = none) (hfr : f ∉ frs X.stack)
    (hb' : Holds X s H base') (hcl : CellsOk X)
    (hbind : ∀ (q : Str) (cl : List (Str × Addr)) (pm cv ctv : Value) (us : List Value), us.length = ps.length → bindArgs (PySem.W.kla_fn "<lambda>" q params body scope cl pm cv ctv) ⟨us, []⟩ = pure (ps.zip us))
    (hbody : ∀ (A : Around) (outer : List Env) (s : Shared) (H : Hp) (E : XK) (f c' : Addr), Room k (A.deeper (LamX.lamEnv X scope s.heap.objs.size f c')) → DE g (lamCxB X base' ps N0 A outer s H E scope f c') body wb) :
    LamB X.prog X.w X.K X.mg base' g (k + 1) f (tokOf f c' (X.env.qual ++ "<lambda>") σ ρ) (fun as μ Q E => as.length = ps.length ∧ wb (as.map .sh ++ shOf ρ) μ Q E) := by
  have of0 : base'.get? f = some (PySem.W.kla_obj "<lambda>" (X.env.qual ++ "<lambda>") params body scope (cloFrom X.env.cells scope.names []) pm c' ctv) := hb' _ _ hf hfn hfr
  have L := LN.sp
  refine ⟨⟨_, _, _, _, of0⟩, fun A outer' s' H' B' us ws es μ Q0 E0 Q E hr hg e0 r b m0 rt ra hc hq he => ?_⟩
  have of1 := (e0.bs _ _ of0).1
  obtain ⟨hln, hc⟩ := hc
  unfold tokOf at rt
  cases rt with
  | fn hcode rcap =>
    have hus : us.length = ps.length := by rw [← r.length, ra.len]; exact hln
    obtain ⟨⟨oc, vs, t, hoc, hdc, hvc⟩, _, _⟩ := e0.hok c' _ (b.sub.at hcode)
    have lim : s'.heap.NoLimit := e0.mod.nolimit.keeps fun b o e => (e0.bs b o e).1
    refine PySem.W.kla_callFunE hr.depth of1 rfl L.co L.gen rfl ⟨c', oc, vs, t, rfl, hoc, hdc, hvc⟩ ?_
    rw [hbind _ _ _ _ _ us hus]
    refine wpAny_pure (wpAny_newFunctionEnv (fun y hy => (L.own y hy).1) (fun y hy => L.par y.1 (List.of_mem_zip hy).1) (fun h₁ hns hsb => ⟨lim.fresh _ hsb, ?_⟩) L.kind)
    show codeAny _ _ (.expr body (LamX.lamEnv X scope s'.heap.objs.size f c')) _ _
    have kp : ∀ b o, s'.heap.get? b = some o → h₁.get? b = some o := fun b o e => hsb.extBut b o (Nat.ne_of_lt (Heap.lt_size e)) (Heap.get?_push_of_some _ e)
    have J := lam_startB (E := E) (scope := scope) (f := f) (c' := c') (h₁ := h₁) (tk := s'.toks + (ps.zip us).length) I LN e0 hr.hd hb' hcl r (by rw [ra.len]; exact hln) hns kp
    have hr' := hr.deeper (LamX.lamEnv X scope s'.heap.objs.size f c')
    have gd : Gd g (lamCxB X base' ps N0 A outer' s' H' E scope f c') := ⟨hK, hg, by have := hr'.un; show (A.deeper _).units + 128 < cLine; omega⟩
    have hb := (hbody A outer' s' H' E f c' hr').run gd (fun cls d _ H => E cls d H) (takes_of rfl rfl rfl rfl)
    refine PySem.W.kla_codeExpr (wpAny_mono (hb.run [] _ _ H' Q J ⟨B', es.map .sh ++ shOf ρ, μ, Q0, E0, rel_lam b m0 rel.len (fun i d h => let ⟨v, h1, _⟩ := rel.at h; ⟨v, h1⟩) rcap ra, hc, hq, fun c d _ h cls dd B2 H2 n x => he c d _ h cls dd B2 H2 n x⟩) (fun v s2 hq => ?_) fun e s2 hq => hq)
    obtain ⟨w', H2, J', rv, q⟩ := hq
    exact ⟨w', H2, J'.os, J'.bare, J'.base, J'.hok, rv, q⟩
/-- the greater base, and what stands there -/
theorem base_up (I : Inv X pins σ H s) : BUp X.mg X.base (baseX s.heap H (frs X.stack)) := ⟨fun b o e => by
    obtain ⟨h1, h2⟩ := I.bs b o e
    refine baseX_get h1 h2 fun z => ?_
    rcases List.mem_cons.mp (I.stkSub _ z) with q | q
    · have h3 := Heap.lt_size (I.ok.bs b o e).1
      rw [q] at h3
      exact absurd h3 (Nat.not_lt.mpr I.ok.above)
    · exact I.ok.nofr e q, by
    show _ ≤ (hidT s.heap _).objs.size
    rw [hidT_size]
    exact Nat.le_trans I.env0.bsz (Nat.le_refl _)⟩
theorem env_up (I : Inv X pins σ H s) : Env0 X.prog X.w X.K X.mg (baseX s.heap H (frs X.stack)) X.A X.stack s H := by
  have e := I.env0
  exact ⟨e.frames, (base_up I).mod e.mod, fun b o z => let ⟨h1, h2, _⟩ := of_baseX z; ⟨h1, h2⟩, by show (hidT s.heap _).objs.size ≤ _; rw [hidT_size]; exact Nat.le_refl _, funFrames_none e.funs fun L hL => (by
    cases q : (baseX s.heap H (frs X.stack)).get? L with
    | none => rfl
    | some o => exact absurd hL (of_baseX q).2.2), e.frf, e.hok, e.bare⟩
theorem holds_base : Holds X s H (baseX s.heap H (frs X.stack)) := fun b o e n h => baseX_get e n h
variable {g : G} {k kl : Nat} {fa : Addr} {hc : D → Ct → Ct} {x : Str} {p lpos pos : Pos} {c P : Addr} {params : Arguments} {body : Expr} {scope : Scope} {es : List Expr} {w : Wa} {wb : We}
/-- x(lambda ..: body, e, ..) -/
theorem de_callM (F : ∀ base', BUp X.mg X.base base' → DFnM X.prog X.w X.K X.mg base' g k (kl + 1) fa hc) (hfnT : ∀ x, X.fn x = true) (hr : Room k X.A) (hg : Gl X x) (hm : X.mg x = some (.ref fa)) (hk : PySem.W.keepIn X.K (.ref fa) = true)
    (TB : LamX.TabB X.base X.mg c P) (hcode : X.env.code = .ref c) (hmT : (P, X.env.qual ++ "<lambda>") ∈ g.T) (hu : ∀ p ∈ g.T, p.1 = P → p.2 = X.env.qual ++ "<lambda>") (LN : LamSN X.env.scope scope ps N0 X.N) (hdef : defaultsOf params X.env = ([], []))
    (hbind : ∀ (q : Str) (cl : List (Str × Addr)) (pm cv ctv : Value) (us : List Value), us.length = ps.length → bindArgs (PySem.W.kla_fn "<lambda>" q params body scope cl pm cv ctv) ⟨us, []⟩ = pure (ps.zip us))
    (hbody : ∀ (base' : Heap), BUp X.mg X.base base' → ∀ (A : Around) (outer : List Env) (s : Shared) (H : Hp) (E : XK) (f c' : Addr), Room kl (A.deeper (LamX.lamEnv X scope s.heap.objs.size f c')) → DE g (lamCxB X base' ps N0 A outer s H E scope f c') body wb) (ha : DA g X es w)
    (hdb : (x == ("__debug__" : Str)) = false := by decide) (he : starEach (.Lambda params body scope lpos :: es) X.env = (false, eval (.Lambda params body scope lpos) X.env) :: starEach es X.env := by rfl) (hpl : (backTo pos (starEach es X.env)).any (·.1) = false := by rfl) :
    DE g X (.Call (.Name x p) (.Lambda params body scope lpos :: es) [] pos) (wCallL hc ps.length wb w) := ⟨fun gd W tk => ⟨fun pins s σ H Q I h => by
  obtain ⟨B, ρ, μ, Q0, E0, rel, hw, hq, hx⟩ := h
  refine wpAny_Call_Name_kw (ld_glob I hg hm ?_ hdb)
  refine PySem.W.callWith_K (h₀ := X.base) I.ok.mod.kin hk ?_ he hpl
  rw [he]
  show wpAny _ _ (spliced ((false, eval (.Lambda params body scope lpos) X.env) :: backTo pos (starEach es X.env))) _ _ s
  refine Calls.spliced_cons (LamX.lam_make2 I TB hcode hmT hu rel.tabs hdef (LN.has I.ok) fun f c' pm' ctv H1 s1 I1 eN T1 hf hfn hfr hco => ?_)
  have hm : ¬ Mk1 (LamX.CodeO c' (X.env.qual ++ "<lambda>")) := by rintro ⟨_, z⟩; unfold LamX.CodeO at z; cases z
  have same : ∀ o, B c' = some o → ¬ Mk1 o → o = LamX.CodeO c' (X.env.qual ++ "<lambda>") := fun o e nm => by
    have e2 := eN _ _ (rel.sub.co _ _ e nm) (fun ps z => rel.notb _ ps (by rw [e, z]))
    rw [hco] at e2
    exact (Option.some.inj e2).symm
  have nmk : ∀ k, B c' ≠ some (.own k) := fun k z => by
    obtain ⟨m, _, h2⟩ := rel.mu.at_ _ _ z
    have no : ∀ u, H c' = some u → Ownd u → False := fun u e ow => by
      have e2 := eN _ _ e ow.ntb
      rw [hco] at e2
      have e3 := Option.some.inj e2
      unfold LamX.CodeO at e3
      subst e3
      rcases ow with ⟨_, h⟩ | ⟨_, h⟩ | ⟨_, _, _, h⟩ <;> cases h
    cases m with
    | pt k => obtain ⟨_, _, _, e, _⟩ := h2; exact no _ e own_lst
    | ob c xs => obtain ⟨_, _, e, _⟩ := h2; exact no _ e own_ins
    | ls ds => obtain ⟨_, e, _⟩ := h2; exact no _ e own_lst
    | dc ks ds => obtain ⟨_, e, _⟩ := h2; exact no _ e own_dK
  have upB : Up B (upd B c' (LamX.CodeO c' (X.env.qual ++ "<lambda>"))) := fun a o e => by
    by_cases z : a = c'
    · subst z
      rw [upd_same, same o e (by rintro ⟨k, rfl⟩; exact nmk k e)]
    · rw [upd_ne z]; exact e
  have mks : ∀ a k, upd B c' (LamX.CodeO c' (X.env.qual ++ "<lambda>")) a = some (.own k) → B a = some (.own k) := fun a k e => by
    by_cases z : a = c'
    · subst z
      rw [upd_same] at e; exact absurd ⟨k, Option.some.inj e⟩ hm
    · rw [upd_ne z] at e; exact e
  have nx1 : Nm g B H (upd B c' (LamX.CodeO c' (X.env.qual ++ "<lambda>"))) H1 μ := {
    keep := fun a o e n _ => eN a o e n
    up := upB
    sub := ⟨fun a o e nm => by
      by_cases z : a = c'
      · subst z
        rw [upd_same] at e; cases e; exact hco
      · rw [upd_ne z] at e
        exact eN _ _ (rel.sub.co _ _ e nm) (fun ps z => rel.notb _ ps (by rw [e, z])), fun a k e => by
      obtain ⟨u, e1, e2⟩ := rel.sub.mkd a k (mks a k e)
      exact ⟨u, eN _ _ e1 e2, e2⟩⟩
    notb := fun a ps e => by
      by_cases z : a = c'
      · subst z
        rw [upd_same] at e
        exact LamX.codeO_ne ps (Option.some.inj e)
      · rw [upd_ne z] at e; exact rel.notb a ps e
    old := fun a o e ow q => by
      have z : a ≠ c' := fun z => by
        subst z
        have e2 := eN _ _ e ow.ntb
        rw [hco] at e2
        have e3 := Option.some.inj e2
        unfold LamX.CodeO at e3
        subst e3
        rcases ow with ⟨_, h⟩ | ⟨_, h⟩ | ⟨_, _, _, h⟩ <;> cases h
      rw [upd_ne z]; exact q
    nc := fun a o k e n q z => by rw [mks a k z] at q; cases q
    tabs := T1
    mu := ⟨fun a k e => let ⟨m, h1, h2⟩ := rel.mu.at_ a k (mks a k e); ⟨m, h1, h2.nx (n := k) (fun o e n => eN a o e n) upB⟩, fun a b k h1 h2 => rel.mu.uniq a b k (mks a k h1) (mks b k h2)⟩ }
  have I1p : Inv X ((f, PySem.W.kla_obj "<lambda>" (X.env.qual ++ "<lambda>") params body scope (cloFrom X.env.cells scope.names []) pm' c' ctv) :: pins) σ H1 s1 := I1.pins_of fun q hq' => by
    rcases List.mem_cons.mp hq' with e | e
    · subst e
      refine ⟨hf, hfn, fun z => ?_, fun z => hfr ?_, fun v z => by cases z⟩
      · obtain ⟨m, ⟨o, es', ep, ho, hd, _⟩, _⟩ := I1.loc
        have z : f = X.env.locals := z
        rw [← z, hf] at ho
        cases ho
        cases hd
      · rcases I1.ok.stk with e | ⟨e, _⟩
        · rw [e]; exact z
        · rw [e, show X.env :: X.outer = [X.env] ++ X.outer from rfl, frs_app]; exact List.mem_append_right _ z
    · exact I1.pin q (List.mem_append_right _ e)
  refine thn ((ha.run gd W tk).run pos _ s1 σ H1 (fun vs H2 => ∃ ds B2 μ2, Nm g (upd B c' (LamX.CodeO c' (X.env.qual ++ "<lambda>"))) H1 B2 H2 μ2 ∧ RpA g B2 vs ds ∧ ∀ t, hc t (fun as μ Q E => as.length = ps.length ∧ wb (as.map .sh ++ shOf ρ) μ Q E) (t :: ds) μ2 Q0 E0) I1p (tDA.go (rel.nm nx1) hw (hx.nx nx1) fun ds μ2 vs B1 H1 k n r => ⟨ds, B1, μ2, n, r, k⟩)) fun us s2 ⟨vs, H2, I2, r, ds, B2, μ2, n2, ra, k2⟩ => ⟨I2.kIn, ?_⟩
  have n := nx1.trans n2
  have hf2 := ClX.pin_at I2
  have hfn2 := ClX.pin_un I2
  have I2' := ClX.unpin I2
  have rel2 := rel.nm n
  have lam := lamB_of (k := kl) (wb := wb) (base' := baseX s2.heap H2 (frs X.stack)) I2' rel2 gd.k LN hf2 hfn2 hfr holds_base (cellsOk_of I2' hfnT) hbind (hbody _ (base_up I2'))
  have hcode2 : B2 c' = some (LamX.CodeO c' (X.env.qual ++ "<lambda>")) := n2.up _ _ upd_same
  have rt : Rp g B2 (.ref f) (tokOf f c' (X.env.qual ++ "<lambda>") σ ρ) := .fn hcode2 (capt_rp fun i v d h1 h2 => by
    obtain ⟨v', h3, h4⟩ := rel2.at h2
    rw [h1] at h3
    cases h3
    exact h4)
  refine wpAny_call (codeAny_mono ((F _ (base_up I2')).run f c' (X.env.qual ++ "<lambda>") _ _ _ X.A X.stack s2 H2 B2 (.ref f :: us) (.ref f :: vs) (tokOf f c' (X.env.qual ++ "<lambda>") σ ρ :: ds) μ2 Q0 E0 Q (WE W σ) hr gd.gd (env_up I2') (.cons rfl r) n2.bs n2.mu (.cons rt ra) lam (k2 _)
    (fun d _ h v B' H' n' r' => hq d _ h v B' H' (n.trans n') r') fun c d _ h cls dd B' H' n' x => hx c d _ h cls dd B' H' (n.trans n') x) fun r s' hq' => ?_)
  cases r with
  | error e => exact passAt tk σ pins H2 s2 e s' I2' hq'
  | ok fl =>
    cases fl with
    | ret u => exact I2'.after hq'
    | next => exact False.elim hq'
    | brk => exact False.elim hq'
    | cont => exact False.elim hq'⟩⟩
end
end Dk
namespace Dk
open PySem PySem.Spec PyProof.Rows L2
/-! ### comprehensions told by functions -/
theorem lcL_fm {α : Type} {wg : Wg} {wt : Wt} {we : We} {ρ : List Sl} {μ : Mu} (enc : α → D) (f : α → Option D) : ∀ (xs : List α) (acc : List D) {Q : List D → Mu → Prop},
    (∀ x ∈ xs, ∀ (P : D → Mu → Prop) (R : Mu → Prop), (match f x with | some z => P z μ | none => R μ) → wg (enc x) ρ (fun ρ1 => wt ρ1 μ (fun b μ => match b with | true => we ρ1 μ P noE | false => R μ) noE)) →
    acc.length + (xs.filterMap f).length ≤ sizeLine → Q (acc ++ xs.filterMap f) μ → lcL wg wt we ρ (xs.map enc) acc μ Q
  | [], acc, Q, _, _, q => by
    rw [List.filterMap_nil, List.append_nil] at q
    exact q
  | x :: xs, acc, Q, hs, hl, q => by
    refine hs x (List.mem_cons_self ..) _ _ ?_
    cases e : f x with
    | none =>
      rw [List.filterMap_cons_none e] at hl q
      exact lcL_fm enc f xs acc (fun y hy => hs y (List.mem_cons_of_mem _ hy)) hl q
    | some z =>
      rw [List.filterMap_cons_some e] at hl q
      rw [List.length_cons] at hl
      refine ⟨by omega, lcL_fm enc f xs (acc ++ [z]) (fun y hy => hs y (List.mem_cons_of_mem _ hy)) (by rw [List.length_append, List.length_singleton]; omega) ?_⟩
      rw [List.append_assoc]
      exact q
/-- [f(x) for x in xs] -/
theorem lcL_map {α : Type} {wg : Wg} {we : We} {ρ : List Sl} {μ : Mu} (enc : α → D) (f : α → D) (xs : List α) {Q : List D → Mu → Prop} {ds : List D} (hd : ds = xs.map enc)
    (hs : ∀ x ∈ xs, ∀ (P : D → Mu → Prop), P (f x) μ → wg (enc x) ρ (fun ρ1 => we ρ1 μ P noE)) (hl : xs.length ≤ sizeLine) (q : Q (xs.map f) μ) : lcL wg tY we ρ ds [] μ Q := by
  subst hd
  have e : xs.filterMap (fun x => some (f x)) = xs.map f := by
    induction xs with
    | nil => rfl
    | cons x xs ih => simp
  refine lcL_fm enc (fun x => some (f x)) xs [] (fun x hx P R h => hs x hx P h) ?_ ?_
  · rw [e, List.length_map]; exact (by show 0 + _ ≤ _; omega)
  · rw [e]; exact q
/-- [f(x) for x in xs if p(x)] -/
theorem lcL_filter {α : Type} {wg : Wg} {wt : Wt} {we : We} {ρ : List Sl} {μ : Mu} (enc : α → D) (p : α → Bool) (f : α → D) (xs : List α) {Q : List D → Mu → Prop} {ds : List D} (hd : ds = xs.map enc)
    (hs : ∀ x ∈ xs, ∀ (P : D → Mu → Prop) (R : Mu → Prop), (p x = true → P (f x) μ) → (p x = false → R μ) → wg (enc x) ρ (fun ρ1 => wt ρ1 μ (fun b μ => match b with | true => we ρ1 μ P noE | false => R μ) noE)) (hl : xs.length ≤ sizeLine) (q : Q ((xs.filter p).map f) μ) : lcL wg wt we ρ ds [] μ Q := by
  subst hd
  have e : xs.filterMap (fun x => if p x then some (f x) else none) = (xs.filter p).map f := by
    clear hs hl q
    induction xs with
    | nil => rfl
    | cons x xs ih =>
      by_cases h : p x = true
      · rw [List.filterMap_cons_some (b := f x) (by rw [if_pos h]), List.filter_cons_of_pos h, List.map_cons, ih]
      · rw [List.filterMap_cons_none (by rw [if_neg h]), List.filter_cons_of_neg h, ih]
  refine lcL_fm enc (fun x => if p x then some (f x) else none) xs [] (fun x hx P R h => hs x hx P R (fun z => ?_) (fun z => ?_)) ?_ ?_
  · rw [if_pos z] at h; exact h
  · rw [if_neg (by rw [z]; exact Bool.false_ne_true)] at h; exact h
  · rw [e, List.length_map]
    have := List.length_filter_le p xs
    show 0 + _ ≤ _
    omega
  · rw [e]; exact q
end Dk
namespace Dk
open PySem PySem.Spec PyProof.Rows L2
/-! ### == told of data -/
mutual
def D.plq : D → Bool
  | .non => true
  | .bl _ => true
  | .int _ => true
  | .str x => PyData.strOk x
  | .lst xs => D.plqA xs
  | .tup xs => D.plqA xs
  | _ => false
def D.plqA : List D → Bool
  | [] => true
  | d :: ds => D.plq d && D.plqA ds
end
mutual
def D.dep : D → Nat
  | .lst xs => D.depA xs + 1
  | .tup xs => D.depA xs + 1
  | _ => 0
def D.depA : List D → Nat
  | [] => 0
  | d :: ds => max (D.dep d) (D.depA ds)
end
mutual
def eqvD : D → D → Bool
  | .non, .non => true
  | .bl a, .bl b => a == b
  | .bl a, .int j => (if a then 1 else 0) == j
  | .int i, .bl b => i == (if b then 1 else 0)
  | .int i, .int j => i == j
  | .str x, .str y => x == y
  | .lst xs, .lst ys => eqvL xs ys
  | .tup xs, .tup ys => eqvL xs ys
  | _, _ => false
def eqvL : List D → List D → Bool
  | [], [] => true
  | x :: xs, y :: ys => eqvD x y && eqvL xs ys
  | _, _ => false
end
mutual
theorem D.dat_of : ∀ {d : D}, d.plq = true → ∃ p, d.dat = some p ∧ p.canLay0 = true ∧ p.depth ≤ d.dep
  | .non, _ => ⟨_, rfl, rfl, Nat.le_refl _⟩
  | .bl _, _ => ⟨_, rfl, rfl, Nat.le_refl _⟩
  | .int _, _ => ⟨_, rfl, rfl, Nat.le_refl _⟩
  | .str x, h => ⟨_, rfl, h, Nat.le_refl _⟩
  | .lst xs, h => by
    obtain ⟨ps, h1, h2, h3⟩ := D.datA_of (ds := xs) h
    refine ⟨.list ps, by show (D.datA xs).map _ = _; rw [h1]; rfl, by simp only [PyData.canLay0]; exact h2, by simp only [PyData.depth]; show _ ≤ D.depA xs + 1; omega⟩
  | .tup xs, h => by
    obtain ⟨ps, h1, h2, h3⟩ := D.datA_of (ds := xs) h
    refine ⟨.tuple ps, by show (D.datA xs).map _ = _; rw [h1]; rfl, by simp only [PyData.canLay0]; exact h2, by simp only [PyData.depth]; show _ ≤ D.depA xs + 1; omega⟩
  | .obj _ _, h => by cases h
  | .exc _ _, h => by cases h
  | .dic _ _, h => by cases h
  | .scr _, h => by cases h
  | .cel _, h => by cases h
  | .fn _ _ _ _ _, h => by cases h
  | .lam _ _ _ _, h => by cases h
theorem D.datA_of : ∀ {ds : List D}, D.plqA ds = true → ∃ ps, D.datA ds = some ps ∧ PyData.canLayAll0 ps = true ∧ PyData.depthAll ps ≤ D.depA ds
  | [], _ => ⟨[], rfl, rfl, by simp [PyData.depthAll]⟩
  | d :: ds, h => by
    have h : (D.plq d && D.plqA ds) = true := h
    rw [Bool.and_eq_true] at h
    obtain ⟨p, a1, a2, a3⟩ := D.dat_of h.1
    obtain ⟨ps, b1, b2, b3⟩ := D.datA_of h.2
    refine ⟨p :: ps, by unfold D.datA; rw [a1, b1], by simp only [PyData.canLayAll0]; rw [a2, b2]; rfl, ?_⟩
    simp only [PyData.depthAll]
    show _ ≤ max (D.dep d) (D.depA ds)
    omega
end
theorem datA_cons {x : D} {xs : List D} {ps : List PyData} (h : D.datA (x :: xs) = some ps) : ∃ p qs, x.dat = some p ∧ D.datA xs = some qs ∧ ps = p :: qs := by
  unfold D.datA at h
  cases h1 : D.dat x with
  | none => rw [h1] at h; cases h
  | some p =>
    cases h2 : D.datA xs with
    | none => rw [h1, h2] at h; cases h
    | some qs =>
      rw [h1, h2] at h
      cases h
      exact ⟨p, qs, rfl, rfl, rfl⟩
theorem dat_lst {xs : List D} {p : PyData} (h : (D.lst xs).dat = some p) : ∃ ps, D.datA xs = some ps ∧ p = .list ps := by
  have h : (D.datA xs).map PyData.list = some p := h
  obtain ⟨ps, h1, h2⟩ := Option.map_eq_some_iff.mp h
  exact ⟨ps, h1, h2.symm⟩
theorem dat_tup {xs : List D} {p : PyData} (h : (D.tup xs).dat = some p) : ∃ ps, D.datA xs = some ps ∧ p = .tuple ps := by
  have h : (D.datA xs).map PyData.tuple = some p := h
  obtain ⟨ps, h1, h2⟩ := Option.map_eq_some_iff.mp h
  exact ⟨ps, h1, h2.symm⟩
mutual
theorem eqv_dat : ∀ (d e : D) {p q : PyData}, d.dat = some p → e.dat = some q → PyData.eqv p q = eqvD d e
  | .lst xs, e, p, q, h1, h2 => by
    obtain ⟨ps, a1, rfl⟩ := dat_lst h1
    cases e <;> first | (cases h2; done) | (cases h2; simp only [PyData.eqv, eqvD]; done) | skip
    case lst ys =>
      obtain ⟨qs, b1, rfl⟩ := dat_lst h2
      simp only [PyData.eqv, eqvD]
      exact eqv_datA xs ys a1 b1
    case tup ys =>
      obtain ⟨qs, b1, rfl⟩ := dat_tup h2
      simp only [PyData.eqv, eqvD]
  | .tup xs, e, p, q, h1, h2 => by
    obtain ⟨ps, a1, rfl⟩ := dat_tup h1
    cases e <;> first | (cases h2; done) | (cases h2; simp only [PyData.eqv, eqvD]; done) | skip
    case lst ys =>
      obtain ⟨qs, b1, rfl⟩ := dat_lst h2
      simp only [PyData.eqv, eqvD]
    case tup ys =>
      obtain ⟨qs, b1, rfl⟩ := dat_tup h2
      simp only [PyData.eqv, eqvD]
      exact eqv_datA xs ys a1 b1
  | .non, e, p, q, h1, h2 => by
    cases h1
    cases e <;> first | (cases h2; done) | (cases h2; simp only [PyData.eqv, eqvD]; done) | skip
    case lst ys => obtain ⟨qs, b1, rfl⟩ := dat_lst h2; simp only [PyData.eqv, eqvD]
    case tup ys => obtain ⟨qs, b1, rfl⟩ := dat_tup h2; simp only [PyData.eqv, eqvD]
  | .bl _, e, p, q, h1, h2 => by
    cases h1
    cases e <;> first | (cases h2; done) | (cases h2; simp only [PyData.eqv, eqvD]; done) | skip
    case lst ys => obtain ⟨qs, b1, rfl⟩ := dat_lst h2; simp only [PyData.eqv, eqvD]
    case tup ys => obtain ⟨qs, b1, rfl⟩ := dat_tup h2; simp only [PyData.eqv, eqvD]
  | .int _, e, p, q, h1, h2 => by
    cases h1
    cases e <;> first | (cases h2; done) | (cases h2; simp only [PyData.eqv, eqvD]; done) | skip
    case lst ys => obtain ⟨qs, b1, rfl⟩ := dat_lst h2; simp only [PyData.eqv, eqvD]
    case tup ys => obtain ⟨qs, b1, rfl⟩ := dat_tup h2; simp only [PyData.eqv, eqvD]
  | .str _, e, p, q, h1, h2 => by
    cases h1
    cases e <;> first | (cases h2; done) | (cases h2; simp only [PyData.eqv, eqvD]; done) | skip
    case lst ys => obtain ⟨qs, b1, rfl⟩ := dat_lst h2; simp only [PyData.eqv, eqvD]
    case tup ys => obtain ⟨qs, b1, rfl⟩ := dat_tup h2; simp only [PyData.eqv, eqvD]
  | .obj _ _, _, _, _, h1, _ => by cases h1
  | .exc _ _, _, _, _, h1, _ => by cases h1
  | .dic _ _, _, _, _, h1, _ => by cases h1
  | .scr _, _, _, _, h1, _ => by cases h1
  | .cel _, _, _, _, h1, _ => by cases h1
  | .fn _ _ _ _ _, _, _, _, h1, _ => by cases h1
  | .lam _ _ _ _, _, _, _, h1, _ => by cases h1
theorem eqv_datA : ∀ (xs ys : List D) {ps qs : List PyData}, D.datA xs = some ps → D.datA ys = some qs → PyData.eqvAll ps qs = eqvL xs ys
  | [], [], _, _, h1, h2 => by cases h1; cases h2; simp only [PyData.eqvAll, eqvL]
  | [], y :: ys, _, _, h1, h2 => by
    cases h1
    obtain ⟨p, qs, _, _, rfl⟩ := datA_cons h2
    simp only [PyData.eqvAll, eqvL]
  | x :: xs, [], _, _, h1, h2 => by
    cases h2
    obtain ⟨p, qs, _, _, rfl⟩ := datA_cons h1
    simp only [PyData.eqvAll, eqvL]
  | x :: xs, y :: ys, _, _, h1, h2 => by
    obtain ⟨p, ps, a1, a2, rfl⟩ := datA_cons h1
    obtain ⟨q, qs, b1, b2, rfl⟩ := datA_cons h2
    simp only [PyData.eqvAll, eqvL]
    rw [eqv_dat x y a1 b1, eqv_datA xs ys a2 b2]
end
/-- data that may be compared -/
def D.cq (d : D) : Prop := d.plq = true ∧ d.dep ≤ 64
theorem eqD_of {d e : D} (h : d.cq) (h' : e.cq) : eqD d e = some (eqvD d e) := by
  obtain ⟨p, a1, a2, a3⟩ := D.dat_of h.1
  obtain ⟨q, b1, b2, b3⟩ := D.dat_of h'.1
  unfold eqD
  rw [a1, b1]
  have s1 : SeqAt.shaped p = true := by
    unfold SeqAt.shaped
    rw [a2, decide_eq_true (by have := h.2; omega)]
    rfl
  have s2 : SeqAt.shaped q = true := by
    unfold SeqAt.shaped
    rw [b2, decide_eq_true (by have := h'.2; omega)]
    rfl
  show (if (SeqAt.shaped p && SeqAt.shaped q) = true then some (PyData.eqv p q) else none) = _
  rw [s1, s2, eqv_dat d e a1 b1]
  rfl
theorem fEq_of {d e : D} {b : Bool} {Q : D → Prop} (h : eqD d e = some b) : fEq d e Q = Q (.bl b) := by
  unfold fEq
  rw [h]
theorem fNe_of {d e : D} {b : Bool} {Q : D → Prop} (h : eqD d e = some b) : fNe d e Q = Q (.bl (!b)) := by
  unfold fNe
  rw [h]
theorem fIx_l {xs : List D} {i : Int} {z : D} {Q : D → Prop} (h : atI xs i = some z) : fIx (.lst xs) (.int i) Q = Q z := by
  show (match atI xs i with | some z => Q z | none => False) = _
  rw [h]
theorem fIx_t {xs : List D} {i : Int} {z : D} {Q : D → Prop} (h : atI xs i = some z) : fIx (.tup xs) (.int i) Q = Q z := by
  show (match atI xs i with | some z => Q z | none => False) = _
  rw [h]
theorem plqA_ints : ∀ ns : List Int, D.plqA (ns.map .int) = true
  | [] => rfl
  | _ :: ns => plqA_ints ns
theorem depA_ints : ∀ ns : List Int, D.depA (ns.map .int) = 0
  | [] => rfl
  | n :: ns => by
    show max (D.dep (.int n)) (D.depA (ns.map .int)) = 0
    rw [depA_ints ns]
    rfl
theorem plqA_bls : ∀ ns : List Bool, D.plqA (ns.map .bl) = true
  | [] => rfl
  | _ :: ns => plqA_bls ns
theorem depA_bls : ∀ ns : List Bool, D.depA (ns.map .bl) = 0
  | [] => rfl
  | n :: ns => by
    show max (D.dep (.bl n)) (D.depA (ns.map .bl)) = 0
    rw [depA_bls ns]
    rfl
theorem cq_int {i : Int} : (D.int i).cq := ⟨rfl, Nat.zero_le _⟩
theorem cq_bl {i : Bool} : (D.bl i).cq := ⟨rfl, Nat.zero_le _⟩
theorem cq_non : D.non.cq := ⟨rfl, Nat.zero_le _⟩
theorem cq_str {z : Str} (h : PyData.strOk z = true) : (D.str z).cq := ⟨h, Nat.zero_le _⟩
theorem cq_ints_l {ns : List Int} : (D.lst (ns.map .int)).cq := ⟨plqA_ints ns, by show D.depA _ + 1 ≤ 64; rw [depA_ints]; decide⟩
theorem cq_ints_t {ns : List Int} : (D.tup (ns.map .int)).cq := ⟨plqA_ints ns, by show D.depA _ + 1 ≤ 64; rw [depA_ints]; decide⟩
theorem cq_bls_l {ns : List Bool} : (D.lst (ns.map .bl)).cq := ⟨plqA_bls ns, by show D.depA _ + 1 ≤ 64; rw [depA_bls]; decide⟩
theorem eqvL_ints : ∀ ns ms : List Int, eqvL (ns.map .int) (ms.map .int) = decide (ns = ms)
  | [], [] => rfl
  | [], _ :: _ => rfl
  | _ :: _, [] => rfl
  | n :: ns, m :: ms => by
    show (n == m && eqvL (ns.map .int) (ms.map .int)) = _
    rw [eqvL_ints ns ms]
    by_cases h1 : n = m <;> by_cases h2 : ns = ms <;> simp [h1, h2]
theorem eqvL_bls : ∀ ns ms : List Bool, eqvL (ns.map .bl) (ms.map .bl) = decide (ns = ms)
  | [], [] => rfl
  | [], _ :: _ => rfl
  | _ :: _, [] => rfl
  | n :: ns, m :: ms => by
    show (n == m && eqvL (ns.map .bl) (ms.map .bl)) = _
    rw [eqvL_bls ns ms]
    by_cases h1 : n = m <;> by_cases h2 : ns = ms <;> simp [h1, h2]
theorem eqvL_nil : ∀ xs : List D, eqvL xs [] = xs.isEmpty
  | [] => rfl
  | _ :: _ => rfl
theorem eqD_nil_l {ns : List Int} : eqD (.lst (ns.map .int)) (.lst []) = some ns.isEmpty := by
  rw [eqD_of cq_ints_l ⟨rfl, by decide⟩]
  show some (eqvL (ns.map .int) []) = _
  rw [eqvL_nil]
  cases ns <;> rfl
theorem eqD_nil_t {ns : List Int} : eqD (.tup (ns.map .int)) (.tup []) = some ns.isEmpty := by
  rw [eqD_of cq_ints_t ⟨rfl, by decide⟩]
  show some (eqvL (ns.map .int) []) = _
  rw [eqvL_nil]
  cases ns <;> rfl
end Dk
namespace HT
open PySem PyProof.Rows
open PySem.SeqAt
open PySem.AutoSeq1 (wpAny_loadPart')
open PySem.MeetsSeq PySem.MeetsSeq2 PySem.MeetsSeq3
section
variable {prog : Program} {w : World} {A : Around} {E : Value → Shared → Prop} {s : Shared}
theorem adjust_rev (n : Nat) : Builtin.Slice.sliceAdjust none none (-1) (n : Int) = ((n : Int) - 1, -1) := rfl
theorem places_rev (n : Nat) : Builtin.Slice.slicePlaces ((n : Int) - 1) (-1) (-1) = n := by
  unfold Builtin.Slice.slicePlaces
  have h1 : ¬ ((-1 : Int) > 0) := by omega
  simp only [h1, if_false]
  rw [show (- (-1 : Int)) = 1 by decide, Int.ediv_one]
  split <;> omega
theorem sliceApplied_rev {sl : Addr} {vs : Value} {n : Nat} {Q : Int × Int × Nat → Shared → Prop} (hs : s.heap.IsSliceOf sl .none .none vs) (ps : IsPart vs (some (-1)))
    (h : Q ((n : Int) - 1, -1, n) s) : wpAny (model prog w) A (Builtin.Slice.sliceApplied (.ref sl) (pure (n : Int))) Q E s := by
  obtain ⟨os, hos, hcs, hds⟩ := id hs
  unfold Builtin.Slice.sliceApplied Builtin.Slice.sliceFields
  refine wpAny_bind (wpAny_bind (wpAny_field hos hds (x := .none) rfl (wpAny_bind (wpAny_field hos hds (x := .none) rfl (wpAny_bind (wpAny_field hos hds (x := vs) rfl (wpAny_pure ?_)))))))
  refine wpAny_bind (slicePart_ ps ?_)
  show wpAny _ _ (if ((-1 : Int) == 0) = true then _ else _) _ _ s
  rw [if_neg (by decide)]
  refine wpAny_bind (slicePart_none (wpAny_bind (slicePart_none (wpAny_bind (wpAny_pure ?_)))))
  show wpAny _ _ (match Builtin.Slice.sliceAdjust none none (-1) (n : Int) with | (lo, hi) => pure (lo, (-1 : Int), Builtin.Slice.slicePlaces lo hi (-1))) _ _ s
  rw [adjust_rev n]
  show wpAny _ _ (pure ((n : Int) - 1, (-1 : Int), Builtin.Slice.slicePlaces ((n : Int) - 1) (-1) (-1))) _ _ s
  rw [places_rev]
  exact wpAny_pure h
theorem fm_congr {α β : Type} {f g : α → Option β} : ∀ {l : List α}, (∀ x ∈ l, f x = g x) → l.filterMap f = l.filterMap g
  | [], _ => rfl
  | a :: l, h => by
    rw [List.filterMap_cons, List.filterMap_cons, h a (List.mem_cons_self ..), fm_congr fun x hx => h x (List.mem_cons_of_mem _ hx)]
theorem pick_rev (xs : Array Value) : ((List.range xs.size).filterMap fun (m : Nat) => xs[(((xs.size : Int) - 1) + (m : Int) * (-1)).toNat]?).toArray = xs.toList.reverse.toArray := by
  have e : (List.range xs.size).filterMap (fun (m : Nat) => xs[(((xs.size : Int) - 1) + (m : Int) * (-1)).toNat]?) = ((List.range xs.size).map fun k => xs.size - 1 - k).filterMap (xs[·]?) := by
    rw [List.filterMap_map]
    refine fm_congr fun m hm => ?_
    have := List.mem_range.mp hm
    show xs[_]? = xs[xs.size - 1 - m]?
    congr 1
    omega
  rw [e, PySem.W.krv_range, List.filterMap_reverse, PySem.W.krv_all]
theorem getItem_tuple_rev {t sl : Addr} {items : Array Value} {vs : Value} {Q : Value → Shared → Prop} (ht : IsTup s.heap t items) (hs : s.heap.IsSliceOf sl .none .none vs) (ps : IsPart vs (some (-1)))
    (h : Q (.ref s.heap.objs.size) { s with heap := s.heap.push { cls := .type "tuple", data := .seq items.toList.reverse.toArray } })
    (hsz : items.size ≤ sizeLine) : wpAny (model prog w) A (getItem (.ref t) (.ref sl)) Q E s := by
  have htake : sizeOk (.seq items.toList.reverse.toArray) := by
    show items.toList.reverse.toArray.size ≤ sizeLine
    rw [List.size_toArray, List.length_reverse, Array.length_toList]
    omega
  obtain ⟨os, hos, hcs, hds⟩ := id hs
  have hTs : s.TypeIs (.ref sl) "slice" := ⟨os, hos, hcs⟩
  unfold getItem
  try with_reducible refine wpAny_holding ?_
  first | refine wpAny_bind (wpAny_pure ?_) | skip
  refine wpAny_bind (wpAny_sequenceKey ht.typeIs (by decide) ?_)
  refine wpAny_bind (wpAny_callSpecial?_slot (name := Str.ofString "__getitem__") ht.typeIs PyProof.Rows.slot_tuple_getitem
    (wpAny_call_entry PyProof.Rows.slot_tuple_getitem ht.typeIs entry_tuple_getitem ?_ (args_tuple_getitem _ _)))
  show wpAny _ _ (Builtin.Tuple.tupleItemsOf (.ref t) >>= _) _ _ s
  refine wpAny_bind (tupleItemsOf_ ht ?_)
  refine wpAny_bind (wpAny_typeOf hTs ?_)
  rw [if_pos (by decide)]
  refine wpAny_bind (sliceApplied_rev hs ps ?_)
  have hno : ¬ ((((items.size : Int) - 1) == 0 && (-1 : Int) == 1 && items.size == items.size) = true) := by
    intro q
    rw [Bool.and_eq_true, Bool.and_eq_true] at q
    exact absurd q.1.2 (by decide)
  show wpAny _ _ (if ((((items.size : Int) - 1) == 0 && (-1 : Int) == 1 && items.size == items.size) = true) then _ else _) _ _ s
  rw [if_neg hno, pick_rev]
  first
    | exact wpAny_bind (m := Builtin.Tuple.tupleExact _) (wpAny_newObj_type (wpAny_pure ⟨_, rfl, wpAny_pure h⟩) htake)
    | exact wpAny_bind (m := Builtin.Tuple.tupleExact _) (wpAny_newObj_type (wpAny_bind (wpAny_pure (wpAny_pure ⟨_, rfl, wpAny_pure h⟩))) htake)
    | exact wpAny_bind (wpAny_bind (m := Builtin.Tuple.tupleExact _) (wpAny_newObj_type (wpAny_pure (wpAny_pure ⟨_, rfl, wpAny_pure h⟩)) htake))
    | exact wpAny_bind (wpAny_bind (m := Builtin.Tuple.tupleExact _) (wpAny_newObj_type (wpAny_pure ⟨_, rfl, wpAny_pure h⟩) htake))
end
end HT
namespace L2
open PySem PySem.Spec PyProof.Rows
theorem relVs_reverse {vs : List V} {us : List Value} (r : Vals vs us) : Vals vs.reverse us.reverse := by
  induction r with
  | nil => exact .nil
  | cons h _ ih => rw [List.reverse_cons, List.reverse_cons]; exact ih.append (.cons h .nil)
section
variable {X : Cx} {e stp : Expr} {te : TE} {ts : TO} {pos p2 : Pos}
def tRev (K : PySem.W.Frag) (te : TE) (ts : TO) : TE := fun σ H Q => te σ H fun x H1 => ts σ H1 fun o H2 => o = some (-1) ∧ ((∃ a xs, x = .ref a ∧ SqL K H2 a xs ∧ ∀ p, H2 p = none → Q (.ref p) (upd H2 p (.lst xs.reverse))) ∨
  ∃ a xs, x = .ref a ∧ SqT K H2 a xs ∧ ∀ p, H2 p = none → Q (.ref p) (upd H2 p (.tup xs.reverse)))
theorem pe_rev (he : PE X e te) (hs : PO X (some stp) ts) : PE X (.Subscript e (.Slice none none (some stp) p2) pos) (tRev X.K te ts) := by
  refine ⟨fun pins s σ H Q I h => ?_⟩
  refine Subscript_ (thn (he.run pins s σ H _ I h) fun v s1 ⟨x, H1, I1, r1, q1⟩ => ?_)
  refine wpAny_Slice ?_
  rw [evalPart_none]
  refine wpAny_pure (wpAny_pure (thn (hs.run pins s1 σ H1 _ I1 q1) fun vs s3 ⟨o, H3, I3, ps, eo, q3⟩ => ?_))
  subst eo
  have I4 : Inv X pins σ H3 { s3 with heap := s3.heap.push { cls := .type "slice", data := .fields #[.none, .none, vs] } } := I3.kept (t' := s3.toks) fun b ob q => Heap.get?_push_of_some _ q
  have hsl : ({ s3 with heap := s3.heap.push { cls := .type "slice", data := .fields #[.none, .none, vs] } } : Shared).heap.IsSliceOf s3.heap.objs.size .none .none vs := Heap.IsSliceOf.new ..
  show wpAny (model X.prog X.w) X.A (subscriptTail e (.Slice none none (some stp) p2) v (.ref s3.heap.objs.size)) (EP X pins σ Q) X.xe { s3 with heap := s3.heap.push { cls := .type "slice", data := .fields #[.none, .none, vs] } }
  rcases q3 with ⟨a, xs, rfl, hx, q⟩ | ⟨a, xs, rfl, hx, q⟩
  · cases r1
    obtain ⟨its, r, ht, hz⟩ := I4.list hx
    have hlen := r.length
    refine tail_any (ops := [.ref a, .ref s3.heap.objs.size]) ht.isList.typeIs slot_list_getitem.lookup ?_ (by with_unfolding_all rfl)
    refine wpAny_getItem_list_slice ht.isList hsl .none .none ps (by decide) ?_ (by rw [List.size_toArray] <;> omega)
    rw [PySem.W.krv_pick]
    refine ⟨.ref _, _, I4.laid (t' := s3.toks) (o := .lst xs.reverse) (fun b ob q => Heap.get?_push_of_some _ q) (Nat.le_refl _) ?_, rfl, q _ (I4.hok.fresh (Nat.le_refl _))⟩
    exact ⟨by rw [List.length_reverse]; exact hz, _, 0, relVs_reverse r, Heap.get?_push_size _ rfl⟩
  · cases r1
    obtain ⟨its, r, ht, hz⟩ := I4.tuple hx
    have hlen : its.toArray.size = xs.length := by rw [List.size_toArray]; exact r.length.symm
    refine tail_any (ops := [.ref a, .ref s3.heap.objs.size]) ht.typeIs PyProof.Rows.slot_tuple_getitem.lookup ?_ (by with_unfolding_all rfl)
    refine HT.getItem_tuple_rev ht hsl ps ?_ (by rw [hlen]; exact hz)
    refine ⟨.ref _, _, I4.laid (t' := s3.toks) (o := .tup xs.reverse) (fun b ob q => Heap.get?_push_of_some _ q) (Nat.le_refl _) ?_, rfl, q _ (I4.hok.fresh (Nat.le_refl _))⟩
    exact ⟨by rw [List.length_reverse]; exact hz, _, relVs_reverse r, IsTup.new _ _⟩
end
end L2

namespace Dk
open PySem PySem.Spec PyProof.Rows L2
theorem RpA.rev {g : G} {B : Hp} : ∀ {vs : List V} {ds : List D}, RpA g B vs ds → RpA g B vs.reverse ds.reverse
  | _, _, .nil => .nil
  | _, _, .cons r t => by
    rw [List.reverse_cons, List.reverse_cons]
    exact t.rev.app (.cons r .nil)
def fRev : D → (D → Prop) → Prop := fun d Q => match d with
  | .lst xs => Q (.lst xs.reverse)
  | .tup xs => Q (.tup xs.reverse)
  | _ => False
/-- a[::-1] -/
def wRev (w s : We) : We := fun ρ μ Q E => w ρ μ (fun d μ => pS s ρ μ (fun o μ => o = some (-1) ∧ fRev d (fun z => Q z μ)) E) E
section
variable {g : G} {X : Cx} {a stp : Expr} {wa ws wb : We} {pos p2 : Pos} {b : Expr}
theorem de_rev (ha : DE g X a wa) (hs : DE g X stp ws) : DE g X (.Subscript a (.Slice none none (some stp) p2) pos) (wRev wa ws) := ⟨fun gd W tk => PEw (pe_rev (ha.run gd W tk) ((do_s hs).run gd W tk)) fun σ H Q h => by
  obtain ⟨B, ρ, μ, Q0, E0, rel, hw, hq, hx⟩ := h
  refine tD.go rel hw hx fun d μ1 v B1 H1 k n r => ⟨B1, ρ, μ1, (fun o μ => o = some (-1) ∧ fRev d (fun z => Q0 z μ)), E0, rel.nm n, k, fun o μ2 k2 B2 H2 n2 => ?_, hx.nx n⟩
  · obtain ⟨rfl, k2⟩ := k2
    refine ⟨rfl, ?_⟩
    have r3 := r.up n2.up
    have bs := n2.bs
    have nn := n.trans n2
    rw [gd.k]
    cases r3 with
    | lst h1 a1 =>
      refine .inl ⟨_, _, rfl, SqL.of (bs.sub.at h1), fun p hp => ?_⟩
      obtain ⟨n4, r4⟩ := bs.lst a1.rev hp
      exact hq _ _ k2 _ _ _ (nn.np n4) r4
    | tup h1 a1 =>
      refine .inr ⟨_, _, rfl, bs.sub.sqt h1, fun p hp => ?_⟩
      obtain ⟨n4, r4⟩ := bs.tup a1.rev hp
      exact hq _ _ k2 _ _ _ (nn.np n4) r4
    | _ => exact k2.elim⟩
/-- x in an own instance -/
def fOwnIn (neg : Bool) (ms : List (Nat × Ct)) : F2x := fun d e μ Q E => match e with
  | .obj c xs => (match ms.lookup c with
    | some ct => ct [.obj c xs, d] μ (fun z μ => ∃ b, z = .bl b ∧ Q (.bl (if neg then !b else b)) μ) E
    | none => False)
  | _ => False
theorem ox_in {ms : List (Nat × Ct)} {k : Nat} (M : UnF X.prog X.w X.K X.mg X.base g "__contains__" k ms) (hr : Room k X.A) : OpX g X (compareOp .In) (fOwnIn false ms) :=
  ⟨fun W tk gd pins s σ H B x y v u d e μ Q0 E0 Q I rx ry bs m0 r1 r2 kk hq hx => by
    cases r2 with
    | obj h1 l1 a1 =>
      rename_i a dx c vs ds
      have kk : (match ms.lookup c with | some ct => ct [.obj c ds, d] μ (fun z μ => ∃ b, z = .bl b ∧ Q0 (.bl b) μ) E0 | none => False) := kk
      cases e1 : ms.lookup c with
      | none => rw [e1] at kk; exact kk.elim
      | some ct =>
        rw [e1] at kk
        obtain ⟨f, hs, hf, F⟩ := M.ok _ (mem_lookupN e1)
        cases (show u = Value.ref a from ry)
        obtain ⟨ox, od, J⟩ := inst_of I (bs.sub.at h1)
        obtain ⟨m, hF⟩ := I.fr
        refine PySem.W.in_K hF I.ok.mod.kin J hs hf ?_
        refine wpAny_mono (run_d (us := [.ref a, v]) (vs := [.ref a, x]) (Q := fun v H' => ∃ b, v = .bl b ∧ Q (.bl b) H') F hr gd tk I (.cons rfl (.cons rx .nil)) bs m0 (.cons (.obj h1 l1 a1) (.cons r1 .nil)) kk (fun z μ' h v B' H' n r => ?_) hx) (fun w s' z => ?_) fun _ _ x => x
        · obtain ⟨b, rfl, q⟩ := h
          cases r
          exact ⟨b, rfl, hq _ _ q _ B' H' n (.bl _)⟩
        · obtain ⟨z', H', I', rz, b, rfl, qz⟩ := z
          cases (show w = Value.bool b from rz)
          exact wpAny_pure ⟨.bl b, H', I', rfl, qz⟩
    | _ => exact kk.elim⟩
theorem ox_nin {ms : List (Nat × Ct)} {k : Nat} (M : UnF X.prog X.w X.K X.mg X.base g "__contains__" k ms) (hr : Room k X.A) : OpX g X (compareOp .NotIn) (fOwnIn true ms) :=
  ⟨fun W tk gd pins s σ H B x y v u d e μ Q0 E0 Q I rx ry bs m0 r1 r2 kk hq hx => by
    cases r2 with
    | obj h1 l1 a1 =>
      rename_i a dx c vs ds
      have kk : (match ms.lookup c with | some ct => ct [.obj c ds, d] μ (fun z μ => ∃ b, z = .bl b ∧ Q0 (.bl (!b)) μ) E0 | none => False) := kk
      cases e1 : ms.lookup c with
      | none => rw [e1] at kk; exact kk.elim
      | some ct =>
        rw [e1] at kk
        obtain ⟨f, hs, hf, F⟩ := M.ok _ (mem_lookupN e1)
        cases (show u = Value.ref a from ry)
        obtain ⟨ox, od, J⟩ := inst_of I (bs.sub.at h1)
        obtain ⟨m, hF⟩ := I.fr
        refine PySem.W.notIn_K hF I.ok.mod.kin J hs hf ?_
        refine wpAny_mono (run_d (us := [.ref a, v]) (vs := [.ref a, x]) (Q := fun v H' => ∃ b, v = .bl b ∧ Q (.bl (!b)) H') F hr gd tk I (.cons rfl (.cons rx .nil)) bs m0 (.cons (.obj h1 l1 a1) (.cons r1 .nil)) kk (fun z μ' h v B' H' n r => ?_) hx) (fun w s' z => ?_) fun _ _ x => x
        · obtain ⟨b, rfl, q⟩ := h
          cases r
          exact ⟨b, rfl, hq _ _ q _ B' H' n (.bl _)⟩
        · obtain ⟨z', H', I', rz, b, rfl, qz⟩ := z
          cases (show w = Value.bool b from rz)
          exact wpAny_pure ⟨.bl (!b), H', I', rfl, qz⟩
    | _ => exact kk.elim⟩
variable {k : Nat} {ms : List (Nat × Ct)}
theorem de_inO (M : UnF X.prog X.w X.K X.mg X.base g "__contains__" k ms) (hr : Room k X.A) (ha : DE g X a wa) (hb : DE g X b wb) (hm : behindInMarks .In b = false := by rfl) : DE g X (.Compare a [.In] [b] pos) (w2x (fOwnIn false ms) wa wb) := de_cmpX (ox_in M hr) ha hb hm
theorem dt_inO (M : UnF X.prog X.w X.K X.mg X.base g "__contains__" k ms) (hr : Room k X.A) (ha : DE g X a wa) (hb : DE g X b wb) (hm : behindInMarks .In b = false := by rfl) : DT g X (.Compare a [.In] [b] pos) (tB0 (w2x (fOwnIn false ms) wa wb)) := dt_cmpX (ox_in M hr) ha hb hm
theorem de_ninO (M : UnF X.prog X.w X.K X.mg X.base g "__contains__" k ms) (hr : Room k X.A) (ha : DE g X a wa) (hb : DE g X b wb) (hm : behindInMarks .NotIn b = false := by rfl) : DE g X (.Compare a [.NotIn] [b] pos) (w2x (fOwnIn true ms) wa wb) := de_cmpX (ox_nin M hr) ha hb hm
theorem dt_ninO (M : UnF X.prog X.w X.K X.mg X.base g "__contains__" k ms) (hr : Room k X.A) (ha : DE g X a wa) (hb : DE g X b wb) (hm : behindInMarks .NotIn b = false := by rfl) : DT g X (.Compare a [.NotIn] [b] pos) (tB0 (w2x (fOwnIn true ms) wa wb)) := dt_cmpX (ox_nin M hr) ha hb hm
end
end Dk
namespace Dk
open PySem PySem.Spec PyProof.Rows L2
/-! ### repr told of data -/
mutual
def D.sm : D → Bool
  | .non => true
  | .bl _ => true
  | .int i => decide (i.natAbs < 10 ^ 12)
  | .str x => PyData.strOk x && PyData.strOk (reprText x)
  | .lst xs => D.smA xs
  | .tup xs => D.smA xs
  | .dic [] [] => true
  | .dic [.inr x] [] => false
  | .dic [.inr x] xs => (PyData.strOk x && PyData.strOk (reprText x)) && (D.smA xs && decide (xs.length = 1))
  | _ => false
def D.smA : List D → Bool
  | [] => true
  | d :: ds => D.sm d && D.smA ds
end
mutual
def D.wt : D → Nat
  | .int _ => 41
  | .str x => x.cps.size
  | .lst xs => D.wtA xs
  | .tup xs => D.wtA xs
  | .dic [.inr x] xs => x.cps.size + 2 + D.wtA xs
  | _ => 0
def D.wtA : List D → Nat
  | [] => 0
  | d :: ds => D.wt d + 1 + D.wtA ds
end
mutual
def D.dpt : D → Nat
  | .lst xs => D.dptA xs + 1
  | .tup xs => D.dptA xs + 1
  | .dic _ xs => D.dptA xs + 1
  | _ => 0
def D.dptA : List D → Nat
  | [] => 0
  | d :: ds => max (D.dpt d) (D.dptA ds)
end
structure ShP (p : PyData) (dep wt : Nat) : Prop where
  dp : p.depth ≤ dep
  sh : p.showable = true
  ls : p.leavesShort 13 = true
  wt : p.weight ≤ wt
  ok : PyData.strOk p.shown = true
theorem sok_from : ∀ {ts : List Str} {k : Nat} {acc : Str}, PyData.strOk acc = true → (∀ t ∈ ts, PyData.strOk t = true) → PyData.strOk (textFrom k acc ts) = true
  | [], _, _, h, _ => h
  | t :: ts, k, acc, h, g => by
    unfold textFrom
    refine sok_from ?_ fun x hx => g x (List.mem_cons_of_mem _ hx)
    refine sok_app ?_ (g t (List.mem_cons_self ..))
    split <;> first | exact h | exact sok_app h (sok_of _)
theorem sok_lst {ts : List Str} (h : ∀ t ∈ ts, PyData.strOk t = true) : PyData.strOk (listText ts) = true := by
  unfold listText
  exact sok_app (sok_from (sok_of "[") h) (sok_of "]")
theorem leaf_str {x : Str} (h : PyData.strOk x = true) : (PyData.str x).leavesShort 13 = true := by
  simp only [PyData.leavesShort]
  unfold PyData.strOk at h
  rw [← Array.all_toList] at h
  rw [List.all_eq_true] at h ⊢
  intro c hc
  have := of_decide_eq_true (h c hc)
  exact decide_eq_true (Nat.lt_of_lt_of_le this (by decide))
mutual
theorem D.dat_sh : ∀ {d : D}, d.sm = true → ∃ p, d.datD = some p ∧ ShP p d.dpt d.wt
  | .non, _ => ⟨_, rfl, Nat.le_refl _, rfl, rfl, Nat.le_refl _, sok_of _⟩
  | .bl b, _ => ⟨_, rfl, Nat.le_refl _, rfl, rfl, Nat.le_refl _, by
    show PyData.strOk (if b = true then _ else _) = true
    split <;> exact sok_of _⟩
  | .int i, h => by
    obtain ⟨a, b, c⟩ := int12 (of_decide_eq_true h)
    refine ⟨_, rfl, Nat.le_refl _, a, ?_, c, sok_of _⟩
    simp only [PyData.leavesShort]
    exact decide_eq_true (PyData.shown_int_le (of_decide_eq_true h))
  | .str x, h => by
    obtain ⟨h1, h2⟩ := Bool.and_eq_true_iff.mp h
    exact ⟨_, rfl, Nat.le_refl _, rfl, leaf_str h1, Nat.le_refl _, h2⟩
  | .lst xs, h => by
    obtain ⟨ps, h1, b, c, d, e, f⟩ := D.datA_sh (ds := xs) h
    refine ⟨.list ps, by show (D.datDA xs).map _ = _; rw [h1]; rfl, by simp only [PyData.depth]; show _ ≤ D.dptA xs + 1; omega, by simp only [PyData.showable]; exact c, by simp only [PyData.leavesShort]; exact d, by simp only [PyData.weight]; exact e, ?_⟩
    simp only [PyData.shown]
    exact sok_lst f
  | .tup xs, h => by
    obtain ⟨ps, h1, b, c, d, e, f⟩ := D.datA_sh (ds := xs) h
    refine ⟨.tuple ps, by show (D.datDA xs).map _ = _; rw [h1]; rfl, by simp only [PyData.depth]; show _ ≤ D.dptA xs + 1; omega, by simp only [PyData.showable]; exact c, by simp only [PyData.leavesShort]; exact d, by simp only [PyData.weight]; exact e, ?_⟩
    simp only [PyData.shown]
    exact sok_tup f
  | .dic [] [], _ => ⟨_, rfl, by decide, rfl, rfl, Nat.le_refl _, by
    simp only [PyData.shown, PyData.shownKv]
    unfold dictText
    exact sok_app (sok_app (sok_of _) (sok_join (fun t ht => by cases ht))) (sok_of _)⟩
  | .dic [.inr x] (d :: ds), h => by
    obtain ⟨h0, h⟩ := Bool.and_eq_true_iff.mp (show ((PyData.strOk x && PyData.strOk (reprText x)) && (D.smA (d :: ds) && decide ((d :: ds).length = 1))) = true from h)
    obtain ⟨hx, hr⟩ := Bool.and_eq_true_iff.mp h0
    obtain ⟨h1, h2⟩ := Bool.and_eq_true_iff.mp h
    have h2 := of_decide_eq_true h2
    obtain ⟨ps, e1, b, c, dd, e, f⟩ := D.datA_sh (ds := d :: ds) h1
    have hl : ps.length = 1 := by
      cases ds with
      | cons _ _ => simp at h2
      | nil =>
        have e1 : (match d.datD, (some [] : Option (List PyData)) with | some p, some ps => some (p :: ps) | _, _ => none) = some ps := e1
        cases q : d.datD with
        | none => rw [q] at e1; cases e1
        | some p => rw [q] at e1; cases e1; rfl
    match ps, e1, b, c, dd, e, f, hl with
    | [p], e1, b, c, dd, e, f, _ =>
      refine ⟨.dict [(.str x, p)], by show (match D.datDA (d :: ds) with | some [p] => some (PyData.dict [(.str x, p)]) | _ => none) = _; rw [e1], ?_, ?_, ?_, ?_, ?_⟩
      · simp only [PyData.depth, PyData.depthKv, PyData.depthAll] at *
        show _ ≤ D.dptA (d :: ds) + 1
        omega
      · simp only [PyData.showable, PyData.showableKv, PyData.showableAll] at *
        simp [c]
        try simpa using c
      · simp only [PyData.leavesShort, PyData.leavesShortKv, PyData.leavesShortAll] at *
        have := leaf_str hx
        simp only [PyData.leavesShort] at this
        simp [this]
        try simpa using dd
      · simp only [PyData.weight, PyData.weightKv, PyData.weightAll] at *
        show _ ≤ x.cps.size + 2 + D.wtA (d :: ds)
        omega
      · simp only [PyData.shown, PyData.shownKv, PyData.shownAll] at *
        unfold dictText
        refine sok_app (sok_app (sok_of _) (sok_join fun t ht => ?_)) (sok_of _)
        simp only [List.mem_singleton] at ht
        subst ht
        exact sok_app (sok_app hr (sok_of _)) (f _ (by simp))
  | .dic [.inr x] [], h => by cases h
  | .dic [.inl _] [], h => by cases h
  | .dic [.inl _] (_ :: _), h => by cases h
  | .dic (.inl _ :: _ :: _) [], h => by cases h
  | .dic (.inr _ :: _ :: _) [], h => by cases h
  | .dic (.inl _ :: _ :: _) (_ :: _), h => by cases h
  | .dic (.inr _ :: _ :: _) (_ :: _), h => by cases h
  | .dic [] (_ :: _), h => by cases h
  | .obj _ _, h => by cases h
  | .exc _ _, h => by cases h
  | .scr _, h => by cases h
  | .cel _, h => by cases h
  | .fn _ _ _ _ _, h => by cases h
  | .lam _ _ _ _, h => by cases h
theorem D.datA_sh : ∀ {ds : List D}, D.smA ds = true → ∃ ps, D.datDA ds = some ps ∧ PyData.depthAll ps ≤ D.dptA ds ∧ PyData.showableAll ps = true ∧ PyData.leavesShortAll 13 ps = true ∧ PyData.weightAll ps ≤ D.wtA ds ∧ ∀ t ∈ PyData.shownAll ps, PyData.strOk t = true
  | [], _ => ⟨[], rfl, Nat.le_refl _, rfl, rfl, Nat.le_refl _, fun t ht => by simp [PyData.shownAll] at ht⟩
  | d :: ds, h2 => by
    obtain ⟨g, g'⟩ := Bool.and_eq_true_iff.mp h2
    obtain ⟨p, e1, P⟩ := D.dat_sh (d := d) g
    obtain ⟨ps, f1, f3, f4, f5, f6, f7⟩ := D.datA_sh (ds := ds) g'
    refine ⟨p :: ps, ?_, ?_, ?_, ?_, ?_, fun t ht => ?_⟩
    · show (match d.datD, D.datDA ds with | some p, some ps => some (p :: ps) | _, _ => none) = _
      rw [e1, f1]
    · simp only [PyData.depthAll]
      have := P.dp
      show max _ _ ≤ max (D.dpt d) (D.dptA ds)
      omega
    · simp only [PyData.showableAll, P.sh, f4, Bool.and_self]
    · simp only [PyData.leavesShortAll, P.ls, f5, Bool.and_self]
    · simp only [PyData.weightAll]
      have := P.wt
      show _ ≤ D.wt d + 1 + D.wtA ds
      omega
    · simp only [PyData.shownAll, List.mem_cons] at ht
      rcases ht with rfl | ht
      · exact P.ok
      · exact f7 t ht
end
def D.shw (d : D) : Str := match d.datD with
  | some p => p.shown
  | none => ""
structure D.okR (d : D) : Prop where
  s : d.sm = true
  w : d.wt ≤ 2 ^ 20
  d : d.dpt ≤ 60
theorem D.okR.shw {d : D} (h : d.okR) : ∃ p, d.datD = some p ∧ Shw p ∧ p.shown = d.shw ∧ PyData.strOk d.shw = true := by
  obtain ⟨p, e, P⟩ := D.dat_sh h.s
  refine ⟨p, e, ⟨P.sh, ?_, Nat.le_trans P.dp h.d⟩, ?_, ?_⟩
  · have := PyData.shown_le 13 (by decide) p P.ls
    have h1 := P.wt
    have h2 := h.w
    have h3 : (13 + 2) * p.weight ≤ 15 * 1048576 := Nat.mul_le_mul (by decide) (by omega)
    refine Nat.le_trans this (Nat.le_trans (by omega : _ ≤ 15728653) (by decide))
  · unfold D.shw; rw [e]
  · unfold D.shw; rw [e]; exact P.ok
theorem fRepr_of {d : D} (h : d.okR) {Q : D → Prop} (q : Q (.str d.shw)) : fRepr [d] Q := by
  obtain ⟨p, e, s, f, _⟩ := h.shw
  exact ⟨p, e, s, by rw [f]; exact q⟩
theorem rep_of {d : D} (h : d.okR) : ∃ q, d.datD = some q ∧ Shw q := by
  obtain ⟨p, e, s, f, _⟩ := h.shw
  exact ⟨p, e, s⟩
/-- != of the same shown -/
theorem fNe_shw {d : D} (h : d.okR) {Q : D → Prop} (q : Q (.bl false)) : fNe (.str d.shw) (.str d.shw) Q := by
  obtain ⟨p, e, s, f, g⟩ := h.shw
  rw [fNe_of (eqStr g)]
  exact q
theorem fEq_shw {d : D} (h : d.okR) {Q : D → Prop} (q : Q (.bl true)) : fEq (.str d.shw) (.str d.shw) Q := by
  obtain ⟨p, e, s, f, g⟩ := h.shw
  rw [fEq_of (eqStr g)]
  exact q
theorem okR_bl {b : Bool} : (D.bl b).okR := ⟨rfl, Nat.zero_le _, Nat.zero_le _⟩
theorem okR_non : D.non.okR := ⟨rfl, Nat.zero_le _, Nat.zero_le _⟩
theorem okR_int {i : Int} (h : i.natAbs < 10 ^ 12) : (D.int i).okR := ⟨decide_eq_true h, by show 41 ≤ _; decide, Nat.zero_le _⟩
/-! {} -/
theorem de_dic0 {g : G} {X : Cx} {pos : Pos} : DE g X (.Dict [] [] pos) (wC (.dic [] [])) := ⟨fun gd W tk => PEw pe_dnewK fun σ H Q h => by
  obtain ⟨B, ρ, μ, Q0, E0, rel, hw, hq, hx⟩ := h
  intro p hp
  have n2 := rel.bs.new hp (o := .dK []) (fun ps z => by cases z)
  exact hq _ _ hw _ _ _ (rel.mm.np n2) (.dic (ks := []) (vs := []) upd_same rfl .nil)⟩
end Dk
namespace Dk
open PySem PySem.Spec PyProof.Rows L2
section
variable {g : G} {X : Cx} {tg iter elt : Expr} {ifs : List Expr} {wi : Wi} {wg : Wg} {wt : Wt} {we : We} {is : List Nat} {t : TG} {scope : Scope} {pos : Pos} {own : List (Str × Nat)}
/-- x = [.. for ..], a list that is changed later -/
theorem ds_ownLc {i : Nat} {y : Str} {py : Pos} {spos : Pos} (hc : X.calm = true) (hN : X.N.Nodup) (hi : DI g X tg iter wi) (ok : BlkOk X.N X.env.scope scope own)
    (hg : ∀ (s : Shared) (H : Hp) (C : Addr) (cl : List (Str × Addr)) (fp : List Addr), DG g (X.blk s H scope (compEnvC scope cl C X.env) fp) tg wg is t)
    (ht : ∀ (s : Shared) (H : Hp) (C : Addr) (cl : List (Str × Addr)) (fp : List Addr), DTs g (X.blk s H scope (compEnvC scope cl C X.env) fp) ifs wt)
    (he : ∀ (s : Shared) (H : Hp) (C : Addr) (cl : List (Str × Addr)) (fp : List Addr), DE g (X.blk s H scope (compEnvC scope cl C X.env) fp) elt we)
    (hsw : swapsWith (.ListComp elt [⟨tg, iter, ifs, 0⟩] scope pos) (some (.Name y py)) spos.line X.env = pure true)
    (hy : X.N[i]? = some y := by rfl) (hyl : X.env.scope.names.lookup y = some .local := by rfl)
    (his : ∀ i ∈ is, i ∈ own.map (·.2) := by decide) (hs : ∀ x, foldedSetIterable iter X.env x = pure x := by intro _; rfl) : DS g X (.Assign [.Name y py] (.ListComp elt [⟨tg, iter, ifs, 0⟩] scope pos) spos) (sOwn i (wLc wi wg wt we (own.map (·.2)))) :=
  ⟨fun gs W tk => PSw (ps_setLc hc hN hy hyl hsw (hi.run gs.toGd W tk) ok (fun s H C cl fp => (hg s H C cl fp).pg (gs.toGd.blk _ _ _ _ _) hc) (fun s H C cl fp => (ht s H C cl fp).run (gs.toGd.blk _ _ _ _ _) _ takes0) (fun s H C cl fp => (he s H C cl fp).run (gs.toGd.blk _ _ _ _ _) _ takes0) hs)
    fun Dn σ H h => by
  obtain ⟨Φ, B, ρ, μ, D0, s, hw, l⟩ := h
  refine lc_read (W := W) his (hg X.s_0 X.H_0 0 [] []).ok ⟨B, ρ, μ, _, D0.ex ρ, s.rel, hw, fun ds μ' k a vs B' H' n f hb hh r => ?_, s.exk l⟩
  have hb0 : B a = none := by
    cases e : B a with
    | none => rfl
    | some o => rw [n.up _ _ e] at hb; cases hb
  exact l.nx _ _ _ B' H' k ((s.nxt n).own (u := .ow ds) rfl (f.back s.nx hb0) (s.apart f) ⟨a, vs, rfl, hh, hb, r⟩)⟩
end
end Dk
namespace Dk
open PySem PySem.Spec PyProof.Rows L2
/-! ### keywords -/
structure DK (g : G) (X : Cx) (kws : List Keyword) (w : Wa) : Prop where
  run : Gd g X → ∀ W, Takes X W → PK X kws (tDA g W w)
theorem PKw {X : Cx} {kws : List Keyword} {t t' : TA} (h : PK X kws t) (i : ∀ σ H Q, t' σ H Q → t σ H Q) : PK X kws t' := ⟨fun p pins s σ H Q I q => h.run p pins s σ H Q I (i σ H Q q)⟩
section
variable {g : G} {X : Cx} {e : Expr} {kws : List Keyword} {we : We} {w : Wa} {nm : Option Str} {kpos : Pos}
theorem dk_nil : DK g X [] aN := ⟨fun gd W tk => PKw pk_nil fun σ H Q h => by
  obtain ⟨B, ρ, μ, Q0, E0, rel, hw, hq, hx⟩ := h
  exact hq [] _ hw [] B H rel.mm .nil⟩
theorem dk_cons (ha : DE g X e we) (hr : DK g X kws w) : DK g X (⟨nm, e, kpos⟩ :: kws) (aC we w) := ⟨fun gd W tk => PKw (pk_cons (ha.run gd W tk) (hr.run gd W tk)) fun σ H Q h => by
  obtain ⟨B, ρ, μ, Q0, E0, rel, hw, hq, hx⟩ := h
  refine tD.go rel hw hx fun d _ v B1 H1 k1 n1 r1 => tDA.go (rel.nm n1) k1 (hx.nx n1) fun ds _ vs B2 H2 k2 n2 r2 => ?_
  exact hq _ _ k2 _ B2 H2 (n1.trans n2) (.cons (r1.up n2.up) r2)⟩
end
/-- C(k = e, ..): gD puts the values of the keywords among the defaults -/
def wMakeK (c : Nat) (ci : Ci) (n : Nat) (gD : List D → List D) (w : Wa) : We := fun ρ μ Q E => w ρ μ (fun ds μ => ds.length = n ∧ ci (gD ds) μ (fun xs μ => Q (.obj c xs) μ) E) E
structure MkKF (P : Program) (w : World) (K : PySem.W.Frag) (mg : Str → Option Value) (base : Heap) (g : G) (x : Str) (k : Nat) (c : Nat) (ci : Ci) (ks : List Str) (gD : List D → List D) : Prop where
  ex : ∃ f fd ps, ∃ (gs : List Value → List Value) (gv : List V → List V), Mk K (g.cls c) f ∧ DIn P w K mg base g k f fd ps c ci ∧
    (∀ (s : Shared) (us ws : List Value), K.In s.heap → us.length = 1 → ws.length = ks.length → BindsTo s fd ⟨us, ks.zip ws⟩ (ps.zip (us ++ gs ws))) ∧
    (∀ zs ws, Vals zs ws → ws.length = ks.length → Vals (gv zs) (gs ws)) ∧ ∀ B zs ds, RpA g B zs ds → ds.length = ks.length → RpA g B (gv zs) (gD ds)
  mg : mg x = some (.ref (g.cls c))
section
variable {g : G} {X : Cx} {pins : List (Addr × Obj)} {σ : L2.St} {H B : Hp} {s : Shared} {Q : VK} {ws : List Value} {zs : List V} {ds : List D} {k c : Nat} {ci : Ci} {W : WX} {μ : Mu} {Q0 : D → Mu → Prop} {E0 : Ek} {x : Str} {ks : List Str} {gD : List D → List D}
theorem run_mkK (M : MkKF X.prog X.w X.K X.mg X.base g x k c ci ks gD) (hr : Room (k + 1) X.A) (gd : Gd g X) (tk : Takes X W) (I : Inv X pins σ H s) (r : Vals zs ws) (b : Bs g B H) (m0 : MuR g B H μ) (ra : RpA g B zs ds) (hl0 : ds.length = ks.length) (hc : ci (gD ds) μ (fun xs μ => Q0 (.obj c xs) μ) E0)
    (hq : ∀ d μ', Q0 d μ' → ∀ v B' H', Nm g B H B' H' μ' → Rp g B' v d → Q v H') (hx : exk g W B H σ E0) : wpAny (model X.prog X.w) X.A (call (.ref (g.cls c)) [] (ks.zip ws)) (EP X pins σ Q) X.xe s := by
  obtain ⟨f, fd, ps, gs, gv, M1, F, hb, hv, hbd⟩ := M.ex
  have na := I.hok.fresh (Nat.le_succ s.heap.objs.size)
  have nd := I.hok.fresh (Nat.le_refl s.heap.objs.size)
  have ne : s.heap.objs.size ≠ s.heap.objs.size + 1 := Nat.ne_of_lt (Nat.lt_succ_self _)
  have I2 := Inv.made (C := g.cls c) I
  have hwl : ws.length = ks.length := by rw [← r.length, ra.len]; exact hl0
  have r2 : Vals (V.ref (s.heap.objs.size + 1) :: gv zs) (Value.ref (s.heap.objs.size + 1) :: gs ws) := .cons rfl (hv _ _ r hwl)
  have ra2 : RpA g B (gv zs) (gD ds) := hbd _ _ _ ra hl0
  refine wpAny_call (make_map (f := f) I.kIn M1.makes M1.init (beq_iff_eq.mp M1.fn) (codeAny_mono (F.run _ X.stack _ H B (s.heap.objs.size + 1) s.heap.objs.size ⟨[Value.ref (s.heap.objs.size + 1)], ks.zip ws⟩ (Value.ref (s.heap.objs.size + 1) :: gs ws) (gv zs) (gD ds) μ _ E0
    (fun v H2 => v = .non ∧ Q (.ref (s.heap.objs.size + 1)) H2) (WE W σ) (hr.make (g.cls c) [] (ks.zip ws)) (by rw [make_guards]; exact gd.gd) (I2.env0.make (g.cls c) [] (ks.zip ws)) (hb _ [Value.ref (s.heap.objs.size + 1)] ws I2.kIn rfl hwl) r2 na nd ne b m0 ra2 hc
    (fun xs _ q vs' B' H' dx' n hb' hh' hl' r' => ⟨rfl, ?_⟩) fun c d _ h cls dd B' H' n x => hx c d _ h cls dd B' H' n x) fun r s' hq' => ?_))
  · have n2 := n.learn (Fre.none na) hb' hh' (fun _ z => by cases z)
    exact hq _ _ q _ _ _ n2 (.obj (vs := vs') upd_same hl' (r'.up (upd_up hb')))
  · cases r with
    | error e => exact passAt tk σ pins _ _ e s' I2 hq'
    | ok fl =>
      cases fl with
      | ret u =>
        obtain ⟨v, H', I3, rv, ev, q3⟩ := I2.after hq'
        subst ev
        exact ⟨rv, ⟨V.ref (s.heap.objs.size + 1), H', I3, rfl, q3⟩⟩
      | next => exact False.elim hq'
      | brk => exact False.elim hq'
      | cont => exact False.elim hq'
variable {p pos : Pos} {kws : List Keyword} {w : Wa}
theorem de_makeK (M : MkKF X.prog X.w X.K X.mg X.base g x k c ci ks gD) (hr : Room (k + 1) X.A) (ha : DK g X kws w) (hg : Gl X x := by rfl)
    (hall : (backToKw pos (keywordEach kws X.env)).all (·.1.isSome) = true := by rfl) (hks : (backToKw pos (keywordEach kws X.env)).filterMap (·.1) = ks := by rfl) (hdb : (x == ("__debug__" : Str)) = false := by decide)
    (hpl : ((backTo pos (starEach [] X.env)).any (·.1) || (backToKw pos (keywordEach kws X.env)).any (·.1.isNone)) = false := by rfl) :
    DE g X (.Call (.Name x p) [] kws pos) (wMakeK c ci ks.length gD w) := ⟨fun gd W tk => ⟨fun pins s σ H Q I h => by
  obtain ⟨B, ρ, μ, Q0, E0, rel, hw, hq, hx⟩ := h
  obtain ⟨f, fd, ps, gs, gv, M1, _⟩ := M.ex
  refine wpAny_Call_Name_kw (ld_glob I hg M.mg ?_ hdb)
  refine PySem.W.callWith_KW0 (h₀ := X.base) I.ok.mod.kin M1.kp hall ?_ hpl
  refine thn ((ha.run gd W tk).run pos pins s σ H (fun vs H1 => ∃ ds B1 μ1, Nm g B H B1 H1 μ1 ∧ RpA g B1 vs ds ∧ ds.length = ks.length ∧ ci (gD ds) μ1 (fun xs μ => Q0 (.obj c xs) μ) E0) I (tDA.go rel hw hx fun ds μ1 vs B1 H1 k n r => ⟨ds, B1, μ1, n, r, k.1, k.2⟩)) fun us s1 ⟨vs, H1, I1, r, ds, B1, μ1, n, ra, hl, hc⟩ => ⟨I1.kIn, ?_⟩
  rw [hks]
  exact run_mkK M hr gd tk I1 r n.bs n.mu ra hl hc (fun d _ h v B' H' n' r' => hq d _ h v B' H' (n.trans n') r') (hx.nx n)⟩⟩
end
/-! ### an instance is called -/
structure CoF (P : Program) (w : World) (K : PySem.W.Frag) (mg : Str → Option Value) (base : Heap) (g : G) (k : Nat) (ms : List (Nat × Ct)) : Prop where
  ok : ∀ p ∈ ms, ∃ f, StX.CallO K (g.cls p.1) f ∧ DFn P w K mg base g k f p.2
theorem FnF.fi {K : PySem.W.Frag} {x qual : Str} {st : Stmt} {ps : List Str} {f : Addr} {cdv : Value} (F : FnF K x qual st ps f cdv) : PySem.W.fnIn K f = true := by
  obtain ⟨oc, od, kV, doc, pm, an, ct, osl, lk, _⟩ := F.ex
  unfold PySem.W.fnIn
  rw [lk]
section
variable {g : G} {X : Cx} {k : Nat} {ms : List (Nat × Ct)} {fe e : Expr} {es : List Expr} {wo : We} {w : Wa} {pos : Pos}
theorem de_callO (F : CoF X.prog X.w X.K X.mg X.base g k ms) (hr : Room k X.A) (hf : DE g X fe wo) (ha : DA g X (e :: es) w)
    (ht : eval (.Call fe (e :: es) [] pos) X.env = (do callWith pos (← eval fe X.env) [] (backTo pos (starEach (e :: es) X.env)) (backToKw pos (keywordEach [] X.env))) := by rfl)
    (he : starEach (e :: es) X.env = (false, eval e X.env) :: starEach es X.env := by rfl) (hpl : (backTo pos (starEach es X.env)).any (·.1) = false := by rfl) : DE g X (.Call fe (e :: es) [] pos) (wMeth ms wo w) := ⟨fun gd W tk => ⟨fun pins s σ H Q I h => by
  obtain ⟨B, ρ, μ, Q0, E0, rel, hw, hq, hx⟩ := h
  refine Call_ (thn ((hf.run gd W tk).run pins s σ H (fun v H1 => ∃ a dx c vs ds B1 μ1 ct, v = .ref a ∧ Nm g B H B1 H1 μ1 ∧ B1 a = some (.ins (g.cls c) dx ((g.flds c).zip vs)) ∧ Rp g B1 (.ref a) (.obj c ds) ∧ ms.lookup c = some ct ∧ w ρ μ1 (fun es μ => ct (.obj c ds :: es) μ Q0 E0) E0) I
    (tD.go rel hw hx fun d μ1 v B1 H1 k n r => by
      cases r with
      | obj h1 h2 h3 =>
        rename_i a dx cc vs ds
        have k : (match ms.lookup cc with | some ct => w ρ μ1 (fun es μ => ct (.obj cc ds :: es) μ Q0 E0) E0 | none => False) := k
        cases e1 : ms.lookup cc with
        | none => rw [e1] at k; exact k.elim
        | some ct =>
          rw [e1] at k
          exact ⟨a, dx, cc, vs, ds, B1, μ1, ct, rfl, n, h1, .obj h1 h2 h3, e1, k⟩
      | _ => exact k.elim)) fun u s1 ⟨v, H1, I1, rv, a, dx, c, vs, ds, B1, μ1, ct, ev, n, ha1, ro, e1, k1⟩ => ?_) ht
  subst ev
  obtain rfl : u = Value.ref a := rv
  obtain ⟨f, co, F1⟩ := F.ok _ (mem_lookupN e1)
  refine StX.callO_with (thn ((ha.run gd W tk).run pos pins s1 σ H1 (fun vs H2 => ∃ es B2 μ2, Nm g B1 H1 B2 H2 μ2 ∧ RpA g B2 vs es ∧ ct (.obj c ds :: es) μ2 Q0 E0) I1 (tDA.go (rel.nm n) k1 (hx.nx n) fun es μ2 vs B2 H2 k n r => ⟨es, B2, μ2, n, r, k⟩)) fun us s2 ⟨vs2, H2, I2, r, es', B2, μ2, n2, ra, hc⟩ => ?_) he hpl
  have hins : H2 a = some (.ins (g.cls c) dx ((g.flds c).zip vs)) := n2.sub.at (n2.up _ _ ha1)
  obtain ⟨ox, od, J, hd⟩ := StX.insC_at I2 (.inr ⟨_, _, hins⟩)
  refine ⟨⟨_, ox, od, J, hd⟩, ?_⟩
  refine wpAny_call (PySem.W.kco_code I2.kIn J hd co.at_ co.fn co.fi ?_)
  refine codeAny_mono (F1.run X.A X.stack s2 H2 B2 (.ref a :: us) (.ref a :: vs2) (.obj c ds :: es') μ2 Q0 E0 Q (WE W σ) hr gd.gd I2.env0 (.cons rfl r) n2.bs n2.mu (.cons (ro.up n2.up) ra) hc (fun d _ h v B' H' n' r' => hq d _ h v B' H' ((n.trans n2).trans n') r') fun c d μ' h cls dd B' H' n' x => (hx.nx (n.trans n2)) c d μ' h cls dd B' H' n' x) fun r s' hq' => ?_
  cases r with
  | error e => exact passAt tk σ pins H2 s2 e s' I2 hq'
  | ok fl =>
    cases fl with
    | ret u => exact I2.after hq'
    | next => exact False.elim hq'
    | brk => exact False.elim hq'
    | cont => exact False.elim hq'⟩⟩
end
end Dk
namespace Dk
open PySem PySem.Spec PyProof.Rows L2
/-! ### an error made, not raised -/
section
variable {X : Cx} {e : Expr} {te : TE} {x : Str} {p pos : Pos} {D C f : Addr} {k : Nat}
theorem pe_mkExc (R : RingI X.prog X.K X.mg D f) (T : XC X.K D C f) (hr : Room (k + 2) X.A) (hgd : X.A.guards = some []) (hg : Gl X x) (hm : X.mg x = some (.ref C)) (he1 : PE X e te) (hex : X.ex = [])
    (hdb : (x == ("__debug__" : Str)) = false := by decide) (he : starEach [e] X.env = (false, eval e X.env) :: starEach [] X.env := by rfl) (hpl : (backTo pos (starEach [] X.env)).any (·.1) = false := by rfl) :
    PE X (.Call (.Name x p) [e] [] pos) (fun σ H Q => te σ H fun v H1 => ∃ q, Dq H1 X.K v q ∧ Shw q ∧ ∀ dx a, H1 dx = none → H1 a = none → dx ≠ a → Q (.ref a) (upd (upd H1 dx (.xd [("value", v)])) a (excv a C (some dx)))) := by
  refine ⟨fun pins s σ H Q I h => ?_⟩
  obtain ⟨nm, q, N, bs, bm, sn, sub, ab, col, dd, k0, k1, k2, k3, k5, hC, hbm⟩ := T.o.cls
  refine wpAny_Call_Name_kw (ld_glob I hg hm ?_ hdb)
  have ha : PA X [e] (tCons te tNil) := pa_cons he1 pa_nil he
  refine PySem.W.callWith_K (h₀ := X.base) I.ok.mod.kin T.o.kC (thn (ha.run pos pins s σ H (one1 fun v H1 => ∃ q, Dq H1 X.K v q ∧ Shw q ∧ ∀ dx a, H1 dx = none → H1 a = none → dx ≠ a → Q (.ref a) (upd (upd H1 dx (.xd [("value", v)])) a (excv a C (some dx)))) I h) fun us s1 ⟨vs, H1, I1, r1, hz⟩ => ⟨I1.kIn, ?_⟩) he hpl
  match vs, r1, hz with
  | [v], .cons (b := uv) r1 .nil, hz =>
  obtain ⟨q1, dp, sh, hq⟩ := hz
  show wpAny _ _ (call (.ref C) [uv]) _ _ _
  obtain ⟨hp, g, dr, tk, os⟩ := s1
  have hsz : hp.objs.size ≤ hp.objs.size + 1 := Nat.le_succ _
  have hn : H1 (hp.objs.size + 1) = none := I1.hok.fresh hsz
  have kk : ∀ b o, hp.get? b = some o → ((hp.push (PySem.W.kdv_tup [uv])).push (PySem.HandSPX.excO C hp.objs.size)).get? b = some o := fun b o e => Heap.get?_push_of_some _ (Heap.get?_push_of_some _ e)
  have hget : ((hp.push (PySem.W.kdv_tup [uv])).push (PySem.HandSPX.excO C hp.objs.size)).get? (hp.objs.size + 1) = some (PySem.HandSPX.excO C hp.objs.size) := by heap_get
  have I2 : Inv X pins σ (upd H1 (hp.objs.size + 1) (exo (hp.objs.size + 1) C none)) ⟨(hp.push (PySem.W.kdv_tup [uv])).push (PySem.HandSPX.excO C hp.objs.size), g, dr, tk, os⟩ :=
    I1.laid (t' := tk) (a := hp.objs.size + 1) (o := exo (hp.objs.size + 1) C none) (h' := (hp.push (PySem.W.kdv_tup [uv])).push (PySem.HandSPX.excO C hp.objs.size)) kk hsz (exo_ok hget)
  have hus : ([uv] : List Value).length ≤ sizeLine := by rw [sizeLine_eq]; show (1 : Nat) ≤ _; decide
  have dp2 : Dq (upd H1 (hp.objs.size + 1) (exo (hp.objs.size + 1) C none)) X.K v q1 := Dq.upU (fun b o z => by rw [upd_ne (ne_of_none z hn)]; exact z) dp
  refine wpAny_call (PySem.HandSPX.call_own F.excBase_ValueError (fun Y => PySem.HandSPX.refsVE_contains Y bm hbm) (I1.kIn _ _ hC) (PySem.W.looks_findIn I1.kIn T.iC) (fun self => PySem.W.bind_fn I1.kIn self T.tI) hus
    (codeAny_mono (ring_run (CX := L2.CX X.prog X.w) (Q := fun v' H2 => v' = .non ∧ ∃ dx, H1 dx = none ∧ dx ≠ hp.objs.size + 1 ∧ H2 = upd (upd (upd H1 (hp.objs.size + 1) (exo (hp.objs.size + 1) C none)) dx (exd dx [("value", v)])) (hp.objs.size + 1) (exo (hp.objs.size + 1) C (some dx))) (E := fun _ _ _ => False)
      R T (hr.make C [uv] []) (by rw [make_guards]; exact hgd) (I2.env0.make C [uv] []) r1 upd_same dp2 sh fun dx n ne => ⟨rfl, dx, by rw [upd_ne ne] at n; exact n, ne, rfl⟩) fun r s' hq' => ?_))
  cases r with
  | error er =>
    obtain ⟨_, _, _, _, _, _, _, _, _, _, _, _, z⟩ := (show L2.CX X.prog X.w X.stack _ _ (fun _ _ _ => False) er s' from hq')
    exact z.elim
  | ok fl =>
    cases fl with
    | ret u =>
      obtain ⟨v', H2, os2, bare2, un2, hok2, rv, ev, dx, hd1, hne, rfl⟩ := hq'
      subst ev
      obtain ⟨h2, g2, d2, t2, os'⟩ := s'
      have ea : (upd (upd (upd H1 (hp.objs.size + 1) (exo (hp.objs.size + 1) C none)) dx (exd dx [("value", v)])) (hp.objs.size + 1) (exo (hp.objs.size + 1) C (some dx))) (hp.objs.size + 1) = some (exo (hp.objs.size + 1) C (some dx)) := upd_same
      have ed : (upd (upd (upd H1 (hp.objs.size + 1) (exo (hp.objs.size + 1) C none)) dx (exd dx [("value", v)])) (hp.objs.size + 1) (exo (hp.objs.size + 1) C (some dx))) dx = some (exd dx [("value", v)]) := by rw [upd_ne hne, upd_same]
      have fin : upd (del (upd (upd (upd H1 (hp.objs.size + 1) (exo (hp.objs.size + 1) C none)) dx (exd dx [("value", v)])) (hp.objs.size + 1) (exo (hp.objs.size + 1) C (some dx))) (hp.objs.size + 1)) dx (.xd [("value", v)]) = upd H1 dx (.xd [("value", v)]) := by
        funext b
        by_cases hb : b = dx
        · rw [hb, upd_same, upd_same]
        · rw [upd_ne hb, upd_ne hb]
          by_cases hb2 : b = hp.objs.size + 1
          · rw [hb2, del_same, hn]
          · rw [del_ne hb2, upd_ne hb2, upd_ne hb, upd_ne hb2]
      obtain ⟨t0, G, J, kG, ge, hoe, na⟩ := mk_end0 (d2 := d2) (t2 := t2) I1 hsz kk un2 hok2 os2 bare2 ea ed hd1
      rw [fin] at J na
      have J2 : Inv X pins σ (upd H1 dx (.xd [("value", v)])) ⟨h2, g2, d2, t2, os'⟩ := J.kept (h' := h2) (t' := t2) kG
      have n0 : X.s_0.heap.get? (hp.objs.size + 1) = none := by
        cases z : X.s_0.heap.get? (hp.objs.size + 1) with
        | none => rfl
        | some o =>
          obtain ⟨o', e'⟩ := J.base.there _ o z (by rw [hex]; simp)
          rw [ge] at e'; cases e'
      have nL : hp.objs.size + 1 ≠ X.env.locals := fun z => by
        obtain ⟨m, ⟨o, es', ep, ho, hd, _⟩, _⟩ := J.loc
        rw [← z] at ho
        rw [ge] at ho
        cases ho
      have npin : ∀ p ∈ X.pn ++ pins, p.1 ≠ hp.objs.size + 1 := fun p hp' z => by
        have e := (J.pin p hp').1
        rw [z] at e
        rw [ge] at e
        cases e
      have J3 := track (o := excv (hp.objs.size + 1) C (some dx)) J2 n0 na nL hoe rfl npin (excw_ok hoe ⟨rfl, rfl⟩ rfl)
      exact ⟨rv, .ref (hp.objs.size + 1), _, J3, rfl, hq dx (hp.objs.size + 1) hd1 hn hne⟩
    | next => exact False.elim hq'
    | brk => exact False.elim hq'
    | cont => exact False.elim hq'
end
/-- C(e), C an error -/
def wMkX (c : Nat) (w : We) : We := fun ρ μ Q E => w ρ μ (fun d μ => (∃ q, d.datD = some q ∧ Shw q) ∧ Q (.exc c d) μ) E
theorem de_mkX {g : G} {X : Cx} {e : Expr} {w : We} {x : Str} {c k : Nat} {p pos : Pos} (hx : XkF X.prog X.K X.mg g x c) (hr : Room (k + 2) X.A) (he : DE g X e w) (hex : X.ex = [] := by rfl) (hg : Gl X x := by rfl) (hdb : (x == ("__debug__" : Str)) = false := by decide)
    (he1 : starEach [e] X.env = (false, eval e X.env) :: starEach [] X.env := by rfl) (hpl : (backTo pos (starEach [] X.env)).any (·.1) = false := by rfl) : DE g X (.Call (.Name x p) [e] [] pos) (wMkX c w) := ⟨fun gd W tk => by
  obtain ⟨D, f, R, T⟩ := hx.ex
  refine PEw (pe_mkExc R T hr gd.gd hg hx.mg (he.run gd W tk) hex hdb he1 hpl) fun σ H Q h => ?_
  obtain ⟨B, ρ, μ, Q0, E0, rel, hw, hq, hx'⟩ := h
  refine tD.go rel hw hx' fun d μ1 v B' H' k n r => ?_
  obtain ⟨⟨q, e1, sh⟩, k⟩ := k
  refine ⟨q, ?_, sh, fun dx a hdx ha ne => ?_⟩
  · rw [gd.k]
    exact Dq.upB n.sub (r.dq e1)
  · have n2 := n.bs.new hdx (no_xd (fs := [("value", v)]))
    have n3 := n2.bs.new (p := a) (o := excv a (g.cls c) (some dx)) (by rw [upd_ne (Ne.symm ne)]; exact ha) (no_ext (φ := fun h => ∃ (o : Obj) (vs : Array Value), h.get? a = some o ∧ o.cls = .ref (g.cls c) ∧ o.dict = some dx ∧ o.data = .fields vs))
    exact hq _ _ k _ _ _ ((n.np n2).np n3) (.exc (dx := dx) upd_same (n3.up _ _ upd_same) ((r.up n2.up).up n3.up))⟩
/-! ### {k: e, ..} -/
structure DPs (g : G) (X : Cx) (pos : Pos) (keys : List (Option Expr)) (values : List Expr) (ks : List Key) (w : Wa) : Prop where
  ex : Gd g X → ∀ W, Takes X W → ∃ trs, PPs X pos keys values trs ∧ ∀ σ H (Q : List (V × V) → Hp → Prop), tDA g W w σ H (fun vs H' => Q ((ks.map kV).zip vs) H') → tPairs trs σ H Q
section
variable {g : G} {X : Cx} {pos : Pos} {k v : Expr} {keys : List (Option Expr)} {values : List Expr} {key : Key} {ks : List Key} {w : Wa} {wv : We}
theorem dps_nil : DPs g X pos [] [] [] aN := ⟨fun gd W tk => ⟨[], pps_nil, fun σ H Q h => by
  obtain ⟨B, ρ, μ, Q0, E0, rel, hw, hq, hx⟩ := h
  exact hq [] _ hw [] B H rel.mm .nil⟩⟩
theorem dps_cons (hk : PE X k (tC (kV key))) (hv : DE g X v wv) (hr : DPs g X pos keys values ks w) : DPs g X pos (some k :: keys) (v :: values) (key :: ks) (aC wv w) := ⟨fun gd W tk => by
  obtain ⟨trs, P, hP⟩ := hr.ex gd W tk
  refine ⟨_, pps_cons hk (hv.run gd W tk) P, fun σ H Q h => ?_⟩
  obtain ⟨B, ρ, μ, Q0, E0, rel, hw, hq, hx⟩ := h
  refine tD.go rel hw hx fun d μ1 y B1 H1 k1 n1 r1 => hP _ _ _ ?_
  refine tDA.go (rel.nm n1) k1 (hx.nx n1) fun ds μ2 vs B2 H2 k2 n2 r2 => ?_
  exact hq _ _ k2 (y :: vs) B2 H2 (n1.trans n2) (.cons (r1.up n2.up) r2)⟩
/-- an object that nobody else holds is written -/
theorem Nm.chg {B H B2 H2 : Hp} {μ : Mu} (n : Nm g B H B2 H2 μ) {p : Addr} {o o' : HO} (hp : H p = none) (hb : B2 p = none) (h2 : H2 p = some o) (t1 : ∀ ps, o ≠ .tbl ps) (t2 : ∀ c q, o ≠ LamX.CodeO c q) : Nm g B H B2 (upd H2 p o') μ where
  keep := fun a u h t c => by rw [upd_ne (ne_of_none h hp)]; exact n.keep a u h t c
  up := n.up
  sub := ⟨fun a u e q => by rw [upd_ne (ne_of_none e hb)]; exact n.sub.co a u e q, fun a k e => by
    obtain ⟨u, e1, e2⟩ := n.sub.mkd a k e
    exact ⟨u, by rw [upd_ne (ne_of_none e hb)]; exact e1, e2⟩⟩
  notb := n.notb
  old := n.old
  nc := n.nc
  tabs := tabs_write n.tabs h2 t1 t2
  mu := ⟨fun a k e => by
    obtain ⟨m, e1, r⟩ := n.mu.at_ a k e
    exact ⟨m, e1, r.nx (n := k) (fun u h _ => by rw [upd_ne (ne_of_none e hb)]; exact h) (Up.refl _)⟩, n.mu.uniq⟩
def distK : List Key → Prop
  | [] => True
  | k :: ks => (∀ j, j ∈ ks → j ≠ k) ∧ distK ks
theorem merge_dist : ∀ {kvs acc : List (Key × V)}, (∀ k ∈ acc.map (·.1), k ∉ kvs.map (·.1)) → distK (kvs.map (·.1)) → mergeK acc kvs = acc ++ kvs
  | [], acc, _, _ => by
    show acc = _
    rw [List.append_nil]
  | kv :: r, acc, h, hd => by
    have hd : (∀ j, j ∈ r.map (·.1) → j ≠ kv.1) ∧ distK (r.map (·.1)) := hd
    have hnot : kv.1 ∉ acc.map (·.1) := fun z => h _ z (List.mem_cons_self ..)
    have e : putK acc kv.1 kv.2 = acc ++ [kv] := by
      clear h
      induction acc with
      | nil => first | rfl | simp [putK]
      | cons a acc ih =>
        have ne : ¬ a.1 = kv.1 := fun z => hnot (by rw [List.map_cons, z]; exact List.mem_cons_self ..)
        have := ih fun z => hnot (List.mem_cons_of_mem _ z)
        first
          | (simp only [putK] at this ⊢; simp_all)
          | simp_all [putK]
    show mergeK (putK acc kv.1 kv.2) r = _
    rw [e, merge_dist (fun k hk => ?_) hd.2, List.append_assoc]
    · rfl
    · rw [List.map_append] at hk
      rcases List.mem_append.mp hk with z | z
      · exact fun q => h k z (List.mem_cons_of_mem _ q)
      · have ek : k = kv.1 := by simpa using z
        rw [ek]
        exact fun q => hd.1 _ q rfl
theorem zip_kV : ∀ (ks : List Key) (vs : List V), (ks.map kV).zip vs = (ks.zip vs).map fun kv => (kV kv.1, kv.2)
  | [], _ => rfl
  | _ :: _, [] => rfl
  | a :: ks, b :: vs => by
    rw [List.map_cons, List.zip_cons_cons, List.zip_cons_cons, List.map_cons, zip_kV ks vs]
def wDic (ks : List Key) (w : Wa) : We := fun ρ μ Q E => w ρ μ (fun ds μ => ds.length = ks.length ∧ Q (.dic ks ds) μ) E
theorem de_dic (h : DPs g X pos keys values ks w) (hd : distK ks := by exact ⟨fun _ z => (by cases z), trivial⟩) (hall : keys.all (·.isSome) = true := by rfl) (hl : keys.length = values.length := by rfl) (h0 : keys ≠ [] := by simp) (h15 : keys.length ≤ 15 := by decide) (h16 : ks.length ≤ 15 := by decide) : DE g X (.Dict keys values pos) (wDic ks w) := ⟨fun gd W tk => by
  obtain ⟨trs, P, hP⟩ := h.ex gd W tk
  refine PEw (pe_disp P hall hl h0 h15) fun σ H Q h => ?_
  obtain ⟨B, ρ, μ, Q0, E0, rel, hw, hq, hx⟩ := h
  intro p hp
  have n0 : Np g B H B (upd H p (.dK [])) := Np.own rel.bs.sub rel.bs.notb rel.bs.tabs hp (.dK [])
  have hB : B p = none := rel.bs.sub.none hp
  refine hP _ _ _ ?_
  have m0 : Nm g B H B (upd H p (.dK [])) μ := ⟨n0.nx, rel.mu.np n0⟩
  refine tDA.go (rel.np n0) hw (hx.nx m0) fun ds μ2 vs B2 H2 k2 n2 r2 => ?_
  have e2 : H2 p = some (.dK []) := n2.keep p _ upd_same (fun _ z => by cases z) (fun c z => by rw [hB] at z; cases z)
  have b2 : B2 p = none := n2.old p _ upd_same own_dK hB
  have hlen : vs.length = ks.length := by rw [r2.len]; exact k2.1
  refine ⟨e2, ks.zip vs, ?_, ?_, ?_⟩
  · exact zip_kV ks vs
  · rw [List.length_zip]
    omega
  · have em : (ks.zip vs).map (·.1) = ks := by rw [List.map_fst_zip]; omega
    have e3 : mergeK [] (ks.zip vs) = ks.zip vs := by
      have := merge_dist (kvs := ks.zip vs) (acc := []) (fun k hk => by cases hk) (by rw [em]; exact hd)
      rw [this, List.nil_append]
    rw [e3]
    have n3 : Nm g B H B2 (upd H2 p (.dK (ks.zip vs))) μ2 := (m0.trans n2).chg hp b2 e2 (fun _ z => by cases z) (fun c q z => by unfold LamX.CodeO at z; cases z)
    have n4 := n3.learn (Fre.none hp) b2 upd_same (fun _ z => by cases z)
    exact hq _ _ k2.2 _ _ _ n4 (.dic upd_same hlen (r2.up (upd_up b2)))⟩
end
end Dk
namespace Dk
open PySem PySem.Spec PyProof.Rows L2
/-! ### lambdas that are kept -/
section
variable {X : Cx} {pins : List (Addr × Obj)} {σ : L2.St} {H : Hp} {s : Shared}
/-- what a lambda's object is -/
abbrev lamO (X : Cx) (prm : Arguments) (bd : Expr) (sc : Scope) (pm : Value) (k : Addr) (ct : Value) : Obj := PySem.W.kla_obj "<lambda>" (X.env.qual ++ "<lambda>") prm bd sc (cloFrom X.env.cells sc.names []) pm k ct
/-- a lambda is made at a place that is new -/
theorem lam_new {T : List (Addr × Str)} {tc tp : Addr} {prm : Arguments} {bd : Expr} {sc : Scope} {lp : Pos} {Er : Value → Shared → Prop} {Po : Value → Shared → Prop} (J : Inv X pins σ H s) (tb : LamX.TabB X.base X.mg tc tp) (ec : X.env.code = .ref tc) (el : (tp, X.env.qual ++ "<lambda>") ∈ T)
    (eu : ∀ p ∈ T, p.1 = tp → p.2 = X.env.qual ++ "<lambda>") (tt : LamX.Tabs T H) (nd : defaultsOf prm X.env = ([], [])) (fr : ∀ y ∈ sc.names, y.2 = .free → ∃ c, X.env.cells.lookup y.1 = some c)
    (go : ∀ (a k : Addr) (pm ct : Value) (G : Hp) (z : Shared), s.heap.objs.size ≤ a → Inv X pins σ G z → LamX.ExtN H G → LamX.Tabs T G → z.heap.get? a = some (lamO X prm bd sc pm k ct) → G a = none → G k = some (LamX.CodeO k (X.env.qual ++ "<lambda>")) → Po (.ref a) z) :
    wpAny (model X.prog X.w) X.A (eval (.Lambda prm bd sc lp) X.env) Po Er s := by
  obtain ⟨tab, isTab, wf, known⟩ := tt _ el
  have bis := tb.bm.keeps J.bk
  have stands : s.heap.get? tp = some { cls := .none, data := .fields tab } := J.hok tp _ isTab
  have gl := J.mod.glob.keeps J.bk
  have cd := tb.code.keeps J.bk
  refine PySem.W.kla_eval nd ?_
  cases q : codeAmong lp tab.toList with
  | some cv =>
    obtain ⟨k, rfl, ek⟩ := known lp cv q
    refine PySem.W.kla_makeFunctionHit (mg := X.mg) (c := tc) (P := tp) (ps := tab) (closure_ok fr) J.ok.glob gl ec cd stands wf q bis fun ct h2 tk grow big => ?_
    refine go h2.objs.size k ((X.mg "__name__").getD .none) ct H _ big ?_ (LamX.ExtN.refl H) tt (Heap.get?_push_size _ rfl) (J.hok.fresh big) ek
    exact J.kept fun b o e => Heap.get?_push_of_some _ (grow b o e)
  | none =>
    refine PySem.W.kla_makeFunction (mg := X.mg) (c := tc) (P := tp) (ps := tab) (closure_ok fr) J.ok.glob gl ec cd stands wf q tb.gP bis fun k ct h2 tk but low high record fresh => ?_
    obtain ⟨k2, oc, vs, t, ek2, p1, p2, p3⟩ := record
    cases ek2
    have big : s.heap.objs.size ≤ h2.objs.size := by omega
    have newK : H k = none := J.hok.fresh low
    generalize hob : lamO X prm bd sc ((X.mg "__name__").getD .none) k ct = ob
    have J2 := LamX.inv_table (h' := h2.push ob) (t' := tk) (more := #[rawInt lp.line, rawInt lp.col, .ref k]) J isTab (fun b o nb e => Heap.get?_push_of_some _ (but b o nb e)) (Heap.get?_push_of_some _ fresh) low ⟨oc, vs, t, Heap.get?_push_of_some _ p1, p2, p3⟩
    have nTab : ∀ b u, H b = some u → (∀ z, u ≠ .tbl z) → b ≠ tp := fun b u e nt z => by
      subst z
      rw [isTab] at e
      exact nt tab (Option.some.inj e).symm
    have ext : LamX.ExtN H (upd (upd H tp (.tbl (tab ++ #[rawInt lp.line, rawInt lp.col, .ref k]))) k (LamX.CodeO k (X.env.qual ++ "<lambda>"))) := fun b u e nt => by
      rw [upd_ne (ne_of_none e newK), upd_ne (nTab b u e nt)]
      exact e
    have hl : (tab ++ #[rawInt lp.line, rawInt lp.col, .ref k]).toList = tab.toList ++ [rawInt lp.line, rawInt lp.col, .ref k] := by simp
    subst hob
    refine go h2.objs.size k _ ct _ _ big J2 ext (fun p hp => ?_) (Heap.get?_push_size _ rfl) ?_ upd_same
    · by_cases same : p.1 = tp
      · rw [eu p hp same, same]
        refine ⟨_, by rw [upd_ne (ne_of_none isTab newK), upd_same], by rw [hl]; exact PySem.TriplesOk_snoc _ _ _ _ wf, fun pp cv found => ?_⟩
        rw [hl] at found
        rcases LamX.among_app _ wf found with old | new
        · obtain ⟨k3, a1, a2⟩ := known pp cv old
          exact ⟨k3, a1, ext _ _ a2 LamX.codeO_ne⟩
        · exact ⟨k, new, upd_same⟩
      · obtain ⟨tab2, a1, a2, a3⟩ := tt p hp
        refine ⟨tab2, by rw [upd_ne (ne_of_none a1 newK), upd_ne same]; exact a1, a2, fun pp cv found => ?_⟩
        obtain ⟨k3, b1, b2⟩ := a3 pp cv found
        exact ⟨k3, b1, ext _ _ b2 LamX.codeO_ne⟩
    · rw [upd_ne (Nat.ne_of_gt high), upd_ne (Nat.ne_of_gt (Nat.lt_of_lt_of_le (Heap.lt_size stands) big))]
      exact J.hok.fresh big
/-- an object of ours, no cell, is watched from now on -/
theorem track2 {a : Addr} {o : HO} {ob : Obj} (I : Inv X pins σ H s) (h0 : ∀ u, X.s_0.heap.get? a = some u → X.H_0 a ≠ none) (na : H a = none) (nL : a ≠ X.env.locals) (he : s.heap.get? a = some ob) (hd : ∀ v, ob.data ≠ .cell v) (hp : ∀ p ∈ X.pn ++ pins, p.1 ≠ a) (new : ObjOk X.prog X.w (upd H a o) s.heap a o) : Inv X pins σ (upd H a o) s where
  ok := I.ok
  os := I.os
  bare := I.bare
  base := {
    keep := I.base.keep
    slot := I.base.slot
    free := fun b ob e n hx => by
      have z : b ≠ a := fun z => by subst z; exact h0 _ e n
      rw [upd_ne z]; exact I.base.free b ob e n hx
    there := I.base.there
    tups := fun b xs e => by
      have q := I.base.tups b xs e
      rw [upd_ne (ne_of_none q na)]; exact q
    frzs := fun b ob u e => by
      have q := I.base.frzs b ob u e
      rw [upd_ne (ne_of_none q na)]; exact q
    tbls := fun b ps e => by
      obtain ⟨m, q⟩ := I.base.tbls b ps e
      exact ⟨m, by rw [upd_ne (ne_of_none q na)]; exact q⟩ }
  loc := I.loc
  cell := I.cell
  free := by rw [upd_ne (Ne.symm nL)]; exact I.free
  freeC := fun y c e => by
    have z : c ≠ a := fun z => by
      obtain ⟨v, o', ho, hd'⟩ := I.cell y c e
      rw [z, he] at ho
      cases ho
      exact hd _ hd'
    rw [upd_ne z]; exact I.freeC y c e
  pin := fun p hp' => by
    obtain ⟨e, n, r⟩ := I.pin p hp'
    exact ⟨e, by rw [upd_ne (hp p hp')]; exact n, r⟩
  hok := fun b u e => by
    by_cases z : b = a
    · subst z
      rw [upd_same] at e; cases e
      exact new
    · rw [upd_ne z] at e
      exact (I.hok b u e).stay (fun _ _ _ q => q) (fun c q => by rw [upd_ne (ne_of_none q na)]; exact q) fun c xs q => by rw [upd_ne (ne_of_none q na)]; exact q
  len := I.len
theorem fnO_ok {P : Program} {w : World} {H : Hp} {h : Heap} {f : Addr} {o : Obj} (e : h.get? f = some o) : ObjOk P w H h f (FnO f o) := ⟨e, ⟨o, e⟩, fun _ _ q k => k _ q⟩
theorem fnO_at {P : Program} {w : World} {H : Hp} {h : Heap} {f : Addr} {o : Obj} (hok : HOk P w H h) (e : H f = some (FnO f o)) : h.get? f = some o := by
  have x : ObjOk P w H h f (.ext fun h => h.get? f = some o) := hok f _ e
  exact x.1
theorem del_some {H : Hp} {a b : Addr} {o : HO} (h : del H a b = some o) : b ≠ a ∧ H b = some o := by
  by_cases e : b = a
  · subst e; rw [del_same] at h; cases h
  · rw [del_ne e] at h; exact ⟨e, h⟩
theorem del_none {H : Hp} {a b : Addr} (h : H b = none) : del H a b = none := by
  by_cases e : b = a
  · subst e; exact del_same
  · rw [del_ne e]; exact h
/-- a watched function object is pinned instead -/
theorem untrack {f : Addr} {o : Obj} (I : Inv X pins σ H s) (hf : H f = some (FnO f o)) (hd : ∀ v, o.data ≠ .cell v) (hex : X.ex = []) :
    Inv X ((f, o) :: pins) σ (del H f) s ∧ (∀ u, X.s_0.heap.get? f = some u → X.H_0 f ≠ none) ∧ f ≠ X.env.locals ∧ f ∉ frs X.stack := by
  have at_ := fnO_at I.hok hf
  have ne : ∀ {b : Addr} {u : HO}, H b = some u → (∀ φ, u ≠ .ext φ) → b ≠ f := fun {b u} e n z => by
    subst z
    rw [hf] at e
    exact n _ (Option.some.inj e).symm
  have nL : f ≠ X.env.locals := fun z => by
    have := I.free
    rw [← z, hf] at this
    cases this
  have h0 : ∀ u, X.s_0.heap.get? f = some u → X.H_0 f ≠ none := fun u e n => by
    have := I.base.free f u e n (by rw [hex]; simp)
    rw [hf] at this
    cases this
  have nf : f ∉ X.fs := fun z => by
    obtain ⟨u, e⟩ := funFrames_at I.ok.funs f z
    exact h0 u e (I.ok.frf f z)
  refine ⟨?_, h0, nL, fun z => ?_⟩
  · exact {
      ok := I.ok
      os := I.os
      bare := I.bare
      base := {
        keep := I.base.keep
        slot := I.base.slot
        free := fun b ob e n hx => del_none (I.base.free b ob e n hx)
        there := I.base.there
        tups := fun b xs e => by
          have q := I.base.tups b xs e
          rw [del_ne (ne q fun _ z => by cases z)]; exact q
        frzs := fun b ob u e => by
          have q := I.base.frzs b ob u e
          rw [del_ne (ne q fun _ z => by cases z)]; exact q
        tbls := fun b ps e => by
          obtain ⟨m, q⟩ := I.base.tbls b ps e
          exact ⟨m, by rw [del_ne (ne q fun _ z => by cases z)]; exact q⟩ }
      loc := I.loc
      cell := I.cell
      free := del_none I.free
      freeC := fun y c e => del_none (I.freeC y c e)
      pin := fun p hp => by
        rcases List.mem_append.mp hp with hp | hp
        · obtain ⟨e, n, r⟩ := I.pin p (List.mem_append_left _ hp)
          exact ⟨e, del_none n, r⟩
        · rcases List.mem_cons.mp hp with rfl | hp
          · exact ⟨at_, del_same, nL, nf, hd⟩
          · obtain ⟨e, n, r⟩ := I.pin p (List.mem_append_right _ hp)
            exact ⟨e, del_none n, r⟩
      hok := fun b u e => by
        obtain ⟨nb, e⟩ := del_some e
        exact (I.hok b u e).stay (fun _ _ _ q => q) (fun c q => by rw [del_ne (ne q fun _ z => by cases z)]; exact q) fun c xs q => by rw [del_ne (ne q fun _ z => by cases z)]; exact q
      len := I.len }
  · rcases List.mem_cons.mp (I.stkSub _ z) with e | e
    · exact nL e
    · exact nf e
end
/-! what stays without the object -/
mutual
def D.pln : D → Bool
  | .lst xs => D.plnA xs
  | .tup xs => D.plnA xs
  | .obj _ xs => D.plnA xs
  | .dic _ xs => D.plnA xs
  | .exc _ _ => false
  | .fn _ _ _ _ _ => false
  | .lam _ _ _ _ => false
  | _ => true
def D.plnA : List D → Bool
  | [] => true
  | d :: ds => D.pln d && D.plnA ds
end
def Mc.pln : Mc → Bool
  | .pt _ => true
  | .ob _ xs => D.plnA xs
  | .ls xs => D.plnA xs
  | .dc _ xs => D.plnA xs
def blank1 : Sl → Sl
  | .sh d => if d.pln then .sh d else .no
  | _ => .no
def blankR (ρ : List Sl) : List Sl := ρ.map blank1
section
variable {g : G} {B H : Hp} {f : Addr} {o : Obj}
theorem ne_fn {b : Addr} {u : HO} (hf : B f = some (FnO f o)) (e : B b = some u) (n : ∀ φ, u ≠ .ext φ) : b ≠ f := fun z => by
  subst z
  rw [hf] at e
  exact n _ (Option.some.inj e).symm
theorem rd_del {a : Addr} {u : HO} (hf : B f = some (FnO f o)) (h : Rd B a u) (n : ∀ φ, u ≠ .ext φ) : Rd (del B f) a u := by
  rcases h with h | ⟨ob, h⟩
  · exact .inl (by rw [del_ne (ne_fn hf h n)]; exact h)
  · exact .inr ⟨ob, by rw [del_ne (ne_fn hf h fun _ z => by cases z)]; exact h⟩
mutual
theorem Rp.del (hf : B f = some (FnO f o)) : ∀ {v : V} {d : D}, Rp g B v d → d.pln = true → Rp g (del B f) v d
  | _, _, .non, _ => .non
  | _, _, .bl b, _ => .bl b
  | _, _, .int i, _ => .int i
  | _, _, .str x, _ => .str x
  | _, _, .lst h r, p => .lst (by rw [del_ne (ne_fn hf h fun _ z => by cases z)]; exact h) (RpA.del hf r p)
  | _, _, .tup h r, p => .tup (by
      rcases h with h | h
      · exact .inl (rd_del hf h fun _ z => by cases z)
      · exact .inr h) (RpA.del hf r p)
  | _, _, .obj h l r, p => .obj (by rw [del_ne (ne_fn hf h fun _ z => by cases z)]; exact h) l (RpA.del hf r p)
  | _, _, .exc _ _ _, p => by cases p
  | _, _, .dic h l r, p => .dic (by rw [del_ne (ne_fn hf h fun _ z => by cases z)]; exact h) l (RpA.del hf r p)
  | _, _, .scr h, _ => .scr (by
      rcases h with h | h
      · exact .inl (rd_del hf h fun _ z => by cases z)
      · exact .inr h)
  | _, _, .cel h, _ => .cel (by rw [del_ne (ne_fn hf h fun _ z => by cases z)]; exact h)
  | _, _, .fn _ _, p => by cases p
  | _, _, .lam _ _, p => by cases p
theorem RpA.del (hf : B f = some (FnO f o)) : ∀ {vs : List V} {ds : List D}, RpA g B vs ds → D.plnA ds = true → RpA g (del B f) vs ds
  | _, _, .nil, _ => .nil
  | _, _, .cons (d := d) (ds := ds) r t, p => by
    have p : (D.pln d && D.plnA ds) = true := p
    rw [Bool.and_eq_true] at p
    exact .cons (Rp.del hf r p.1) (RpA.del hf t p.2)
end
theorem Sub.dl (s : Sub B H) : Sub (del B f) (del H f) := ⟨fun a u e nm => by
    obtain ⟨na, e⟩ := del_some e
    rw [del_ne na]; exact s.co a u e nm, fun a n e => by
    obtain ⟨na, e⟩ := del_some e
    rw [del_ne na]; exact s.mkd a n e⟩
theorem fnO_nm : ¬ Mk1 (FnO f o) := by rintro ⟨_, z⟩; unfold FnO at z; cases z
theorem fnO_ne : ∀ ps, FnO f o ≠ .tbl ps := fun ps z => by unfold FnO at z; cases z
/-- no code object stands at a function object -/
theorem fn_code {P : Program} {w : World} {h : Heap} {c : Addr} {q : Str} (hok : HOk P w H h) (hf : H f = some (FnO f o)) (ho : ∀ vs, o.data ≠ .fields vs) (hc : H c = some (LamX.CodeO c q)) : c ≠ f := fun z => by
  subst z
  have e := fnO_at hok hf
  have x : ObjOk P w H h c (.ext fun h => ∃ (oc : Obj) (vs : Array Value) (t : Tok), h.get? c = some oc ∧ oc.data = .fields vs ∧ vs[1]? = some (.str q t)) := hok c _ hc
  obtain ⟨⟨oc, vs, t, e1, e2, _⟩, _⟩ := x
  rw [e] at e1
  cases e1
  exact ho vs e2
theorem Tabs.dl {P : Program} {w : World} {h : Heap} {T : List (Addr × Str)} (hok : HOk P w H h) (hf : H f = some (FnO f o)) (ho : ∀ vs, o.data ≠ .fields vs) (t : LamX.Tabs T H) : LamX.Tabs T (del H f) := fun p hp => by
  obtain ⟨ps, a1, a2, a3⟩ := t p hp
  refine ⟨ps, by rw [del_ne (ne_fn hf a1 fun _ z => by cases z)]; exact a1, a2, fun pos cv e => ?_⟩
  obtain ⟨c, b1, b2⟩ := a3 pos cv e
  exact ⟨c, b1, by rw [del_ne (fn_code hok hf ho b2)]; exact b2⟩
theorem McR.dl (hB : B f = some (FnO f o)) (hH : H f = some (FnO f o)) {a : Addr} : ∀ {m : Mc}, McR g B H a m → m.pln = true → McR g (del B f) (del H f) a m
  | .pt _, ⟨i, j, m, h, r⟩, _ => ⟨i, j, m, by rw [del_ne (ne_fn hH h fun _ z => by cases z)]; exact h, r⟩
  | .ob _ _, ⟨dx, vs, h, hl, r⟩, p => ⟨dx, vs, by rw [del_ne (ne_fn hH h fun _ z => by cases z)]; exact h, hl, RpA.del hB r p⟩
  | .ls _, ⟨vs, h, r⟩, p => ⟨vs, by rw [del_ne (ne_fn hH h fun _ z => by cases z)]; exact h, RpA.del hB r p⟩
  | .dc _ _, ⟨vs, h, hl, r⟩, p => ⟨vs, by rw [del_ne (ne_fn hH h fun _ z => by cases z)]; exact h, hl, RpA.del hB r p⟩
def muPln (μ : Mu) : Prop := ∀ m ∈ μ, m.pln = true
theorem MuR.dl {μ : Mu} (hB : B f = some (FnO f o)) (hH : H f = some (FnO f o)) (m : MuR g B H μ) (p : muPln μ) : MuR g (del B f) (del H f) μ := ⟨fun a n e => by
    obtain ⟨na, e⟩ := del_some e
    obtain ⟨c, h1, h2⟩ := m.at_ a n e
    exact ⟨c, h1, McR.dl hB hH h2 (p c (List.mem_of_getElem? h1))⟩, fun a b n h1 h2 => m.uniq a b n (del_some h1).2 (del_some h2).2⟩
theorem blank_get {ρ : List Sl} {i : Nat} {t : Sl} (h : (blankR ρ)[i]? = some t) : t = .no ∨ ∃ d, t = .sh d ∧ d.pln = true ∧ ρ[i]? = some (.sh d) := by
  unfold blankR at h
  rw [List.getElem?_map] at h
  cases e : ρ[i]? with
  | none => rw [e] at h; cases h
  | some u =>
    rw [e] at h
    have h : blank1 u = t := Option.some.inj h
    cases u with
    | sh d =>
      by_cases p : d.pln = true
      · have h : (if d.pln = true then Sl.sh d else .no) = t := h
        rw [if_pos p] at h
        exact .inr ⟨d, h.symm, p, rfl⟩
      · have h : (if d.pln = true then Sl.sh d else .no) = t := h
        rw [if_neg p] at h
        exact .inl h.symm
    | _ => exact .inl h.symm
theorem Rel.dl {P : Program} {w : World} {h : Heap} {σ : L2.St} {ρ : List Sl} {μ : Mu} (hok : HOk P w H h) (hB : B f = some (FnO f o)) (ho : ∀ vs, o.data ≠ .fields vs) (r : Rel g B H σ ρ μ) (p : muPln μ) : Rel g (del B f) (del H f) σ (blankR ρ) μ := by
  have hH : H f = some (FnO f o) := r.sub.co _ _ hB fnO_nm
  refine ⟨r.sub.dl, r.mu.dl hB hH p, fun a ps e => r.notb a ps (del_some e).2, Tabs.dl hok hH ho r.tabs, ?_, fun i x s h1 h2 => ?_, fun i j s t n h1 h2 o1 o2 => ?_⟩
  · unfold blankR; rw [List.length_map]; exact r.len
  · rcases blank_get h2 with rfl | ⟨d, rfl, pd, e⟩
    · cases x <;> exact True.intro
    · obtain ⟨v, e1, e2⟩ := r.at e
      rw [e1] at h1
      cases h1
      exact Rp.del hB e2 pd
  · rcases blank_get h1 with rfl | ⟨d, rfl, _⟩ <;> cases o1
/-- behind the call it is watched again -/
theorem Nm.back {B' H' : Hp} {μ' : Mu} (hB : B f = some (FnO f o)) (hH : H f = some (FnO f o)) (n : Nm g (del B f) (del H f) B' H' μ') (hf : H' f = none) : Nm g B H (upd B' f (FnO f o)) (upd H' f (FnO f o)) μ' := by
  have bf : B' f = none := n.sub.none hf
  have up1 : Up B' (upd B' f (FnO f o)) := upd_up bf
  have mk : ∀ a k, upd B' f (FnO f o) a = some (.own k) → a ≠ f ∧ B' a = some (.own k) := fun a k e => by
    by_cases z : a = f
    · subst z
      rw [upd_same] at e
      exact absurd ⟨k, Option.some.inj e⟩ fnO_nm
    · rw [upd_ne z] at e; exact ⟨z, e⟩
  exact {
    keep := fun a u e t c => by
      by_cases z : a = f
      · subst z
        rw [upd_same, ← e, hH]
      · rw [upd_ne z]
        exact n.keep a u (by rw [del_ne z]; exact e) t fun k q => c k (del_some q).2
    up := fun a u e => by
      by_cases z : a = f
      · subst z
        rw [upd_same, ← e, hB]
      · rw [upd_ne z]
        exact n.up a u (by rw [del_ne z]; exact e)
    sub := ⟨fun a u e nm => by
      by_cases z : a = f
      · subst z
        rw [upd_same] at e ⊢; exact e
      · rw [upd_ne z] at e ⊢
        exact n.sub.co a u e nm, fun a k e => by
      obtain ⟨z, e⟩ := mk a k e
      rw [upd_ne z]
      exact n.sub.mkd a k e⟩
    notb := fun a ps e => by
      by_cases z : a = f
      · subst z
        rw [upd_same] at e
        exact fnO_ne ps (Option.some.inj e)
      · rw [upd_ne z] at e
        exact n.notb a ps e
    old := fun a u e ow q => by
      have z : a ≠ f := fun z => by
        subst z
        rw [hB] at q; cases q
      rw [upd_ne z]
      exact n.old a u (by rw [del_ne z]; exact e) ow (del_none q)
    nc := fun a u k e t q w => by
      obtain ⟨z, w⟩ := mk a k w
      exact n.nc a u k (by rw [del_ne z]; exact e) t (del_none q) w
    tabs := Tabs.upd n.tabs hf _
    mu := ⟨fun a k e => by
      obtain ⟨z, e⟩ := mk a k e
      obtain ⟨m, h1, h2⟩ := n.mu.at_ a k e
      exact ⟨m, h1, h2.nx (n := k) (fun u q _ => by rw [upd_ne (ne_of_none q hf)]; exact q) up1⟩, fun a b k h1 h2 => n.mu.uniq a b k (mk a k h1).2 (mk b k h2).2⟩ }
end
/-! ### the rules -/
/-- such a lambda of this frame -/
def isLam (X : Cx) (prm : Arguments) (bd : Expr) (sc : Scope) (d : D) : Prop := ∃ f c pm ct, d = .lam f c (X.env.qual ++ "<lambda>") (lamO X prm bd sc pm c ct)
def wLam (P : D → Prop) : We := fun ρ μ Q E => ∀ d, P d → Q d μ
structure LamI (g : G) (X : Cx) (kl : Nat) (P : D → Prop) (n : Nat) (wb : We) : Prop where
  ex : ∃ (prm : Arguments) (bd : Expr) (sc : Scope) (ps N0 : List Str), P = isLam X prm bd sc ∧ ps.length = n ∧ LamSN X.env.scope sc ps N0 X.N ∧
    (∀ (q : Str) (cl : List (Str × Addr)) (pm cv ctv : Value) (us : List Value), us.length = ps.length → bindArgs (PySem.W.kla_fn "<lambda>" q prm bd sc cl pm cv ctv) ⟨us, []⟩ = pure (ps.zip us)) ∧
    (∀ (base' : Heap), BUp X.mg X.base base' → ∀ (A : Around) (outer : List Env) (s : Shared) (H : Hp) (E : XK) (f c' : Addr), Room kl (A.deeper (LamX.lamEnv X sc s.heap.objs.size f c')) → DE g (lamCxB X base' ps N0 A outer s H E sc f c') bd wb)
def wCallK (ls : List ((D → Prop) × Nat × We)) (hc : D → Ct → Ct) (w : Wa) : We := fun ρ μ Q E => w ρ μ (fun ds μ => ∃ d es, ds = d :: es ∧ ∃ l ∈ ls, l.1 d ∧ muPln μ ∧ D.plnA es = true ∧ ∀ t, hc t (fun as μ Q E => as.length = l.2.1 ∧ l.2.2 (as.map .sh ++ shOf (blankR ρ)) μ Q E) (t :: es) μ Q noE) E
section
variable {g : G} {X : Cx} {k kl : Nat} {fa : Addr} {hc : D → Ct → Ct} {x : Str} {p lpos pos : Pos} {c P : Addr} {prm : Arguments} {bd : Expr} {sc : Scope} {e0 : Expr} {es : List Expr} {w : Wa}
theorem de_lamV (TB : LamX.TabB X.base X.mg c P) (hcode : X.env.code = .ref c) (hmT : (P, X.env.qual ++ "<lambda>") ∈ g.T) (hu : ∀ p ∈ g.T, p.1 = P → p.2 = X.env.qual ++ "<lambda>") {ps N0 : List Str} (LN : LamSN X.env.scope sc ps N0 X.N) (hdef : defaultsOf prm X.env = ([], [])) :
    DE g X (.Lambda prm bd sc lpos) (wLam (isLam X prm bd sc)) := ⟨fun gd W tk => ⟨fun pins s σ H Q I h => by
  obtain ⟨B, ρ, μ, Q0, E0, rel, hw, hq, hx⟩ := h
  refine lam_new I TB hcode hmT hu rel.tabs hdef (LN.has I.ok) fun f c' pm ct H1 s1 big I1 eN T1 hf hfn hco => ?_
  have hm : ¬ Mk1 (LamX.CodeO c' (X.env.qual ++ "<lambda>")) := by rintro ⟨_, z⟩; unfold LamX.CodeO at z; cases z
  have same : ∀ o, B c' = some o → ¬ Mk1 o → o = LamX.CodeO c' (X.env.qual ++ "<lambda>") := fun o e nm => by
    have e2 := eN _ _ (rel.sub.co _ _ e nm) (fun ps z => rel.notb _ ps (by rw [e, z]))
    rw [hco] at e2
    exact (Option.some.inj e2).symm
  have no : ∀ u, H c' = some u → Ownd u → False := fun u e ow => by
    have e2 := eN _ _ e ow.ntb
    rw [hco] at e2
    have e3 := Option.some.inj e2
    unfold LamX.CodeO at e3
    subst e3
    rcases ow with ⟨_, h⟩ | ⟨_, h⟩ | ⟨_, _, _, h⟩ <;> cases h
  have nmk : ∀ k, B c' ≠ some (.own k) := fun k z => by
    obtain ⟨m, _, h2⟩ := rel.mu.at_ _ _ z
    cases m with
    | pt k => obtain ⟨_, _, _, e, _⟩ := h2; exact no _ e own_lst
    | ob c xs => obtain ⟨_, _, e, _⟩ := h2; exact no _ e own_ins
    | ls ds => obtain ⟨_, e, _⟩ := h2; exact no _ e own_lst
    | dc ks ds => obtain ⟨_, e, _⟩ := h2; exact no _ e own_dK
  have upB : Up B (upd B c' (LamX.CodeO c' (X.env.qual ++ "<lambda>"))) := fun a o e => by
    by_cases z : a = c'
    · subst z
      rw [upd_same, same o e (by rintro ⟨k, rfl⟩; exact nmk k e)]
    · rw [upd_ne z]; exact e
  have mks : ∀ a k, upd B c' (LamX.CodeO c' (X.env.qual ++ "<lambda>")) a = some (.own k) → B a = some (.own k) := fun a k e => by
    by_cases z : a = c'
    · subst z
      rw [upd_same] at e; exact absurd ⟨k, Option.some.inj e⟩ hm
    · rw [upd_ne z] at e; exact e
  have nx1 : Nm g B H (upd B c' (LamX.CodeO c' (X.env.qual ++ "<lambda>"))) H1 μ := {
    keep := fun a o e n _ => eN a o e n
    up := upB
    sub := ⟨fun a o e nm => by
      by_cases z : a = c'
      · subst z
        rw [upd_same] at e; cases e; exact hco
      · rw [upd_ne z] at e
        exact eN _ _ (rel.sub.co _ _ e nm) (fun ps z => rel.notb _ ps (by rw [e, z])), fun a k e => by
      obtain ⟨u, e1, e2⟩ := rel.sub.mkd a k (mks a k e)
      exact ⟨u, eN _ _ e1 e2, e2⟩⟩
    notb := fun a ps e => by
      by_cases z : a = c'
      · subst z
        rw [upd_same] at e
        exact LamX.codeO_ne ps (Option.some.inj e)
      · rw [upd_ne z] at e; exact rel.notb a ps e
    old := fun a o e ow q => by
      have z : a ≠ c' := fun z => by subst z; exact no _ e ow
      rw [upd_ne z]; exact q
    nc := fun a o k e n q z => by rw [mks a k z] at q; cases q
    tabs := T1
    mu := ⟨fun a k e => let ⟨m, h1, h2⟩ := rel.mu.at_ a k (mks a k e); ⟨m, h1, h2.nx (n := k) (fun o e n => eN a o e n) upB⟩, fun a b k h1 h2 => rel.mu.uniq a b k (mks a k h1) (mks b k h2)⟩ }
  have gone : ∀ u, s.heap.get? f ≠ some u := fun u e => Nat.lt_irrefl _ (Nat.lt_of_lt_of_le (Heap.lt_size e) big)
  have h0 : ∀ u, X.s_0.heap.get? f = some u → X.H_0 f ≠ none := fun u e n => by
    have := (I.base.free f u e n)
    obtain ⟨o', e'⟩ : ∃ o', s.heap.get? f = some o' := by
      by_cases hxx : f ∈ X.ex
      · exact absurd (Nat.lt_of_lt_of_le (Heap.lt_size e) (Nat.le_refl _)) (Nat.not_lt.mpr (Nat.le_trans I.sz big))
      · exact I.base.there f u e hxx
    exact gone _ e'
  have nL : f ≠ X.env.locals := fun z => by
    obtain ⟨m, ⟨ob, es', ep, ho, hd, _⟩, _⟩ := I.loc
    rw [← z] at ho
    exact gone _ ho
  have npin : ∀ p ∈ X.pn ++ pins, p.1 ≠ f := fun p hp z => by
    have e := (I.pin p hp).1
    rw [z] at e
    exact gone _ e
  have J := track2 (o := FnO f (lamO X prm bd sc pm c' ct)) I1 h0 hfn nL hf (fun v z => by cases z) npin (fnO_ok hf)
  have n2 := nx1.bs.new (p := f) (o := FnO f (lamO X prm bd sc pm c' ct)) hfn fnO_ne fnO_nm
  exact ⟨.ref f, _, J, rfl, hq _ _ (hw _ ⟨f, c', pm, ct, rfl⟩) _ _ _ (nx1.np n2) (.lam upd_same (n2.up _ _ upd_same))⟩⟩⟩
/-- x(look, e, ..), look told of a kept lambda; nothing is raised -/
theorem de_callK {ls : List ((D → Prop) × Nat × We)} (F : ∀ base', BUp X.mg X.base base' → DFnM X.prog X.w X.K X.mg base' g k (kl + 1) fa hc) (hfnT : ∀ x, X.fn x = true) (hr : Room k X.A) (hg : Gl X x) (hm : X.mg x = some (.ref fa)) (hk : PySem.W.keepIn X.K (.ref fa) = true) (hex : X.ex = [])
    (hL : ∀ l ∈ ls, LamI g X kl l.1 l.2.1 l.2.2) (ha : DA g X (e0 :: es) w)
    (hdb : (x == ("__debug__" : Str)) = false := by decide) (he : starEach (e0 :: es) X.env = (false, eval e0 X.env) :: starEach es X.env := by rfl) (hpl : (backTo pos (starEach es X.env)).any (·.1) = false := by rfl) :
    DE g X (.Call (.Name x p) (e0 :: es) [] pos) (wCallK ls hc w) := ⟨fun gd W tk => ⟨fun pins s σ H Q I h => by
  obtain ⟨B, ρ, μ, Q0, E0, rel, hw, hq, hx⟩ := h
  refine wpAny_Call_Name_kw (ld_glob I hg hm ?_ hdb)
  refine PySem.W.callWith_K (h₀ := X.base) I.ok.mod.kin hk (thn ((ha.run gd W tk).run pos pins s σ H (fun vs H1 => ∃ ds B1 μ1, Nm g B H B1 H1 μ1 ∧ RpA g B1 vs ds ∧ ∃ d es, ds = d :: es ∧ ∃ l ∈ ls, l.1 d ∧ muPln μ1 ∧ D.plnA es = true ∧ ∀ t, hc t (fun as μ Q E => as.length = l.2.1 ∧ l.2.2 (as.map .sh ++ shOf (blankR ρ)) μ Q E) (t :: es) μ1 Q0 noE) I
    (tDA.go rel hw hx fun ds μ1 vs B1 H1 k n r => ⟨ds, B1, μ1, n, r, k⟩)) fun us s1 ⟨vs, H1, I1, r, ds, B1, μ1, n, ra, d, es', eds, l, hl, hd, hmu, hes, kk⟩ => ⟨I1.kIn, ?_⟩) he hpl
  subst eds
  obtain ⟨prm, bd, sc, ps, N0, hP, hn, LN, hbind, hbody⟩ := (hL l hl).ex
  rw [hP] at hd
  obtain ⟨f, c', pm, ct, rfl⟩ := hd
  cases ra with
  | @cons v vs' _ _ r1 r2 =>
    cases r1 with
    | lam h1 h2 =>
      cases r with
      | @cons _ u _ us' ru rs =>
        obtain rfl : u = Value.ref f := ru
        have hf1 : H1 f = some (FnO f (lamO X prm bd sc pm c' ct)) := n.sub.co _ _ h1 fnO_nm
        have hfd : ∀ vs, (lamO X prm bd sc pm c' ct).data ≠ .fields vs := fun vs z => by cases z
        obtain ⟨I2, h0, nL, hfr⟩ := untrack I1 hf1 (fun v z => by cases z) hex
        have rel3 := Rel.dl I1.hok h1 hfd (rel.nm n) hmu
        have hfo := ClX.pin_at I2
        have lam := lamB_of (k := kl) (wb := l.2.2) (base' := baseX s1.heap (del H1 f) (frs X.stack)) I2 rel3 gd.k LN hfo del_same hfr holds_base (cellsOk_of I2 hfnT) hbind (hbody _ (base_up I2))
        have nc' : c' ≠ f := fn_code I1.hok hf1 hfd (n.sub.at h2)
        have rt : Rp g (del B1 f) (.ref f) (tokOf f c' (X.env.qual ++ "<lambda>") σ (blankR ρ)) := .fn (by rw [del_ne nc']; exact h2) (capt_rp fun i v d h1 h2 => by
          obtain ⟨v', h3, h4⟩ := rel3.at h2
          rw [h1] at h3
          cases h3
          exact h4)
        rw [hn] at lam
        refine wpAny_call (codeAny_mono ((F _ (base_up I2)).run f c' (X.env.qual ++ "<lambda>") _ _ _ X.A X.stack s1 (del H1 f) (del B1 f) (.ref f :: us') (.ref f :: vs') (tokOf f c' (X.env.qual ++ "<lambda>") σ (blankR ρ) :: es') μ1 Q0 noE
          (fun v H' => ∃ d μ' B', Q0 d μ' ∧ Nm g (del B1 f) (del H1 f) B' H' μ' ∧ Rp g B' v d) (fun _ _ _ => False) hr gd.gd (env_up I2) (.cons rfl rs) rel3.bs rel3.mu (.cons rt (RpA.del h1 r2 hes)) lam (kk _)
          (fun d μ' h v B' H' n' r' => ⟨d, μ', B', h, n', r'⟩) fun c d _ h => h.elim) fun r s' hq' => ?_)
        cases r with
        | error er =>
          obtain ⟨_, _, _, _, _, _, _, _, _, _, _, _, z⟩ := (show L2.CX X.prog X.w X.stack (del H1 f) s1 (fun _ _ _ => False) er s' from hq')
          exact z.elim
        | ok fl =>
          cases fl with
          | ret u =>
            obtain ⟨v, H', I3, rv, d, μ', B', q0, n3, r3⟩ := I2.after hq'
            have hs := ClX.pin_at I3
            have hn' := ClX.pin_un I3
            have npin : ∀ p ∈ X.pn ++ pins, p.1 ≠ f := fun p hp z => by
              have e := (I1.pin p hp).2.1
              rw [z, hf1] at e
              cases e
            have J := track2 (o := FnO f (lamO X prm bd sc pm c' ct)) (ClX.unpin I3) h0 hn' nL hs (fun v z => by cases z) npin (fnO_ok hs)
            exact ⟨v, _, J, rv, hq _ _ q0 v _ _ (n.trans (n3.back h1 hf1 hn')) (r3.up (upd_up (n3.sub.none hn')))⟩
          | next => exact False.elim hq'
          | brk => exact False.elim hq'
          | cont => exact False.elim hq'⟩⟩
end
theorem dfn_ofK {α : Type} {P : Program} {w : World} {K : PySem.W.Frag} {mg : Str → Option Value} {base : Heap} {g : G} {k : Nat} {f : Addr} {c : Ct} {x qual : Str} {st : Stmt} {cdv : Value} {N ps : List Str} {wb : α → Ws}
    (F : FnF K x qual st ps f cdv) (hK : K = g.K) (S : FnScope N ps (defScope st))
    (hbody : ∀ (A : Around) (outer : List Env) (s : Shared) (H : Hp) (E : XK), Room k (A.deeper (envOfC qual (defScope st) s.heap.objs.size f cdv)) → ∃ a : α, DSs g (cxOf (L2.CX P w) P w K mg base N qual (defScope st) f cdv A outer s H E) (defBody st) (wb a))
    (len : ∀ ds μ Q E, c ds μ Q E → ds.length = ps.length) (h : ∀ a ds μ Q E, c ds μ Q E → wb a (deOf Q E) (startR N ds) μ) : DFn P w K mg base g (k + 1) f c := by
  obtain ⟨oc, od, kV, doc, pm, an, ct, osl, lk, hcd, hb⟩ := F.ex
  refine ⟨fun A outer s H B us vs ds μ Q0 E0 Q E hr hg e0 r b m ra hc hq he => ?_⟩
  have ra2 : RpA g B (vs ++ []) (ds ++ []) := ra.app .nil
  have r2 : Vals (vs ++ []) (us ++ []) := r.append .nil
  have hl0 := len _ _ _ _ hc
  have hl : (us ++ []).length = ps.length := by rw [← r2.length, ra2.len, List.append_nil]; exact hl0
  have KX : K.In s.heap := e0.mod.kin.keeps fun b o e => (e0.bs b o e).1
  have bt := hb s us KX hl
  refine LamX.run_ofS (N := N) (ps := ps) lk hcd S hr e0 bt r2 (by rw [ra2.len, List.append_nil]; exact hl0) fun hr' => ?_
  have gs : Gs g (cxOf (L2.CX P w) P w K mg base N qual (defScope st) f cdv A outer s H E) := ⟨⟨hK, hg, by have := hr'.un; exact (by show (A.deeper _).units + 128 < cLine; omega)⟩, passes_of rfl⟩
  obtain ⟨a, hbd⟩ := hbody A outer s H E hr'
  refine ⟨_, hbd.run gs _ (takes_of rfl rfl rfl rfl), ⟨B, H, B, none⟩, B, startR N (ds ++ []), μ, deOf Q0 E0, ⟨start_rel b m ra2, b.rf.nx, Up.refl B, fun i s a h1 o _ => ?_, fun _ _ _ _ z => (by cases z)⟩, (by rw [List.append_nil]; exact h a _ _ _ _ hc), ⟨fun ρ μ' σ B' H' h' s' => ?_, fun d μ' v B' H' h' n q => hq d μ' h' v B' H' n q, fun _ _ _ _ _ h' => h'.elim, fun _ _ _ _ _ h' => h'.elim, fun ρ c d μ' σ B' H' cls dd h' s' x => he c d μ' h' cls dd B' H' s'.mm x⟩⟩
  · exact absurd o (by rw [startR_no h1]; decide)
  · exact hq _ _ h' _ B' H' s'.mm .non
end Dk
namespace Dk
open PySem PySem.Spec PyProof.Rows L2
/-! ### d[k] -/
def atK : List Key → List D → Key → Option D
  | k :: ks, d :: ds, x => if k = x then some d else atK ks ds x
  | _, _, _ => none
def fIxD : F2 := fun d e Q => match d, e with
  | .dic ks ds, .str x => (match atK ks ds (.inr x) with
    | some z => Q z
    | none => False)
  | _, _ => False
theorem atK_get {g : G} {B : Hp} : ∀ {ks : List Key} {vs : List V} {ds : List D} {x : Key} {z : D}, RpA g B vs ds → atK ks ds x = some z → ∃ v, valV (ks.zip vs) x = some v ∧ Rp g B v z
  | [], _, _, _, _, _, h => by cases h
  | _ :: _, _, _, _, _, .nil, h => by cases h
  | k :: ks, _, _, x, z, .cons (v := v) r t, h => by
    have h : (if k = x then some _ else atK ks _ x) = some z := h
    by_cases e : k = x
    · rw [if_pos e] at h
      cases h
      refine ⟨v, ?_, r⟩
      simp [valV, e]
    · rw [if_neg e] at h
      obtain ⟨v', h1, h2⟩ := atK_get t h
      refine ⟨v', ?_, h2⟩
      simp only [valV, List.zip_cons_cons, List.find?_cons] at h1 ⊢
      rw [show (decide (k = x)) = false from decide_eq_false e]
      exact h1
section
variable {g : G} {X : Cx} {a b : Expr} {wa wb : We} {pos : Pos}
theorem de_ixD (ha : DE g X a wa) (hb : DE g X b wb) (hs : NoSl b := by exact fun _ _ => rfl) : DE g X (.Subscript a b pos) (w2 fIxD wa wb) := ⟨fun gd W tk => PEw (pe_dget (by have := gd.un; omega) (ha.run gd W tk) (hb.run gd W tk) hs) fun σ H Q h => by
  obtain ⟨B, ρ, μ, Q0, E0, rel, hw, hq, hx⟩ := h
  refine tD.go rel hw hx fun d μ1 v B1 H1 k1 n1 r1 => tD.go (rel.nm n1) k1 (hx.nx n1) fun e μ2 u B2 H2 k2 n2 r2 => ?_
  have r1' := r1.up n2.up
  cases r1' with
  | dic h1 h2 h3 =>
    cases r2 with
    | str x =>
      rename_i a ks vs ds
      have k2 : (match atK ks ds (.inr x) with | some z => Q0 z μ2 | none => False) := k2
      cases e1 : atK ks ds (.inr x) with
      | none => rw [e1] at k2; exact k2.elim
      | some z =>
        rw [e1] at k2
        obtain ⟨v, e2, rv⟩ := atK_get h3 e1
        refine ⟨a, v, rfl, ?_, hq _ _ k2 _ _ _ (n1.trans n2) rv⟩
        rw [← e2]
        exact DGet.k (k := .inr x) (n2.sub.at h1)
    | _ => exact k2.elim
  | _ => exact k2.elim⟩
theorem pe_gs {x : Str} {i : Str} {t : Tok} (hg : Gl X x) (hm : X.mg x = some (.str i t)) (hd : (x == ("__debug__" : Str)) = false := by decide) : PE X (.Name x pos) (tC (.str i)) := pe_glob hg hm ⟨_, rfl⟩ hd
/-! ### tuples of constants in a module -/
structure GtF (g : G) (mg : Str → Option Value) (x : Str) (d : D) : Prop where
  ex : ∃ u v, mg x = some u ∧ RelV v u ∧ ∀ B, Rp g B v d
theorem de_gtup {x : Str} {d : D} (hg : Gl X x) (F : GtF g X.mg x d) (hd : (x == ("__debug__" : Str)) = false := by decide) : DE g X (.Name x pos) (wC d) := by
  obtain ⟨u, v, h1, h2, h3⟩ := F.ex
  exact de_c (v := v) (pe_glob hg h1 h2 hd) h3
end
mutual
def datV (K : PySem.W.Frag) : D → Value → Bool
  | .int i, u => (match u with
    | .int j _ => i == j
    | _ => false)
  | .str i, u => (match u with
    | .str j _ => i == j
    | _ => false)
  | .tup xs, u => (match u with
    | .ref a => (match K.lookup a with
      | some o => (match o.cls with
        | .type t => t == "tuple"
        | _ => false) && (match o.data with
        | .seq its _ => decide (its.size ≤ sizeLine) && datVA K xs its.toList
        | _ => false)
      | none => false)
    | _ => false)
  | _, _ => false
def datVA (K : PySem.W.Frag) : List D → List Value → Bool
  | [], us => us.isEmpty
  | d :: ds, us => (match us with
    | u :: us => datV K d u && datVA K ds us
    | [] => false)
end
mutual
theorem datV_ok {g : G} : ∀ {d : D} {u : Value}, datV g.K d u = true → ∃ v, RelV v u ∧ ∀ B, Rp g B v d
  | .int i, u, h => by
    cases u with
    | int j t =>
      have h : (i == j) = true := h
      have := beq_iff_eq.mp h
      subst this
      exact ⟨.int i, ⟨t, rfl⟩, fun B => .int i⟩
    | _ => cases h
  | .str i, u, h => by
    cases u with
    | str j t =>
      have h : (i == j) = true := h
      have := beq_iff_eq.mp h
      subst this
      exact ⟨.str i, ⟨t, rfl⟩, fun B => .str i⟩
    | _ => cases h
  | .tup xs, u, h => by
    cases u with
    | ref a =>
      have h : (match g.K.lookup a with
        | some o => (match o.cls with
          | .type t => t == "tuple"
          | _ => false) && (match o.data with
          | .seq its _ => decide (its.size ≤ sizeLine) && datVA g.K xs its.toList
          | _ => false)
        | none => false) = true := h
      cases e : g.K.lookup a with
      | none => rw [e] at h; cases h
      | some o =>
        rw [e] at h
        have h := Bool.and_eq_true_iff.mp h
        obtain ⟨h1, h2⟩ := h
        cases ec : o.cls with
        | type t =>
          rw [ec] at h1
          have h1 : t = "tuple" := beq_iff_eq.mp h1
          cases ed : o.data with
          | seq its n =>
            rw [ed] at h2
            obtain ⟨h3, h4⟩ := Bool.and_eq_true_iff.mp h2
            obtain ⟨vs, rv, hr⟩ := datVA_ok h4
            exact ⟨.ref a, rfl, fun B => .tup (.inr ⟨o, its, n, e, by rw [ec, h1], ed, of_decide_eq_true h3, rv⟩) (hr B)⟩
          | _ => rw [ed] at h2; cases h2
        | _ => rw [ec] at h1; cases h1
    | _ => cases h
  | .non, _, h => by cases h
  | .bl _, _, h => by cases h
  | .lst _, _, h => by cases h
  | .obj _ _, _, h => by cases h
  | .exc _ _, _, h => by cases h
  | .dic _ _, _, h => by cases h
  | .scr _, _, h => by cases h
  | .cel _, _, h => by cases h
  | .fn _ _ _ _ _, _, h => by cases h
  | .lam _ _ _ _, _, h => by cases h
theorem datVA_ok {g : G} : ∀ {ds : List D} {us : List Value}, datVA g.K ds us = true → ∃ vs, Vals vs us ∧ ∀ B, RpA g B vs ds
  | [], us, h => by
    cases us with
    | nil => exact ⟨[], .nil, fun B => .nil⟩
    | cons _ _ => cases h
  | d :: ds, us, h => by
    cases us with
    | nil => cases h
    | cons u us =>
      have h : (datV g.K d u && datVA g.K ds us) = true := h
      obtain ⟨h1, h2⟩ := Bool.and_eq_true_iff.mp h
      obtain ⟨v, a1, a2⟩ := datV_ok h1
      obtain ⟨vs, b1, b2⟩ := datVA_ok h2
      exact ⟨v :: vs, .cons a1 b1, fun B => .cons (a2 B) (b2 B)⟩
end
theorem gt_of {g : G} {mg : Str → Option Value} {x : Str} {a : Addr} {d : D} (hm : mg x = some (.ref a)) (h : datV g.K d (.ref a) = true) : GtF g mg x d := by
  obtain ⟨v, h1, h2⟩ := datV_ok h
  exact ⟨_, v, hm, h1, h2⟩
theorem de_invF {g : G} {X : Cx} {k : Nat} {ms : List (Nat × Ct)} {a : Expr} {wa : We} {pos : Pos} (M : UnF X.prog X.w X.K X.mg X.base g "__invert__" k ms) (hr : Room k X.A) (ha : DE g X a wa) : DE g X (.UnaryOp .Invert a pos) (wU ms wa) := de_invO (fun p hp => ⟨M.ok p hp⟩) hr ha
/-! keys that differ -/
def keyNe : Key → Key → Bool
  | .inr a, .inr b => !(a == b)
  | .inl a, .inl b => !(a == b)
  | _, _ => true
theorem keyNe_ok {a b : Key} (h : keyNe a b = true) : a ≠ b := fun e => by
  subst e
  cases a with
  | inl i => simp [keyNe] at h
  | inr i => simp [keyNe] at h
def distB : List Key → Bool
  | [] => true
  | k :: ks => ks.all (fun j => keyNe j k) && distB ks
theorem distB_ok : ∀ {ks : List Key}, distB ks = true → distK ks
  | [], _ => trivial
  | k :: ks, h => by
    obtain ⟨h1, h2⟩ := Bool.and_eq_true_iff.mp (show (ks.all (fun j => keyNe j k) && distB ks) = true from h)
    exact ⟨fun j hj => keyNe_ok (List.all_eq_true.mp h1 j hj), distB_ok h2⟩
end Dk
namespace Dk
open PySem PySem.Spec PyProof.Rows L2
/-! ### starred items -/
def aS (a : We) (r : Wa) : Wa := fun ρ μ Q E => a ρ μ (fun d μ => ∃ xs, (d = .lst xs ∨ d = .tup xs) ∧ r ρ μ (fun ds μ => Q (xs ++ ds) μ) E) E
section
variable {g : G} {X : Cx} {a e o : Expr} {es : List Expr} {wa we wo : We} {wr w : Wa} {p pos apos : Pos} {x : Str}
theorem Rp.seq {B H : Hp} {v : V} {d : D} {xs : List D} (b : Bs g B H) (r : Rp g B v d) (h : d = .lst xs ∨ d = .tup xs) : ∃ q vs, v = .ref q ∧ (SqT g.K H q vs ∨ SqL g.K H q vs) ∧ RpA g B vs xs := by
  rcases h with rfl | rfl
  · obtain ⟨q, vs, rfl, s1, s2⟩ := r.sq b
    exact ⟨q, vs, rfl, .inr s1, s2⟩
  · obtain ⟨q, vs, rfl, s1, s2, _⟩ := r.st b
    exact ⟨q, vs, rfl, .inl s1, s2⟩
theorem da_star (ha : DE g X a wa) (hr : DA g X es wr) (hs : starEach (.Starred a p :: es) X.env = (true, eval a X.env) :: starEach es X.env := by rfl) : DA g X (.Starred a p :: es) (aS wa wr) := ⟨fun gd W tk => PAw (StX.pa_star (ha.run gd W tk) (hr.run gd W tk) hs) fun σ H Q h => by
  obtain ⟨B, ρ, μ, Q0, E0, rel, hw, hq, hx⟩ := h
  refine tD.go rel hw hx fun d μ1 v B1 H1 k1 n1 r1 => ?_
  obtain ⟨xs, hd, k1⟩ := k1
  obtain ⟨q, vs, rfl, s1, s2⟩ := r1.seq n1.bs hd
  rw [gd.k]
  refine ⟨q, vs, rfl, s1, tDA.go (rel.nm n1) k1 (hx.nx n1) fun ds μ2 us B2 H2 k2 n2 r2 => ?_⟩
  exact hq _ _ k2 _ B2 H2 (n1.trans n2) ((s2.up n2.up).app r2)⟩
/-- x(*y) -/
theorem de_callS1 {k : Nat} {f : Addr} {c : Ct} (F : DFn X.prog X.w X.K X.mg X.base g k f c) (hr : Room k X.A) (hg : Gl X x) (hm : X.mg x = some (.ref f)) (hk : PySem.W.keepIn X.K (.ref f) = true) (he : DE g X e we)
    (hdb : (x == ("__debug__" : Str)) = false := by decide) (hst : starEach [.Starred e p] X.env = [(true, eval e X.env)] := by rfl) :
    DE g X (.Call (.Name x apos) [.Starred e p] [] pos) (wCall c (aS we aN)) := ⟨fun gd W tk => ⟨fun pins s σ H Q I h => by
  obtain ⟨B, ρ, μ, Q0, E0, rel, hw, hq, hx⟩ := h
  refine wpAny_Call_Name_kw (ld_glob I hg hm ?_ hdb)
  refine PySem.W.callWith_S (h₀ := X.base) I.ok.mod.kin hk (thn ((he.run gd W tk).run pins s σ H (fun v H1 => ∃ d B1 μ1 xs, Nm g B H B1 H1 μ1 ∧ Rp g B1 v d ∧ (d = .lst xs ∨ d = .tup xs) ∧ c xs μ1 Q0 E0) I (tD.go rel hw hx fun d μ1 v B1 H1 k n r => by
    obtain ⟨xs, hd, k⟩ := k
    have k : c (xs ++ []) μ1 Q0 E0 := k
    rw [List.append_nil] at k
    exact ⟨d, B1, μ1, xs, n, r, hd, k⟩)) fun v s1 ⟨y, H1, I1, ry, d, B1, μ1, xs, n, r, hd, hc⟩ => ?_) hst
  obtain ⟨q, vs, rfl, s1', s2⟩ := r.seq n.bs hd
  obtain rfl : v = Value.ref q := ry
  refine StX.star_any (by exact I1) (by rw [gd.k]; exact s1') fun us s2' I2 rv => ⟨I2.kIn, ?_⟩
  exact run_d F hr gd tk I2 rv n.bs n.mu s2 hc (fun d _ h v B' H' n' r' => hq d _ h v B' H' (n.trans n') r') (hx.nx n)⟩⟩
theorem de_calS {k : Nat} {c : Ct} (F : CalO X.prog X.w X.K X.mg X.base g k x c) (hr : Room k X.A) (he : DE g X e we) (hg : Gl X x := by rfl)
    (hdb : (x == ("__debug__" : Str)) = false := by decide) (hst : starEach [.Starred e p] X.env = [(true, eval e X.env)] := by rfl) :
    DE g X (.Call (.Name x apos) [.Starred e p] [] pos) (wCall c (aS we aN)) := by
  obtain ⟨f, F1, F2, F3⟩ := F.ex
  exact de_callS1 F1 hr hg F2 F3 he hdb hst
/-! ### a static method -/
structure StF (P : Program) (w : World) (K : PySem.W.Frag) (mg : Str → Option Value) (base : Heap) (g : G) (cn m : Str) (k : Nat) (c : Ct) : Prop where
  ex : ∃ C mc q f rest, mg cn = some (.ref C) ∧ ClX.CRead K C mc ∧ PySem.W.findCls K (.ref C) mc m = some (.get (.builtin "staticmethod.__get__") (.ref q) .none (.ref C)) ∧ PySem.W.recIn K q "staticmethod" = some (.ref f :: rest) ∧ PySem.W.keepIn K (.ref f) = true ∧ DFn P w K mg base g k f c
theorem stF_of {P : Program} {w : World} {K : PySem.W.Frag} {mg : Str → Option Value} {base : Heap} {g : G} {cn m : Str} {k : Nat} {c : Ct} {C : Addr} (h : StC K C m) (hm : mg cn = some (.ref C)) (hk : PySem.W.keepIn K (.ref (sga K C m)) = true) (F : DFn P w K mg base g k (sga K C m) c) : StF P w K mg base g cn m k c := by
  obtain ⟨rest, hr⟩ := h.rc
  exact ⟨C, .type "type", _, _, rest, hm, ⟨h.rd, h.ga⟩, h.at_, hr, hk, F⟩
theorem de_stat {cn m : Str} {k : Nat} {c : Ct} {pl : Sem Bool} (F : StF X.prog X.w X.K X.mg X.base g cn m k c) (hr : Room k X.A) (ha : DA g X (e :: es) w) (hg : Gl X cn := by rfl)
    (hdb : (cn == ("__debug__" : Str)) = false := by decide) (he : starEach (e :: es) X.env = (false, eval e X.env) :: starEach es X.env := by rfl) (hpl : (backTo pos (starEach es X.env)).any (·.1) = false := by rfl)
    (ht : eval (.Call (.Attribute (.Name cn p) m apos) (e :: es) [] pos) X.env = (do
      let ov ← eval (.Name cn p) X.env
      standAt apos.atName
      let (f, first) ← holding [ov] (getMethod ov m pl)
      callWith pos f first (backTo pos (starEach (e :: es) X.env)) (backToKw pos (keywordEach [] X.env))) := by rfl) :
    DE g X (.Call (.Attribute (.Name cn p) m apos) (e :: es) [] pos) (wCall c w) := ⟨fun gd W tk => ⟨fun pins s σ H Q I h => by
  obtain ⟨C, mc, q, f, rest, hm, cr, hf, hp, hk, DF⟩ := F.ex
  obtain ⟨B, ρ, μ, Q0, E0, rel, hw, hq, hx⟩ := h
  refine PySem.W.methodCall_KW (pl := pl) (thn ((pe_glob (v := .ref C) hg hm rfl hdb).run pins s σ H (fun v H1 => v = .ref C ∧ H1 = H) I ⟨rfl, rfl⟩) fun u s1 ⟨y, H1, I1, ry, ey, eH⟩ => ?_) ht
  subst ey eH
  obtain rfl : u = Value.ref C := ry
  refine PySem.W.method_cls I1.kIn cr.ga (PySem.W.cls_bind I1.kIn cr.rd hf (wpAny_call (PySem.W.sm_get (s := { s1 with toks := s1.toks + 1 }) (by exact I1.kIn) hp (PySem.W.handed_on rfl ?_))))
  have I2 : Inv X pins σ H1 { s1 with toks := s1.toks + 1 } := I1.tok _
  refine PySem.W.callWith_K (h₀ := X.base) I2.ok.mod.kin hk (thn ((ha.run gd W tk).run pos pins _ σ H1 (fun vs H1' => ∃ ds B1 μ1, Nm g B H1 B1 H1' μ1 ∧ RpA g B1 vs ds ∧ c ds μ1 Q0 E0) I2 (tDA.go rel hw hx fun ds μ1 vs B1 H1 k n r => ⟨ds, B1, μ1, n, r, k⟩)) fun us s3 ⟨vs, H3, I3, r, ds, B1, μ1, n, ra, hc⟩ => ⟨I3.kIn, ?_⟩) he hpl
  exact run_d DF hr gd tk I3 r n.bs n.mu ra hc (fun d _ h v B' H' n' r' => hq d _ h v B' H' (n.trans n') r') (hx.nx n)⟩⟩
/-! ### texts and numbers -/
def fIntS : Fn := fun ds Q => ∃ a n, ds = [.str a] ∧ PySem.intText? a = some n ∧ a.length ≤ 640 ∧ Q (.int n)
theorem de_intS (hb : Blt X "int") (ha : DA g X (e :: es) w) (he : starEach (e :: es) X.env = (false, eval e X.env) :: starEach es X.env := by rfl) (hpl : (backTo pos (starEach es X.env)).any (·.1) = false := by rfl) : DE g X (.Call (.Name "int" p) (e :: es) [] pos) (wN fIntS w) :=
  de_callTy (fun _ => call_int_str) (fun gd {B H xs ds Q0 Q} b r hf hq => by
    obtain ⟨a, n, rfl, h1, h2, q⟩ := hf
    obtain ⟨v, rfl, q1⟩ := r.one
    cases q1
    exact ⟨a, n, rfl, h1, h2, hq _ q _ B H b.rf (.int _)⟩) hb.1 hb.2 PyProof.Rows.Boot.«int» ha (by decide) (by decide) he hpl
/-- xs.index(x), texts -/
def wIndex (o e : We) : We := fun ρ μ Q E => o ρ μ (fun d μ => ∃ ys : List Str, d = .lst (ys.map .str) ∧ e ρ μ (fun d2 μ => ∃ z j, d2 = .str z ∧ ys[j]? = some z ∧ (∀ m, m < j → ys[m]? ≠ some z) ∧ Q (.int (j : Nat)) μ) E) E
theorem de_index (ho : DE g X o wo) (he : DE g X e we) (hbase : attributeBase o "index" X.env (eval o X.env) = eval o X.env := by rfl)
    (hfew : ((backTo pos (starEach (e :: []) X.env)).all (fun x => !x.1) && (backToKw pos (keywordEach [] X.env)).all (fun x => x.1.isSome)
      && decide ((e :: []).length + ([] : List Keyword).length + (if ([] : List Keyword).isEmpty then 0 else 1) < 30)) = true := by rfl)
    (hline : (apos.endLine == pos.line) = true := by rfl) (hs : starEach (e :: []) X.env = (false, eval e X.env) :: starEach [] X.env := by rfl) (hpl : (backTo pos (starEach [] X.env)).any (·.1) = false := by rfl) :
    DE g X (.Call (.Attribute o "index" apos) [e] [] pos) (wIndex wo we) := ⟨fun gd W tk => PEw (pe_bm PySem.F.plainAttrs_list PySem.F.slot_list_index PySem.F.type_list_index mt_index (ho.run gd W tk) (pa_cons (he.run gd W tk) pa_nil hs) hbase hfew hline hs hpl) fun σ H Q h => by
  obtain ⟨B, ρ, μ, Q0, E0, rel, hw, hq, hx⟩ := h
  refine tD.go rel hw hx fun d μ1 v B1 H1 k1 n1 r1 => ?_
  obtain ⟨ys, rfl, k1⟩ := k1
  obtain ⟨q, vs, rfl, s1, s2⟩ := r1.sq n1.bs
  rw [s2.strs_inv] at s1
  refine ⟨.inl ⟨rfl, _, by rw [gd.k]; exact s1⟩, tD.go (rel.nm n1) k1 (hx.nx n1) fun d2 μ2 v2 B2 H2 k2 n2 r2 => ?_⟩
  obtain ⟨z, j, rfl, h1, h2, k2⟩ := k2
  cases r2
  obtain ⟨q', vs', eq, s1', s2'⟩ := (r1.up n2.up).sq n2.bs
  cases eq
  rw [s2'.strs_inv] at s1'
  refine ⟨q, ys.map V.str, .str z, j, .str z, rfl, rfl, by rw [gd.k]; exact s1', rfl, ?_, by rw [List.getElem?_map, h1]; rfl, beq_self_eq_true _, fun m z' hm hz' => ?_, hq _ _ k2 _ B2 H2 (n1.trans n2) (.int _)⟩
  · rw [List.all_eq_true]; intro x hx; obtain ⟨y, _, rfl⟩ := List.mem_map.mp hx; rfl
  · rw [List.getElem?_map] at hz'
    cases e1 : ys[m]? with
    | none => rw [e1] at hz'; cases hz'
    | some y =>
      rw [e1] at hz'
      cases hz'
      have := h2 m hm
      rw [e1] at this
      exact beq_eq_false_iff_ne.mpr fun z => this (by rw [z])⟩
end
/-! ### x.replace("..", "..") in a list behind what makes a text -/
section
def PEG (X : Cx) (e : Expr) (t : TE) : Prop := ∀ (pins : List (Addr × Obj)) (s : Shared) (σ : L2.St) (H : Hp) (Q : VK), Inv X pins σ H s → t σ H Q → wpAny (model X.prog X.w) X.A (eval e X.env) (fun v s' => 1 ≤ s'.toks ∧ EP X pins σ Q v s') X.xe s
def PAT (X : Cx) (es : List Expr) (t : TA) : Prop := ∀ (pos : Pos) (pins : List (Addr × Obj)) (s : Shared) (σ : L2.St) (H : Hp) (Q : List V → Hp → Prop), 1 ≤ s.toks → Inv X pins σ H s → t σ H Q → wpAny (model X.prog X.w) X.A (spliced (backTo pos (starEach es X.env))) (AP X pins σ Q) X.xe s
variable {X : Cx} {a e o : Expr} {es : List Expr} {ta te : TE} {t : TA} {pos p apos c0 c1 : Pos} {j k : Nat} {y z : Str}
theorem peg_op {op : Operator} {r : R2} (ho : OpR X (binaryOp op) r) (ha : PE X a ta) : PEG X (.BinOp a op (.Constant (.str z) j p) pos) (fun σ H Q => ta σ H fun x H1 => r x (.str z) H1 Q) := fun pins s σ H Q I h => by
  refine wpAny_BinOp (thn (ha.run pins s σ H _ I h) fun v s1 ⟨x, H1, I1, r1, q1⟩ => Calls.Constant_str ?_)
  have I2 : Inv X pins σ H1 { s1 with toks := s1.toks + 1 } := I1.tok _
  exact wpAny_mono (PySem.wpAny_toks_of (n := 1) (by show 1 ≤ s1.toks + 1; omega) (ho pins _ σ H1 x (.str z) v (.str z s1.toks) Q I2 r1 ⟨_, rfl⟩ q1)) (fun _ _ z => z) fun _ _ z => z.2
theorem pat_cons (ha : L2.PET X e te) (hr : PAT X es t) (hs : starEach (e :: es) X.env = (false, eval e X.env) :: starEach es X.env := by rfl) : PAT X (e :: es) (tCons te t) := fun pos pins s σ H Q h0 I h => by
  rw [hs]
  show wpAny _ _ (spliced ((false, eval e X.env) :: backTo pos (starEach es X.env))) _ _ s
  refine Calls.spliced_cons (wpAny_mono (PySem.wpAny_toks_of (n := 1) h0 (ha pins s σ H _ (by omega) I h)) (fun u s1 q => ?_) fun _ _ z => z.2)
  obtain ⟨hk, x, H1, I1, r1, q1⟩ := q
  exact thn (hr pos pins s1 σ H1 _ hk I1 q1) fun us s2 ⟨xs, H2, I2, r2, q2⟩ => ⟨x :: xs, H2, I2, .cons r1 r2, q2⟩
theorem pa_consG (ha : PEG X e te) (hr : PAT X es t) (hs : starEach (e :: es) X.env = (false, eval e X.env) :: starEach es X.env := by rfl) : PA X (e :: es) (tCons te t) := ⟨fun pos pins s σ H Q I h => by
  rw [hs]
  show wpAny _ _ (spliced ((false, eval e X.env) :: backTo pos (starEach es X.env))) _ _ s
  refine Calls.spliced_cons (wpAny_mono (ha pins s σ H _ I h) (fun u s1 q => ?_) fun _ _ z => z)
  obtain ⟨hk, x, H1, I1, r1, q1⟩ := q
  exact thn (hr pos pins s1 σ H1 _ hk I1 q1) fun us s2 ⟨xs, H2, I2, r2, q2⟩ => ⟨x :: xs, H2, I2, .cons r1 r2, q2⟩⟩
end
structure DEG (g : G) (X : Cx) (e : Expr) (w : We) : Prop where
  run : Gd g X → ∀ W, Takes X W → PEG X e (tD g W w)
structure DET (g : G) (X : Cx) (e : Expr) (w : We) : Prop where
  run : Gd g X → ∀ W, Takes X W → L2.PET X e (tD g W w)
structure DAT (g : G) (X : Cx) (es : List Expr) (w : Wa) : Prop where
  run : Gd g X → ∀ W, Takes X W → PAT X es (tDA g W w)
def wRepl (y z : Str) (w : We) : We := fun ρ μ Q E => w ρ μ (fun d μ => match d with
  | .str x => x.length + (x.length + 1) * z.length ≤ 16777216 ∧ Q (.str (Txt.replace x y z)) μ
  | _ => False) E
section
variable {g : G} {X : Cx} {a e o : Expr} {es : List Expr} {wa we wo : We} {w : Wa} {pos p apos c0 c1 : Pos} {j k : Nat} {y z : Str}
theorem deg_add (ha : DE g X a wa) : DEG g X (.BinOp a .Add (.Constant (.str z) j p) pos) (w2 fAdd wa (wC (.str z))) := ⟨fun gd W tk pins s σ H Q I h => peg_op op_addA (ha.run gd W tk) pins s σ H Q I (by
  obtain ⟨B, ρ, μ, Q0, E0, rel, hw, hq, hx⟩ := h
  refine tD.go rel hw hx fun d μ1 v B1 H1 k1 n1 r1 => ?_
  have k1 : fAdd d (.str z) (fun z => Q0 z μ1) := k1
  exact f2_add gd.k n1.bs r1 (.str z) k1 fun z hz v3 B3 H3 n3 r3 => hq z _ hz v3 B3 H3 (n1.np n3) r3)⟩
theorem det_of (h : DE g X e we) : DET g X e we := ⟨fun gd W tk => CwR.PET.of (h.run gd W tk)⟩
theorem det_repl (ho : DE g X o wo) (hyz : (y == z) = false := by decide)
    (hst : starEach [.Constant (.str y) j c0, .Constant (.str z) k c1] X.env = [(false, eval (.Constant (.str y) j c0) X.env), (false, eval (.Constant (.str z) k c1) X.env)] := by rfl)
    (hbase : attributeBase o "replace" X.env (eval o X.env) = eval o X.env := by rfl) (hline : (apos.endLine == pos.line) = true := by rfl) :
    DET g X (.Call (.Attribute o "replace" apos) [.Constant (.str y) j c0, .Constant (.str z) k c1] [] pos) (wRepl y z wo) := ⟨fun gd W tk pins s σ H Q h0 I h => CwR.pet_replC (ho.run gd W tk) hyz hst hbase hline pins s σ H Q h0 I (by
  obtain ⟨B, ρ, μ, Q0, E0, rel, hw, hq, hx⟩ := h
  refine tD.go rel hw hx fun d _ v B1 H1 k1 n1 r1 => ?_
  cases d with
  | str x =>
    cases r1
    exact ⟨x, rfl, k1.1, hq _ _ k1.2 _ _ _ n1 (.str _)⟩
  | _ => exact k1.elim)⟩
theorem dat_of (h : DA g X es w) : DAT g X es w := ⟨fun gd W tk pos pins s σ H Q _ I q => (h.run gd W tk).run pos pins s σ H Q I q⟩
theorem dat_cons (ha : DET g X e we) (hr : DAT g X es w) (hs : starEach (e :: es) X.env = (false, eval e X.env) :: starEach es X.env := by rfl) : DAT g X (e :: es) (aC we w) := ⟨fun gd W tk pos pins s σ H Q h0 I h => pat_cons (ha.run gd W tk) (hr.run gd W tk) hs pos pins s σ H Q h0 I (by
  obtain ⟨B, ρ, μ, Q0, E0, rel, hw, hq, hx⟩ := h
  refine tD.go rel hw hx fun d _ v B1 H1 k1 n1 r1 => tDA.go (rel.nm n1) k1 (hx.nx n1) fun ds _ vs B2 H2 k2 n2 r2 => ?_
  exact hq _ _ k2 _ B2 H2 (n1.trans n2) (.cons (r1.up n2.up) r2))⟩
theorem da_consG (ha : DEG g X e we) (hr : DAT g X es w) (hs : starEach (e :: es) X.env = (false, eval e X.env) :: starEach es X.env := by rfl) : DA g X (e :: es) (aC we w) := ⟨fun gd W tk => PAw (pa_consG (ha.run gd W tk) (hr.run gd W tk) hs) fun σ H Q h => by
  obtain ⟨B, ρ, μ, Q0, E0, rel, hw, hq, hx⟩ := h
  refine tD.go rel hw hx fun d _ v B1 H1 k1 n1 r1 => tDA.go (rel.nm n1) k1 (hx.nx n1) fun ds _ vs B2 H2 k2 n2 r2 => ?_
  exact hq _ _ k2 _ B2 H2 (n1.trans n2) (.cons (r1.up n2.up) r2)⟩
end
end Dk
namespace Sk
open PySem PySem.Spec PyProof.Rows L2 Dk He
/-! ### the classes by numbers -/
def clsNm : Nat → Str
  | 0 => "RingError" | 1 => "BadNumbers" | 2 => "BadText" | 3 => "BadNumber" | 4 => "BadRange" | 5 => "TooGreat" | 6 => "BadCount" | 7 => "BadForm" | 8 => "BadPlan" | 9 => "BadKinds"
  | 10 => "Clash" | 11 => "BadThing" | 12 => "BadTable" | 13 => "BadRound" | 14 => "NoKind" | 15 => "BadSeen" | 16 => "Unlike" | 17 => "BadOffers" | 18 => "BadWishes" | 19 => "Over"
  | 20 => "Away" | 21 => "Here" | 22 => "Full" | 23 => "NothingToUndo" | 24 => "NothingToRedo" | 25 => "NoTrial" | 26 => "BadJournal" | 27 => "BadLine"
  | 40 => "Form" | 41 => "Numbers" | 42 => "Counts" | 43 => "Plan" | 44 => "Reader" | 45 => "Course" | 46 => "State" | 47 => "Evening" | 48 => "Block" | 49 => "Trial" | 50 => "Desk"
  | _ => ""
def clsFl : Nat → List Str
  | 40 => ["own_numbers", "own_halves", "own_more"]
  | 41 => ["own_heads", "own_first", "own_period", "own_rests"]
  | 42 => ["own_heads", "own_lines"]
  | 43 => ["own_text", "own_kinds", "own_parts"]
  | 44 => ["own_lines", "at", "own_kinds", "own_parts"]
  | 45 => ["own_number", "own_names", "own_stretches", "own_rounds"]
  | 46 => ["line", "own_told", "own_holders", "own_away"]
  | 47 => ["own_plan", "own_course", "own_past", "own_later", "own_block"]
  | 48 => ["past_then", "later_then", "outer", "word"]
  | 49 => ["own_evening"]
  | 50 => ["own_evening"]
  | _ => []
def gOf (K : PySem.W.Frag) (T : List (Addr × Str)) : G := { K := K, cls := fun n => ga K (clsNm n), flds := clsFl, T := T }
/-- which classes a law's text has: own ones, errors -/
structure Lw where
  cs : List Nat
  es : List Nat
/-! ### isinstance -/
inductive Qt where
  | ty (T : String) | cl (c : Nat)
def Qt.val (g : G) : Qt → Value
  | .ty T => .type T
  | .cl c => .ref (g.cls c)
def bTys : List String := ["NoneType", "bool", "int", "str", "list", "tuple", "dict"]
def isQt (q : Qt) : Kt → Bool
  | .ty T => (match q with
    | .ty r => T == r || (T == "bool" && r == "int")
    | .cl _ => false)
  | .cl c => (match q with
    | .cl d => c == d
    | .ty _ => false)
  | .ex c => (match q with
    | .cl d => c == d || d == 0
    | .ty r => r == "ValueError")
def okL (L : Lw) : Kt → Bool
  | .ty T => bTys.contains T
  | .cl c => L.cs.contains c
  | .ex c => L.es.contains c
def ansQ (L : Lw) (q : Qt) : Kt → Option Bool := fun t => if okL L t then some (isQt q t) else none
def kindsOf (L : Lw) : List Kt := bTys.map .ty ++ (L.cs.map .cl ++ L.es.map .ex)
theorem okL_mem {L : Lw} {t : Kt} (h : okL L t = true) : t ∈ kindsOf L := by
  unfold kindsOf
  cases t with
  | ty T => exact List.mem_append_left _ (List.mem_map_of_mem (List.contains_iff_mem.mp h))
  | cl c => exact List.mem_append_right _ (List.mem_append_left _ (List.mem_map_of_mem (List.contains_iff_mem.mp h)))
  | ex c => exact List.mem_append_right _ (List.mem_append_right _ (List.mem_map_of_mem (List.contains_iff_mem.mp h)))
def isB (g : G) (L : Lw) (q : Qt) : Bool := (kindsOf L).all fun t => decide (PySem.W.kitOne g.K (t.val g) (q.val g) = some (isQt q t))
theorem isA_of {g : G} {L : Lw} {q : Qt} (h : isB g L q = true) (hk : KnC g g.K (okL L)) : IsA g g.K (ansQ L q) (q.val g) where
  one := fun t b e => by
    unfold ansQ at e
    by_cases z : okL L t = true
    · rw [if_pos z] at e
      cases e
      exact of_decide_eq_true (List.all_eq_true.mp h t (okL_mem z))
    · rw [if_neg z] at e; cases e
  cl := fun c b e => hk.cl c (by
    unfold ansQ at e
    by_cases z : okL L (.cl c) = true
    · exact z
    · rw [if_neg z] at e; cases e)
  ex := fun c b e => hk.ex c (by
    unfold ansQ at e
    by_cases z : okL L (.ex c) = true
    · exact z
    · rw [if_neg z] at e; cases e)
/-- a value whose kind the law's text knows -/
def Okd (L : Lw) (d : D) : Prop := ∃ t, kty d = some t ∧ okL L t = true
def isQ (q : Qt) (d : D) : Bool := match kty d with
  | some t => isQt q t
  | none => false
theorem isi_use {L : Lw} {q : Qt} {d : D} (h : Okd L d) {Q : Bool → Prop} (k : Q (isQ q d)) : ∃ t b, kty d = some t ∧ ansQ L q t = some b ∧ Q b := by
  obtain ⟨t, e, z⟩ := h
  refine ⟨t, isQt q t, e, if_pos z, ?_⟩
  unfold isQ at k
  rw [e] at k
  exact k
theorem okd_int {L : Lw} {i : Int} : Okd L (.int i) := ⟨.ty "int", rfl, (by decide : bTys.contains "int" = true)⟩
theorem okd_bl {L : Lw} {b : Bool} : Okd L (.bl b) := ⟨.ty "bool", rfl, (by decide : bTys.contains "bool" = true)⟩
theorem okd_str {L : Lw} {z : Str} : Okd L (.str z) := ⟨.ty "str", rfl, (by decide : bTys.contains "str" = true)⟩
theorem okd_non {L : Lw} : Okd L .non := ⟨.ty "NoneType", rfl, (by decide : bTys.contains "NoneType" = true)⟩
theorem okd_lst {L : Lw} {xs : List D} : Okd L (.lst xs) := ⟨.ty "list", rfl, (by decide : bTys.contains "list" = true)⟩
theorem okd_tup {L : Lw} {xs : List D} : Okd L (.tup xs) := ⟨.ty "tuple", rfl, (by decide : bTys.contains "tuple" = true)⟩
theorem okd_dic {L : Lw} {ks : List Key} {xs : List D} : Okd L (.dic ks xs) := ⟨.ty "dict", rfl, (by decide : bTys.contains "dict" = true)⟩
theorem okd_obj {L : Lw} {c : Nat} {xs : List D} (h : L.cs.contains c = true) : Okd L (.obj c xs) := ⟨.cl c, rfl, h⟩
theorem okd_exc {L : Lw} {c : Nat} {d : D} (h : L.es.contains c = true) : Okd L (.exc c d) := ⟨.ex c, rfl, h⟩
/-! ### facts of many classes -/
def excsB (K : PySem.W.Frag) (L : Lw) : Bool := L.es.all fun c => excB K (ga K (clsNm c))
def clsB (K : PySem.W.Frag) (L : Lw) : Bool := L.cs.all fun c => clB K (clsNm c)
theorem knC_of {K : PySem.W.Frag} {T : List (Addr × Str)} {L : Lw} (h1 : clsB K L = true) (h2 : excsB K L = true) : KnC (gOf K T) K (okL L) where
  cl := fun c h => (clB_ok (List.all_eq_true.mp h1 c (List.contains_iff_mem.mp h))).is_
  ex := fun c h => excB_ok (List.all_eq_true.mp h2 c (List.contains_iff_mem.mp h))
/-- beside an instance of c no other kind goes first -/
def nfB (g : G) (L : Lw) (c : Nat) : Bool := (kindsOf L).all fun t => PySem.W.notFirst g.K (g.cls c) (t.val g)
theorem nf_of {g : G} {L : Lw} {c : Nat} (h : nfB g L c = true) : ∀ t, okL L t = true → PySem.W.notFirst g.K (g.cls c) (t.val g) = true := fun t z => List.all_eq_true.mp h t (okL_mem z)
end Sk
namespace Sk
open PySem PySem.Spec PyProof.Rows L2 Dk He
/-! ### facts by lists -/
def exG (fas : List Fa) (oths : List (PySem.W.Frag → Bool)) (K : PySem.W.Frag) : Bool := fas.all (fun f => f.ok K) && oths.all fun f => f K
section
variable {h : Heap} {K : PySem.W.Frag} {dqs : List DefQ} {tfs : List Whr} {fas : List Fa} {oths : List (PySem.W.Frag → Bool)} {rg : PySem.W.Frag → FnX} {rv : FnX}
theorem factG (c : SaysK dqs tfs (exG fas oths) rg rv h K) (i : Nat) {f : Fa} (e : fas[i]? = some f) : f.ok K = true := List.all_eq_true.mp (ba (show (fas.all (fun f => f.ok K) && oths.all fun f => f K) = true from c.more)).1 f (List.mem_of_getElem? e)
theorem othG (c : SaysK dqs tfs (exG fas oths) rg rv h K) (i : Nat) {f : PySem.W.Frag → Bool} (e : oths[i]? = some f) : f K = true := List.all_eq_true.mp (ba (show (fas.all (fun f => f.ok K) && oths.all fun f => f K) = true from c.more)).2 f (List.mem_of_getElem? e)
theorem fdqG (c : SaysK dqs tfs (exG fas oths) rg rv h K) (i : Nat) {d : DefQ} {ps : List Str} (e : dqs[i]? = some d) (hd : d.dfl = [])
    (hb : ∀ (kV doc pm : Value) (an : Option Addr) (cdv ct : Value) (us : List Value), us.length = ps.length → bindArgs (PySem.W.fnOf d.name d.qual (defArgs d.st) (defBody d.st) (defScope d.st) .none kV doc pm an cdv ct) ⟨us, []⟩ = pure (ps.zip us)) : FnF K d.name d.qual d.st ps (d.wh.at_ K) (.ref (cdA K (d.wh.at_ K))) :=
  fnf_of (c.txt d (List.mem_of_getElem? e)) (c.ok d (List.mem_of_getElem? e)) hd hb
end
end Sk
namespace Sk
open PySem PySem.Spec PyProof.Rows L2 Dk He
/-! ### words -/
def _root_.Dk.D.isInt : D → Bool
  | .int _ => true
  | _ => false
def ct_is_integer (L : Lw) : Ct := fun ds μ Q E => ∃ d, ds = [d] ∧ Okd L d ∧ Q (.bl d.isInt) μ
abbrev N_is_integer : List Str := ["value"]
def wb_is_integer (L : Lw) : Ws :=
    (sRet (wAn (wIsi (ansQ L (.ty "int")) (wV 0)) (wNt (wIsi (ansQ L (.ty "bool")) (wV 0)))))
theorem isInt_eq {L : Lw} {d : D} (h : Okd L d) : (isQ (.ty "int") d && !isQ (.ty "bool") d) = d.isInt := by
  obtain ⟨t, e, z⟩ := h
  unfold isQ
  cases d <;> first | (cases e; done) | (cases e; rfl)
theorem data_is_integer (L : Lw) {ds : List D} {μ : Mu} {Q : D → Mu → Prop} {E : Ek} (h : ct_is_integer L ds μ Q E) : wb_is_integer L (deOf Q E) (startR N_is_integer ds) μ := by
  obtain ⟨d, rfl, hd, q⟩ := h
  rw [← isInt_eq hd] at q
  refine isi_use (Q := fun b => _) hd ?_
  cases h1 : isQ (.ty "int") d with
  | true =>
    rw [h1, Bool.true_and] at q
    exact isi_use (Q := fun b => Q (.bl (!b)) μ) hd q
  | false =>
    rw [h1, Bool.false_and] at q
    exact q
def btw (d : D) (l h : Int) : Bool := match d with
  | .int i => decide (l ≤ i) && decide (i ≤ h)
  | _ => false
def ct_is_between (L : Lw) : Ct := fun ds μ Q E => ∃ d l h, ds = [d, .int l, .int h] ∧ Okd L d ∧ Q (.bl (btw d l h)) μ
abbrev N_is_between : List Str := ["value", "low", "high"]
def wb_is_between (L : Lw) : Ws :=
    (sRet (wAn (wCall (ct_is_integer L) (aC (wV 0) aN)) (w3 fLe fLe (wV 1) (wV 0) (wV 2))))
theorem mb_and {a b : Bool} {Q : D → Mu → Prop} {μ : Mu} (q : Q (.bl (a && b)) μ) : (match D.bl a with
    | .bl true => Q (.bl b) μ
    | .bl false => Q (.bl false) μ
    | _ => False) := by
  cases a with
  | true => rw [Bool.true_and] at q; exact q
  | false => rw [Bool.false_and] at q; exact q
theorem data_is_between (L : Lw) {ds : List D} {μ : Mu} {Q : D → Mu → Prop} {E : Ek} (h : ct_is_between L ds μ Q E) : wb_is_between L (deOf Q E) (startR N_is_between ds) μ := by
  obtain ⟨d, l, h, rfl, hd, q⟩ := h
  refine ⟨d, rfl, hd, ?_⟩
  cases d with
  | int i => exact mb_and q
  | _ => exact q
def ascD : List D → Bool
  | .int a :: .int b :: r => decide (a < b) && ascD (.int b :: r)
  | _ => true
def ct_do_ascend (L : Lw) : Ct := fun ds μ Q E => ∃ (ns : List Int) (d : D), (d = .tup (ns.map .int) ∨ d = .lst (ns.map .int)) ∧ ds = [d] ∧ ns.length ≤ sizeLine ∧ Q (.bl (ascD (ns.map .int))) μ
abbrev N_do_ascend : List Str := ["values", "one", "other"]
def wb_do_ascend (L : Lw) : Ws :=
    (sRet (wN fAll (aC (wL (wLc (iZp (aC (wV 0) (aC (wSl (wV 0) (pS (wC (.int 1))) pN) aN))) (gT [1, 2]) tY (w2 fLt (wV 1) (wV 2)) [1, 2])) aN)))
theorem fAll_f {α : Type} {xs : List α} {p : α → Bool} {Q : D → Prop} : fAll [.lst (xs.map fun x => .bl (p x))] Q = Q (.bl (xs.all p)) := by
  have e : (xs.map fun x => D.bl (p x)) = (xs.map p).map D.bl := by rw [List.map_map]; rfl
  rw [e, fAll_l, List.all_map]
  rfl
theorem fAny_f {α : Type} {xs : List α} {p : α → Bool} {Q : D → Prop} : fAny [.lst (xs.map fun x => .bl (p x))] Q = Q (.bl (xs.any p)) := by
  have e : (xs.map fun x => D.bl (p x)) = (xs.map p).map D.bl := by rw [List.map_map]; rfl
  rw [e, fAny_l, List.any_map]
  rfl
theorem cutD_from {α : Type} (xs : List α) (k : Nat) : Dk.cutD xs (some (k : Int)) none = xs.drop k := by
  unfold Dk.cutD
  rw [HT.sIx_nat, HT.sIx_none]
  by_cases h : k ≤ xs.length
  · rw [Nat.min_eq_left h, List.take_of_length_le (by rw [List.length_drop]; exact Nat.le_refl _)]
  · rw [Nat.min_eq_right (by omega), List.drop_length, List.drop_eq_nil_of_le (by omega)]
    simp
theorem cutD_to {α : Type} (xs : List α) (k : Nat) : Dk.cutD xs none (some (k : Int)) = xs.take k := by
  unfold Dk.cutD
  rw [HT.sIx_nat, HT.sIx_none, List.drop_zero, Nat.sub_zero]
  by_cases h : k ≤ xs.length
  · rw [Nat.min_eq_left h]
  · rw [Nat.min_eq_right (by omega), List.take_length, List.take_of_length_le (by omega)]
theorem zp_map {α β : Type} (f : α → D) (g : β → D) : ∀ (xs : List α) (ys : List β), zpD (xs.map f) (ys.map g) = (xs.zip ys).map fun p => .tup [f p.1, g p.2]
  | [], _ => by simp [zpD]
  | _ :: _, [] => by simp [zpD]
  | x :: xs, y :: ys => by
    rw [List.map_cons, List.map_cons, List.zip_cons_cons, List.map_cons, ← zp_map f g xs ys]
    rfl
theorem asc_zip : ∀ ns : List Int, (ns.zip (ns.drop 1)).all (fun p => decide (p.1 < p.2)) = ascD (ns.map .int)
  | [] => rfl
  | [_] => rfl
  | a :: b :: r => by
    have := asc_zip (b :: r)
    show (((a, b) :: (b :: r).zip r).all _) = (decide (a < b) && ascD ((b :: r).map .int))
    rw [List.all_cons, ← this]
    rfl
theorem data_do_ascend (L : Lw) {ds : List D} {μ : Mu} {Q : D → Mu → Prop} {E : Ek} (h : ct_do_ascend L ds μ Q E) : wb_do_ascend L (deOf Q E) (startR N_do_ascend ds) μ := by
  obtain ⟨ns, d, hd, rfl, hl, q⟩ := h
  rw [← asc_zip] at q
  have e : zpD (ns.map .int) (Dk.cutD (ns.map .int) (some 1) none) = (ns.zip (ns.drop 1)).map fun p => .tup [.int p.1, .int p.2] := by
    rw [show (1 : Int) = ((1 : Nat) : Int) from rfl, cutD_from, ← List.map_drop, zp_map]
  have hl2 : (ns.zip (ns.drop 1)).length ≤ sizeLine := by rw [List.length_zip]; omega
  rcases hd with rfl | rfl
  · refine lcL_map (enc := fun p : Int × Int => .tup [.int p.1, .int p.2]) (f := fun p : Int × Int => .bl (decide (p.1 < p.2))) (ns.zip (ns.drop 1)) e (fun p _ P h => ⟨rfl, h⟩) hl2 ?_
    unfold aN
    dsimp only
    rw [fAll_f]
    exact q
  · refine lcL_map (enc := fun p : Int × Int => .tup [.int p.1, .int p.2]) (f := fun p : Int × Int => .bl (decide (p.1 < p.2))) (ns.zip (ns.drop 1)) e (fun p _ P h => ⟨rfl, h⟩) hl2 ?_
    unfold aN
    dsimp only
    rw [fAll_f]
    exact q
def _root_.Dk.D.isTup : D → Bool
  | .tup _ => true
  | _ => false
theorem isQ_tup {d : D} : isQ (.ty "tuple") d = d.isTup := by
  cases d <;> rfl
def areNums (d : D) (l h : Int) : Bool := match d with
  | .tup xs => xs.all (fun x => btw x l h) && ascD xs
  | _ => false
theorem btw_ints {l h : Int} : ∀ {xs : List D}, xs.all (fun x => btw x l h) = true → ∃ ns : List Int, xs = ns.map .int ∧ ∀ n ∈ ns, l ≤ n ∧ n ≤ h
  | [], _ => ⟨[], rfl, fun _ z => by cases z⟩
  | x :: xs, e => by
    rw [List.all_cons, Bool.and_eq_true] at e
    obtain ⟨ns, h1, h2⟩ := btw_ints e.2
    cases x with
    | int i =>
      have e1 := e.1
      unfold btw at e1
      rw [Bool.and_eq_true, decide_eq_true_eq, decide_eq_true_eq] at e1
      refine ⟨i :: ns, by rw [h1]; rfl, fun n hn => ?_⟩
      rcases List.mem_cons.mp hn with rfl | hn
      · exact e1
      · exact h2 n hn
    | _ => cases e.1
def ct_are_numbers (L : Lw) : Ct := fun ds μ Q E => ∃ d l h, ds = [d, .int l, .int h] ∧ Okd L d ∧ (∀ xs, d = .tup xs → xs.length ≤ sizeLine ∧ ∀ x ∈ xs, Okd L x) ∧ Q (.bl (areNums d l h)) μ
abbrev N_are_numbers : List Str := ["value", "low", "high", "one"]
def wb_are_numbers (L : Lw) : Ws :=
    (sRet (wAn (wIsi (ansQ L (.ty "tuple")) (wV 0)) (wAn (wN fAll (aC (wL (wLc (iL (wV 0)) (gN 3) tY (wCall (ct_is_between L) (aC (wV 3) (aC (wV 1) (aC (wV 2) aN)))) [3])) aN)) (wCall (ct_do_ascend L) (aC (wV 0) aN)))))
theorem data_are_numbers (L : Lw) {ds : List D} {μ : Mu} {Q : D → Mu → Prop} {E : Ek} (h : ct_are_numbers L ds μ Q E) : wb_are_numbers L (deOf Q E) (startR N_are_numbers ds) μ := by
  obtain ⟨d, l, h, rfl, hd, hx, q⟩ := h
  refine isi_use (Q := fun b => _) hd ?_
  rw [isQ_tup]
  cases d with
  | tup xs =>
    obtain ⟨hl, hk⟩ := hx xs rfl
    refine lcL_map (enc := id) (f := fun x => .bl (btw x l h)) xs (by rw [List.map_id]) (fun x hx P hP => ⟨x, l, h, rfl, hk x hx, hP⟩) hl ?_
    unfold aN
    dsimp only
    rw [fAll_f]
    have q : Q (.bl (xs.all (fun x => btw x l h) && ascD xs)) μ := q
    cases e : xs.all (fun x => btw x l h) with
    | true =>
      rw [e, Bool.true_and] at q
      obtain ⟨ns, rfl, _⟩ := btw_ints e
      exact ⟨ns, _, .inl rfl, rfl, by rw [List.length_map] at hl; exact hl, q⟩
    | false =>
      rw [e, Bool.false_and] at q
      exact q
  | _ => exact q
end Sk
namespace Sk
open PySem PySem.Spec PyProof.Rows L2 Dk He
/-! ### small lemmas -/
theorem atI_nat' {α : Type} {xs : List α} {i : Nat} (h : i < xs.length) : atI xs (i : Int) = some xs[i] := by
  unfold atI ixN
  rw [if_pos (by omega), if_pos (by omega)]
  show xs[(i : Int).toNat]? = _
  rw [Int.toNat_natCast, List.getElem?_eq_getElem h]
theorem atI_int {α : Type} {xs : List α} {z : Int} (h0 : 0 ≤ z) (h : z < xs.length) : ∃ h' : z.toNat < xs.length, atI xs z = some xs[z.toNat] := by
  have h' : z.toNat < xs.length := by omega
  refine ⟨h', ?_⟩
  have := atI_nat' h'
  rw [show ((z.toNat : Nat) : Int) = z by omega] at this
  exact this
theorem fmod_nat (a b : Nat) : ((a : Int).fmod (b : Int)) = ((a % b : Nat) : Int) := by
  rw [Int.fmod_eq_emod_of_nonneg _ (by omega)]
  rfl
theorem rgD_nat (k n : Nat) : rgD (k : Int) n = (List.range' k n).map fun (i : Nat) => D.int (i : Int) := by
  unfold rgD
  rw [List.range'_eq_map_range, List.map_map]
  apply List.map_congr_left
  intro i _
  show D.int _ = D.int _
  congr 1
theorem rgD_nat0 (n : Nat) : rgD 0 n = (List.range n).map fun (i : Nat) => D.int (i : Int) := by
  rw [show (0 : Int) = ((0 : Nat) : Int) from rfl, rgD_nat, List.range_eq_range']
/-! ### the least ring -/
section
variable {α : Type} [DecidableEq α]
def perB (xs : List α) (p : Nat) : Bool := decide (xs.length % p = 0) && (List.range xs.length).all fun i => decide (xs[i]? = xs[i % p]?)
def lperL (xs : List α) : Nat := ((List.range' 1 (xs.length - 1)).find? (perB xs)).getD xs.length
def lringL (xs : List α) : List α := xs.take (lperL xs)
theorem lper_at {xs : List α} {k : Nat} (h1 : 1 ≤ k) (hn : k < xs.length) (h : perB xs k = true) (hb : ∀ p, 1 ≤ p → p < k → perB xs p = false) : lperL xs = k := by
  unfold lperL
  have : (List.range' 1 (xs.length - 1)).find? (perB xs) = some k := by
    rw [List.find?_eq_some_iff_append]
    refine ⟨h, List.range' 1 (k - 1), List.range' (k + 1) (xs.length - 1 - k), ?_, fun p hp => ?_⟩
    · rw [show k :: List.range' (k + 1) (xs.length - 1 - k) = List.range' k (xs.length - k) by
        rw [show xs.length - k = (xs.length - 1 - k) + 1 by omega, List.range'_succ]]
      have := List.range'_append (s := 1) (m := k - 1) (n := xs.length - k) (step := 1)
      rw [show 1 + 1 * (k - 1) = k by omega] at this
      rw [this]
      congr 1
      omega
    · rw [List.mem_range'_1] at hp
      rw [hb p hp.1 (by omega)]
      rfl
  rw [this]
  rfl
theorem lper_none {xs : List α} (hb : ∀ p, 1 ≤ p → p < xs.length → perB xs p = false) : lperL xs = xs.length := by
  unfold lperL
  have : (List.range' 1 (xs.length - 1)).find? (perB xs) = none := by
    rw [List.find?_eq_none]
    intro p hp
    rw [List.mem_range'_1] at hp
    rw [hb p hp.1 (by omega)]
    exact Bool.false_ne_true
  rw [this]
  rfl
end
def ct_least_ring (L : Lw) : Ct := fun ds μ Q E => ∃ (α : Type) (_ : DecidableEq α) (enc : α → D) (xs : List α), ds = [.lst (xs.map enc)] ∧ (∀ x ∈ xs, ∀ y ∈ xs, eqD (enc x) (enc y) = some (decide (x = y))) ∧ xs.length ≤ 1000000 ∧ Q (.lst ((lringL xs).map enc)) μ
abbrev N_least_ring : List Str := ["ring", "many", "period", "at"]
def wb_least_ring (L : Lw) : Ws :=
    (sQ (sSet 1 (wN fLen (aC (wV 0) aN)))
    (sQ (sFor (iR2 (aC (wC (.int 1)) (aC (wV 1) aN))) (gN 2) (sIf (tAn (tB0 (w2 fEq (w2 fMod (wV 1) (wV 2)) (wC (.int 0)))) (tB0 (wN fAll (aC (wL (wLc (iR1 (aC (wV 1) aN)) (gN 3) tY (w2 fEq (w2 fIx (wV 0) (wV 3)) (w2 fIx (wV 0) (w2 fMod (wV 3) (wV 2)))) [3])) aN)))) (sRet (wSl (wV 0) pN (pS (wV 2)))) sN))
    (sRet (wV 0))))
theorem data_least_ring (L : Lw) {ds : List D} {μ : Mu} {Q : D → Mu → Prop} {E : Ek} (h : ct_least_ring L ds μ Q E) : wb_least_ring L (deOf Q E) (startR N_least_ring ds) μ := by
  obtain ⟨α, inst, enc, xs, rfl, he, hl, q⟩ := h
  refine .inr (.inl ⟨xs.map enc, rfl, ⟨by decide, by decide, by rw [List.length_map]; omega, by rw [List.length_map]; omega⟩, ?_⟩)
  have hn : ((xs.map enc).length : Int) = (xs.length : Int) := by rw [List.length_map]
  have hr : rgD 1 (((xs.map enc).length : Int) - 1).toNat = (List.range' 1 (xs.length - 1)).map fun (i : Nat) => D.int (i : Int) := by
    rw [hn, show ((xs.length : Int) - 1).toNat = xs.length - 1 by omega]
    exact rgD_nat 1 _
  dsimp only
  rw [hr, hn]
  refine forL_inv (fun rest ρ μ' => μ' = μ ∧ ∃ k, 1 ≤ k ∧ rest = (List.range' k (xs.length - k)).map (fun (i : Nat) => D.int (i : Int)) ∧ (∃ a b, ρ = [.sh (.lst (xs.map enc)), .sh (.int xs.length), a, b]) ∧ ∀ p, 1 ≤ p → p < k → perB xs p = false) ?_ ?_ ⟨rfl, 1, Nat.le_refl _, rfl, ⟨_, _, rfl⟩, fun p h1 h2 => by omega⟩
  · rintro d rest ρ μ' N ⟨rfl, k, hk, hd, ⟨a, b, rfl⟩, hb⟩ hN
    have hkn : k < xs.length := by
      cases e : xs.length - k with
      | zero => rw [e] at hd; cases hd
      | succ m => omega
    rw [show xs.length - k = (xs.length - (k + 1)) + 1 by omega, List.range'_succ, List.map_cons] at hd
    injection hd with hd1 hd2
    subst hd1
    have hb' : perB xs k = false → ∀ p, 1 ≤ p → p < k + 1 → perB xs p = false := fun hf p h1 h2 => by
      by_cases e : p = k
      · rw [e]; exact hf
      · exact hb p h1 (by omega)
    refine ⟨by omega, ?_⟩
    show (match decide (((xs.length : Int).fmod (k : Int)) = 0) with | true => _ | false => _)
    rw [fmod_nat]
    by_cases h0 : xs.length % k = 0
    · rw [decide_eq_true (by rw [h0]; rfl)]
      refine ⟨by omega, by omega, ?_⟩
      refine lcL_map (enc := fun (i : Nat) => D.int (i : Int)) (f := fun (i : Nat) => .bl (decide (xs[i]? = xs[i % k]?))) (List.range xs.length) (by exact rgD_nat0 _) (fun i hi P hP => ?_) ?_ ?_
      · have hi := List.mem_range.mp hi
        have hi2 : i % k < xs.length := Nat.lt_of_le_of_lt (Nat.mod_le _ _) hi
        show (match atI (xs.map enc) (i : Int) with | some z => _ | none => False)
        rw [atI_nat' (by rw [List.length_map]; exact hi)]
        refine ⟨by omega, ?_⟩
        show (match atI (xs.map enc) ((i : Int).fmod (k : Int)) with | some z => _ | none => False)
        rw [fmod_nat, atI_nat' (by rw [List.length_map]; exact hi2), List.getElem_map, List.getElem_map]
        show (match eqD (enc xs[i]) (enc xs[i % k]) with | some b => _ | none => False)
        rw [he _ (List.getElem_mem _) _ (List.getElem_mem _)]
        rw [List.getElem?_eq_getElem hi, List.getElem?_eq_getElem hi2] at hP
        have e : decide (some xs[i] = some xs[i % k]) = decide (xs[i] = xs[i % k]) := decide_eq_decide.mpr ⟨fun h => Option.some.inj h, fun h => by rw [h]⟩
        rw [e] at hP
        exact hP
      · rw [List.length_range]; exact Nat.le_trans hl (by decide)
      · unfold aN
        dsimp only
        rw [fAll_f]
        have hp : perB xs k = (List.range xs.length).all fun i => decide (xs[i]? = xs[i % k]?) := by
          unfold perB
          rw [decide_eq_true h0, Bool.true_and]
        rw [← hp]
        cases e : perB xs k with
        | true =>
          show Q (.lst (Dk.cutD (xs.map enc) none (some (k : Int)))) μ'
          rw [cutD_to, ← List.map_take]
          rw [show xs.take k = lringL xs by unfold lringL; rw [lper_at hk hkn e hb]]
          exact q
        | false => exact hN _ _ ⟨rfl, k + 1, by omega, hd2, ⟨_, _, rfl⟩, hb' e⟩
    · rw [decide_eq_false (by omega)]
      exact hN _ _ ⟨rfl, k + 1, by omega, hd2, ⟨_, _, rfl⟩, hb' (by unfold perB; rw [decide_eq_false h0, Bool.false_and])⟩
  · rintro ρ μ' ⟨rfl, k, hk, hd, ⟨a, b, rfl⟩, hb⟩
    have hkn : xs.length ≤ k := by
      cases e : xs.length - k with
      | zero => omega
      | succ m => rw [e, List.range'_succ] at hd; cases hd
    show Q (.lst (xs.map enc)) μ'
    have : lringL xs = xs := by
      unfold lringL
      rw [lper_none fun p h1 h2 => hb p h1 (by omega), List.take_length]
    rw [this] at q
    exact q
end Sk
namespace Sk
open PySem PySem.Spec PyProof.Rows L2 Dk He
theorem eqD_bl (a b : Bool) : eqD (.bl a) (.bl b) = some (decide (a = b)) := by
  cases a <;> cases b <;> rfl
theorem eqD_int (a b : Int) : eqD (.int a) (.int b) = some (decide (a = b)) := by
  show some (a == b) = some (decide (a = b))
  congr 1
/-- the round that marks begin at the first number, by rests -/
def ringIx (F P r : Nat) : Nat := F - 1 + (((r : Int) - (F : Int)).fmod (P : Int)).toNat
def ringL (bs : List Bool) (F : Nat) : List Bool := (List.range (bs.length - F + 1)).map fun r => bs.getD (ringIx F (bs.length - F + 1) r) false
theorem ringIx_lt {F P r : Nat} (hF : 1 ≤ F) (hP : 1 ≤ P) : ringIx F P r < F - 1 + P := by
  unfold ringIx
  have h1 := Int.fmod_nonneg_of_pos ((r : Int) - (F : Int)) (show (0 : Int) < (P : Int) by omega)
  have h2 := Int.fmod_lt_of_pos ((r : Int) - (F : Int)) (show (0 : Int) < (P : Int) by omega)
  omega
def ct_ring_of (L : Lw) : Ct := fun ds μ Q E => ∃ (bs : List Bool) (F : Nat), ds = [.lst (bs.map .bl), .int F] ∧ 1 ≤ F ∧ F ≤ bs.length ∧ bs.length ≤ 1000000 ∧ Q (.lst ((lringL (ringL bs F)).map .bl)) μ
abbrev N_ring_of : List Str := ["marks", "first", "period", "rest"]
def wb_ring_of (L : Lw) : Ws :=
    (sQ (sSet 2 (w2 fAdd (w2 fSub (wN fLen (aC (wV 0) aN)) (wV 1)) (wC (.int 1))))
    (sRet (wCall (ct_least_ring L) (aC (wL (wLc (iR1 (aC (wV 2) aN)) (gN 3) tY (w2 fIx (wV 0) (w2 fAdd (w2 fSub (wV 1) (wC (.int 1))) (w2 fMod (w2 fSub (wV 3) (wV 1)) (wV 2)))) [3])) aN))))
theorem data_ring_of (L : Lw) {ds : List D} {μ : Mu} {Q : D → Mu → Prop} {E : Ek} (h : ct_ring_of L ds μ Q E) : wb_ring_of L (deOf Q E) (startR N_ring_of ds) μ := by
  obtain ⟨bs, F, rfl, h1, h2, hl, q⟩ := h
  refine .inr (.inl ⟨bs.map .bl, rfl, ?_⟩)
  have hn : (((bs.map D.bl).length : Int) - (F : Int) + 1) = ((bs.length - F + 1 : Nat) : Int) := by rw [List.length_map]; omega
  simp only [sQ, sN, sSet, sRet, sRet0, sIf, sDo, sUnp, sPar, gT, gN, wV, wC, w2, w1, w3, wN, wL, wLc, aC, aN, tB0, tNt, tAn, tOrr, tY, wIf, wAn, wOr, wNt, wCall, wSl, pN, pS, iL, iR1, iR2, iEn, iZp, wRg1, wRg2, wMeth, wFld, wProp, sRaise, wS0, wS1, fSl, wipeR, startR, deOf, fCmp, fAdd, fSub, fMod, fNeg, fLst, fTup, fInt_i, fInt_b, fLen_s, fLen_l, fLen_t, fLen_c, fAbs_i, fMax_2, fMin_2, fTuple_l, fTuple_t, fList_l, fList_t, fStr_i, List.map_cons, List.map_nil, List.length_cons, List.length_nil, List.replicate, List.cons_append, List.nil_append, List.getElem?_cons_zero, List.getElem?_cons_succ, List.set_cons_succ, List.set_cons_zero, List.zip, List.zipWith, List.foldl, List.lookup]
  rw [hn]
  refine ⟨by omega, by omega, ?_⟩
  refine lcL_map (enc := fun (i : Nat) => D.int (i : Int)) (f := fun r => .bl (bs.getD (ringIx F (bs.length - F + 1) r) false)) (List.range (bs.length - F + 1)) (by exact rgD_nat0 _) (fun r hr P hP => ⟨by omega, ?_⟩) ?_ ?_
  · have hi := ringIx_lt (F := F) (P := bs.length - F + 1) (r := r) h1 (by omega)
    have hi' : ringIx F (bs.length - F + 1) r < bs.length := by omega
    have e : ((F : Int) - 1 + ((r : Int) - (F : Int)).fmod ((bs.length - F + 1 : Nat) : Int)) = ((ringIx F (bs.length - F + 1) r : Nat) : Int) := by
      unfold ringIx
      have h1 := Int.fmod_nonneg_of_pos ((r : Int) - (F : Int)) (show (0 : Int) < ((bs.length - F + 1 : Nat) : Int) by omega)
      omega
    show (match atI (bs.map D.bl) ((F : Int) - 1 + ((r : Int) - (F : Int)).fmod ((bs.length - F + 1 : Nat) : Int)) with | some z => _ | none => False)
    rw [e, atI_nat' (by rw [List.length_map]; exact hi'), List.getElem_map]
    rw [List.getD_eq_getElem?_getD, List.getElem?_eq_getElem hi'] at hP
    exact hP
  · rw [List.length_range]; exact Nat.le_trans (by omega : _ ≤ 1000000) (by decide)
  · refine ⟨Bool, inferInstance, .bl, ringL bs F, ?_, fun x _ y _ => eqD_bl x y, ?_, q⟩
    · unfold ringL
      rw [List.map_map]
      rfl
    · unfold ringL
      rw [List.length_map, List.length_range]
      omega
/-- the first number from which marks go by a ring -/
def lfirst (bs rg : List Bool) (F : Nat) : Nat := match ((List.range' 1 (F - 1)).filter fun n => decide (bs.getD (n - 1) false ≠ rg.getD (n % rg.length) false)).getLast? with
  | some n => n + 1
  | none => 1
def ct_least_first (L : Lw) : Ct := fun ds μ Q E => ∃ (bs rg : List Bool) (F : Nat), ds = [.lst (bs.map .bl), .lst (rg.map .bl), .int F] ∧ 1 ≤ F ∧ F ≤ bs.length + 1 ∧ 1 ≤ rg.length ∧ F ≤ 1000000 ∧ Q (.int (lfirst bs rg F)) μ
abbrev N_least_first : List Str := ["marks", "ring", "first", "some", "number"]
def wb_least_first (L : Lw) : Ws :=
    (sQ (sSet 3 (wL (wLc (iR2 (aC (wC (.int 1)) (aC (wV 2) aN))) (gN 4) (tB0 (w2 fNe (w2 fIx (wV 0) (w2 fSub (wV 4) (wC (.int 1)))) (w2 fIx (wV 1) (w2 fMod (wV 4) (wN fLen (aC (wV 1) aN)))))) (wV 4) [4])))
    (sRet (wIf (tB0 (w2 fNe (wV 3) (wN fLst aN))) (w2 fAdd (w2 fIx (wV 3) (w1 fNeg (wC (.int 1)))) (wC (.int 1))) (wC (.int 1)))))
theorem data_least_first (L : Lw) {ds : List D} {μ : Mu} {Q : D → Mu → Prop} {E : Ek} (h : ct_least_first L ds μ Q E) : wb_least_first L (deOf Q E) (startR N_least_first ds) μ := by
  obtain ⟨bs, rg, F, rfl, h1, h2, h3, h4, q⟩ := h
  refine ⟨⟨by decide, by decide, by omega, by omega⟩, ?_⟩
  have hr : rgD 1 ((F : Int) - 1).toNat = (List.range' 1 (F - 1)).map fun (i : Nat) => D.int (i : Int) := by
    rw [show ((F : Int) - 1).toNat = F - 1 by omega]
    exact rgD_nat 1 _
  refine lcL_filter (enc := fun (i : Nat) => D.int (i : Int)) (p := fun n => decide (bs.getD (n - 1) false ≠ rg.getD (n % rg.length) false)) (f := fun (i : Nat) => D.int (i : Int)) (List.range' 1 (F - 1)) hr (fun n hn P R hP hR => ?_) ?_ ?_
  · rw [List.mem_range'_1] at hn
    have i1 : n - 1 < bs.length := by omega
    have i2 : n % rg.length < rg.length := Nat.mod_lt _ h3
    simp only [sQ, sN, sSet, sRet, sRet0, sIf, sDo, sUnp, sPar, gT, gN, wV, wC, w2, w1, w3, wN, wL, wLc, aC, aN, tB0, tNt, tAn, tOrr, tY, wIf, wAn, wOr, wNt, wCall, wSl, pN, pS, iL, iR1, iR2, iEn, iZp, wRg1, wRg2, wMeth, wFld, wProp, sRaise, wS0, wS1, fSl, wipeR, startR, deOf, fCmp, fAdd, fSub, fMod, fNeg, fLst, fTup, fInt_i, fInt_b, fLen_s, fLen_l, fLen_t, fLen_c, fAbs_i, fMax_2, fMin_2, fTuple_l, fTuple_t, fList_l, fList_t, fStr_i, List.map_cons, List.map_nil, List.length_cons, List.length_nil, List.replicate, List.cons_append, List.nil_append, List.getElem?_cons_zero, List.getElem?_cons_succ, List.set_cons_succ, List.set_cons_zero, List.zip, List.zipWith, List.foldl, List.lookup]
    rw [show (n : Int) - 1 = ((n - 1 : Nat) : Int) by omega, fIx_l (atI_nat' (by rw [List.length_map]; exact i1)), List.getElem_map]
    refine ⟨by rw [List.length_map]; omega, ?_⟩
    rw [List.length_map, fmod_nat, fIx_l (atI_nat' (by rw [List.length_map]; exact i2)), List.getElem_map, fNe_of (eqD_bl _ _)]
    rw [List.getD_eq_getElem?_getD, List.getD_eq_getElem?_getD, List.getElem?_eq_getElem i1, List.getElem?_eq_getElem i2] at hP hR
    by_cases e : bs[n - 1] = rg[n % rg.length]
    · rw [decide_eq_true e]
      exact hR (decide_eq_false (not_not_intro e))
    · rw [decide_eq_false e]
      exact hP (decide_eq_true e)
  · rw [List.length_range']; exact Nat.le_trans (by omega : _ ≤ 1000000) (by decide)
  · generalize hm : (List.range' 1 (F - 1)).filter (fun n => decide (bs.getD (n - 1) false ≠ rg.getD (n % rg.length) false)) = ms
    have hq : lfirst bs rg F = (match ms.getLast? with | some n => n + 1 | none => 1) := by unfold lfirst; rw [hm]
    rw [hq] at q
    have em : (ms.map fun (i : Nat) => D.int (i : Int)) = (ms.map fun (i : Nat) => (i : Int)).map .int := by rw [List.map_map]; rfl
    simp only [sQ, sN, sSet, sRet, sRet0, sIf, sDo, sUnp, sPar, gT, gN, wV, wC, w2, w1, w3, wN, wL, wLc, aC, aN, tB0, tNt, tAn, tOrr, tY, wIf, wAn, wOr, wNt, wCall, wSl, pN, pS, iL, iR1, iR2, iEn, iZp, wRg1, wRg2, wMeth, wFld, wProp, sRaise, wS0, wS1, fSl, wipeR, startR, deOf, fCmp, fAdd, fSub, fMod, fNeg, fLst, fTup, fInt_i, fInt_b, fLen_s, fLen_l, fLen_t, fLen_c, fAbs_i, fMax_2, fMin_2, fTuple_l, fTuple_t, fList_l, fList_t, fStr_i, List.map_cons, List.map_nil, List.length_cons, List.length_nil, List.replicate, List.cons_append, List.nil_append, List.getElem?_cons_zero, List.getElem?_cons_succ, List.set_cons_succ, List.set_cons_zero, List.zip, List.zipWith, List.foldl, List.lookup]
    refine ⟨by decide, ?_⟩
    rw [fNe_of (b := ms.isEmpty) (by rw [em, eqD_nil_l]; cases ms <;> rfl)]
    cases ms with
    | nil => exact q
    | cons m r =>
      have hne : m :: r ≠ [] := List.cons_ne_nil _ _
      rw [List.getLast?_eq_some_getLast hne] at q
      show fIx _ (.int (-1)) _
      rw [fIx_l (z := .int (((m :: r).getLast hne : Nat) : Int)) ?_]
      · exact q
      · unfold atI ixN
        rw [if_neg (by decide), if_pos (by rw [List.length_map, List.length_cons]; omega)]
        show ((m :: r).map fun (i : Nat) => D.int (i : Int))[_]? = _
        rw [List.length_map, List.getElem?_map, List.getLast_eq_getElem]
        rw [show (-1 + ((m :: r).length : Int)).toNat = (m :: r).length - 1 by rw [List.length_cons]; omega]
        rw [List.getElem?_eq_getElem (by rw [List.length_cons]; omega)]
        rfl
end Sk
namespace Sk
open PySem PySem.Spec PyProof.Rows L2 Dk He
/-! ### sets: their parts -/
/-- heads, first, period, rests: numbers all -/
structure Pts where
  hd : List Nat
  f : Nat
  p : Nat
  rs : List Nat
  deriving DecidableEq
def natsD (ns : List Nat) : List D := ns.map fun (n : Nat) => D.int (n : Int)
def Pts.ds (x : Pts) : List D := [.tup (natsD x.hd), .int x.f, .int x.p, .tup (natsD x.rs)]
def Pts.d (x : Pts) : D := .tup x.ds
def Pts.inB (x : Pts) (n : Nat) : Bool := if n < x.f then decide (n ∈ x.hd) else decide (n % x.p ∈ x.rs)
theorem flat_nats (ns : List Nat) : (natsD ns).all D.flat = true := by
  unfold natsD
  rw [List.all_map, List.all_eq_true]
  intro n _
  rfl
theorem inD_nats (n : Nat) : ∀ ns : List Nat, inD (.int (n : Int)) (natsD ns) = decide (n ∈ ns)
  | [] => rfl
  | m :: ns => by
    have := inD_nats n ns
    unfold inD at this ⊢
    show (eqF (.int (m : Int)) (.int (n : Int)) || (natsD ns).any fun y => eqF y (.int (n : Int))) = _
    rw [this]
    show ((m : Int) == (n : Int) || decide (n ∈ ns)) = _
    by_cases h : n = m
    · subst h; simp
    · have : ((m : Int) == (n : Int)) = false := by simp; omega
      rw [this, Bool.false_or]
      exact decide_eq_decide.mpr ⟨fun z => List.mem_cons_of_mem _ z, fun z => (List.mem_cons.mp z).resolve_left h⟩
def ct_is_in (L : Lw) : Ct := fun ds μ Q E => ∃ (x : Pts) (n : Nat), ds = [x.d, .int n] ∧ 1 ≤ x.p ∧ Q (.bl (x.inB n)) μ
abbrev N_is_in : List Str := ["parts", "number", "heads", "first", "period", "rests"]
def wb_is_in (L : Lw) : Ws :=
    (sQ (sUnp (gT [2, 3, 4, 5]) (wV 0))
    (sRet (wIf (tB0 (w2 fLt (wV 1) (wV 3))) (w2 (fIn false) (wV 1) (wV 2)) (w2 (fIn false) (w2 fMod (wV 1) (wV 4)) (wV 5)))))
theorem data_is_in (L : Lw) {ds : List D} {μ : Mu} {Q : D → Mu → Prop} {E : Ek} (h : ct_is_in L ds μ Q E) : wb_is_in L (deOf Q E) (startR N_is_in ds) μ := by
  obtain ⟨x, n, rfl, hp, q⟩ := h
  refine ⟨rfl, ?_⟩
  unfold Pts.inB at q
  show (match decide ((n : Int) < (x.f : Int)) with | true => _ | false => _)
  by_cases h : n < x.f
  · rw [if_pos h] at q
    rw [decide_eq_true (by omega)]
    refine ⟨rfl, flat_nats _, ?_⟩
    show Q (.bl (inD (.int (n : Int)) (natsD x.hd))) μ
    rw [inD_nats]
    exact q
  · rw [if_neg h] at q
    rw [decide_eq_false (by omega)]
    refine ⟨by omega, rfl, flat_nats _, ?_⟩
    show Q (.bl (inD (.int ((n : Int).fmod (x.p : Int))) (natsD x.rs))) μ
    rw [fmod_nat, inD_nats]
    exact q
/-! the least parts of marks -/
def trueIx (bs : List Bool) (k : Nat) : List Nat := (List.range bs.length).filterMap fun i => if bs.getD i false then some (i + k) else none
def leastOf (bs rg : List Bool) (b : Nat) : Pts := ⟨trueIx (bs.take (b - 1)) 1, b, rg.length, trueIx rg 0⟩
def leastPts (bs : List Bool) (F : Nat) : Pts := leastOf bs (lringL (ringL bs F)) (lfirst bs (lringL (ringL bs F)) F)
def ct_least_parts (L : Lw) : Ct := fun ds μ Q E => ∃ (bs : List Bool) (F : Nat), ds = [.lst (bs.map .bl), .int F] ∧ 1 ≤ F ∧ F ≤ bs.length ∧ bs.length ≤ 1000000 ∧ Q (leastPts bs F).d μ
abbrev N_least_parts : List Str := ["marks", "first", "ring", "begin", "heads", "at", "is_one", "rest"]
def wb_least_parts (L : Lw) : Ws :=
    (sQ (sSet 2 (wCall (ct_ring_of L) (aC (wV 0) (aC (wV 1) aN))))
    (sQ (sSet 3 (wCall (ct_least_first L) (aC (wV 0) (aC (wV 2) (aC (wV 1) aN)))))
    (sQ (sSet 4 (wN fTuple (aC (wL (wLc (iEn (aC (wSl (wV 0) pN (pS (w2 fSub (wV 3) (wC (.int 1))))) aN)) (gT [5, 6]) (tB0 (wV 6)) (w2 fAdd (wV 5) (wC (.int 1))) [5, 6])) aN)))
    (sRet (wN fTup (aC (wV 4) (aC (wV 3) (aC (wN fLen (aC (wV 2) aN)) (aC (wN fTuple (aC (wL (wLc (iEn (aC (wV 2) aN)) (gT [7, 6]) (tB0 (wV 6)) (wV 7) [7, 6])) aN)) aN)))))))))
theorem lring_pos {α : Type} [DecidableEq α] {xs : List α} (h : 1 ≤ xs.length) : 1 ≤ (lringL xs).length ∧ (lringL xs).length ≤ xs.length := by
  unfold lringL
  rw [List.length_take]
  have : 1 ≤ lperL xs := by
    unfold lperL
    cases e : (List.range' 1 (xs.length - 1)).find? (perB xs) with
    | none => exact h
    | some k =>
      have := List.mem_of_find?_eq_some e
      rw [List.mem_range'_1] at this
      exact this.1
  omega
theorem ringL_len (bs : List Bool) (F : Nat) : (ringL bs F).length = bs.length - F + 1 := by
  unfold ringL
  rw [List.length_map, List.length_range]
theorem lfirst_le {bs rg : List Bool} {F : Nat} (h : 1 ≤ F) : 1 ≤ lfirst bs rg F ∧ lfirst bs rg F ≤ F := by
  unfold lfirst
  split
  · rename_i n e
    have := List.mem_of_getLast? e
    rw [List.mem_filter, List.mem_range'_1] at this
    omega
  · omega
/-- (i, b) of a list, by places -/
theorem en_map (bs : List Bool) : ∀ k : Nat, enD k (bs.map .bl) = (List.range bs.length).map fun i => D.tup [.int (((i + k : Nat) : Nat) : Int), .bl (bs.getD i false)] := by
  induction bs with
  | nil => intro k; rfl
  | cons b bs ih =>
    intro k
    show D.tup [.int (k : Int), .bl b] :: enD (k + 1) (bs.map .bl) = _
    rw [ih (k + 1), List.length_cons, List.range_succ_eq_map, List.map_cons, List.map_map]
    congr 1
    · simp
    · apply List.map_congr_left
      intro i _
      show D.tup _ = D.tup _
      rw [show i + (k + 1) = (i + 1) + k by omega]
      rfl
theorem filterMap_if {α β : Type} (p : α → Bool) (f : α → β) (xs : List α) : xs.filterMap (fun x => if p x then some (f x) else none) = (xs.filter p).map f := by
  induction xs with
  | nil => rfl
  | cons x xs ih =>
    by_cases h : p x = true
    · rw [List.filterMap_cons_some (b := f x) (by rw [if_pos h]), List.filter_cons_of_pos h, List.map_cons, ih]
    · rw [List.filterMap_cons_none (by rw [if_neg h]), List.filter_cons_of_neg h, ih]
theorem trueIx_eq (bs : List Bool) (k : Nat) : natsD (trueIx bs k) = ((List.range bs.length).filter fun i => bs.getD i false).map fun i => D.int (((i + k : Nat) : Nat) : Int) := by
  unfold trueIx natsD
  rw [filterMap_if (fun i => bs.getD i false) (fun i => i + k), List.map_map]
  rfl
theorem data_least_parts (L : Lw) {ds : List D} {μ : Mu} {Q : D → Mu → Prop} {E : Ek} (h : ct_least_parts L ds μ Q E) : wb_least_parts L (deOf Q E) (startR N_least_parts ds) μ := by
  obtain ⟨bs, F, rfl, h1, h2, hl, q⟩ := h
  refine ⟨bs, F, rfl, h1, h2, hl, ?_⟩
  have hr := lring_pos (xs := ringL bs F) (by rw [ringL_len]; omega)
  rw [ringL_len] at hr
  unfold leastPts at q
  generalize lringL (ringL bs F) = rg at *
  refine ⟨bs, rg, F, rfl, h1, by omega, hr.1, by omega, ?_⟩
  have hb := lfirst_le (bs := bs) (rg := rg) h1
  generalize lfirst bs rg F = b at *
  have hc : Dk.cutD (bs.map D.bl) none (some ((b : Int) - 1)) = (bs.take (b - 1)).map .bl := by
    rw [show (b : Int) - 1 = ((b - 1 : Nat) : Int) by omega, cutD_to, List.map_take]
  have he : enD 0 (Dk.cutD (bs.map D.bl) none (some ((b : Int) - 1))) = (List.range (bs.take (b - 1)).length).map fun i => D.tup [.int (((i + 0 : Nat) : Nat) : Int), .bl ((bs.take (b - 1)).getD i false)] := by
    rw [hc]; exact en_map _ 0
  refine lcL_filter (enc := fun i => D.tup [.int (((i + 0 : Nat) : Nat) : Int), .bl ((bs.take (b - 1)).getD i false)]) (p := fun i => (bs.take (b - 1)).getD i false) (f := fun i => D.int (((i + 1 : Nat) : Nat) : Int)) (List.range (bs.take (b - 1)).length) he (fun i hi P R hP hR => ⟨rfl, ?_⟩) ?_ ?_
  · simp only [sQ, sN, sSet, sRet, sRet0, sIf, sDo, sUnp, sPar, gT, gN, wV, wC, w2, w1, w3, wN, wL, wLc, aC, aN, tB0, tNt, tAn, tOrr, tY, wIf, wAn, wOr, wNt, wCall, wSl, pN, pS, iL, iR1, iR2, iEn, iZp, wRg1, wRg2, wMeth, wFld, wProp, sRaise, wS0, wS1, fSl, wipeR, startR, deOf, fCmp, fAdd, fSub, fMod, fNeg, fLst, fTup, fInt_i, fInt_b, fLen_s, fLen_l, fLen_t, fLen_c, fAbs_i, fMax_2, fMin_2, fTuple_l, fTuple_t, fList_l, fList_t, fStr_i, List.map_cons, List.map_nil, List.length_cons, List.length_nil, List.replicate, List.cons_append, List.nil_append, List.getElem?_cons_zero, List.getElem?_cons_succ, List.set_cons_succ, List.set_cons_zero, List.zip, List.zipWith, List.foldl, List.lookup]
    cases e : (bs.take (b - 1)).getD i false with
    | true => exact hP e
    | false => exact hR e
  · rw [List.length_range, List.length_take]; exact Nat.le_trans (by omega : _ ≤ 1000000) (by decide)
  · refine .inl ⟨_, rfl, ?_⟩
    refine .inr (.inl ⟨_, rfl, ?_⟩)
    refine lcL_filter (enc := fun i => D.tup [.int (((i + 0 : Nat) : Nat) : Int), .bl (rg.getD i false)]) (p := fun i => rg.getD i false) (f := fun i => D.int (((i + 0 : Nat) : Nat) : Int)) (List.range rg.length) (en_map _ 0) (fun i hi P R hP hR => ⟨rfl, ?_⟩) ?_ ?_
    · simp only [sQ, sN, sSet, sRet, sRet0, sIf, sDo, sUnp, sPar, gT, gN, wV, wC, w2, w1, w3, wN, wL, wLc, aC, aN, tB0, tNt, tAn, tOrr, tY, wIf, wAn, wOr, wNt, wCall, wSl, pN, pS, iL, iR1, iR2, iEn, iZp, wRg1, wRg2, wMeth, wFld, wProp, sRaise, wS0, wS1, fSl, wipeR, startR, deOf, fCmp, fAdd, fSub, fMod, fNeg, fLst, fTup, fInt_i, fInt_b, fLen_s, fLen_l, fLen_t, fLen_c, fAbs_i, fMax_2, fMin_2, fTuple_l, fTuple_t, fList_l, fList_t, fStr_i, List.map_cons, List.map_nil, List.length_cons, List.length_nil, List.replicate, List.cons_append, List.nil_append, List.getElem?_cons_zero, List.getElem?_cons_succ, List.set_cons_succ, List.set_cons_zero, List.zip, List.zipWith, List.foldl, List.lookup]
      cases e : rg.getD i false with
      | true => exact hP e
      | false => exact hR e
    · rw [List.length_range]; exact Nat.le_trans (by omega : _ ≤ 1000000) (by decide)
    · refine .inl ⟨_, rfl, (by decide : 4 ≤ sizeLine), ?_⟩
      have q : Q (.tup [.tup (natsD (trueIx (bs.take (b - 1)) 1)), .int b, .int rg.length, .tup (natsD (trueIx rg 0))]) μ := q
      rw [trueIx_eq, trueIx_eq] at q
      rw [List.length_map]
      exact q
end Sk
namespace Sk
open PySem PySem.Spec PyProof.Rows L2 Dk He
def OkTup (L : Lw) (d : D) : Prop := ∀ xs, d = .tup xs → xs.length ≤ sizeLine ∧ ∀ x ∈ xs, Okd L x
def areParts (h f p r : D) : Bool := btw f 1 9999 && (btw p 1 9999 && (match f, p with
  | .int a, .int b => areNums h 1 (a - 1) && areNums r 0 (b - 1)
  | _, _ => false))
def ct_are_parts (L : Lw) : Ct := fun ds μ Q E => ∃ h f p r, ds = [h, f, p, r] ∧ Okd L h ∧ Okd L f ∧ Okd L p ∧ Okd L r ∧ OkTup L h ∧ OkTup L r ∧ Q (.bl (areParts h f p r)) μ
abbrev N_are_parts : List Str := ["heads", "first", "period", "rests"]
def wb_are_parts (L : Lw) : Ws :=
    (sQ (sIf (tOrr (tNt (tB0 (wCall (ct_is_between L) (aC (wV 1) (aC (wC (.int 1)) (aC (wC (.int 9999)) aN)))))) (tNt (tB0 (wCall (ct_is_between L) (aC (wV 2) (aC (wC (.int 1)) (aC (wC (.int 9999)) aN))))))) (sRet (wC (.bl false))) sN)
    (sRet (wAn (wCall (ct_are_numbers L) (aC (wV 0) (aC (wC (.int 1)) (aC (w2 fSub (wV 1) (wC (.int 1))) aN)))) (wCall (ct_are_numbers L) (aC (wV 3) (aC (wC (.int 0)) (aC (w2 fSub (wV 2) (wC (.int 1))) aN)))))))
theorem data_are_parts (L : Lw) {ds : List D} {μ : Mu} {Q : D → Mu → Prop} {E : Ek} (h : ct_are_parts L ds μ Q E) : wb_are_parts L (deOf Q E) (startR N_are_parts ds) μ := by
  obtain ⟨h, f, p, r, rfl, oh, of_, op, or_, th, tr, q⟩ := h
  unfold areParts at q
  refine ⟨f, 1, 9999, rfl, of_, ?_⟩
  cases e1 : btw f 1 9999 with
  | false => rw [e1] at q; exact q
  | true =>
    rw [e1, Bool.true_and] at q
    refine ⟨p, 1, 9999, rfl, op, ?_⟩
    cases e2 : btw p 1 9999 with
    | false => rw [e2] at q; exact q
    | true =>
      rw [e2, Bool.true_and] at q
      cases f with
      | int a =>
        cases p with
        | int b =>
          refine ⟨h, 1, a - 1, rfl, oh, th, ?_⟩
          have q : Q (.bl (areNums h 1 (a - 1) && areNums r 0 (b - 1))) μ := q
          cases e3 : areNums h 1 (a - 1) with
          | false => rw [e3, Bool.false_and] at q; exact q
          | true => rw [e3, Bool.true_and] at q; exact ⟨r, 0, b - 1, rfl, or_, tr, q⟩
        | _ => cases e2
      | _ => cases e1
/-- right parts -/
structure Pts.Ok (x : Pts) : Prop where
  f1 : 1 ≤ x.f
  f2 : x.f ≤ 9999
  p1 : 1 ≤ x.p
  p2 : x.p ≤ 9999
  ha : x.hd.Pairwise (· < ·)
  hb : ∀ n ∈ x.hd, 1 ≤ n ∧ n < x.f
  ra : x.rs.Pairwise (· < ·)
  rb : ∀ n ∈ x.rs, n < x.p
theorem asc_nats : ∀ {ns : List Nat}, ns.Pairwise (· < ·) → ascD (natsD ns) = true
  | [], _ => rfl
  | [_], _ => rfl
  | a :: b :: r, h => by
    have h1 := (List.pairwise_cons.mp h).1 b (List.mem_cons_self ..)
    have h2 := asc_nats (List.pairwise_cons.mp h).2
    show (decide ((a : Int) < (b : Int)) && ascD (natsD (b :: r))) = true
    rw [h2, decide_eq_true (by omega)]
    rfl
theorem areNums_nats {ns : List Nat} {l h : Int} (hp : ns.Pairwise (· < ·)) (hb : ∀ n ∈ ns, l ≤ (n : Int) ∧ (n : Int) ≤ h) : areNums (.tup (natsD ns)) l h = true := by
  show ((natsD ns).all (fun x => btw x l h) && ascD (natsD ns)) = true
  rw [asc_nats hp, Bool.and_true, List.all_eq_true]
  intro x hx
  unfold natsD at hx
  obtain ⟨n, hn, rfl⟩ := List.mem_map.mp hx
  show (decide (l ≤ (n : Int)) && decide ((n : Int) ≤ h)) = true
  rw [decide_eq_true (hb n hn).1, decide_eq_true (hb n hn).2]
  rfl
theorem len_asc : ∀ {ns : List Nat} {a b : Nat}, ns.Pairwise (· < ·) → (∀ n ∈ ns, a ≤ n ∧ n < b) → ns.length ≤ b - a
  | [], a, b, _, _ => Nat.zero_le _
  | n :: ns, a, b, h, hb => by
    have h1 := List.pairwise_cons.mp h
    have := len_asc (a := n + 1) (b := b) h1.2 fun m hm => ⟨h1.1 m hm, (hb m (List.mem_cons_of_mem _ hm)).2⟩
    have h2 := hb n (List.mem_cons_self ..)
    rw [List.length_cons]
    omega
theorem okTup_nats {L : Lw} {ns : List Nat} (h : ns.length ≤ 1000000) : OkTup L (.tup (natsD ns)) := fun xs e => by
  cases e
  refine ⟨by unfold natsD; rw [List.length_map]; exact Nat.le_trans h (by decide), fun x hx => ?_⟩
  unfold natsD at hx
  obtain ⟨n, _, rfl⟩ := List.mem_map.mp hx
  exact okd_int
theorem Pts.Ok.parts {x : Pts} (h : x.Ok) : areParts (.tup (natsD x.hd)) (.int x.f) (.int x.p) (.tup (natsD x.rs)) = true := by
  unfold areParts
  have h1 : btw (.int (x.f : Int)) 1 9999 = true := by
    show (decide ((1 : Int) ≤ (x.f : Int)) && decide ((x.f : Int) ≤ 9999)) = true
    have := h.f1; have := h.f2
    rw [decide_eq_true (by omega), decide_eq_true (by omega)]; rfl
  have h2 : btw (.int (x.p : Int)) 1 9999 = true := by
    show (decide ((1 : Int) ≤ (x.p : Int)) && decide ((x.p : Int) ≤ 9999)) = true
    have := h.p1; have := h.p2
    rw [decide_eq_true (by omega), decide_eq_true (by omega)]; rfl
  rw [h1, h2]
  show (areNums (.tup (natsD x.hd)) 1 ((x.f : Int) - 1) && areNums (.tup (natsD x.rs)) 0 ((x.p : Int) - 1)) = true
  rw [areNums_nats h.ha fun n hn => (by have := h.hb n hn; omega), areNums_nats h.ra fun n hn => (by have := h.rb n hn; omega)]
  rfl
theorem Pts.Ok.hl {x : Pts} (h : x.Ok) : x.hd.length ≤ 10000 := by
  have := len_asc h.ha h.hb
  have := h.f2
  omega
theorem Pts.Ok.rl {x : Pts} (h : x.Ok) : x.rs.length ≤ 10000 := by
  have := len_asc (a := 0) h.ra fun n hn => ⟨Nat.zero_le _, h.rb n hn⟩
  have := h.p2
  omega
def marksOf (x : Pts) : List Bool := (List.range (x.f + x.p - 1)).map fun i => x.inB (i + 1)
def Pts.lst (x : Pts) : Pts := leastPts (marksOf x) x.f
def ci_Numbers (L : Lw) : Ci := fun ds μ Q E => (∃ x : Pts, x.Ok ∧ ds = x.ds ∧ Q x.lst.ds μ) ∨
  ∃ h f p r, ds = [h, f, p, r] ∧ Okd L h ∧ Okd L f ∧ Okd L p ∧ Okd L r ∧ OkTup L h ∧ OkTup L r ∧ areParts h f p r = false ∧ (∃ q, (D.tup [h, f, p, r]).datD = some q ∧ Shw q) ∧ E 1 (.tup [h, f, p, r]) μ
abbrev N_Numbers_init : List Str := ["self", "heads", "first", "period", "rests", "parts", "number"]
def wb_Numbers_init (L : Lw) : Ws :=
    (sQ (sIf (tNt (tB0 (wCall (ct_are_parts L) (aC (wV 1) (aC (wV 2) (aC (wV 3) (aC (wV 4) aN))))))) (sRaise 1 (wN fTup (aC (wV 1) (aC (wV 2) (aC (wV 3) (aC (wV 4) aN)))))) sN)
    (sQ (sSet 5 (wN fTup (aC (wV 1) (aC (wV 2) (aC (wV 3) (aC (wV 4) aN))))))
    (sQ (sSet 5 (wCall (ct_least_parts L) (aC (wL (wLc (iR2 (aC (wC (.int 1)) (aC (w2 fAdd (wV 2) (wV 3)) aN))) (gN 6) tY (wCall (ct_is_in L) (aC (wV 5) (aC (wV 6) aN))) [6])) (aC (wV 2) aN))))
    (sUnpF 0 [41] 0 4 (wV 5)))))
theorem data_Numbers_init (L : Lw) (K : PySem.W.Frag) (T : List (Addr × Str)) {ds : List D} {μ : Mu} {Q : List D → Mu → Prop} {E : Ek} (h : ci_Numbers L ds μ Q E) : wb_Numbers_init L (deI (gOf K T) 41 Q E) (startI N_Numbers_init 41 ds) μ := by
  rcases h with ⟨x, ok, rfl, q⟩ | ⟨h, f, p, r, rfl, oh, of_, op, or_, th, tr, hf, hs, q⟩
  · refine ⟨_, _, _, _, rfl, okd_tup, okd_int, okd_int, okd_tup, okTup_nats (by have := ok.hl; omega), okTup_nats (by have := ok.rl; omega), ?_⟩
    rw [ok.parts]
    refine ⟨(by decide : 4 ≤ sizeLine), ?_⟩
    have f1 := ok.f1; have f2 := ok.f2; have p1 := ok.p1; have p2 := ok.p2
    refine ⟨⟨by decide, by decide, by omega, by omega⟩, ?_⟩
    refine lcL_map (enc := fun (i : Nat) => D.int (i : Int)) (f := fun n => .bl (x.inB n)) (List.range' 1 (x.f + x.p - 1)) ?_ (fun n _ P hP => ⟨x, n, rfl, p1, hP⟩) ?_ ?_
    · show rgD 1 ((x.f : Int) + (x.p : Int) - 1).toNat = _
      rw [show ((x.f : Int) + (x.p : Int) - 1).toNat = x.f + x.p - 1 by omega]
      exact rgD_nat 1 _
    · rw [List.length_range']; exact Nat.le_trans (by omega : _ ≤ 1000000) (by decide)
    · have hm : (List.range' 1 (x.f + x.p - 1)).map (fun n => D.bl (x.inB n)) = (marksOf x).map .bl := by
        unfold marksOf
        rw [List.range'_eq_map_range, List.map_map, List.map_map]
        apply List.map_congr_left
        intro i _
        show D.bl (x.inB (1 + i)) = D.bl (x.inB (i + 1))
        rw [Nat.add_comm]
      have hl : (marksOf x).length = x.f + x.p - 1 := by unfold marksOf; rw [List.length_map, List.length_range]
      rw [hm]
      exact ⟨marksOf x, x.f, rfl, f1, by omega, by omega, ⟨41, [], rfl, by simp, rfl⟩, x.lst.ds, 41, [], rfl, rfl, rfl, x.lst.ds, rfl, rfl, q⟩
  · refine ⟨_, _, _, _, rfl, oh, of_, op, or_, th, tr, ?_⟩
    rw [hf]
    exact ⟨(by decide : 4 ≤ sizeLine), hs, q⟩
/-! ### a set -/
def setD (x : Pts) : D := .obj 41 x.ds
def ct_Numbers_heads (L : Lw) : Ct := fun ds μ Q E => ∃ x : Pts, ds = [setD x] ∧ Q (.tup (natsD x.hd)) μ
def ct_Numbers_first (L : Lw) : Ct := fun ds μ Q E => ∃ x : Pts, ds = [setD x] ∧ Q (.int x.f) μ
def ct_Numbers_period (L : Lw) : Ct := fun ds μ Q E => ∃ x : Pts, ds = [setD x] ∧ Q (.int x.p) μ
def ct_Numbers_rests (L : Lw) : Ct := fun ds μ Q E => ∃ x : Pts, ds = [setD x] ∧ Q (.tup (natsD x.rs)) μ
def ct_Numbers_writing (L : Lw) : Ct := fun ds μ Q E => ∃ x : Pts, ds = [setD x] ∧ Q x.d μ
abbrev N_Numbers_heads : List Str := ["self"]
def wb_Numbers_heads (L : Lw) : Ws :=
    (sRet (wFld [(41, 0)] (wV 0)))
abbrev N_Numbers_first : List Str := ["self"]
def wb_Numbers_first (L : Lw) : Ws :=
    (sRet (wFld [(41, 1)] (wV 0)))
abbrev N_Numbers_period : List Str := ["self"]
def wb_Numbers_period (L : Lw) : Ws :=
    (sRet (wFld [(41, 2)] (wV 0)))
abbrev N_Numbers_rests : List Str := ["self"]
def wb_Numbers_rests (L : Lw) : Ws :=
    (sRet (wFld [(41, 3)] (wV 0)))
abbrev N_Numbers_writing : List Str := ["self"]
def wb_Numbers_writing (L : Lw) : Ws :=
    (sRet (wN fTup (aC (wFld [(41, 0)] (wV 0)) (aC (wFld [(41, 1)] (wV 0)) (aC (wFld [(41, 2)] (wV 0)) (aC (wFld [(41, 3)] (wV 0)) aN))))))
section
variable (L : Lw) {ds : List D} {μ : Mu} {Q : D → Mu → Prop} {E : Ek}
theorem data_Numbers_heads (h : ct_Numbers_heads L ds μ Q E) : wb_Numbers_heads L (deOf Q E) (startR N_Numbers_heads ds) μ := by
  obtain ⟨x, rfl, q⟩ := h; exact q
theorem data_Numbers_first (h : ct_Numbers_first L ds μ Q E) : wb_Numbers_first L (deOf Q E) (startR N_Numbers_first ds) μ := by
  obtain ⟨x, rfl, q⟩ := h; exact q
theorem data_Numbers_period (h : ct_Numbers_period L ds μ Q E) : wb_Numbers_period L (deOf Q E) (startR N_Numbers_period ds) μ := by
  obtain ⟨x, rfl, q⟩ := h; exact q
theorem data_Numbers_rests (h : ct_Numbers_rests L ds μ Q E) : wb_Numbers_rests L (deOf Q E) (startR N_Numbers_rests ds) μ := by
  obtain ⟨x, rfl, q⟩ := h; exact q
theorem data_Numbers_writing (h : ct_Numbers_writing L ds μ Q E) : wb_Numbers_writing L (deOf Q E) (startR N_Numbers_writing ds) μ := by
  obtain ⟨x, rfl, q⟩ := h; exact ⟨(by decide : 4 ≤ sizeLine), q⟩
end
/-- value in set -/
def Pts.has (x : Pts) (d : D) : Bool := match d with
  | .int i => decide (1 ≤ i) && x.inB i.toNat
  | _ => false
def ct_Numbers_contains (L : Lw) : Ct := fun ds μ Q E => ∃ (x : Pts) (d : D), ds = [setD x, d] ∧ 1 ≤ x.p ∧ Okd L d ∧ Q (.bl (x.has d)) μ
abbrev N_Numbers_contains : List Str := ["self", "value"]
def wb_Numbers_contains (L : Lw) : Ws :=
    (sRet (wAn (wCall (ct_is_integer L) (aC (wV 1) aN)) (wAn (w2 fGe (wV 1) (wC (.int 1))) (wCall (ct_is_in L) (aC (wMeth [(41, ct_Numbers_writing L)] (wV 0) aN) (aC (wV 1) aN))))))
theorem data_Numbers_contains (L : Lw) {ds : List D} {μ : Mu} {Q : D → Mu → Prop} {E : Ek} (h : ct_Numbers_contains L ds μ Q E) : wb_Numbers_contains L (deOf Q E) (startR N_Numbers_contains ds) μ := by
  obtain ⟨x, d, rfl, hp, hd, q⟩ := h
  refine ⟨d, rfl, hd, ?_⟩
  cases d with
  | int i =>
    have q : Q (.bl (decide (1 ≤ i) && x.inB i.toNat)) μ := q
    show (match D.bl (decide ((1 : Int) ≤ i)) with | .bl true => _ | .bl false => _ | _ => _)
    by_cases h : 1 ≤ i
    · rw [decide_eq_true h, Bool.true_and] at q
      rw [decide_eq_true h]
      refine ⟨x, rfl, x, i.toNat, ?_, hp, q⟩
      show [x.d, D.int i] = [x.d, D.int ((i.toNat : Nat) : Int)]
      rw [show ((i.toNat : Nat) : Int) = i by omega]
    · rw [decide_eq_false h, Bool.false_and] at q
      rw [decide_eq_false h]
      exact q
  | _ => exact q
/-- set == value -/
theorem beq_nat (n m : Nat) : ((n : Int) == (m : Int)) = decide (n = m) := by
  by_cases h : n = m
  · subst h; simp
  · rw [decide_eq_false h]
    exact beq_eq_false_iff_ne.mpr (by omega)
theorem eqvL_nats : ∀ ns ms : List Nat, eqvL (natsD ns) (natsD ms) = decide (ns = ms)
  | [], [] => rfl
  | [], _ :: _ => rfl
  | _ :: _, [] => rfl
  | n :: ns, m :: ms => by
    show ((n : Int) == (m : Int) && eqvL (natsD ns) (natsD ms)) = _
    rw [eqvL_nats ns ms, beq_nat]
    by_cases h1 : n = m <;> by_cases h2 : ns = ms <;> simp [h1, h2]
theorem plqA_nats : ∀ ns : List Nat, D.plqA (natsD ns) = true
  | [] => rfl
  | _ :: ns => plqA_nats ns
theorem depA_nats : ∀ ns : List Nat, D.depA (natsD ns) = 0
  | [] => rfl
  | n :: ns => by
    show max (D.dep (.int n)) (D.depA (natsD ns)) = 0
    rw [depA_nats ns]
    rfl
theorem Pts.cq (x : Pts) : x.d.cq := by
  refine ⟨?_, ?_⟩
  · show (D.plqA (natsD x.hd) && (true && (true && (D.plqA (natsD x.rs) && true)))) = true
    rw [plqA_nats, plqA_nats]
    rfl
  · show (max (D.depA (natsD x.hd) + 1) (max 0 (max 0 (max (D.depA (natsD x.rs) + 1) 0)))) + 1 ≤ 64
    rw [depA_nats, depA_nats]
    decide
theorem Pts.eqD (x y : Pts) : Dk.eqD x.d y.d = some (decide (x = y)) := by
  rw [eqD_of x.cq y.cq]
  congr 1
  show (eqvL (natsD x.hd) (natsD y.hd) && ((x.f : Int) == (y.f : Int) && ((x.p : Int) == (y.p : Int) && (eqvL (natsD x.rs) (natsD y.rs) && true)))) = _
  rw [eqvL_nats, eqvL_nats, beq_nat, beq_nat]
  obtain ⟨a, b, c, d⟩ := x
  obtain ⟨a', b', c', d'⟩ := y
  by_cases h1 : a = a' <;> by_cases h2 : b = b' <;> by_cases h3 : c = c' <;> by_cases h4 : d = d' <;> simp [h1, h2, h3, h4]
def ct_Numbers_eq (L : Lw) : Ct := fun ds μ Q E => (∃ x y : Pts, ds = [setD x, setD y] ∧ L.cs.contains 41 = true ∧ Q (.bl (decide (x = y))) μ) ∨
  ∃ (x : Pts) (d : D), ds = [setD x, d] ∧ Okd L d ∧ isQ (.cl 41) d = false ∧ Q (.bl false) μ
abbrev N_Numbers_eq : List Str := ["self", "other"]
def wb_Numbers_eq (L : Lw) : Ws :=
    (sRet (wAn (wIsi (ansQ L (.cl 41)) (wV 1)) (w2 fEq (wMeth [(41, ct_Numbers_writing L)] (wV 0) aN) (wMeth [(41, ct_Numbers_writing L)] (wV 1) aN))))
theorem data_Numbers_eq (L : Lw) {ds : List D} {μ : Mu} {Q : D → Mu → Prop} {E : Ek} (h : ct_Numbers_eq L ds μ Q E) : wb_Numbers_eq L (deOf Q E) (startR N_Numbers_eq ds) μ := by
  rcases h with ⟨x, y, rfl, hc, q⟩ | ⟨x, d, rfl, hd, hn, q⟩
  · refine isi_use (Q := fun b => _) (okd_obj hc) ?_
    refine ⟨x, rfl, y, rfl, ?_⟩
    show fEq x.d y.d (fun z => Q z μ)
    rw [fEq_of (Pts.eqD x y)]
    exact q
  · refine isi_use (Q := fun b => _) hd ?_
    rw [hn]
    exact q
end Sk
namespace Sk
open PySem PySem.Spec PyProof.Rows L2 Dk He
/-! ### the least writing, plainly -/
def PerF (f : Nat → Bool) (F p : Nat) : Prop := ∀ n, F ≤ n → f (n + p) = f n
theorem PerF.mul {f : Nat → Bool} {F p : Nat} (h : PerF f F p) : ∀ k n, F ≤ n → f (n + k * p) = f n
  | 0, n, _ => by rw [Nat.zero_mul, Nat.add_zero]
  | k + 1, n, hn => by
    rw [Nat.succ_mul, ← Nat.add_assoc, h _ (by omega)]
    exact h.mul k n hn
theorem PerF.cong {f : Nat → Bool} {F p : Nat} (h : PerF f F p) {m n : Nat} (hm : F ≤ m) (hn : F ≤ n) (e : m % p = n % p) : f m = f n := by
  have key : ∀ m n : Nat, F ≤ m → m ≤ n → m % p = n % p → f n = f m := fun m n hm hmn e => by
    have e1 := Nat.div_add_mod m p
    have e2 := Nat.div_add_mod n p
    have hd : m / p ≤ n / p := Nat.div_le_div_right hmn
    have : n = m + (n / p - m / p) * p := by
      rw [Nat.sub_mul, Nat.mul_comm (n / p), Nat.mul_comm (m / p)]
      have := Nat.mul_le_mul_left p hd
      omega
    rw [this]
    exact h.mul _ _ hm
  rcases Nat.le_total m n with h1 | h1
  · exact (key m n hm h1 e).symm
  · exact key n m hn h1 e.symm
theorem PerF.to {f : Nat → Bool} {F N p k : Nat} (h : PerF f F p) (hp : 1 ≤ p) (hk : PerF f N k) : PerF f F k := fun n hn => by
  have hN : N ≤ n + N * p := by have := Nat.mul_le_mul_left N hp; omega
  have a := hk _ hN
  have b := h.mul N (n + k) (by omega)
  have c := h.mul N n hn
  rw [← b, ← c, ← a]
  congr 1
  omega
theorem PerF.sub {f : Nat → Bool} {F a b : Nat} (ha : PerF f F a) (hb : PerF f F b) (h : b ≤ a) : PerF f F (a - b) := fun n hn => by
  have := hb (n + (a - b)) (by omega)
  rw [show n + (a - b) + b = n + a by omega, ha n hn] at this
  exact this.symm
theorem PerF.gcd {f : Nat → Bool} {F : Nat} : ∀ a b : Nat, PerF f F a → PerF f F b → PerF f F (Nat.gcd a b) := fun a b => by
  induction a, b using Nat.gcd.induction with
  | H0 n => intro _ h; rw [Nat.gcd_zero_left]; exact h
  | H1 m n hm ih =>
    intro h1 h2
    rw [Nat.gcd_rec]
    refine ih ?_ h1
    have e : n % m = n - n / m * m := by
      have := Nat.div_add_mod n m
      rw [Nat.mul_comm] at this
      omega
    rw [e]
    refine h2.sub (fun k hk => h1.mul _ _ hk) ?_
    have := Nat.div_add_mod n m
    rw [Nat.mul_comm] at this
    omega
structure Canon (f : Nat → Bool) (x : Pts) : Prop where
  f1 : 1 ≤ x.f
  p1 : 1 ≤ x.p
  per : PerF f x.f x.p
  min : ∀ k, 1 ≤ k → k < x.p → ∀ N, ¬ PerF f N k
  fst : x.f = 1 ∨ f (x.f - 1 + x.p) ≠ f (x.f - 1)
  hd : x.hd = (List.range' 1 (x.f - 1)).filter f
  rs : x.rs = (List.range x.p).filter fun r => f (x.f * x.p + r)
theorem Canon.uniq {f : Nat → Bool} {x y : Pts} (a : Canon f x) (b : Canon f y) : x = y := by
  have hp : x.p = y.p := by
    rcases Nat.lt_trichotomy x.p y.p with h | h | h
    · exact absurd a.per (b.min _ a.p1 h _)
    · exact h
    · exact absurd b.per (a.min _ b.p1 h _)
  have hf : x.f = y.f := by
    rcases Nat.lt_trichotomy x.f y.f with h | h | h
    · rcases b.fst with e | e
      · have := a.f1; omega
      · exact absurd (by rw [← hp]; exact a.per _ (by omega)) e
    · exact h
    · rcases a.fst with e | e
      · have := b.f1; omega
      · exact absurd (by rw [hp]; exact b.per _ (by omega)) e
  have hh := a.hd
  have hr := a.rs
  rw [hf, ← b.hd] at hh
  rw [hf, hp, ← b.rs] at hr
  obtain ⟨a1, a2, a3, a4⟩ := x
  obtain ⟨b1, b2, b3, b4⟩ := y
  simp only at hp hf hh hr
  subst hp hf hh hr
  rfl
theorem Canon.congr {f g : Nat → Bool} {x : Pts} (a : Canon f x) (h : ∀ n, 1 ≤ n → f n = g n) : Canon g x where
  f1 := a.f1
  p1 := a.p1
  per := fun n hn => by have := a.f1; rw [← h _ (by omega), ← h _ (by omega)]; exact a.per n hn
  min := fun k h1 h2 N z => a.min k h1 h2 (N + 1) fun n hn => by rw [h _ (by omega), h _ (by omega)]; exact z n (by omega)
  fst := by
    by_cases e : x.f = 1
    · exact .inl e
    · refine a.fst.imp id fun z => ?_
      have := a.f1; have := a.p1
      rw [← h _ (by omega), ← h _ (by omega)]
      exact z
  hd := by
    rw [a.hd]
    apply List.filter_congr
    intro n hn
    rw [List.mem_range'_1] at hn
    rw [h n hn.1]
  rs := by
    rw [a.rs]
    apply List.filter_congr
    intro n hn
    have := Nat.mul_le_mul a.f1 a.p1
    rw [h _ (by omega)]

theorem Canon.inB {f : Nat → Bool} {x : Pts} (a : Canon f x) {n : Nat} (hn : 1 ≤ n) : x.inB n = f n := by
  unfold Pts.inB
  by_cases h : n < x.f
  · rw [if_pos h, a.hd]
    cases e : f n with
    | true => exact decide_eq_true (List.mem_filter.mpr ⟨List.mem_range'_1.mpr ⟨hn, by omega⟩, e⟩)
    | false => exact decide_eq_false fun z => by rw [(List.mem_filter.mp z).2] at e; cases e
  · rw [if_neg h, a.rs]
    have hm : n % x.p < x.p := Nat.mod_lt _ a.p1
    have hx : x.f ≤ x.f * x.p := Nat.le_mul_of_pos_right _ a.p1
    have e0 : f (x.f * x.p + n % x.p) = f n := a.per.cong (by omega) (by omega) (by rw [Nat.mul_comm, Nat.mul_add_mod, Nat.mod_mod])
    cases e : f n with
    | true => exact decide_eq_true (List.mem_filter.mpr ⟨List.mem_range.mpr hm, e0.trans e⟩)
    | false => exact decide_eq_false fun z => by rw [e0.symm.trans (List.mem_filter.mp z).2] at e; cases e
theorem asc_filter (a b : Nat) (f : Nat → Bool) : ((List.range' a b).filter f).Pairwise (· < ·) := List.Pairwise.filter _ (List.pairwise_lt_range' ..)
theorem asc_filter0 (b : Nat) (f : Nat → Bool) : ((List.range b).filter f).Pairwise (· < ·) := List.Pairwise.filter _ List.pairwise_lt_range
theorem Canon.ok {f : Nat → Bool} {x : Pts} (a : Canon f x) (h1 : x.f ≤ 9999) (h2 : x.p ≤ 9999) : x.Ok where
  f1 := a.f1
  f2 := h1
  p1 := a.p1
  p2 := h2
  ha := by rw [a.hd]; exact asc_filter _ _ _
  hb := fun n hn => by rw [a.hd] at hn; have := List.mem_range'_1.mp (List.mem_filter.mp hn).1; have := a.f1; omega
  ra := by rw [a.rs]; exact asc_filter0 _ _
  rb := fun n hn => by rw [a.rs] at hn; exact List.mem_range.mp (List.mem_filter.mp hn).1
/-- how a writing goes round -/
theorem Pts.per (x : Pts) : PerF x.inB x.f x.p := fun n hn => by
  unfold Pts.inB
  rw [if_neg (by omega), if_neg (by omega), Nat.add_mod_right]
/-! the program's search -/
theorem trueIx_filter (g : Nat → Bool) (n k : Nat) : trueIx ((List.range n).map g) k = ((List.range n).filter g).map (· + k) := by
  unfold trueIx
  rw [filterMap_if, List.length_map, List.length_range]
  congr 1
  apply List.filter_congr
  intro i hi
  have hi := List.mem_range.mp hi
  rw [List.getD_eq_getElem?_getD, List.getElem?_map, List.getElem?_range hi]
  rfl
theorem canon_least {f : Nat → Bool} {F P : Nat} (hF : 1 ≤ F) (hP : 1 ≤ P) (h : PerF f F P) : Canon f (leastPts ((List.range (F + P - 1)).map fun i => f (i + 1)) F) ∧ (leastPts ((List.range (F + P - 1)).map fun i => f (i + 1)) F).f ≤ F ∧ (leastPts ((List.range (F + P - 1)).map fun i => f (i + 1)) F).p ∣ P := by
  generalize hbs : (List.range (F + P - 1)).map (fun i => f (i + 1)) = bs
  have bl : bs.length = F + P - 1 := by rw [← hbs, List.length_map, List.length_range]
  have bg : ∀ i, i < F + P - 1 → bs.getD i false = f (i + 1) := fun i hi => by
    rw [← hbs, List.getD_eq_getElem?_getD, List.getElem?_map, List.getElem?_range hi]; rfl
  have hPl : bs.length - F + 1 = P := by omega
  -- the ring
  have rl : (ringL bs F).length = P := by rw [ringL_len]; exact hPl
  have hFP : F ≤ F * P := Nat.le_mul_of_pos_right _ hP
  have rg : ∀ r, r < P → (ringL bs F)[r]? = some (f (F * P + r)) := fun r hr => by
    unfold ringL
    rw [hPl, List.getElem?_map, List.getElem?_range hr]
    show some _ = some _
    congr 1
    have h1 := ringIx_lt (F := F) (P := P) (r := r) hF hP
    show bs.getD (ringIx F P r) false = _
    rw [bg _ (by omega)]
    refine h.cong ?_ (by omega) ?_
    · unfold ringIx; omega
    · have e : ((ringIx F P r + 1 : Nat) : Int) % (P : Int) = (r : Int) % (P : Int) := by
        unfold ringIx
        have h1 := Int.fmod_nonneg_of_pos ((r : Int) - (F : Int)) (show (0 : Int) < (P : Int) by omega)
        rw [show (((F - 1 + (((r : Int) - (F : Int)).fmod (P : Int)).toNat + 1 : Nat)) : Int) = (F : Int) + ((r : Int) - (F : Int)).fmod (P : Int) by omega]
        rw [Int.fmod_eq_emod_of_nonneg _ (by omega), Int.add_emod_emod]
        congr 1
        omega
      rw [Nat.mul_comm F P, Nat.mul_add_mod]
      exact Int.ofNat.inj e
  generalize hxs : ringL bs F = xs at rl rg
  -- its least period
  have pd : ∀ k, 1 ≤ k → perB xs k = true → PerF f F k := fun k hk hp n hn => by
    unfold perB at hp
    obtain ⟨h1, h2⟩ := Bool.and_eq_true_iff.mp hp
    have h1 := of_decide_eq_true h1
    rw [rl] at h1 h2
    have key : ∀ m, F ≤ m → f m = f (F * P + m % k) := fun m hm => by
      have hmP : m % P < P := Nat.mod_lt _ hP
      have := of_decide_eq_true (List.all_eq_true.mp h2 (m % P) (List.mem_range.mpr hmP))
      have hk2 : m % P % k = m % k := Nat.mod_mod_of_dvd _ (Nat.dvd_of_mod_eq_zero h1)
      have hk3 : m % k < P := Nat.lt_of_lt_of_le (Nat.mod_lt _ hk) (Nat.le_of_dvd hP (Nat.dvd_of_mod_eq_zero h1))
      rw [rg _ hmP, hk2, rg _ hk3] at this
      rw [← Option.some.inj this]
      exact h.cong hm (by omega) (by rw [Nat.mul_comm F P, Nat.mul_add_mod, Nat.mod_mod])
    rw [key n hn, key (n + k) (by omega), Nat.add_mod_right]
  have dp : ∀ k, k ∣ P → PerF f F k → perB xs k = true := fun k hd hp => by
    unfold perB
    rw [rl, decide_eq_true (Nat.mod_eq_zero_of_dvd hd), Bool.true_and, List.all_eq_true]
    intro i hi
    have hi := List.mem_range.mp hi
    have : i % k < P := Nat.lt_of_le_of_lt (Nat.mod_le _ _) hi
    rw [rg _ hi, rg _ this]
    refine decide_eq_true (congrArg some (hp.cong (by omega) (by omega) ?_))
    rw [Nat.add_mod, Nat.mod_eq_zero_of_dvd (Nat.dvd_trans hd (Nat.dvd_mul_left P F)), Nat.zero_add, Nat.mod_mod, Nat.add_mod, Nat.mod_eq_zero_of_dvd (Nat.dvd_trans hd (Nat.dvd_mul_left P F)), Nat.zero_add, Nat.mod_mod, Nat.mod_mod]
  have lp : 1 ≤ lperL xs ∧ perB xs (lperL xs) = true ∧ ∀ k, 1 ≤ k → k < lperL xs → perB xs k = false := by
    unfold lperL
    cases e : (List.range' 1 (xs.length - 1)).find? (perB xs) with
    | none =>
      refine ⟨by show 1 ≤ xs.length; omega, ?_, fun k h1 h2 => ?_⟩
      · show perB xs xs.length = true
        rw [rl]
        exact dp P (Nat.dvd_refl _) h
      · have h2 : k < xs.length := h2
        have := List.find?_eq_none.mp e k (List.mem_range'_1.mpr ⟨h1, by omega⟩)
        simpa using this
    | some k =>
      obtain ⟨h1, as, bs', h2, h3⟩ := List.find?_eq_some_iff_append.mp e
      have hm := List.mem_range'_1.mp (List.mem_of_find?_eq_some e)
      refine ⟨hm.1, h1, fun j j1 j2 => ?_⟩
      have j2 : j < k := j2
      have : j ∈ List.range' 1 (xs.length - 1) := List.mem_range'_1.mpr ⟨j1, by omega⟩
      rw [h2] at this
      rcases List.mem_append.mp this with z | z
      · simpa using h3 j z
      · have hs : (List.range' 1 (xs.length - 1)).Pairwise (· < ·) := List.pairwise_lt_range' ..
        rw [h2] at hs
        have hs := (List.pairwise_append.mp hs).2.1
        rcases List.mem_cons.mp z with e | z
        · omega
        · have := (List.pairwise_cons.mp hs).1 j z
          omega
  obtain ⟨l1, l2, l3⟩ := lp
  have hd : lperL xs ∣ P := by
    unfold perB at l2
    have := of_decide_eq_true (Bool.and_eq_true_iff.mp l2).1
    rw [rl] at this
    exact Nat.dvd_of_mod_eq_zero this
  have hL := pd _ l1 l2
  have hle : lperL xs ≤ P := Nat.le_of_dvd hP hd
  unfold leastPts
  rw [hxs]
  have gl : (lringL xs).length = lperL xs := by unfold lringL; rw [List.length_take]; omega
  have gg : ∀ r, r < lperL xs → (lringL xs).getD r false = f (F * P + r) := fun r hr => by
    unfold lringL
    rw [List.getD_eq_getElem?_getD, List.getElem?_take_of_lt hr, rg _ (by omega)]; rfl
  generalize lringL xs = gs at gl gg
  generalize lperL xs = L at *
  have gf : ∀ n, F ≤ n → gs.getD (n % L) false = f n := fun n hn => by
    rw [gg _ (Nat.mod_lt _ l1)]
    exact hL.cong (by omega) hn (by rw [Nat.add_mod, Nat.mod_eq_zero_of_dvd (Nat.dvd_trans hd (Nat.dvd_mul_left P F)), Nat.zero_add, Nat.mod_mod, Nat.mod_mod])
  -- first
  have lf : 1 ≤ lfirst bs gs F ∧ lfirst bs gs F ≤ F ∧ (∀ n, lfirst bs gs F ≤ n → f n = gs.getD (n % L) false) ∧ (lfirst bs gs F = 1 ∨ f (lfirst bs gs F - 1) ≠ gs.getD ((lfirst bs gs F - 1) % L) false) := by
    have key : ∀ b, b ≤ F → (∀ n, b ≤ n → n < F → 1 ≤ n → n ∉ (List.range' 1 (F - 1)).filter fun n => decide (bs.getD (n - 1) false ≠ gs.getD (n % gs.length) false)) → 1 ≤ b → ∀ n, b ≤ n → f n = gs.getD (n % L) false := fun b hb hz h1 n hn => by
      by_cases hF' : F ≤ n
      · exact (gf n hF').symm
      · have := hz n hn (by omega) (by omega)
        rw [List.mem_filter, List.mem_range'_1] at this
        have : ¬ (bs.getD (n - 1) false ≠ gs.getD (n % gs.length) false) := fun z => this ⟨by omega, decide_eq_true z⟩
        have := Decidable.not_not.mp this
        rw [bg _ (by omega), gl, show n - 1 + 1 = n by omega] at this
        exact this
    unfold lfirst
    split
    · rename_i m e
      have hm := List.mem_of_getLast? e
      have hm' := List.mem_filter.mp hm
      have hr := List.mem_range'_1.mp hm'.1
      refine ⟨by omega, by omega, key _ (by omega) (fun n h1 h2 h3 hz => ?_) (by omega), .inr ?_⟩
      · have hs := asc_filter 1 (F - 1) fun n => decide (bs.getD (n - 1) false ≠ gs.getD (n % gs.length) false)
        obtain ⟨as, eas⟩ := List.getLast?_eq_some_iff.mp e
        rw [eas] at hs hz
        rcases List.mem_append.mp hz with z | z
        · have := (List.pairwise_append.mp hs).2.2 n z m (List.mem_singleton.mpr rfl)
          omega
        · have := List.mem_singleton.mp z
          omega
      · have := of_decide_eq_true hm'.2
        rw [bg _ (by omega), gl, show m - 1 + 1 = m by omega] at this
        rw [show m + 1 - 1 = m by omega]
        exact this
    · rename_i e
      refine ⟨Nat.le_refl _, hF, key _ hF (fun n h1 h2 h3 hz => ?_) (Nat.le_refl _), .inl rfl⟩
      rw [List.getLast?_eq_none_iff.mp e] at hz
      cases hz
  obtain ⟨f1, f2, f3, f4⟩ := lf
  generalize lfirst bs gs F = b at *
  have hb : PerF f b L := fun n hn => by rw [f3 n hn, f3 (n + L) (by omega), Nat.add_mod_right]
  refine ⟨⟨f1, by show 1 ≤ gs.length; omega, ?_, fun k k1 k2 N z => ?_, ?_, ?_, ?_⟩, f2, by show gs.length ∣ P; rw [gl]; exact hd⟩
  · show PerF f b gs.length
    rw [gl]
    exact hb
  · have k2 : k < gs.length := k2
    rw [gl] at k2
    have hk := h.to hP z
    have hg := hk.gcd k P h
    have g1 : 1 ≤ Nat.gcd k P := Nat.gcd_pos_of_pos_right _ hP
    have g2 : Nat.gcd k P ≤ k := Nat.le_of_dvd k1 (Nat.gcd_dvd_left k P)
    have := dp _ (Nat.gcd_dvd_right k P) hg
    rw [l3 _ g1 (by omega)] at this
    cases this
  · show b = 1 ∨ f (b - 1 + gs.length) ≠ f (b - 1)
    rw [gl]
    refine f4.imp id fun z => ?_
    rw [f3 _ (by omega), Nat.add_mod_right]
    exact fun e => z e.symm
  · show trueIx (bs.take (b - 1)) 1 = (List.range' 1 (b - 1)).filter f
    have e1 : bs.take (b - 1) = (List.range (b - 1)).map fun i => f (i + 1) := by
      rw [← hbs, ← List.map_take, List.take_range]
      congr 2
      omega
    rw [e1, trueIx_filter, List.range'_eq_map_range, List.filter_map]
    simp only [Function.comp_def, Nat.add_comm]
  · show trueIx gs 0 = (List.range gs.length).filter fun r => f (b * gs.length + r)
    have e1 : gs = (List.range L).map fun r => f (b * L + r) := by
      apply List.ext_getElem?
      intro i
      by_cases hi : i < L
      · rw [List.getElem?_map, List.getElem?_range hi]
        have := gg i hi
        rw [List.getD_eq_getElem?_getD, List.getElem?_eq_getElem (by omega)] at this
        rw [List.getElem?_eq_getElem (by omega)]
        refine congrArg some (Eq.trans this ?_)
        have hbL : b ≤ b * L := Nat.le_mul_of_pos_right _ l1
        refine hb.cong (by omega) (by omega) ?_
        rw [Nat.add_mod, Nat.mod_eq_zero_of_dvd (Nat.dvd_trans hd (Nat.dvd_mul_left P F)), Nat.add_mod (b * L), Nat.mul_mod_left]
      · rw [List.getElem?_eq_none (by omega), List.getElem?_eq_none (by rw [List.length_map, List.length_range]; omega)]
    rw [gl]
    conv => lhs; rw [e1]
    rw [trueIx_filter]
    simp
theorem canon_lst {x : Pts} (h : x.Ok) : Canon x.inB x.lst ∧ x.lst.f ≤ x.f ∧ x.lst.p ∣ x.p := canon_least h.f1 h.p1 x.per
theorem lst_ok {x : Pts} (h : x.Ok) : x.lst.Ok := by
  obtain ⟨c, h1, h2⟩ := canon_lst h
  exact c.ok (Nat.le_trans h1 h.f2) (Nat.le_trans (Nat.le_of_dvd h.p1 h2) h.p2)
theorem lst_inB {x : Pts} (h : x.Ok) {n : Nat} (hn : 1 ≤ n) : x.lst.inB n = x.inB n := (canon_lst h).1.inB hn
theorem lst_lst {x : Pts} (h : x.Ok) : x.lst.lst = x.lst := ((canon_lst (lst_ok h)).1.congr fun n hn => lst_inB h hn).uniq (canon_lst h).1
end Sk
namespace Sk
open PySem PySem.Spec PyProof.Rows L2 Dk He
/-! ### what all laws draw by -/
def ct_law_take (L : Lw) : Ct := fun ds μ Q E => ∃ n k u, ds = [.cel n, .int u] ∧ μ[n]? = some (.pt k) ∧ k < 2 ^ 60 ∧ 0 < u ∧ u.natAbs.log2 < 9000 ∧ ∀ r : Int, 0 ≤ r → r < u → Q (.int r) (μ.set n (.pt (k + 1)))
abbrev N_law_take : List Str := ["_law_pot_here", "_law_upto", "_law_digit", "_law_prime", "_law_mixed"]
def wb_law_take (c1 c2 c3 c4 c5 : Int) (L : Lw) : Ws :=
    (sQ (sIf (tB0 (w2 fGt (wPot 0 (wV 0)) (wC (.int 0)))) (sQ (sSet 2 (w2 fMod (wN fInt (aC (wPot 0 (wV 0)) aN)) (wV 1)))
    (sQ (sPot 0 (wV 0) (w2 fFdiv (wPot 0 (wV 0)) (wV 1)))
    (sRet (wV 2)))) sN)
    (sQ (sPot 2 (wV 0) (w2 fAdd (wPot 2 (wV 0)) (wC (.int 1))))
    (sQ (sSet 3 (w2 fIx (wN fLst (aC (wC (.int 2147483647)) (aC (wC (.int 2147483629)) (aC (wC (.int 2147483587)) (aC (wC (.int 2147483579)) (aC (wC (.int 2147483563)) aN)))))) (w2 fMod (wN fInt (aC (wPot 2 (wV 0)) aN)) (wC (.int 5)))))
    (sQ (sSet 4 (w2 fMod (wN fInt (aC (w2 fPow (wN fInt (aC (w2 fAdd (w2 fAdd (wPot 1 (wV 0)) (w2 fMul (w2 fMul (wC (.int c5)) (wPot 2 (wV 0))) (wPot 2 (wV 0)))) (wC (.int c2))) aN)) (wC (.int 3))) aN)) (wV 3)))
    (sQ (sSet 4 (w2 fMod (wN fInt (aC (w2 fMul (wV 4) (w2 fAdd (w2 fMod (wN fInt (aC (wV 4) aN)) (wC (.int c3))) (w2 fMul (wC (.int c4)) (wPot 2 (wV 0))))) aN)) (wC (.int 2305843009213693907))))
    (sRet (w2 fMod (wN fInt (aC (w2 fFdiv (wV 4) (wC (.int c1))) aN)) (wV 1))))))))

/-- constants that fit -/
structure C5 (c1 c2 c3 c4 c5 : Int) : Prop where
  a : 0 < c1 ∧ c1 < 2 ^ 17
  b : 0 ≤ c2 ∧ c2 < 2 ^ 17
  c : 0 < c3 ∧ c3 < 2 ^ 17
  d : 0 ≤ c4 ∧ c4 < 2 ^ 17
  e : 0 ≤ c5 ∧ c5 < 2 ^ 17
theorem data_law_take (L : Lw) {c1 c2 c3 c4 c5 : Int} (C : C5 c1 c2 c3 c4 c5) {ds : List D} {μ : Mu} {Q : D → Mu → Prop} {E : Ek} (h : ct_law_take L ds μ Q E) : wb_law_take c1 c2 c3 c4 c5 L (deOf Q E) (startR N_law_take ds) μ := by
  obtain ⟨n, k, u, rfl, hn, hk, hu, hl, q⟩ := h
  have hs : ∀ m : Mc, (μ.set n m)[n]? = some m := fun m => List.getElem?_set_self (List.getElem?_eq_some_iff.mp hn).1
  unfold wb_law_take
  simp only [sQ, sIf, sN, tB0, w2, wPot, wV, wC, startR, deOf, List.map, List.length, List.replicate, List.cons_append, List.nil_append, List.getElem?_cons_zero, List.getElem?_cons_succ, hn, hs, potAt, fCmp, sSet, sPot, sRet, wN, aC, aN, fInt_i, List.set_cons_succ, List.set_cons_zero, fMod, fFdiv, fMul, fAdd, fPow, fLst, potPut, fIx, List.set_set]
  intro v hv
  by_cases h0 : 0 < v
  · rw [decide_eq_true h0]
    refine fun v1 h1 => ⟨by omega, fun v2 h2 => ⟨by omega, .inr ⟨hu, hl⟩, fdiv_small hu h2, k + 1, by omega, q _ (fmod_lt hu).1 (fmod_lt hu).2⟩⟩
  · rw [decide_eq_false h0]
    refine fun v1 a1 b1 => ⟨by omega, k + 1, by omega, by omega, by decide, fun v2 a2 b2 => ⟨by decide, ?_⟩⟩
    obtain ⟨z, hz, hz2⟩ := prime5 a2 2147483647 2147483629 2147483587 2147483579 2147483563
    rw [hz]
    have zp : 0 < z ∧ z < 2 ^ 31 := by
      simp only [List.mem_cons, List.not_mem_nil, or_false] at hz2
      rcases hz2 with rfl | rfl | rfl | rfl | rfl <;> decide
    have A := C.a; have B := C.b; have C3 := C.c; have D4 := C.d; have E5 := C.e
    refine fun v3 h3 v4 a4 b4 => ⟨cmul_of (m := 30) (n := 61) (by omega) (by omega), fun v5 a5 b5 => ?_⟩
    have p1 : (c5 * v4).natAbs < 2 ^ 91 := by
      rw [Int.natAbs_mul]
      exact Nat.lt_of_lt_of_le (Nat.mul_lt_mul'' (show c5.natAbs < 2 ^ 17 by omega) (show v4.natAbs < 2 ^ 61 by omega)) (by decide)
    have p2 : (c5 * v4 * v5).natAbs < 2 ^ 152 := by
      rw [Int.natAbs_mul]
      exact Nat.lt_of_lt_of_le (Nat.mul_lt_mul'' p1 (show v5.natAbs < 2 ^ 61 by omega)) (by decide)
    refine ⟨cmul_of p1 (n := 61) (by omega), by decide, ?_, by omega, by omega, fun v6 a6 b6 => ?_⟩
    · have := bits_of (x := v3 + c5 * v4 * v5 + c2) (m := 200) (by omega)
      omega
    generalize ((v3 + c5 * v4 * v5 + c2) ^ Int.toNat 3) = y
    have f1 := (fmod_lt (x := y) zp.1).1
    have f2 := (fmod_lt (x := y) zp.1).2
    generalize y.fmod z = x at f1 f2
    have f3 := (fmod_lt (x := x) (y := c3) (by omega)).1
    have f4 := (fmod_lt (x := x) (y := c3) (by omega)).2
    have p3 : (c4 * v6).natAbs < 2 ^ 78 := by
      rw [Int.natAbs_mul]
      exact Nat.lt_of_lt_of_le (Nat.mul_lt_mul'' (show c4.natAbs < 2 ^ 17 by omega) (show v6.natAbs < 2 ^ 61 by omega)) (by decide)
    refine ⟨cmul_of (m := 30) (n := 61) (by omega) (by omega), cmul_of (m := 31) (n := 80) (by omega) (by omega), by decide, by omega, .inl (by omega), by omega, q _ (fmod_lt hu).1 (fmod_lt hu).2⟩
def ct_law_of (L : Lw) : Ct := fun ds μ Q E => ∃ n k xs, ds = [.cel n, .lst xs] ∧ μ[n]? = some (.pt k) ∧ k < 2 ^ 60 ∧ 0 < xs.length ∧ xs.length < 2 ^ 60 ∧ ∀ d, d ∈ xs → Q d (μ.set n (.pt (k + 1)))
abbrev N_law_of : List Str := ["_law_pot_here", "_law_some"]
def wb_law_of (L : Lw) : Ws :=
    (sRet (w2 fIx (wV 1) (wCall (ct_law_take L) (aC (wV 0) (aC (wN fLen (aC (wV 1) aN)) aN)))))
theorem atI_mem {xs : List D} {r : Int} (h0 : 0 ≤ r) (h1 : r < xs.length) : ∃ d, atI xs r = some d ∧ d ∈ xs := by
  obtain ⟨h, e⟩ := atI_int h0 h1
  exact ⟨_, e, List.getElem_mem h⟩
theorem data_law_of (L : Lw) {ds : List D} {μ : Mu} {Q : D → Mu → Prop} {E : Ek} (h : ct_law_of L ds μ Q E) : wb_law_of L (deOf Q E) (startR N_law_of ds) μ := by
  obtain ⟨n, k, xs, rfl, hn, hk, h0, h1, q⟩ := h
  unfold wb_law_of
  simp only [sQ, sN, sSet, sRet, sRet0, sIf, sDo, sUnp, sPar, gT, gN, wV, wC, w2, w1, w3, wN, wL, wLc, aC, aN, tB0, tNt, tAn, tOrr, tY, wIf, wAn, wOr, wNt, wCall, wSl, pN, pS, iL, iR1, iR2, iEn, iZp, wRg1, wRg2, wMeth, wFld, wProp, sRaise, wS0, wS1, fSl, wipeR, startR, deOf, fCmp, fAdd, fSub, fMod, fNeg, fLst, fTup, fInt_i, fInt_b, fLen_s, fLen_l, fLen_t, fLen_c, fAbs_i, fMax_2, fMin_2, fTuple_l, fTuple_t, fList_l, fList_t, fStr_i, List.map_cons, List.map_nil, List.length_cons, List.length_nil, List.replicate, List.cons_append, List.nil_append, List.getElem?_cons_zero, List.getElem?_cons_succ, List.set_cons_succ, List.set_cons_zero, List.zip, List.zipWith, List.foldl, List.lookup]
  refine ⟨n, k, xs.length, rfl, hn, hk, by omega, ?_, fun r r0 r1 => ?_⟩
  · have := lg_le (x := (xs.length : Int)) (m := 60) (by omega)
    omega
  · obtain ⟨d, e, hd⟩ := atI_mem r0 r1
    rw [fIx_l e]
    exact q d hd
def ct_law_cells (L : Lw) : Ct := fun ds μ Q E => ∃ ns m, ds = [.scr ns, .int m] ∧ 0 < m ∧ m < 2 ^ 20 ∧ ∀ n : Nat, n ≤ m.toNat → Q (.lst (rgD 0 n)) μ
abbrev N_law_cells : List Str := ["_law_script", "_law_limit"]
def wb_law_cells (L : Lw) : Ws :=
    (sRet (wRg1 .lst (wN fMax (aC (wC (.int 1)) (aC (wN fMin (aC (wV 1) (aC (wN fLen (aC (wV 0) aN)) aN))) aN)))))
theorem data_law_cells (L : Lw) {ds : List D} {μ : Mu} {Q : D → Mu → Prop} {E : Ek} (h : ct_law_cells L ds μ Q E) : wb_law_cells L (deOf Q E) (startR N_law_cells ds) μ := by
  obtain ⟨ns, m, rfl, h0, h1, q⟩ := h
  unfold wb_law_cells
  simp only [sQ, sN, sSet, sRet, sRet0, sIf, sDo, sUnp, sPar, gT, gN, wV, wC, w2, w1, w3, wN, wL, wLc, aC, aN, tB0, tNt, tAn, tOrr, tY, wIf, wAn, wOr, wNt, wCall, wSl, pN, pS, iL, iR1, iR2, iEn, iZp, wRg1, wRg2, wMeth, wFld, wProp, sRaise, wS0, wS1, fSl, wipeR, startR, deOf, fCmp, fAdd, fSub, fMod, fNeg, fLst, fTup, fInt_i, fInt_b, fLen_s, fLen_l, fLen_t, fLen_c, fAbs_i, fMax_2, fMin_2, fTuple_l, fTuple_t, fList_l, fList_t, fStr_i, List.map_cons, List.map_nil, List.length_cons, List.length_nil, List.replicate, List.cons_append, List.nil_append, List.getElem?_cons_zero, List.getElem?_cons_succ, List.set_cons_succ, List.set_cons_zero, List.zip, List.zipWith, List.foldl, List.lookup]
  exact ⟨_, rfl, by unfold RgOk; omega, q _ (by omega)⟩
def ct_law_pot (L : Lw) : Ct := fun ds μ Q E => ∃ ns n, ds = [.scr ns, .int n] ∧ 0 ≤ n ∧ n < 2 ^ 20 ∧ Q (.cel μ.length) (μ ++ [.pt 0])
abbrev N_law_pot : List Str := ["_law_script", "_law_place", "_law_cell", "_law_own_here", "_law_small"]
def wb_law_pot (c1 c2 c3 c4 c5 : Int) (L : Lw) : Ws :=
    (sQ (sSet 2 (wIf (tB0 (w2 fLt (wV 1) (wN fLen (aC (wV 0) aN)))) (w2 fIx (wV 0) (wV 1)) (w2 fAdd (w2 fMul (wC (.int c1)) (wV 1)) (wC (.int c2)))))
    (sQ (sSet 3 (w2 fMul (w2 fMod (wN fInt (aC (wN fAbs (aC (wV 2) aN)) aN)) (w2 fPow (w2 fPow (wC (.int 10)) (wC (.int 60))) (wC (.int 5)))) (wN fInt (aC (w2 fGe (wN fAbs (aC (wV 2) aN)) (w2 fPow (wC (.int 10)) (wC (.int 18)))) aN))))
    (sQ (sSet 4 (w2 fMod (wN fInt (aC (wV 2) aN)) (wC (.int 2305843009213693951))))
    (sRet (wMkPot (aC (wV 3) (aC (w2 fMod (wN fInt (aC (w2 fAdd (w2 fAdd (w2 fMul (wV 4) (wC (.int c3))) (w2 fMul (w2 fMul (wC (.int c4)) (wV 1)) (wV 1))) (wC (.int c5))) aN)) (wC (.int 2305843009213693921))) (aC (wC (.int 0)) aN))))))))

theorem data_law_pot (L : Lw) {c1 c2 c3 c4 c5 : Int} (C : C5 c3 c1 c4 c2 c5) (N : List Str) (hN : N.length = 5) {ds : List D} {μ : Mu} {Q : D → Mu → Prop} {E : Ek} (h : ct_law_pot L ds μ Q E) : wb_law_pot c1 c2 c3 c4 c5 L (deOf Q E) (startR N ds) μ := by
  obtain ⟨ns, n, rfl, h0, h1, q⟩ := h
  have e : startR N [.scr ns, .int n] = startR N_law_pot [.scr ns, .int n] := by unfold startR; rw [hN]; rfl
  rw [e]
  unfold wb_law_pot
  simp only [sQ, sIf, sN, tB0, w2, wPot, wV, wC, startR, deOf, List.map, List.length, List.replicate, List.cons_append, List.nil_append, List.getElem?_cons_zero, List.getElem?_cons_succ, potAt, fCmp, sSet, sPot, sRet, wN, aC, aN, fInt_i, List.set_cons_succ, List.set_cons_zero, fMod, fFdiv, fMul, fAdd, fSub, fNeg, w1, fPow, fLst, fTup, potPut, fIx, List.set_set, wIf, fLen_c, fLen_l, fLen_t, fAbs_i, fInt_b, wMkPot, wCall, wRg1, fMax_2, fMin_2]
  have A := C.a; have B := C.b; have C3 := C.c; have D4 := C.d; have E5 := C.e
  by_cases hlt : n < (ns.length : Int)
  · rw [decide_eq_true hlt]
    obtain ⟨_, hz⟩ := atI_int (xs := ns) h0 hlt
    show (match atI ns n with | some z => _ | none => False)
    rw [hz]
    exact pot_ok h0 h1 (by omega) (by omega) q
  · rw [decide_eq_false hlt]
    exact ⟨cmul_of (m := 20) (n := 20) (by omega) (by omega), pot_ok h0 h1 (by omega) (by omega) q⟩
/-! ### sets -/
def ct_law_in (L : Lw) : Ct := fun ds μ Q E => ∃ (x : Pts) (n : Nat), ds = [x.d, .int n] ∧ 1 ≤ x.p ∧ Q (.bl (x.inB n)) μ
abbrev N_law_in : List Str := ["_law_parts_here", "_law_number", "_law_heads", "_law_first", "_law_period", "_law_rests"]
def wb_law_in (L : Lw) : Ws :=
    (sQ (sUnp (gT [2, 3, 4, 5]) (wV 0))
    (sRet (wIf (tB0 (w2 fLt (wV 1) (wV 3))) (w2 (fIn false) (wV 1) (wV 2)) (w2 (fIn false) (w2 fMod (wN fInt (aC (wV 1) aN)) (wV 4)) (wV 5)))))
theorem data_law_in (L : Lw) {ds : List D} {μ : Mu} {Q : D → Mu → Prop} {E : Ek} (h : ct_law_in L ds μ Q E) : wb_law_in L (deOf Q E) (startR N_law_in ds) μ := by
  obtain ⟨x, n, rfl, hp, q⟩ := h
  refine ⟨rfl, ?_⟩
  unfold Pts.inB at q
  show (match decide ((n : Int) < (x.f : Int)) with | true => _ | false => _)
  by_cases h : n < x.f
  · rw [if_pos h] at q
    rw [decide_eq_true (by omega)]
    refine ⟨rfl, flat_nats _, ?_⟩
    show Q (.bl (inD (.int (n : Int)) (natsD x.hd))) μ
    rw [inD_nats]
    exact q
  · rw [if_neg h] at q
    rw [decide_eq_false (by omega)]
    refine .inl ⟨_, rfl, by omega, rfl, flat_nats _, ?_⟩
    show Q (.bl (inD (.int ((n : Int).fmod (x.p : Int))) (natsD x.rs))) μ
    rw [fmod_nat, inD_nats]
    exact q
def hc_law_least (L : Lw) : D → Ct → Ct := fun t lam ds μ Q E => ∃ (f : Nat → Bool) (F P : Nat), ds = [t, .int F, .int P] ∧ 1 ≤ F ∧ F ≤ 100000 ∧ 1 ≤ P ∧ P ≤ 100000 ∧ (∀ n : Nat, 1 ≤ n → ∀ (Q' : D → Mu → Prop) (E' : Ek), Q' (.bl (f n)) μ → lam [.int n] μ Q' E') ∧
  PerF f F P ∧ ∀ x, Canon f x → x.f ≤ F → x.p ≤ P → Q x.d μ
abbrev N_law_least : List Str := ["_law_look", "_law_first", "_law_period", "_law_marks", "_law_length", "_law_at", "_law_rests", "_law_number"]
def wb_law_least (L : Lw) (t : D) (lam : Ct) : Ws :=
    (sQ (sUnp (gT [3, 4]) (wN fTup (aC (wL (wLc (iR1 (aC (w2 fMul (wC (.int 2)) (wV 2)) aN)) (gN 5) tY (wCallV 0 t lam (aC (w2 fAdd (wV 1) (wV 5)) aN)) [5])) (aC (wC (.int 1)) aN))))
    (sQ (sWhile (tOrr (tB0 (w2 fNe (w2 fMod (wN fInt (aC (wV 2) aN)) (wV 4)) (wC (.int 0)))) (tB0 (w2 fNe (wSl (wV 3) pN (pS (wV 2))) (wSl (wV 3) (pS (wV 4)) (pS (w2 fAdd (wV 4) (wV 2))))))) (sSet 4 (w2 fAdd (wV 4) (wC (.int 1)))))
    (sQ (sWhile (tAn (tB0 (w2 fGt (wV 1) (wC (.int 1)))) (tB0 (w2 fEq (wCallV 0 t lam (aC (w2 fSub (wV 1) (wC (.int 1))) aN)) (wCallV 0 t lam (aC (w2 fAdd (w2 fSub (wV 1) (wC (.int 1))) (wV 4)) aN))))) (sSet 1 (w2 fSub (wV 1) (wC (.int 1)))))
    (sQ (sSet 6 (wN fSortedI (aC (wL (wLc (iR2 (aC (wV 1) (aC (w2 fAdd (wV 1) (wV 4)) aN))) (gN 7) (tB0 (wCallV 0 t lam (aC (wV 7) aN))) (w2 fMod (wN fInt (aC (wV 7) aN)) (wV 4)) [7])) aN)))
    (sRet (wN fTup (aC (wN fTuple (aC (wL (wLc (iR2 (aC (wC (.int 1)) (aC (wV 1) aN))) (gN 7) (tB0 (wCallV 0 t lam (aC (wV 7) aN))) (wV 7) [7])) aN)) (aC (wV 1) (aC (wV 4) (aC (wN fTuple (aC (wV 6) aN)) aN))))))))))

theorem lw_marks {f : Nat → Bool} {F P l : Nat} (h1 : l ≤ P) : decide (((List.range (2 * P)).map fun i => f (F + i)).take P = (((List.range (2 * P)).map fun i => f (F + i)).drop l).take P) = true ↔ ∀ i, i < P → f (F + i) = f (F + i + l) := by
  rw [decide_eq_true_iff, List.ext_getElem?_iff]
  constructor
  · intro h i hi
    have := h i
    rw [List.getElem?_take_of_lt hi, List.getElem?_take_of_lt hi, List.getElem?_drop, List.getElem?_map, List.getElem?_map, List.getElem?_range (by omega), List.getElem?_range (by omega)] at this
    have this : f (F + i) = f (F + (l + i)) := Option.some.inj this
    rw [this]
    congr 1
    omega
  · intro h i
    by_cases hi : i < P
    · rw [List.getElem?_take_of_lt hi, List.getElem?_take_of_lt hi, List.getElem?_drop, List.getElem?_map, List.getElem?_map, List.getElem?_range (by omega), List.getElem?_range (by omega)]
      show some (f (F + i)) = some (f (F + (l + i)))
      rw [h i hi]
      congr 2
      omega
    · rw [List.getElem?_eq_none (by rw [List.length_take]; omega), List.getElem?_eq_none (by rw [List.length_take]; omega)]
theorem lw_per {f : Nat → Bool} {F P l : Nat} (hP : 1 ≤ P) (h : PerF f F P) (hl : ∀ i, i < P → f (F + i) = f (F + i + l)) : PerF f F l := fun n hn => by
  have e : n = F + (n - F) % P + (n - F) / P * P := by
    have := Nat.div_add_mod (n - F) P
    rw [Nat.mul_comm] at this
    omega
  have hm := Nat.mod_lt (n - F) hP
  have a := h.mul ((n - F) / P) (F + (n - F) % P) (by omega)
  have b := h.mul ((n - F) / P) (F + (n - F) % P + l) (by omega)
  rw [← e] at a
  have e2 : F + (n - F) % P + l + (n - F) / P * P = n + l := by omega
  rw [e2] at b
  rw [a, b, hl _ hm]
theorem sorted_rests {f : Nat → Bool} {b l : Nat} (hl : 1 ≤ l) (h : PerF f b l) {ns' : List Int} (hp : ns'.Perm (((List.range' b l).filter f).map fun n => ((n % l : Nat) : Int))) (hs : ns'.Pairwise (· ≤ ·)) :
    ns' = ((List.range l).filter fun r => f (b * l + r)).map fun (n : Nat) => (n : Int) := by
  have hb : b ≤ b * l := Nat.le_mul_of_pos_right _ hl
  have p2 : ((((List.range' b l).filter f).map fun n => n % l)).Perm ((List.range l).filter fun r => f (b * l + r)) := by
    rw [List.perm_ext_iff_of_nodup]
    · intro r
      rw [List.mem_map, List.mem_filter, List.mem_range]
      constructor
      · rintro ⟨n, hn, rfl⟩
        rw [List.mem_filter, List.mem_range'_1] at hn
        refine ⟨Nat.mod_lt _ hl, ?_⟩
        rw [← hn.2]
        exact h.cong (by omega) hn.1.1 (by rw [Nat.mul_comm, Nat.mul_add_mod, Nat.mod_mod])
      · rintro ⟨hr, hf⟩
        -- the number from b on that leaves r
        refine ⟨b + (b * l + r - b) % l, ?_, ?_⟩
        · rw [List.mem_filter, List.mem_range'_1]
          have hm := Nat.mod_lt (b * l + r - b) hl
          refine ⟨⟨by omega, by omega⟩, ?_⟩
          rw [← hf]
          refine h.cong (by omega) (by omega) ?_
          rw [Nat.add_mod, Nat.mod_mod, ← Nat.add_mod]
          congr 1
          omega
        · rw [Nat.add_mod, Nat.mod_mod, ← Nat.add_mod, show b + (b * l + r - b) = l * b + r by have := Nat.mul_comm b l; omega, Nat.mul_add_mod]
          exact Nat.mod_eq_of_lt hr
    · rw [List.Nodup, List.pairwise_map]
      refine List.Pairwise.imp_of_mem ?_ (asc_filter b l f)
      intro x y hx hy hxy e
      have hx := List.mem_range'_1.mp (List.mem_filter.mp hx).1
      have hy := List.mem_range'_1.mp (List.mem_filter.mp hy).1
      have d1 := Nat.div_add_mod x l
      have d2 := Nat.div_add_mod y l
      have hlt : y < x + l := by omega
      have : x / l = y / l ∨ x / l + 1 ≤ y / l := by
        have := Nat.div_le_div_right (c := l) (Nat.le_of_lt hxy)
        omega
      rcases this with q | q
      · rw [q] at d1; omega
      · have := Nat.mul_le_mul_left l q
        rw [Nat.mul_add] at this
        omega
    · exact List.Pairwise.imp (fun h => Nat.ne_of_lt h) (asc_filter0 _ _)
  have p3 := p2.map fun (n : Nat) => (n : Int)
  rw [List.map_map] at p3
  have p4 := hp.trans p3
  refine List.Perm.eq_of_pairwise (le := (· ≤ ·)) (fun a b _ _ h1 h2 => Int.le_antisymm h1 h2) hs ?_ p4
  rw [List.pairwise_map]
  exact List.Pairwise.imp (fun h => by omega) (asc_filter0 _ _)
theorem cutD_ft {α : Type} (xs : List α) (a b : Nat) (h : a ≤ b) (hb : b ≤ xs.length) : Dk.cutD xs (some (a : Int)) (some (b : Int)) = (xs.drop a).take (b - a) := by
  unfold Dk.cutD
  have e1 : HT.sIx xs.length 0 (some (a : Int)) = a := by
    show (if (a : Int) < 0 then ((a : Int) + (xs.length : Int)).toNat else min (a : Int).toNat xs.length) = a
    rw [if_neg (by omega)]
    omega
  have e2 : HT.sIx xs.length xs.length (some (b : Int)) = b := by
    show (if (b : Int) < 0 then ((b : Int) + (xs.length : Int)).toNat else min (b : Int).toNat xs.length) = b
    rw [if_neg (by omega)]
    omega
  rw [e1, e2]
theorem least_loop1 {f : Nat → Bool} {F P : Nat} {t : D} {μ : Mu} {D0 : De} {a b c : Sl} {ms : List Bool} (hP : 1 ≤ P) (hper : PerF f F P) (hms : (List.range (2 * P)).map (fun i => f (F + i)) = ms)
    (hn : ∀ l, 1 ≤ l → l ≤ P → PerF f F l → (∀ k, 1 ≤ k → k < l → k ∣ P → ¬ PerF f F k) → D0.nx [.sh t, .sh (.int F), .sh (.int P), .sh (.lst (ms.map .bl)), .sh (.int l), a, b, c] μ) :
    sWhile (tOrr (tB0 (w2 fNe (w2 fMod (wN fInt (aC (wV 2) aN)) (wV 4)) (wC (.int 0)))) (tB0 (w2 fNe (wSl (wV 3) pN (pS (wV 2))) (wSl (wV 3) (pS (wV 4)) (pS (w2 fAdd (wV 4) (wV 2))))))) (sSet 4 (w2 fAdd (wV 4) (wC (.int 1)))) D0
      [.sh t, .sh (.int F), .sh (.int P), .sh (.lst (ms.map .bl)), .sh (.int 1), a, b, c] μ := by
  have hml : ms.length = 2 * P := by rw [← hms, List.length_map, List.length_range]
  refine while_inv (m := P) (fun m ρ μ' => μ' = μ ∧ ∃ l : Nat, 1 ≤ l ∧ m + l = P + 1 ∧ l ≤ P ∧ (∀ k, 1 ≤ k → k < l → k ∣ P → ¬ PerF f F k) ∧ ρ = [.sh t, .sh (.int F), .sh (.int P), .sh (.lst (ms.map .bl)), .sh (.int l), a, b, c]) ?_ ⟨rfl, 1, by omega, by omega, by omega, fun k k1 k2 => by omega, rfl⟩
  rintro m ρ μ' N ⟨rfl, l, h1, h2, h3, h4, rfl⟩ hN
  obtain ⟨nx, rt, ex, ct, bk⟩ := D0
  have more : ¬ (l ∣ P ∧ PerF f F l) → N [.sh t, .sh (.int F), .sh (.int P), .sh (.lst (ms.map .bl)), .sh (.int (l + 1 : Nat)), a, b, c] μ' := fun hne => by
    have hlP : l < P := by
      rcases Nat.lt_or_ge l P with z | z
      · exact z
      · have : l = P := by omega
        subst this
        exact absurd ⟨Nat.dvd_refl _, hper⟩ hne
    refine hN (m - 1) _ _ (by omega) ⟨rfl, l + 1, by omega, by omega, by omega, fun k k1 k2 k3 k4 => ?_, rfl⟩
    by_cases e : k = l
    · subst e; exact hne ⟨k3, k4⟩
    · exact h4 k k1 (by omega) k3 k4
  simp only [sQ, sN, sSet, sRet, sRet0, sIf, sDo, sUnp, sPar, gT, gN, wV, wC, w2, w1, w3, wN, wL, wLc, aC, aN, tB0, tNt, tAn, tOrr, tY, wIf, wAn, wOr, wNt, wCall, wSl, pN, pS, iL, iR1, iR2, iEn, iZp, wRg1, wRg2, wMeth, wFld, wProp, sRaise, wS0, wS1, fSl, wipeR, startR, deOf, fCmp, fAdd, fSub, fMod, fNeg, fLst, fTup, fInt_i, fInt_b, fLen_s, fLen_l, fLen_t, fLen_c, fAbs_i, fMax_2, fMin_2, fTuple_l, fTuple_t, fList_l, fList_t, fStr_i, List.map_cons, List.map_nil, List.length_cons, List.length_nil, List.replicate, List.cons_append, List.nil_append, List.getElem?_cons_zero, List.getElem?_cons_succ, List.set_cons_succ, List.set_cons_zero, List.zip, List.zipWith, List.foldl, List.lookup]
  refine ⟨by omega, ?_⟩
  rw [fmod_nat, fNe_of (eqD_int _ _)]
  by_cases h0 : P % l = 0
  · rw [decide_eq_true (by rw [h0]; exact rfl)]
    show fNe _ _ _
    rw [cutD_to, show (l : Int) + (P : Int) = ((l + P : Nat) : Int) by omega, cutD_ft _ l (l + P) (by omega) (by rw [List.length_map]; omega), show l + P - l = P by omega, ← List.map_take, ← List.map_drop, ← List.map_take]
    have hb : eqD (.lst ((ms.take P).map .bl)) (.lst (((ms.drop l).take P).map .bl)) = some (decide (ms.take P = (ms.drop l).take P)) := by
      rw [eqD_of cq_bls_l cq_bls_l]; exact congrArg some (eqvL_bls _ _)
    rw [fNe_of hb]
    by_cases h5 : PerF f F l
    · have hv : decide (ms.take P = (ms.drop l).take P) = true := by
        rw [← hms]
        exact (lw_marks h3).mpr fun i hi => (h5 _ (by omega)).symm
      rw [hv]
      exact hn l h1 h3 h5 h4
    · have hv : decide (ms.take P = (ms.drop l).take P) = false := by
        rw [Bool.eq_false_iff]
        intro z
        rw [← hms] at z
        exact h5 (lw_per hP hper ((lw_marks h3).mp z))
      rw [hv]
      exact more fun z => h5 z.2
  · rw [decide_eq_false (by omega)]
    exact more fun z => h0 (Nat.mod_eq_zero_of_dvd z.1)
theorem least_loop2 {f : Nat → Bool} {F P l : Nat} {t : D} {lam : Ct} {μ : Mu} {D0 : De} {a b c d : Sl} (hF : 1 ≤ F) (hl : 1 ≤ l) (hper : PerF f F l) (hlam : ∀ n : Nat, 1 ≤ n → ∀ (Q' : D → Mu → Prop) (E' : Ek), Q' (.bl (f n)) μ → lam [.int n] μ Q' E')
    (hn : ∀ F', 1 ≤ F' → F' ≤ F → PerF f F' l → (F' = 1 ∨ f (F' - 1 + l) ≠ f (F' - 1)) → D0.nx [.sh t, .sh (.int F'), .sh (.int P), d, .sh (.int l), a, b, c] μ) :
    sWhile (tAn (tB0 (w2 fGt (wV 1) (wC (.int 1)))) (tB0 (w2 fEq (wCallV 0 t lam (aC (w2 fSub (wV 1) (wC (.int 1))) aN)) (wCallV 0 t lam (aC (w2 fAdd (w2 fSub (wV 1) (wC (.int 1))) (wV 4)) aN))))) (sSet 1 (w2 fSub (wV 1) (wC (.int 1)))) D0
      [.sh t, .sh (.int F), .sh (.int P), d, .sh (.int l), a, b, c] μ := by
  refine while_inv (m := F) (fun m ρ μ' => μ' = μ ∧ 1 ≤ m ∧ m ≤ F ∧ PerF f m l ∧ ρ = [.sh t, .sh (.int m), .sh (.int P), d, .sh (.int l), a, b, c]) ?_ ⟨rfl, hF, by omega, hper, rfl⟩
  rintro m ρ μ' N ⟨rfl, h1, h2, h3, rfl⟩ hN
  obtain ⟨nx, rt, ex, ct, bk⟩ := D0
  simp only [sQ, sN, sSet, sRet, sRet0, sIf, sDo, sUnp, sPar, gT, gN, wV, wC, w2, w1, w3, wN, wL, wLc, aC, aN, tB0, tNt, tAn, tOrr, tY, wIf, wAn, wOr, wNt, wCall, wSl, pN, pS, iL, iR1, iR2, iEn, iZp, wRg1, wRg2, wMeth, wFld, wProp, sRaise, wS0, wS1, fSl, wipeR, startR, deOf, fCmp, fAdd, fSub, fMod, fNeg, fLst, fTup, fInt_i, fInt_b, fLen_s, fLen_l, fLen_t, fLen_c, fAbs_i, fMax_2, fMin_2, fTuple_l, fTuple_t, fList_l, fList_t, fStr_i, List.map_cons, List.map_nil, List.length_cons, List.length_nil, List.replicate, List.cons_append, List.nil_append, List.getElem?_cons_zero, List.getElem?_cons_succ, List.set_cons_succ, List.set_cons_zero, List.zip, List.zipWith, List.foldl, List.lookup]
  by_cases h4 : m = 1
  · subst h4
    exact hn 1 h1 h2 h3 (.inl rfl)
  · rw [decide_eq_true (by omega)]
    refine ⟨rfl, ?_⟩
    show lam [.int ((m : Int) - 1)] μ' _ _
    rw [show (m : Int) - 1 = ((m - 1 : Nat) : Int) by omega]
    refine hlam _ (by omega) _ _ ?_
    refine ⟨rfl, ?_⟩
    show lam [.int ((m : Int) - 1 + (l : Int))] μ' _ _
    rw [show (m : Int) - 1 + (l : Int) = ((m - 1 + l : Nat) : Int) by omega]
    refine hlam _ (by omega) _ _ ?_
    rw [fEq_of (eqD_bl _ _)]
    by_cases h5 : f (m - 1) = f (m - 1 + l)
    · rw [decide_eq_true h5]
      refine hN (m - 1) _ _ (by omega) ⟨rfl, by omega, by omega, fun n hn' => ?_, rfl⟩
      by_cases e : n = m - 1
      · subst e; exact h5.symm
      · exact h3 n (by omega)
    · rw [decide_eq_false h5]
      exact hn m h1 h2 h3 (.inr fun z => h5 z.symm)
theorem data_law_least (L : Lw) {t : D} {lam : Ct} {ds : List D} {μ : Mu} {Q : D → Mu → Prop} {E : Ek} (h : hc_law_least L t lam ds μ Q E) : wb_law_least L t lam (deOf Q E) (startR N_law_least ds) μ := by
  obtain ⟨f, F, P, rfl, hF, hF2, hP, hP2, hlam, hper, q⟩ := h
  refine ⟨cmul_of (m := 2) (n := 20) (by omega) (by omega), by omega, by omega, ?_⟩
  refine lcL_map (enc := fun (i : Nat) => D.int (i : Int)) (f := fun i => .bl (f (F + i))) (List.range (2 * P)) ?_ (fun i hi R hR => ?_) ?_ ?_
  · rw [show (2 * (P : Int)).toNat = 2 * P by omega]; exact rgD_nat0 _
  · refine ⟨rfl, ?_⟩
    show lam [.int ((F : Int) + (i : Int))] μ R noE
    rw [show (F : Int) + (i : Int) = ((F + i : Nat) : Int) by omega]
    exact hlam _ (by omega) _ _ hR
  · rw [List.length_range]; exact Nat.le_trans (by omega : _ ≤ 1000000) (by decide)
  have hmk : (List.range (2 * P)).map (fun i => D.bl (f (F + i))) = ((List.range (2 * P)).map fun i => f (F + i)).map .bl := by rw [List.map_map]; rfl
  rw [hmk]
  refine ⟨(by decide : 2 ≤ sizeLine), rfl, ?_⟩
  refine least_loop1 hP hper rfl fun l l1 l2 l3 l4 => ?_
  refine least_loop2 hF l1 l3 hlam fun b b1 b2 b3 b4 => ?_
  refine ⟨⟨by omega, by omega, by omega, by omega⟩, ?_⟩
  refine lcL_filter (enc := fun (i : Nat) => D.int (i : Int)) (p := f) (f := fun n => .int ((n % l : Nat) : Int)) (List.range' b l) ?_ (fun n hn R S hR hS => ?_) ?_ ?_
  · rw [show ((b : Int) + (l : Int) - (b : Int)).toNat = l by omega]; exact rgD_nat _ _
  · have hn := List.mem_range'_1.mp hn
    refine ⟨rfl, hlam n (by omega) _ _ ?_⟩
    cases e : f n with
    | true =>
      refine .inl ⟨_, rfl, by omega, ?_⟩
      show R (.int ((n : Int).fmod (l : Int))) μ
      rw [fmod_nat]
      exact hR e
    | false => exact hS e
  · rw [List.length_range']; exact Nat.le_trans (by omega : _ ≤ 1000000) (by decide)
  refine ⟨((List.range' b l).filter f).map fun n => ((n % l : Nat) : Int), by rw [List.map_map]; rfl, fun ns' np ns => ?_⟩
  rw [sorted_rests l1 b3 np ns]
  refine ⟨⟨by decide, by decide, by omega, by omega⟩, ?_⟩
  refine lcL_filter (enc := fun (i : Nat) => D.int (i : Int)) (p := f) (f := fun (n : Nat) => .int (n : Int)) (List.range' 1 (b - 1)) ?_ (fun n hn R S hR hS => ?_) ?_ ?_
  · rw [show ((b : Int) - 1).toNat = b - 1 by omega]; exact rgD_nat 1 _
  · have hn := List.mem_range'_1.mp hn
    refine ⟨rfl, hlam n (by omega) _ _ ?_⟩
    cases e : f n with
    | true => exact hR e
    | false => exact hS e
  · rw [List.length_range']; exact Nat.le_trans (by omega : _ ≤ 1000000) (by decide)
  refine .inl ⟨_, rfl, .inl ⟨_, rfl, (by decide : 4 ≤ sizeLine), ?_⟩⟩
  have hc : Canon f ⟨(List.range' 1 (b - 1)).filter f, b, l, (List.range l).filter fun r => f (b * l + r)⟩ := {
    f1 := b1
    p1 := l1
    per := b3
    min := fun k k1 k2 N z => by
      have hg := (hper.to hP z).gcd k P hper
      exact l4 _ (Nat.gcd_pos_of_pos_right _ hP) (Nat.lt_of_le_of_lt (Nat.le_of_dvd k1 (Nat.gcd_dvd_left k P)) k2) (Nat.gcd_dvd_right k P) hg
    fst := b4
    hd := rfl
    rs := rfl }
  have := q _ hc b2 l2
  show Q (.tup [.tup (((List.range' 1 (b - 1)).filter f).map fun (n : Nat) => D.int (n : Int)), .int b, .int l, .tup ((((List.range l).filter fun r => f (b * l + r)).map fun (n : Nat) => (n : Int)).map .int)]) μ
  rw [List.map_map]
  exact this
end Sk
namespace Sk
open PySem PySem.Spec PyProof.Rows L2 Dk He
/-! ### drawn sets -/
theorem set_same {μ : Mu} {n : Nat} {m : Mc} (h : μ[n]? = some m) : μ.set n m = μ := by
  apply List.ext_getElem?
  intro i
  by_cases e : n = i
  · subst e
    rw [List.getElem?_set_self (List.getElem?_eq_some_iff.mp h).1, h]
  · rw [List.getElem?_set_ne e]
theorem set_at {μ : Mu} {n : Nat} {m m' : Mc} (h : μ[n]? = some m) : (μ.set n m')[n]? = some m' := List.getElem?_set_self (List.getElem?_eq_some_iff.mp h).1
/-- a comprehension that draws once for each number -/
theorem lc_draw {wg : Wg} {wt : Wt} {we : We} {ρ : List Sl} {n c : Nat} {μ : Mu} {Q : List D → Mu → Prop}
    (hs : ∀ (m k : Nat) (P : D → Mu → Prop) (R : Mu → Prop), k < c → (∀ k', k ≤ k' → k' ≤ k + 1 → P (.int (m : Int)) (μ.set n (.pt k')) ∧ R (μ.set n (.pt k'))) → wg (.int (m : Int)) ρ (fun ρ1 => wt ρ1 (μ.set n (.pt k)) (fun b μ => match b with | true => we ρ1 μ P noE | false => R μ) noE)) :
    ∀ (l a k : Nat) (acc : List Nat), k + l ≤ c → acc.length + l ≤ 100000 → acc.Pairwise (· < ·) → (∀ x ∈ acc, x < a) →
      (∀ (ns : List Nat) (k' : Nat), k ≤ k' → k' ≤ k + l → ns.Pairwise (· < ·) → (∀ x ∈ ns, x ∈ acc ∨ a ≤ x ∧ x < a + l) → Q (natsD ns) (μ.set n (.pt k'))) → lcL wg wt we ρ ((List.range' a l).map fun (i : Nat) => D.int (i : Int)) (natsD acc) (μ.set n (.pt k)) Q
  | 0, a, k, acc, hc, hl, hp, hb, q => q acc k (by omega) (by omega) hp fun x hx => .inl hx
  | l + 1, a, k, acc, hc, hl, hp, hb, q => by
    rw [List.range'_succ, List.map_cons]
    refine hs a k _ _ (by omega) fun k' h1 h2 => ⟨⟨?_, ?_⟩, ?_⟩
    · unfold natsD; rw [List.length_map]; exact Nat.lt_of_lt_of_le (by omega : _ < 1000000) (by decide)
    · have e : natsD acc ++ [D.int (a : Int)] = natsD (acc ++ [a]) := by unfold natsD; rw [List.map_append]; rfl
      rw [e]
      refine lc_draw hs l (a + 1) k' (acc ++ [a]) (by omega) (by rw [List.length_append, List.length_singleton]; omega) ?_ (fun x hx => ?_) fun ns k2 g1 g2 g3 g4 => q ns k2 (by omega) (by omega) g3 fun x hx => ?_
      · exact List.pairwise_append.mpr ⟨hp, List.pairwise_singleton _ _, fun x hx y hy => by rw [List.mem_singleton.mp hy]; exact hb x hx⟩
      · rcases List.mem_append.mp hx with z | z
        · have := hb x z; omega
        · rw [List.mem_singleton.mp z]; omega
      · rcases g4 x hx with z | z
        · rcases List.mem_append.mp z with z | z
          · exact .inl z
          · rw [List.mem_singleton.mp z]; exact .inr (by omega)
        · exact .inr (by omega)
    · refine lc_draw hs l (a + 1) k' acc (by omega) (by omega) hp (fun x hx => by have := hb x hx; omega) fun ns k2 g1 g2 g3 g4 => q ns k2 (by omega) (by omega) g3 fun x hx => ?_
      rcases g4 x hx with z | z
      · exact .inl z
      · exact .inr (by omega)
/-- a set as the laws draw it -/
structure Dr (top : Nat) (x : Pts) : Prop where
  ok : x.Ok
  f : x.f ≤ top
  p : x.p ≤ 12
  d : x.p ∣ 120
def ct_law_parts (L : Lw) : Ct := fun ds μ Q E => ∃ (n k top : Nat), ds = [.cel n, .int top] ∧ μ[n]? = some (.pt k) ∧ k < 2 ^ 59 ∧ 1 ≤ top ∧ top ≤ 1000 ∧ ∀ (x : Pts) (k' : Nat), Dr top x → k ≤ k' → k' ≤ k + 2000 → Q x.d (μ.set n (.pt k'))
abbrev N_law_parts : List Str := ["_law_pot_here", "_law_top", "_law_first", "_law_period", "_law_heads", "_law_number", "_law_way", "_law_rests", "_law_rest"]
def wb_law_parts (L : Lw) : Ws :=
    (sQ (sPar 2 3 (aC (w2 fAdd (wC (.int 1)) (wCall (ct_law_take L) (aC (wV 0) (aC (wV 1) aN)))) (aC (wCall (ct_law_of L) (aC (wV 0) (aC (wN fLst (aC (wC (.int 1)) (aC (wC (.int 2)) (aC (wC (.int 3)) (aC (wC (.int 4)) (aC (wC (.int 5)) (aC (wC (.int 6)) (aC (wC (.int 8)) (aC (wC (.int 12)) (aC (wC (.int 1)) aN)))))))))) aN))) aN)))
    (sQ (sSet 4 (wN fTuple (aC (wL (wLc (iR2 (aC (wC (.int 1)) (aC (wV 2) aN))) (gN 5) (tB0 (w2 fEq (wCall (ct_law_take L) (aC (wV 0) (aC (wC (.int 2)) aN))) (wC (.int 0)))) (wV 5) [5])) aN)))
    (sQ (sSet 6 (wCall (ct_law_take L) (aC (wV 0) (aC (wC (.int 5)) aN))))
    (sQ (sSet 7 (wL (wLc (iR1 (aC (wV 3) aN)) (gN 8) (tAn (tB0 (w2 fGt (wV 6) (wC (.int 1)))) (tB0 (w2 fEq (wCall (ct_law_take L) (aC (wV 0) (aC (wC (.int 2)) aN))) (wC (.int 0))))) (wV 8) [8])))
    (sQ (sIf (tB0 (w2 fEq (wV 6) (wC (.int 1)))) (sSet 7 (wRg1 .lst (wV 3))) sN)
    (sRet (wN fTup (aC (wV 4) (aC (wV 2) (aC (wV 3) (aC (wN fTuple (aC (wV 7) aN)) aN)))))))))))

theorem data_law_parts (L : Lw) {ds : List D} {μ : Mu} {Q : D → Mu → Prop} {E : Ek} (h : ct_law_parts L ds μ Q E) : wb_law_parts L (deOf Q E) (startR N_law_parts ds) μ := by
  obtain ⟨n, k, top, rfl, hn, hk, ht, ht2, q⟩ := h
  refine ⟨n, k, top, rfl, hn, by omega, by omega, ?_, fun r r0 r1 => ?_⟩
  · have := lg_le (x := (top : Int)) (m := 60) (by omega)
    omega
  refine ⟨by decide, n, k + 1, _, rfl, set_at hn, by omega, (by decide : 0 < 9), (by decide : 9 < 2 ^ 60), fun d hd => ?_⟩
  rw [List.set_set]
  have hd2 : ∃ p : Nat, d = .int (p : Int) ∧ 1 ≤ p ∧ p ≤ 12 ∧ p ∣ 120 := by
    simp only [List.mem_cons, List.not_mem_nil, or_false] at hd
    rcases hd with rfl | rfl | rfl | rfl | rfl | rfl | rfl | rfl | rfl
    · exact ⟨1, rfl, by decide⟩
    · exact ⟨2, rfl, by decide⟩
    · exact ⟨3, rfl, by decide⟩
    · exact ⟨4, rfl, by decide⟩
    · exact ⟨5, rfl, by decide⟩
    · exact ⟨6, rfl, by decide⟩
    · exact ⟨8, rfl, by decide⟩
    · exact ⟨12, rfl, by decide⟩
    · exact ⟨1, rfl, by decide⟩
  obtain ⟨p, rfl, p1, p2, p3⟩ := hd2
  obtain ⟨F, hF, F1, F2⟩ : ∃ F : Nat, 1 + r = (F : Int) ∧ 1 ≤ F ∧ F ≤ top := ⟨(1 + r).toNat, by omega, by omega, by omega⟩
  simp only [sQ, sN, sSet, sRet, sRet0, sIf, sDo, sUnp, sPar, gT, gN, wV, wC, w2, w1, w3, wN, wL, wLc, aC, aN, tB0, tNt, tAn, tOrr, tY, wIf, wAn, wOr, wNt, wCall, wSl, pN, pS, iL, iR1, iR2, iEn, iZp, wRg1, wRg2, wMeth, wFld, wProp, sRaise, wS0, wS1, fSl, wipeR, startR, deOf, fCmp, fAdd, fSub, fMod, fNeg, fLst, fTup, fInt_i, fInt_b, fLen_s, fLen_l, fLen_t, fLen_c, fAbs_i, fMax_2, fMin_2, fTuple_l, fTuple_t, fList_l, fList_t, fStr_i, List.map_cons, List.map_nil, List.length_cons, List.length_nil, List.replicate, List.cons_append, List.nil_append, List.getElem?_cons_zero, List.getElem?_cons_succ, List.set_cons_succ, List.set_cons_zero, List.zip, List.zipWith, List.foldl, List.lookup]
  rw [hF]
  refine ⟨⟨by decide, by decide, by omega, by omega⟩, ?_⟩
  have hr : rgD 1 ((F : Int) - 1).toNat = (List.range' 1 (F - 1)).map fun (i : Nat) => D.int (i : Int) := by
    rw [show ((F : Int) - 1).toNat = F - 1 by omega]
    exact rgD_nat 1 _
  show lcL _ _ _ _ (rgD 1 ((F : Int) - 1).toNat) [] _ _
  rw [hr]
  refine lc_draw (c := 2 ^ 60) (fun m k P R hk hq => ?_) (F - 1) 1 (k + 1 + 1) [] (by omega) (by show 0 + _ ≤ _; omega) List.Pairwise.nil (fun x hx => by cases hx) fun hs k1 a1 a2 a3 a4 => ?_
  · refine ⟨n, k, 2, rfl, set_at hn, hk, by decide, by decide, fun r r0 r1 => ?_⟩
    rw [List.set_set]
    simp only [sQ, sN, sSet, sRet, sRet0, sIf, sDo, sUnp, sPar, gT, gN, wV, wC, w2, w1, w3, wN, wL, wLc, aC, aN, tB0, tNt, tAn, tOrr, tY, wIf, wAn, wOr, wNt, wCall, wSl, pN, pS, iL, iR1, iR2, iEn, iZp, wRg1, wRg2, wMeth, wFld, wProp, sRaise, wS0, wS1, fSl, wipeR, startR, deOf, fCmp, fAdd, fSub, fMod, fNeg, fLst, fTup, fInt_i, fInt_b, fLen_s, fLen_l, fLen_t, fLen_c, fAbs_i, fMax_2, fMin_2, fTuple_l, fTuple_t, fList_l, fList_t, fStr_i, List.map_cons, List.map_nil, List.length_cons, List.length_nil, List.replicate, List.cons_append, List.nil_append, List.getElem?_cons_zero, List.getElem?_cons_succ, List.set_cons_succ, List.set_cons_zero, List.zip, List.zipWith, List.foldl, List.lookup]
    rw [fEq_of (eqD_int _ _)]
    have := hq (k + 1) (by omega) (by omega)
    by_cases e : r = 0
    · rw [decide_eq_true e]; exact this.1
    · rw [decide_eq_false e]; exact this.2
  refine ⟨n, k1, 5, rfl, set_at hn, by omega, by decide, by decide, fun w w0 w1 => ?_⟩
  rw [List.set_set]
  have hh : ∀ x ∈ hs, 1 ≤ x ∧ x < F := fun x hx => by
    rcases a4 x hx with z | z
    · cases z
    · omega
  have fin : ∀ (rs : List Nat) (k2 : Nat), rs.Pairwise (· < ·) → (∀ x ∈ rs, x < p) → k ≤ k2 → k2 ≤ k + 2000 → Q (.tup [.tup (natsD hs), .int F, .int p, .tup (natsD rs)]) (μ.set n (.pt k2)) := fun rs k2 c1 c2 c3 c4 =>
    q ⟨hs, F, p, rs⟩ k2 ⟨⟨F1, by show F ≤ 9999; omega, p1, by show p ≤ 9999; omega, a3, hh, c1, c2⟩, F2, p2, p3⟩ c3 c4
  have hr2 : rgD 0 ((p : Int)).toNat = (List.range' 0 p).map fun (i : Nat) => D.int (i : Int) := by
    rw [Int.toNat_natCast, ← List.range_eq_range']
    exact rgD_nat0 _
  refine ⟨by omega, by omega, ?_⟩
  show lcL _ _ _ _ (rgD 0 ((p : Int)).toNat) [] _ _
  rw [hr2]
  refine lc_draw (c := 2 ^ 60) (fun m k P R hk hq => ?_) p 0 (k1 + 1) [] (by omega) (by show 0 + _ ≤ _; omega) List.Pairwise.nil (fun x hx => by cases hx) fun rs k2 b1 b2 b3 b4 => ?_
  · show (match decide ((1 : Int) < w) with | true => _ | false => _)
    by_cases e : (1 : Int) < w
    · rw [decide_eq_true e]
      refine ⟨n, k, 2, rfl, set_at hn, hk, by decide, by decide, fun r r0 r1 => ?_⟩
      rw [List.set_set]
      simp only [sQ, sN, sSet, sRet, sRet0, sIf, sDo, sUnp, sPar, gT, gN, wV, wC, w2, w1, w3, wN, wL, wLc, aC, aN, tB0, tNt, tAn, tOrr, tY, wIf, wAn, wOr, wNt, wCall, wSl, pN, pS, iL, iR1, iR2, iEn, iZp, wRg1, wRg2, wMeth, wFld, wProp, sRaise, wS0, wS1, fSl, wipeR, startR, deOf, fCmp, fAdd, fSub, fMod, fNeg, fLst, fTup, fInt_i, fInt_b, fLen_s, fLen_l, fLen_t, fLen_c, fAbs_i, fMax_2, fMin_2, fTuple_l, fTuple_t, fList_l, fList_t, fStr_i, List.map_cons, List.map_nil, List.length_cons, List.length_nil, List.replicate, List.cons_append, List.nil_append, List.getElem?_cons_zero, List.getElem?_cons_succ, List.set_cons_succ, List.set_cons_zero, List.zip, List.zipWith, List.foldl, List.lookup]
      rw [fEq_of (eqD_int _ _)]
      have := hq (k + 1) (by omega) (by omega)
      by_cases e : r = 0
      · rw [decide_eq_true e]; exact this.1
      · rw [decide_eq_false e]; exact this.2
    · rw [decide_eq_false e]
      exact (hq k (by omega) (by omega)).2
  have hrs : ∀ x ∈ rs, x < p := fun x hx => by
    rcases b4 x hx with z | z
    · cases z
    · omega
  show fEq (.int w) (.int 1) _
  rw [fEq_of (eqD_int _ _)]
  by_cases e : w = 1
  · rw [decide_eq_true e]
    refine ⟨_, rfl, by unfold RgOk; omega, (by decide : 4 ≤ sizeLine), ?_⟩
    have := fin (List.range p) k2 List.pairwise_lt_range (fun x hx => List.mem_range.mp hx) (by omega) (by omega)
    show Q (.tup [.tup (natsD hs), .int F, .int p, .tup (rgD 0 ((p : Int)).toNat)]) _
    rw [Int.toNat_natCast, rgD_nat0]
    exact this
  · rw [decide_eq_false e]
    exact ⟨(by decide : 4 ≤ sizeLine), fin rs k2 b3 hrs (by omega) (by omega)⟩
/-! ### sets are shown -/
theorem dptA_nats : ∀ ns : List Nat, D.dptA (natsD ns) = 0
  | [] => rfl
  | n :: ns => by
    show max (D.dpt (.int n)) (D.dptA (natsD ns)) = 0
    rw [dptA_nats ns]
    rfl
theorem smA_nats : ∀ ns : List Nat, (∀ n ∈ ns, n ≤ 10000) → D.smA (natsD ns) = true
  | [], _ => rfl
  | n :: ns, h => by
    show (decide ((n : Int).natAbs < 10 ^ 12) && D.smA (natsD ns)) = true
    rw [smA_nats ns fun m hm => h m (List.mem_cons_of_mem _ hm), decide_eq_true (by have := h n (List.mem_cons_self ..); omega)]
    rfl
theorem wtA_nats : ∀ ns : List Nat, D.wtA (natsD ns) = 42 * ns.length
  | [] => rfl
  | n :: ns => by
    show 41 + 1 + D.wtA (natsD ns) = _
    rw [wtA_nats ns, List.length_cons]
    omega
theorem Pts.okR {x : Pts} (ok : x.Ok) : x.d.okR := by
  have hhd : ∀ n ∈ x.hd, n ≤ 10000 := fun n hn => by have := ok.hb n hn; have := ok.f2; omega
  have hrs : ∀ n ∈ x.rs, n ≤ 10000 := fun n hn => by have := ok.rb n hn; have := ok.p2; omega
  refine ⟨?_, ?_, Nat.le_trans (?_ : _ ≤ 2) (by decide)⟩
  · show (D.smA (natsD x.hd) && (decide ((x.f : Int).natAbs < 10 ^ 12) && (decide ((x.p : Int).natAbs < 10 ^ 12) && (D.smA (natsD x.rs) && true)))) = true
    have := ok.f2; have := ok.p2
    rw [smA_nats _ hhd, smA_nats _ hrs, decide_eq_true (by omega), decide_eq_true (by omega)]
    rfl
  · show D.wtA (natsD x.hd) + 1 + (41 + 1 + (41 + 1 + (D.wtA (natsD x.rs) + 1 + 0))) ≤ 2 ^ 20
    rw [wtA_nats, wtA_nats]
    have := ok.hl; have := ok.rl
    omega
  · show (max (D.dptA (natsD x.hd) + 1) (max 0 (max 0 (max (D.dptA (natsD x.rs) + 1) 0)))) + 1 ≤ 2
    rw [dptA_nats, dptA_nats]
    decide
end Sk
namespace Sk
open PySem PySem.Spec PyProof.Rows L2 Dk He
def ct_law_own (L : Lw) : Ct := fun ds μ Q E => ∃ x : Pts, ds = [setD x] ∧ Q x.d μ
abbrev N_law_own : List Str := ["_law_numbers"]
def wb_law_own (L : Lw) : Ws :=
    (sRet (wN fTup (aC (wProp [(41, ct_Numbers_heads L)] (wV 0)) (aC (wProp [(41, ct_Numbers_first L)] (wV 0)) (aC (wProp [(41, ct_Numbers_period L)] (wV 0)) (aC (wProp [(41, ct_Numbers_rests L)] (wV 0)) aN))))))

theorem data_law_own (L : Lw) {ds : List D} {μ : Mu} {Q : D → Mu → Prop} {E : Ek} (h : ct_law_own L ds μ Q E) : wb_law_own L (deOf Q E) (startR N_law_own ds) μ := by
  obtain ⟨x, rfl, q⟩ := h
  exact ⟨x, rfl, x, rfl, x, rfl, x, rfl, (by decide : 4 ≤ sizeLine), q⟩
def ct_law_new (L : Lw) : Ct := fun ds μ Q E => ∃ x : Pts, ds = [x.d] ∧ x.Ok ∧ Q (setD x.lst) μ
abbrev N_law_new : List Str := ["_law_parts_here"]
def wb_law_new (L : Lw) : Ws :=
    (sRet (wMake 41 (ci_Numbers L) [] (aC (w2 fIx (wV 0) (wC (.int 0))) (aC (w2 fIx (wV 0) (wC (.int 1))) (aC (w2 fIx (wV 0) (wC (.int 2))) (aC (w2 fIx (wV 0) (wC (.int 3))) aN))))))

theorem data_law_new (L : Lw) {ds : List D} {μ : Mu} {Q : D → Mu → Prop} {E : Ek} (h : ct_law_new L ds μ Q E) : wb_law_new L (deOf Q E) (startR N_law_new ds) μ := by
  obtain ⟨x, rfl, ok, q⟩ := h
  exact .inl ⟨x, ok, rfl, q⟩
/-! the text -/
def natS (n : Nat) : Str := toString (n : Int)
def wordsOf (x : Pts) : List Str := x.hd.map natS ++ (if x.rs = [] then [] else ([("from" : Str), natS x.f, "by", natS x.p, "rest"] : List Str) ++ x.rs.map natS)
def setText (x : Pts) : Str := if wordsOf x = [] then "none" else Txt.join " " (wordsOf x)
def ct_law_set_text (L : Lw) : Ct := fun ds μ Q E => ∃ x : Pts, ds = [x.d] ∧ x.Ok ∧ Q (.str (setText x)) μ
abbrev N_law_set_text : List Str := ["_law_parts_here", "_law_heads", "_law_first", "_law_period", "_law_rests", "_law_words", "_law_number", "_law_rest"]
def wb_law_set_text (L : Lw) : Ws :=
    (sQ (sUnp (gT [1, 2, 3, 4]) (wV 0))
    (sQ (sSet 5 (wL (wLc (iL (wV 1)) (gN 6) tY (wN fStr (aC (wV 6) aN)) [6])))
    (sQ (sIf (tB0 (w2 fNe (wV 4) (wN fTup aN))) (sSet 5 (w2 fAdd (w2 fAdd (wV 5) (wN fLst (aC (wC (.str "from")) (aC (wN fStr (aC (wV 2) aN)) (aC (wC (.str "by")) (aC (wN fStr (aC (wV 3) aN)) (aC (wC (.str "rest")) aN))))))) (wL (wLc (iL (wV 4)) (gN 7) tY (wN fStr (aC (wV 7) aN)) [7])))) sN)
    (sRet (wIf (tB0 (w2 fNe (wV 5) (wN fLst aN))) (wS1 fJoin (wC (.str " ")) (wV 5)) (wC (.str "none")))))))

theorem natS_len {n : Nat} (h : n ≤ 10000) : (natS n).length ≤ 13 := PyData.shown_int_le (i := (n : Int)) (by omega)
theorem sum_len : ∀ (ns : List Nat), (∀ n ∈ ns, n ≤ 10000) → ((ns.map natS).map (·.length)).sum ≤ 13 * ns.length
  | [], _ => Nat.le_refl _
  | n :: ns, h => by
    have h1 := natS_len (h n (List.mem_cons_self ..))
    have h2 := sum_len ns fun m hm => h m (List.mem_cons_of_mem _ hm)
    rw [List.map_cons, List.map_cons, List.sum_cons, List.length_cons]
    omega
theorem str_log {n : Nat} (h : n ≤ 10000) : ((n : Int).natAbs.log2 < 1920) := by
  have := lg_le (x := (n : Int)) (m := 20) (by omega)
  omega
theorem sok_nat (n : Nat) : PyData.strOk (natS n) = true := sok_of _
theorem plqA_strs : ∀ (ws : List Str), (∀ w ∈ ws, PyData.strOk w = true) → D.plqA (ws.map .str) = true
  | [], _ => rfl
  | w :: ws, h => by
    show (PyData.strOk w && D.plqA (ws.map .str)) = true
    rw [h w (List.mem_cons_self ..), plqA_strs ws fun x hx => h x (List.mem_cons_of_mem _ hx)]
    rfl
theorem depA_strs : ∀ (ws : List Str), D.depA (ws.map .str) = 0
  | [] => rfl
  | w :: ws => by
    show max 0 (D.depA (ws.map .str)) = 0
    rw [depA_strs ws]
    rfl
theorem eqD_strs_nil {ws : List Str} (h : ∀ w ∈ ws, PyData.strOk w = true) : eqD (.lst (ws.map .str)) (.lst []) = some ws.isEmpty := by
  have c1 : (D.lst (ws.map .str)).cq := ⟨plqA_strs ws h, by show D.depA _ + 1 ≤ 64; rw [depA_strs]; decide⟩
  have c2 : (D.lst []).cq := ⟨rfl, by decide⟩
  rw [eqD_of c1 c2]
  congr 1
  show eqvL (ws.map .str) [] = _
  rw [eqvL_nil]
  cases ws <;> rfl
theorem words_sok (x : Pts) : ∀ w ∈ wordsOf x, PyData.strOk w = true := fun w hw => by
  unfold wordsOf at hw
  rcases List.mem_append.mp hw with h | h
  · obtain ⟨n, _, rfl⟩ := List.mem_map.mp h
    exact sok_nat n
  · split at h
    · cases h
    · rcases List.mem_append.mp h with h | h
      · simp only [List.mem_cons, List.not_mem_nil, or_false] at h
        rcases h with rfl | rfl | rfl | rfl | rfl
        · exact sok_of _
        · exact sok_nat _
        · exact sok_of _
        · exact sok_nat _
        · exact sok_of _
      · obtain ⟨n, _, rfl⟩ := List.mem_map.mp h
        exact sok_nat n
theorem data_law_set_text (L : Lw) {ds : List D} {μ : Mu} {Q : D → Mu → Prop} {E : Ek} (h : ct_law_set_text L ds μ Q E) : wb_law_set_text L (deOf Q E) (startR N_law_set_text ds) μ := by
  obtain ⟨x, rfl, ok, q⟩ := h
  have hhd : ∀ n ∈ x.hd, n ≤ 10000 := fun n hn => by have := ok.hb n hn; have := ok.f2; omega
  have hrs : ∀ n ∈ x.rs, n ≤ 10000 := fun n hn => by have := ok.rb n hn; have := ok.p2; omega
  have hf : x.f ≤ 10000 := by have := ok.f2; omega
  have hp : x.p ≤ 10000 := by have := ok.p2; omega
  have hl := ok.hl
  have rl := ok.rl
  refine ⟨rfl, ?_⟩
  refine lcL_map (enc := fun (n : Nat) => D.int (n : Int)) (f := fun n => .str (natS n)) x.hd rfl (fun n hn P hP => ⟨_, rfl, str_log (hhd n hn), hP⟩) (Nat.le_trans hl (by decide)) ?_
  have fin : ∀ (ws : List Str), ws = wordsOf x → ∀ (a b c d e f g : Sl), wIf (tB0 (w2 fNe (wV 5) (wN fLst aN))) (wS1 fJoin (wC (.str " ")) (wV 5)) (wC (.str "none")) [a, b, c, d, e, .sh (.lst (ws.map .str)), f, g] μ Q E := fun ws hws a b c d e f g => by
    subst hws
    refine ⟨by decide, ?_⟩
    show fNe (.lst ((wordsOf x).map .str)) (.lst []) _
    rw [fNe_of (eqD_strs_nil (words_sok x))]
    unfold setText at q
    cases hw : wordsOf x with
    | nil =>
      rw [hw, if_pos rfl] at q
      exact q
    | cons w ws =>
      rw [hw, if_neg (List.cons_ne_nil _ _)] at q
      refine ⟨w :: ws, .inl rfl, ?_, q⟩
      rw [← hw]
      have h1 := sum_len x.hd hhd
      have h2 := sum_len x.rs hrs
      have h3 := natS_len hf
      have h4 := natS_len hp
      have k1 : (Str.ofString "from").length = 4 := rfl
      have k2 : (Str.ofString "by").length = 2 := rfl
      have k3 : (Str.ofString "rest").length = 4 := rfl
      have k4 : (Str.ofString " ").length = 1 := rfl
      unfold wordsOf
      by_cases he : x.rs = []
      · rw [if_pos he, List.append_nil, List.length_map, k4]
        omega
      · rw [if_neg he]
        simp only [List.map_append, List.map_cons, List.map_nil, List.sum_append, List.sum_cons, List.sum_nil, List.length_append, List.length_cons, List.length_nil, List.length_map, k1, k2, k3, k4] at h1 h2 ⊢
        omega
  have e1 : x.hd.map (fun n => D.str (natS n)) = (x.hd.map natS).map .str := by rw [List.map_map]; rfl
  rw [e1]
  refine ⟨by decide, ?_⟩
  have er : natsD x.rs = (x.rs.map fun (n : Nat) => (n : Int)).map .int := by unfold natsD; rw [List.map_map]; rfl
  show fNe (.tup (natsD x.rs)) (.tup []) _
  rw [er, fNe_of eqD_nil_t]
  have eb : (x.rs.map fun (n : Nat) => (n : Int)).isEmpty = x.rs.isEmpty := by cases x.rs <;> rfl
  rw [eb]
  cases hr : x.rs with
  | nil =>
    exact fin (x.hd.map natS) (by unfold wordsOf; rw [if_pos hr, List.append_nil]) _ _ _ _ _ _ _
  | cons r rs =>
    have hne : x.rs ≠ [] := by rw [hr]; exact List.cons_ne_nil _ _
    refine ⟨_, rfl, str_log hf, _, rfl, str_log hp, (by decide : 5 ≤ sizeLine), ?_, ?_⟩
    · rw [List.length_map, List.length_map]; exact Nat.le_trans (by show _ + 5 ≤ 1000000; omega) (by decide)
    · show lcL _ _ _ _ (natsD x.rs) [] _ _
      refine lcL_map (enc := fun (n : Nat) => D.int (n : Int)) (f := fun n => .str (natS n)) x.rs rfl (fun n hn P hP => ⟨_, rfl, str_log (hrs n hn), hP⟩) (Nat.le_trans rl (by decide)) ?_
      refine ⟨?_, ?_⟩
      · simp only [List.length_map, List.length_append, List.length_cons, List.length_nil]; exact Nat.le_trans (by omega : _ ≤ 1000000) (by decide)
      · have e2 : (x.hd.map natS).map D.str ++ [D.str "from", .str (natS x.f), .str "by", .str (natS x.p), .str "rest"] ++ x.rs.map (fun n => D.str (natS n)) = (wordsOf x).map .str := by
          unfold wordsOf
          rw [if_neg hne]
          simp only [List.map_append, List.map_map, List.append_assoc]
          rfl
        have := fin (wordsOf x) rfl (.sh x.d) (.sh (.tup (natsD x.hd))) (.sh (.int x.f)) (.sh (.int x.p)) (.sh (.tup (natsD x.rs))) .no .no
        rw [← e2] at this
        exact this
end Sk
namespace Sk
open PySem PySem.Spec PyProof.Rows L2 Dk He
/-! ### errors that are caught -/
def catR (L : Lw) (c : Nat) : Option Bool := if L.es.contains c then some true else none
def exmB (K : PySem.W.Frag) (L : Lw) : Bool := L.es.all fun c => decide (PySem.W.exmOne K (.ref (ga K (clsNm c))) (.ref (ga K "RingError")) = some true)
theorem catR_ok {K : PySem.W.Frag} {T : List (Addr × Str)} {L : Lw} (h : exmB K L = true) : ∀ c b, catR L c = some b → PySem.W.exmOne K (.ref ((gOf K T).cls c)) (.ref (ga K "RingError")) = some b := fun c b e => by
  unfold catR at e
  split at e
  · rename_i z
    cases e
    exact of_decide_eq_true (List.all_eq_true.mp h c (List.contains_iff_mem.mp z))
  · cases e
def xvB (K : PySem.W.Frag) (L : Lw) : Bool := L.es.all fun c => xfB K (ga K (clsNm c)) && eqO (PySem.W.findIn K (.ref (ga K (clsNm c))) "value") (some none)
theorem xvR_ok {K : PySem.W.Frag} {T : List (Addr × Str)} {L : Lw} (h : xvB K L = true) : ∀ c ∈ L.es, XvOk (gOf K T) K c := fun c hc => by
  obtain ⟨h1, h2⟩ := ba (List.all_eq_true.mp h c hc)
  exact ⟨xfB_ok h1, eqO_ok h2⟩
def hc_law_told (L : Lw) : D → Ct → Ct := fun t lam ds μ Q E => ds = [t] ∧ ∃ Q1 E1, lam [] μ Q1 E1 ∧ (∀ d μ', Q1 d μ' → Q (.tup [.non, d]) μ') ∧ ∀ c d μ', E1 c d μ' → L.es.contains c = true ∧ Q (.tup [.exc c d, .non]) μ'
abbrev N_law_told : List Str := ["_law_look", "_law_caught", "_law_back", "error"]
def wb_law_told (L : Lw) (t : D) (lam : Ct) : Ws :=
    (sQ (sUnp (gT [1, 2]) (wN fTup (aC (wC .non) (aC (wC .non) aN))))
    (sQ (sTryAs 3 (catR L) (sSet 2 (wMono (wCallV 0 t lam aN))) (sSet 1 (wV 3)))
    (sRet (wN fTup (aC (wV 1) (aC (wV 2) aN))))))
theorem data_law_told (L : Lw) {t : D} {lam : Ct} {ds : List D} {μ : Mu} {Q : D → Mu → Prop} {E : Ek} (h : hc_law_told L t lam ds μ Q E) : wb_law_told L t lam (deOf Q E) (startR N_law_told ds) μ := by
  obtain ⟨rfl, Q1, E1, q, q1, q2⟩ := h
  refine ⟨(by decide : 2 ≤ sizeLine), rfl, Q1, E1, ⟨rfl, q⟩, fun d μ' h => ⟨(by decide : 2 ≤ sizeLine), q1 d μ' h⟩, fun c d μ' h => ?_⟩
  obtain ⟨hc, h'⟩ := q2 c d μ' h
  exact ⟨true, if_pos hc, fun _ => ⟨(by decide : 2 ≤ sizeLine), h'⟩, fun z => by cases z⟩
/-! a value of any kind -/
def odds : List D := [.non, .bl true, .bl false, .int 0, .int 1, .int (-1), .int 100000000, .str "", .str "a", .str "none", .str "0", .tup [], .lst [], .dic [] [], .tup [.int 0], .tup [.tup []], .lst [.int 0], .tup [.int 1, .int 2],
  .str "kind a 0", .tup [.int 0, .str "a", .int 0, .bl true], .tup [.str "once", .str "a", .str "b", .str "none"], .str "from 1 by 1 rest 0"]
def ct_law_odd (L : Lw) : Ct := fun ds μ Q E => ∃ n k, ds = [.cel n] ∧ μ[n]? = some (.pt k) ∧ k < 2 ^ 60 ∧ ∀ d ∈ odds, Q d (μ.set n (.pt (k + 1)))
abbrev N_law_odd : List Str := ["_law_pot_here", "_law_some"]
def wb_law_odd (L : Lw) : Ws :=
    (sQ (sSet 1 (wN fLst (aC (wC .non) (aC (wC (.bl true)) (aC (wC (.bl false)) (aC (wC (.int 0)) (aC (wC (.int 1)) (aC (w1 fNeg (wC (.int 1))) (aC (w2 fPow (wC (.int 10)) (wC (.int 8))) (aC (wC (.str "")) (aC (wC (.str "a")) (aC (wC (.str "none")) (aC (wC (.str "0")) (aC (wN fTup aN) (aC (wN fLst aN) (aC (wC (.dic [] [])) (aC (wN fTup (aC (wC (.int 0)) aN)) (aC (wN fTup (aC (wN fTup aN) aN)) (aC (wN fLst (aC (wC (.int 0)) aN)) (aC (wN fTup (aC (wC (.int 1)) (aC (wC (.int 2)) aN))) aN))))))))))))))))))))
    (sQ (sSet 1 (w2 fAdd (wV 1) (wN fLst (aC (wC (.str "kind a 0")) (aC (wN fTup (aC (wC (.int 0)) (aC (wC (.str "a")) (aC (wC (.int 0)) (aC (wC (.bl true)) aN))))) (aC (wN fTup (aC (wC (.str "once")) (aC (wC (.str "a")) (aC (wC (.str "b")) (aC (wC (.str "none")) aN))))) (aC (wC (.str "from 1 by 1 rest 0")) aN)))))))
    (sRet (wCall (ct_law_of L) (aC (wV 0) (aC (wV 1) aN))))))

theorem data_law_odd (L : Lw) {ds : List D} {μ : Mu} {Q : D → Mu → Prop} {E : Ek} (h : ct_law_odd L ds μ Q E) : wb_law_odd L (deOf Q E) (startR N_law_odd ds) μ := by
  obtain ⟨n, k, rfl, hn, hk, q⟩ := h
  refine ⟨by decide, by decide, by decide, by decide, by decide, by decide, by decide, by decide, by decide, by decide, by decide, by decide, by decide, by decide, n, k, _, rfl, hn, hk, by decide, by decide, fun d hd => q d ?_⟩
  have e : ((10 : Int) ^ Int.toNat 8) = 100000000 := by decide
  rw [e] at hd
  exact hd
end Sk
namespace Sk
open PySem PySem.Spec PyProof.Rows L2 Dk He
/-! ### values that may be shown -/
structure OkV (L : Lw) (d : D) : Prop where
  o : Okd L d
  s : d.sm = true
  w : d.wt ≤ 1000
  d : d.dpt ≤ 10
theorem OkV.r {L : Lw} {d : D} (h : OkV L d) : d.okR := ⟨h.s, Nat.le_trans h.w (by decide), Nat.le_trans h.d (by decide)⟩
theorem OkV.two {L : Lw} {d e : D} (h : OkV L d) (g : OkV L e) : (D.tup [d, e]).okR := by
  refine ⟨?_, ?_, ?_⟩
  · show (d.sm && (e.sm && true)) = true
    rw [h.s, g.s]; rfl
  · show d.wt + 1 + (e.wt + 1 + 0) ≤ 2 ^ 20
    have := h.w; have := g.w
    omega
  · show max d.dpt (max e.dpt 0) + 1 ≤ 60
    have := h.d; have := g.d
    omega
theorem OkV.three {L : Lw} {a b c : D} (h1 : OkV L a) (h2 : OkV L b) (h3 : OkV L c) : (D.tup [a, b, c]).okR := by
  refine ⟨?_, ?_, ?_⟩
  · show (a.sm && (b.sm && (c.sm && true))) = true
    rw [h1.s, h2.s, h3.s]; rfl
  · show a.wt + 1 + (b.wt + 1 + (c.wt + 1 + 0)) ≤ 2 ^ 20
    have := h1.w; have := h2.w; have := h3.w
    omega
  · show max a.dpt (max b.dpt (max c.dpt 0)) + 1 ≤ 60
    have := h1.d; have := h2.d; have := h3.d
    omega
theorem okv_int {L : Lw} {i : Int} (h : i.natAbs < 10 ^ 12) : OkV L (.int i) := ⟨okd_int, decide_eq_true h, by show 41 ≤ _; decide, Nat.zero_le _⟩
theorem okv_bl {L : Lw} {b : Bool} : OkV L (.bl b) := ⟨okd_bl, rfl, Nat.zero_le _, Nat.zero_le _⟩
theorem okv_non {L : Lw} : OkV L .non := ⟨okd_non, rfl, Nat.zero_le _, Nat.zero_le _⟩
theorem okv_odd {L : Lw} {d : D} (h : d ∈ odds) : OkV L d := by
  simp only [odds, List.mem_cons, List.not_mem_nil, or_false] at h
  rcases h with rfl | rfl | rfl | rfl | rfl | rfl | rfl | rfl | rfl | rfl | rfl | rfl | rfl | rfl | rfl | rfl | rfl | rfl | rfl | rfl | rfl | rfl
  · exact ⟨okd_non, by decide +kernel, by decide +kernel, by decide +kernel⟩
  · exact ⟨okd_bl, by decide +kernel, by decide +kernel, by decide +kernel⟩
  · exact ⟨okd_bl, by decide +kernel, by decide +kernel, by decide +kernel⟩
  · exact ⟨okd_int, by decide +kernel, by decide +kernel, by decide +kernel⟩
  · exact ⟨okd_int, by decide +kernel, by decide +kernel, by decide +kernel⟩
  · exact ⟨okd_int, by decide +kernel, by decide +kernel, by decide +kernel⟩
  · exact ⟨okd_int, by decide +kernel, by decide +kernel, by decide +kernel⟩
  · exact ⟨okd_str, by decide +kernel, by decide +kernel, by decide +kernel⟩
  · exact ⟨okd_str, by decide +kernel, by decide +kernel, by decide +kernel⟩
  · exact ⟨okd_str, by decide +kernel, by decide +kernel, by decide +kernel⟩
  · exact ⟨okd_str, by decide +kernel, by decide +kernel, by decide +kernel⟩
  · exact ⟨okd_tup, by decide +kernel, by decide +kernel, by decide +kernel⟩
  · exact ⟨okd_lst, by decide +kernel, by decide +kernel, by decide +kernel⟩
  · exact ⟨okd_dic, by decide +kernel, by decide +kernel, by decide +kernel⟩
  · exact ⟨okd_tup, by decide +kernel, by decide +kernel, by decide +kernel⟩
  · exact ⟨okd_tup, by decide +kernel, by decide +kernel, by decide +kernel⟩
  · exact ⟨okd_lst, by decide +kernel, by decide +kernel, by decide +kernel⟩
  · exact ⟨okd_tup, by decide +kernel, by decide +kernel, by decide +kernel⟩
  · exact ⟨okd_str, by decide +kernel, by decide +kernel, by decide +kernel⟩
  · exact ⟨okd_tup, by decide +kernel, by decide +kernel, by decide +kernel⟩
  · exact ⟨okd_tup, by decide +kernel, by decide +kernel, by decide +kernel⟩
  · exact ⟨okd_str, by decide +kernel, by decide +kernel, by decide +kernel⟩
theorem rg_mem {lo : Int} {n : Nat} {d : D} (h : d ∈ rgD lo n) : ∃ i : Nat, i < n ∧ d = .int (lo + (i : Int)) := by
  unfold rgD at h
  obtain ⟨i, hi, e⟩ := List.mem_map.mp h
  exact ⟨i, List.mem_range.mp hi, e.symm⟩
/-! ### a number -/
def isNum (d : D) : Bool := match d with
  | .int i => decide (1 ≤ i)
  | _ => false
def ct_check_number (L : Lw) : Ct := fun ds μ Q E => ∃ d, ds = [d] ∧ Okd L d ∧ (isNum d = true → Q .non μ) ∧ (isNum d = false → d.okR ∧ E 3 d μ)
abbrev N_check_number : List Str := ["value"]
def wb_check_number (L : Lw) : Ws :=
    (sIf (tOrr (tNt (tB0 (wCall (ct_is_integer L) (aC (wV 0) aN)))) (tB0 (w2 fLt (wV 0) (wC (.int 1))))) (sRaise 3 (wV 0)) sN)
theorem data_check_number (L : Lw) {ds : List D} {μ : Mu} {Q : D → Mu → Prop} {E : Ek} (h : ct_check_number L ds μ Q E) : wb_check_number L (deOf Q E) (startR N_check_number ds) μ := by
  obtain ⟨d, rfl, hd, q1, q2⟩ := h
  refine ⟨d, rfl, hd, ?_⟩
  have no : isNum d = false → (∃ q, d.datD = some q ∧ Shw q) ∧ E 3 d μ := fun z => ⟨rep_of (q2 z).1, (q2 z).2⟩
  cases d with
  | int i =>
    show (match decide (i < (1 : Int)) with | true => _ | false => _)
    by_cases h : i < 1
    · rw [decide_eq_true h]
      exact no (decide_eq_false (by omega))
    · rw [decide_eq_false h]
      exact q1 (decide_eq_true (by omega))
  | _ => exact no rfl
end Sk
namespace Sk
open PySem PySem.Spec PyProof.Rows L2 Dk He
/-! ### texts of sets are shown -/
theorem char_lt (c : Char) : c.toNat < 0x110000 := by
  rcases c.valid with h | h
  · have : c.toNat < 0xd800 := h
    omega
  · exact h.2
theorem repr_lt {q c : Nat} (hq : q < 0x110000) (hc : c < 0x110000) : ∀ n ∈ Builtin.Str.reprChar q c, n < 0x110000 := by
  have hx : ∀ w : Nat, ∀ n ∈ List.replicate (w - ((Nat.toDigits 16 c).map Char.toNat).length) 48 ++ (Nat.toDigits 16 c).map Char.toNat, n < 0x110000 := fun w n hn => by
    rcases List.mem_append.mp hn with h | h
    · rw [(List.mem_replicate.mp h).2]; decide
    · obtain ⟨z, _, rfl⟩ := List.mem_map.mp h
      exact char_lt z
  intro n hn
  have two : ∀ {a : Nat} {w : Nat}, a < 0x110000 → n ∈ [92, a] ++ (List.replicate (w - ((Nat.toDigits 16 c).map Char.toNat).length) 48 ++ (Nat.toDigits 16 c).map Char.toNat) → n < 0x110000 := fun {a w} ha h => by
    rcases List.mem_append.mp h with h | h
    · simp only [List.mem_cons, List.not_mem_nil, or_false] at h
      rcases h with rfl | rfl
      · decide
      · exact ha
    · exact hx w n h
  have one : ∀ {a : Nat}, a < 0x110000 → n ∈ [92, a] → n < 0x110000 := fun {a} ha h => by
    simp only [List.mem_cons, List.not_mem_nil, or_false] at h
    rcases h with rfl | rfl
    · decide
    · exact ha
  unfold Builtin.Str.reprChar at hn
  dsimp only at hn
  split at hn
  · exact one hc hn
  · split at hn
    · exact one (by decide) hn
    · split at hn
      · exact one (by decide) hn
      · split at hn
        · exact one (by decide) hn
        · split at hn
          · rw [List.mem_singleton.mp hn]; exact hc
          · split at hn
            · exact two (by decide) hn
            · split at hn
              · exact two (by decide) hn
              · exact two (by decide) hn
theorem sok_mem {x : Str} : PyData.strOk x = true ↔ ∀ n ∈ x.cps.toList, n < 0x110000 := by
  unfold PyData.strOk
  rw [← Array.all_toList, List.all_eq_true]
  exact ⟨fun h n hn => of_decide_eq_true (h n hn), fun h n hn => decide_eq_true (h n hn)⟩
theorem repr_fold {q : Nat} (hq : q < 0x110000) : ∀ (l : List Nat) (acc : Array Nat), (∀ n ∈ l, n < 0x110000) → (∀ n ∈ acc.toList, n < 0x110000) → ∀ n ∈ (l.foldl (fun out c => out ++ (Builtin.Str.reprChar q c).toArray) acc).toList, n < 0x110000
  | [], acc, _, h => h
  | c :: l, acc, h1, h2 => by
    refine repr_fold hq l _ (fun n hn => h1 n (List.mem_cons_of_mem _ hn)) fun n hn => ?_
    rw [Array.toList_append] at hn
    rcases List.mem_append.mp hn with h | h
    · exact h2 n h
    · exact repr_lt hq (h1 c (List.mem_cons_self ..)) n h
theorem sok_repr {x : Str} (h : PyData.strOk x = true) : PyData.strOk (reprText x) = true := by
  have hq : reprQuote x < 0x110000 := by unfold reprQuote; split <;> decide
  rw [sok_mem] at h ⊢
  intro n hn
  unfold reprText at hn
  rw [Array.toList_push, ← Array.foldl_toList] at hn
  rcases List.mem_append.mp hn with z | z
  · exact repr_fold hq _ _ h (fun n hn => by rw [List.mem_singleton.mp hn]; exact hq) n z
  · rw [List.mem_singleton.mp z]; exact hq
theorem sok_joinT {sep : Str} (hs : PyData.strOk sep = true) : ∀ {ts : List Str}, (∀ t ∈ ts, PyData.strOk t = true) → PyData.strOk (Str.join sep ts) = true
  | [], _ => by
    show PyData.strOk Str.empty = true
    simp [PyData.strOk, Str.empty]
  | [x], h => h x (by simp)
  | x :: y :: r, h => by
    show PyData.strOk (x ++ sep ++ Str.join sep (y :: r)) = true
    exact sok_app (sok_app (h x (by simp)) hs) (sok_joinT hs fun t ht => h t (List.mem_cons_of_mem _ ht))
theorem txt_join (sep : Str) (ts : List Str) : Txt.join sep ts = Str.join sep ts := StrLaws.glued_eq_join ..
theorem words_len {x : Pts} (ok : x.Ok) : ((wordsOf x).map (·.length)).sum + (wordsOf x).length * (Str.ofString " ").length ≤ 500000 := by
  have hhd : ∀ n ∈ x.hd, n ≤ 10000 := fun n hn => by have := ok.hb n hn; have := ok.f2; omega
  have hrs : ∀ n ∈ x.rs, n ≤ 10000 := fun n hn => by have := ok.rb n hn; have := ok.p2; omega
  have hf : x.f ≤ 10000 := by have := ok.f2; omega
  have hp : x.p ≤ 10000 := by have := ok.p2; omega
  have hl := ok.hl
  have rl := ok.rl
  have h1 := sum_len x.hd hhd
  have h2 := sum_len x.rs hrs
  have h3 := natS_len hf
  have h4 := natS_len hp
  have k1 : (Str.ofString "from").length = 4 := rfl
  have k2 : (Str.ofString "by").length = 2 := rfl
  have k3 : (Str.ofString "rest").length = 4 := rfl
  have k4 : (Str.ofString " ").length = 1 := rfl
  unfold wordsOf
  by_cases he : x.rs = []
  · rw [if_pos he, List.append_nil, List.length_map, k4]
    omega
  · rw [if_neg he]
    simp only [List.map_append, List.map_cons, List.map_nil, List.sum_append, List.sum_cons, List.sum_nil, List.length_append, List.length_cons, List.length_nil, List.length_map, k1, k2, k3, k4] at h1 h2 ⊢
    omega
theorem text_sok (x : Pts) : PyData.strOk (setText x) = true := by
  unfold setText
  split
  · exact sok_of _
  · rw [txt_join]
    exact sok_joinT (sok_of _) (words_sok x)
theorem text_len {x : Pts} (ok : x.Ok) : (setText x).length ≤ 500000 := by
  unfold setText
  split
  · exact (by decide : 4 ≤ 500000)
  · rw [txt_join]
    exact Nat.le_trans (StrLaws.join_length_le _ _) (words_len ok)
theorem text_okR {x : Pts} (ok : x.Ok) : (D.str (setText x)).okR := by
  refine ⟨?_, ?_, by show 0 ≤ 60; decide⟩
  · show (PyData.strOk (setText x) && PyData.strOk (reprText (setText x))) = true
    rw [text_sok, sok_repr (text_sok x)]; rfl
  · show (setText x).length ≤ 2 ^ 20
    have := text_len ok
    omega
/-! ### the text of a set of the program -/
def ct_Numbers_text (L : Lw) : Ct := fun ds μ Q E => ∃ x : Pts, ds = [setD x] ∧ x.Ok ∧ Q (.str (setText x)) μ
abbrev N_Numbers_text : List Str := ["self", "words", "number", "rest"]
def wb_Numbers_text (L : Lw) : Ws :=
    (sQ (sOwn 1 (wLc (iL (wFld [(41, 0)] (wV 0))) (gN 2) tY (wN fStr (aC (wV 2) aN)) [2]))
    (sQ (sIf (tB0 (w2 fNe (wFld [(41, 3)] (wV 0)) (wN fTup aN))) (sQ (sExt 1 (wN fLst (aC (wC (.str "from")) (aC (wN fStr (aC (wFld [(41, 1)] (wV 0)) aN)) (aC (wC (.str "by")) (aC (wN fStr (aC (wFld [(41, 2)] (wV 0)) aN)) (aC (wC (.str "rest")) aN)))))))
    (sExt 1 (wL (wLc (iL (wFld [(41, 3)] (wV 0))) (gN 3) tY (wN fStr (aC (wV 3) aN)) [3])))) sN)
    (sFz 1 (sRet (wIf (tB0 (w2 fNe (wV 1) (wN fLst aN))) (wS1 fJoin (wC (.str " ")) (wV 1)) (wC (.str "none")))))))
theorem data_Numbers_text (L : Lw) {ds : List D} {μ : Mu} {Q : D → Mu → Prop} {E : Ek} (h : ct_Numbers_text L ds μ Q E) : wb_Numbers_text L (deOf Q E) (startR N_Numbers_text ds) μ := by
  obtain ⟨x, rfl, ok, q⟩ := h
  have hhd : ∀ n ∈ x.hd, n ≤ 10000 := fun n hn => by have := ok.hb n hn; have := ok.f2; omega
  have hrs : ∀ n ∈ x.rs, n ≤ 10000 := fun n hn => by have := ok.rb n hn; have := ok.p2; omega
  have hf : x.f ≤ 10000 := by have := ok.f2; omega
  have hp : x.p ≤ 10000 := by have := ok.p2; omega
  have hl := ok.hl
  have rl := ok.rl
  refine lcL_map (enc := fun (n : Nat) => D.int (n : Int)) (f := fun n => .str (natS n)) x.hd rfl (fun n hn P hP => ⟨_, rfl, str_log (hhd n hn), hP⟩) (Nat.le_trans hl (by decide)) ?_
  have fin : ∀ (ws : List Str), ws = wordsOf x → ∀ (a b c : Sl), (sFz 1 (sRet (wIf (tB0 (w2 fNe (wV 1) (wN fLst aN))) (wS1 fJoin (wC (.str " ")) (wV 1)) (wC (.str "none"))))) (deOf Q E) [a, .ow (ws.map .str), b, c] μ := fun ws hws a b c => by
    subst hws
    refine ⟨by decide, ?_⟩
    show fNe (.lst ((wordsOf x).map .str)) (.lst []) _
    rw [fNe_of (eqD_strs_nil (words_sok x))]
    unfold setText at q
    have hw2 := words_len ok
    cases hw : wordsOf x with
    | nil =>
      rw [hw, if_pos rfl] at q
      exact q
    | cons w ws =>
      rw [hw, if_neg (List.cons_ne_nil _ _)] at q
      refine ⟨w :: ws, .inl rfl, ?_, q⟩
      rw [← hw]
      omega
  have e1 : x.hd.map (fun n => D.str (natS n)) = (x.hd.map natS).map .str := by rw [List.map_map]; rfl
  rw [e1]
  refine ⟨by decide, ?_⟩
  have er : natsD x.rs = (x.rs.map fun (n : Nat) => (n : Int)).map .int := by unfold natsD; rw [List.map_map]; rfl
  show fNe (.tup (natsD x.rs)) (.tup []) _
  rw [er, fNe_of eqD_nil_t]
  have eb : (x.rs.map fun (n : Nat) => (n : Int)).isEmpty = x.rs.isEmpty := by cases x.rs <;> rfl
  rw [eb]
  cases hr : x.rs with
  | nil =>
    exact fin (x.hd.map natS) (by unfold wordsOf; rw [if_pos hr, List.append_nil]) _ _ _
  | cons r rs =>
    have hne : x.rs ≠ [] := by rw [hr]; exact List.cons_ne_nil _ _
    refine ⟨_, rfl, str_log hf, _, rfl, str_log hp, (by decide : 5 ≤ sizeLine), ?_, ?_⟩
    · rw [List.length_map, List.length_map]; exact Nat.le_trans (by show _ + 5 ≤ 1000000; omega) (by decide)
    · show lcL _ _ _ _ (natsD x.rs) [] _ _
      refine lcL_map (enc := fun (n : Nat) => D.int (n : Int)) (f := fun n => .str (natS n)) x.rs rfl (fun n hn P hP => ⟨_, rfl, str_log (hrs n hn), hP⟩) (Nat.le_trans rl (by decide)) ?_
      refine ⟨?_, ?_⟩
      · simp only [List.length_map, List.length_append, List.length_cons, List.length_nil]; exact Nat.le_trans (by omega : _ ≤ 1000000) (by decide)
      · have e2 : (x.hd.map natS).map D.str ++ [D.str "from", .str (natS x.f), .str "by", .str (natS x.p), .str "rest"] ++ x.rs.map (fun n => D.str (natS n)) = (wordsOf x).map .str := by
          unfold wordsOf
          rw [if_neg hne]
          simp only [List.map_append, List.map_map, List.append_assoc]
          rfl
        have := fin (wordsOf x) rfl (.sh (setD x)) .no .no
        rw [← e2] at this
        exact this
/-! ### common periods -/
def ct_common_of (L : Lw) : Ct := fun ds μ Q E => ∃ a b : Int, ds = [.int a, .int b] ∧ Q (.int (Nat.gcd a.natAbs b.natAbs : Nat)) μ
abbrev N_common_of : List Str := ["one", "other"]
def wb_common_of (L : Lw) : Ws :=
    (sQ (sPar 0 1 (aC (wN fAbs (aC (wV 0) aN)) (aC (wN fAbs (aC (wV 1) aN)) aN)))
    (sQ (sWhile (tB0 (w2 fGt (wV 1) (wC (.int 0)))) (sPar 0 1 (aC (wV 1) (aC (w2 fMod (wV 0) (wV 1)) aN))))
    (sRet (wV 0))))
theorem data_common_of (L : Lw) {ds : List D} {μ : Mu} {Q : D → Mu → Prop} {E : Ek} (h : ct_common_of L ds μ Q E) : wb_common_of L (deOf Q E) (startR N_common_of ds) μ := by
  obtain ⟨a, b, rfl, q⟩ := h
  refine ⟨a, rfl, b, rfl, ?_⟩
  refine while_inv (m := b.natAbs) (fun m ρ μ' => μ' = μ ∧ ∃ x : Nat, ρ = [.sh (.int x), .sh (.int m)] ∧ Nat.gcd x m = Nat.gcd a.natAbs b.natAbs) ?_ ⟨rfl, a.natAbs, rfl, rfl⟩
  rintro m ρ μ' N ⟨rfl, x, rfl, hg⟩ hN
  show (match decide ((0 : Int) < (m : Int)) with | true => _ | false => _)
  by_cases h : 0 < m
  · rw [decide_eq_true (by omega)]
    refine ⟨by omega, ?_⟩
    show N [.sh (.int m), .sh (.int ((x : Int).fmod (m : Int)))] μ'
    rw [fmod_nat]
    exact hN (x % m) _ _ (Nat.mod_lt _ h) ⟨rfl, m, rfl, by rw [← hg, Nat.gcd_comm x m, Nat.gcd_comm m (x % m)]; exact (Nat.gcd_rec m x).symm⟩
  · rw [decide_eq_false (by omega)]
    have : m = 0 := by omega
    subst this
    rw [Nat.gcd_zero_right] at hg
    subst hg
    exact q
def ct_multiple_of (L : Lw) : Ct := fun ds μ Q E => ∃ a b : Nat, ds = [.int a, .int b] ∧ 1 ≤ a ∧ 1 ≤ b ∧ a < 2 ^ 29 ∧ b < 2 ^ 29 ∧ Q (.int (Nat.lcm a b : Nat)) μ
abbrev N_multiple_of : List Str := ["one", "other"]
def wb_multiple_of (L : Lw) : Ws :=
    (sRet (w2 fMul (w2 fFdiv (wV 0) (wCall (ct_common_of L) (aC (wV 0) (aC (wV 1) aN)))) (wV 1)))
theorem data_multiple_of (L : Lw) {ds : List D} {μ : Mu} {Q : D → Mu → Prop} {E : Ek} (h : ct_multiple_of L ds μ Q E) : wb_multiple_of L (deOf Q E) (startR N_multiple_of ds) μ := by
  obtain ⟨a, b, rfl, ha, hb, ha2, hb2, q⟩ := h
  have g1 : 1 ≤ Nat.gcd a b := Nat.gcd_pos_of_pos_left _ ha
  have g2 : Nat.gcd a b ≤ a := Nat.gcd_le_left _ ha
  have g3 : a / Nat.gcd a b * b = Nat.lcm a b := Nat.div_mul_right_comm (Nat.gcd_dvd_left a b) b
  have g4 : a / Nat.gcd a b ≤ a := Nat.div_le_self _ _
  refine ⟨a, b, rfl, ?_⟩
  have e : Nat.gcd (a : Int).natAbs (b : Int).natAbs = Nat.gcd a b := rfl
  rw [e]
  clear e
  generalize Nat.gcd a b = g at g1 g2 g3 g4 ⊢
  refine ⟨by omega, .inl (by omega), ?_⟩
  have ed : (a : Int).fdiv (g : Int) = ((a / g : Nat) : Int) := by
    rw [Int.fdiv_eq_ediv_of_nonneg _ (by omega)]; rfl
  show CMulW ((a : Int).fdiv (g : Int)) (b : Int) ∧ Q (.int ((a : Int).fdiv (g : Int) * (b : Int))) μ
  rw [ed]
  refine ⟨cmul_of (m := 29) (n := 29) (show ((a / g : Nat) : Int).natAbs < 2 ^ 29 from Nat.lt_of_le_of_lt g4 ha2) (by omega), ?_⟩
  rw [← g3] at q
  rw [← Int.natCast_mul]
  exact q
def ct_common_period (L : Lw) : Ct := fun ds μ Q E => ∃ a b : Nat, ds = [.int a, .int b] ∧ 1 ≤ a ∧ 1 ≤ b ∧ a ≤ 9999 ∧ b ≤ 9999 ∧ (Nat.lcm a b ≤ 9999 → Q (.int (Nat.lcm a b : Nat)) μ) ∧ (9999 < Nat.lcm a b → E 5 (.int 9999) μ)
abbrev N_common_period : List Str := ["one", "other", "found"]
def wb_common_period (L : Lw) : Ws :=
    (sQ (sSet 2 (wCall (ct_multiple_of L) (aC (wV 0) (aC (wV 1) aN))))
    (sQ (sIf (tB0 (w2 fGt (wV 2) (wC (.int 9999)))) (sRaise 5 (wC (.int 9999))) sN)
    (sRet (wV 2))))
theorem data_common_period (L : Lw) {ds : List D} {μ : Mu} {Q : D → Mu → Prop} {E : Ek} (h : ct_common_period L ds μ Q E) : wb_common_period L (deOf Q E) (startR N_common_period ds) μ := by
  obtain ⟨a, b, rfl, ha, hb, ha2, hb2, q1, q2⟩ := h
  refine ⟨a, b, rfl, ha, hb, by omega, by omega, ?_⟩
  show (match decide ((9999 : Int) < ((Nat.lcm a b : Nat) : Int)) with | true => _ | false => _)
  by_cases h : 9999 < Nat.lcm a b
  · rw [decide_eq_true (by omega)]
    exact ⟨rep_of (okR_int (by decide)), q2 h⟩
  · rw [decide_eq_false (by omega)]
    exact q1 (by omega)
end Sk
namespace Sk
open PySem PySem.Spec PyProof.Rows L2 Dk He
/-! ### sets put together -/
inductive By : Str → (Bool → Bool → Bool) → Prop
  | or : By "or" (fun a b => a || b)
  | and : By "and" (fun a b => a && b)
  | less : By "less" (fun a b => a && !b)
  | just : By "just" (fun a b => !(decide (a = b)))
abbrev byKeys : List Key := [.inr "or", .inr "and", .inr "less", .inr "just"]
theorem atK_ne {k x : Key} {ks : List Key} {d : D} {ds : List D} (h : k ≠ x) : atK (k :: ks) (d :: ds) x = atK ks ds x := if_neg h
theorem atK_eq {k : Key} {ks : List Key} {d : D} {ds : List D} : atK (k :: ks) (d :: ds) k = some d := if_pos rfl
theorem at_by {w : Str} {op : Bool → Bool → Bool} (h : By w op) (a b : Bool) : atK byKeys [.bl (a || b), .bl (a && b), .bl (a && !b), .bl (!(decide (a = b)))] (.inr w) = some (.bl (op a b)) := by
  cases h with
  | or => exact atK_eq
  | and => exact (atK_ne (keyNe_ok (by decide +kernel))).trans atK_eq
  | less => exact ((atK_ne (keyNe_ok (by decide +kernel))).trans (atK_ne (keyNe_ok (by decide +kernel)))).trans atK_eq
  | just => exact (((atK_ne (keyNe_ok (by decide +kernel))).trans (atK_ne (keyNe_ok (by decide +kernel)))).trans (atK_ne (keyNe_ok (by decide +kernel)))).trans atK_eq
def ct_is_by (L : Lw) : Ct := fun ds μ Q E => ∃ (w : Str) (op : Bool → Bool → Bool) (a b : Bool), ds = [.str w, .bl a, .bl b] ∧ By w op ∧ Q (.bl (op a b)) μ
abbrev N_is_by : List Str := ["word", "here", "there"]
def wb_is_by (L : Lw) : Ws :=
    (sRet (w2 fIxD (wDic [.inr "or", .inr "and", .inr "less", .inr "just"] (aC (wOr (wV 1) (wV 2)) (aC (wAn (wV 1) (wV 2)) (aC (wAn (wV 1) (wNt (wV 2))) (aC (w2 fNe (wV 1) (wV 2)) aN))))) (wV 0)))
theorem data_is_by (L : Lw) {ds : List D} {μ : Mu} {Q : D → Mu → Prop} {E : Ek} (h : ct_is_by L ds μ Q E) : wb_is_by L (deOf Q E) (startR N_is_by ds) μ := by
  obtain ⟨w, op, a, b, rfl, hb, q⟩ := h
  have fin : fIxD (.dic byKeys [.bl (a || b), .bl (a && b), .bl (a && !b), .bl (!(decide (a = b)))]) (.str w) (fun d => Q d μ) := by
    show (match atK byKeys [.bl (a || b), .bl (a && b), .bl (a && !b), .bl (!(decide (a = b)))] (.inr w) with | some z => Q z μ | none => False)
    rw [at_by hb]
    exact q
  cases a with
  | true =>
    cases b with
    | true => exact ⟨rfl, fin⟩
    | false => exact ⟨rfl, fin⟩
  | false =>
    cases b with
    | true => exact ⟨rfl, fin⟩
    | false => exact ⟨rfl, fin⟩
theorem PerF.dvd {f : Nat → Bool} {F p P : Nat} (h : PerF f F p) (d : p ∣ P) : PerF f F P := by
  obtain ⟨k, rfl⟩ := d
  rw [Nat.mul_comm]
  exact h.mul k
theorem PerF.le {f : Nat → Bool} {F G p : Nat} (h : PerF f F p) (d : F ≤ G) : PerF f G p := fun n hn => h n (Nat.le_trans d hn)
theorem PerF.op {f g : Nat → Bool} {F p : Nat} (h : PerF f F p) (k : PerF g F p) (op : Bool → Bool → Bool) : PerF (fun n => op (f n) (g n)) F p := fun n hn => by
  show op (f (n + p)) (g (n + p)) = op (f n) (g n)
  rw [h n hn, k n hn]
def opF (op : Bool → Bool → Bool) (x y : Pts) : Nat → Bool := fun n => op (x.inB n) (y.inB n)
def together (op : Bool → Bool → Bool) (x y : Pts) : Pts := leastPts ((List.range (max x.f y.f + Nat.lcm x.p y.p - 1)).map fun i => opF op x y (i + 1)) (max x.f y.f)
theorem lcm_pos {x y : Pts} (hx : x.Ok) (hy : y.Ok) : 1 ≤ Nat.lcm x.p y.p := Nat.lcm_pos hx.p1 hy.p1
theorem opF_per (op : Bool → Bool → Bool) (x y : Pts) : PerF (opF op x y) (max x.f y.f) (Nat.lcm x.p y.p) :=
  ((x.per.le (Nat.le_max_left ..)).dvd (Nat.dvd_lcm_left ..)).op ((y.per.le (Nat.le_max_right ..)).dvd (Nat.dvd_lcm_right ..)) op
theorem tog_canon {op : Bool → Bool → Bool} {x y : Pts} (hx : x.Ok) (hy : y.Ok) : Canon (opF op x y) (together op x y) ∧ (together op x y).f ≤ max x.f y.f ∧ (together op x y).p ∣ Nat.lcm x.p y.p :=
  canon_least (Nat.le_trans hx.f1 (Nat.le_max_left ..)) (lcm_pos hx hy) (opF_per op x y)
theorem tog_ok {op : Bool → Bool → Bool} {x y : Pts} (hx : x.Ok) (hy : y.Ok) (h : Nat.lcm x.p y.p ≤ 9999) : (together op x y).Ok := by
  obtain ⟨c, h1, h2⟩ := tog_canon (op := op) hx hy
  have := hx.f2; have := hy.f2
  exact c.ok (by omega) (Nat.le_trans (Nat.le_of_dvd (lcm_pos hx hy) h2) h)
theorem canon_fix {f : Nat → Bool} {x : Pts} (h : Canon f x) (ok : x.Ok) : x.lst = x := (canon_lst ok).1.uniq (h.congr fun n hn => (h.inB hn).symm)
def ct_put_together (L : Lw) : Ct := fun ds μ Q E => ∃ (w : Str) (op : Bool → Bool → Bool) (x y : Pts), ds = [.str w, x.d, y.d] ∧ By w op ∧ x.Ok ∧ y.Ok ∧ (Nat.lcm x.p y.p ≤ 9999 → Q (together op x y).d μ) ∧ (9999 < Nat.lcm x.p y.p → E 5 (.int 9999) μ)
abbrev N_put_together : List Str := ["word", "one", "other", "first", "period", "marks", "number"]
def wb_put_together (L : Lw) : Ws :=
    (sQ (sPar 3 4 (aC (wN fMax (aC (w2 fIx (wV 1) (wC (.int 1))) (aC (w2 fIx (wV 2) (wC (.int 1))) aN))) (aC (wCall (ct_common_period L) (aC (w2 fIx (wV 1) (wC (.int 2))) (aC (w2 fIx (wV 2) (wC (.int 2))) aN))) aN)))
    (sQ (sSet 5 (wL (wLc (iR2 (aC (wC (.int 1)) (aC (w2 fAdd (wV 3) (wV 4)) aN))) (gN 6) tY (wCall (ct_is_by L) (aC (wV 0) (aC (wCall (ct_is_in L) (aC (wV 1) (aC (wV 6) aN))) (aC (wCall (ct_is_in L) (aC (wV 2) (aC (wV 6) aN))) aN)))) [6])))
    (sRet (wCall (ct_least_parts L) (aC (wV 5) (aC (wV 3) aN))))))
theorem data_put_together (L : Lw) {ds : List D} {μ : Mu} {Q : D → Mu → Prop} {E : Ek} (h : ct_put_together L ds μ Q E) : wb_put_together L (deOf Q E) (startR N_put_together ds) μ := by
  obtain ⟨w, op, x, y, rfl, hb, hx, hy, q1, q2⟩ := h
  have f1 := hx.f1; have f2 := hx.f2; have p1 := hx.p1; have p2 := hx.p2
  have g1 := hy.f1; have g2 := hy.f2; have r1 := hy.p1; have r2 := hy.p2
  refine .inl ⟨x.f, y.f, rfl, x.p, y.p, rfl, p1, r1, p2, r2, fun hl => ?_, q2⟩
  have q := q1 hl
  clear q1 q2
  have hp := lcm_pos hx hy
  unfold together at q
  generalize hP : Nat.lcm x.p y.p = P at *
  obtain ⟨F, hF, F1, F2⟩ : ∃ F : Nat, F = max x.f y.f ∧ 1 ≤ F ∧ F ≤ 9999 := ⟨_, rfl, by omega, by omega⟩
  have eF : max (x.f : Int) (y.f : Int) = (F : Int) := by omega
  rw [← hF] at q
  simp only [sQ, sN, sSet, sRet, sRet0, sIf, sDo, sUnp, sPar, gT, gN, wV, wC, w2, w1, w3, wN, wL, wLc, aC, aN, tB0, tNt, tAn, tOrr, tY, wIf, wAn, wOr, wNt, wCall, wSl, pN, pS, iL, iR1, iR2, iEn, iZp, wRg1, wRg2, wMeth, wFld, wProp, sRaise, wS0, wS1, fSl, wipeR, startR, deOf, fCmp, fAdd, fSub, fMod, fNeg, fLst, fTup, fInt_i, fInt_b, fLen_s, fLen_l, fLen_t, fLen_c, fAbs_i, fMax_2, fMin_2, fTuple_l, fTuple_t, fList_l, fList_t, fStr_i, List.map_cons, List.map_nil, List.length_cons, List.length_nil, List.replicate, List.cons_append, List.nil_append, List.getElem?_cons_zero, List.getElem?_cons_succ, List.set_cons_succ, List.set_cons_zero, List.zip, List.zipWith, List.foldl, List.lookup]
  rw [eF]
  refine ⟨⟨by decide, by decide, by omega, by omega⟩, ?_⟩
  refine lcL_map (enc := fun (i : Nat) => D.int (i : Int)) (f := fun n => .bl (opF op x y n)) (List.range' 1 (F + P - 1)) ?_ (fun n _ R hR => ⟨x, n, rfl, p1, y, n, rfl, r1, w, op, _, _, rfl, hb, hR⟩) ?_ ?_
  · show rgD 1 ((F : Int) + (P : Int) - 1).toNat = _
    rw [show ((F : Int) + (P : Int) - 1).toNat = F + P - 1 by omega]
    exact rgD_nat 1 _
  · rw [List.length_range']; exact Nat.le_trans (by omega : _ ≤ 1000000) (by decide)
  · have hm : (List.range' 1 (F + P - 1)).map (fun n => D.bl (opF op x y n)) = ((List.range (F + P - 1)).map fun i => opF op x y (i + 1)).map .bl := by
      rw [List.range'_eq_map_range, List.map_map, List.map_map]
      apply List.map_congr_left
      intro i _
      show D.bl (opF op x y (1 + i)) = D.bl (opF op x y (i + 1))
      rw [Nat.add_comm]
    rw [hm]
    exact ⟨_, F, rfl, F1, by rw [List.length_map, List.length_range]; omega, by rw [List.length_map, List.length_range]; omega, q⟩
/-! the operators -/
def ct_opN (op : Bool → Bool → Bool) (L : Lw) : Ct := fun ds μ Q E => ∃ x y : Pts, ds = [setD x, setD y] ∧ x.Ok ∧ y.Ok ∧ L.cs.contains 41 = true ∧ (Nat.lcm x.p y.p ≤ 9999 → Q (setD (together op x y)) μ) ∧ (9999 < Nat.lcm x.p y.p → E 5 (.int 9999) μ)
def ct_Numbers_or (L : Lw) : Ct := ct_opN (fun a b => a || b) L
def ct_Numbers_and (L : Lw) : Ct := ct_opN (fun a b => a && b) L
def ct_Numbers_sub (L : Lw) : Ct := ct_opN (fun a b => a && !b) L
def ct_Numbers_xor (L : Lw) : Ct := ct_opN (fun a b => !(decide (a = b))) L
abbrev N_Numbers_or : List Str := ["self", "other", "parts"]
def wb_opN (w : Str) (L : Lw) : Ws :=
    (sQ (sIf (tNt (tB0 (wIsi (ansQ L (.cl 41)) (wV 1)))) (fun _ _ _ => False) sN)
    (sQ (sSet 2 (wCall (ct_put_together L) (aC (wC (.str w)) (aC (wMeth [(41, ct_Numbers_writing L)] (wV 0) aN) (aC (wMeth [(41, ct_Numbers_writing L)] (wV 1) aN) aN)))))
    (sRet (wMakeS 41 (ci_Numbers L) [] (wV 2)))))
def wb_Numbers_or (L : Lw) : Ws :=
    (sQ (sIf (tNt (tB0 (wIsi (ansQ L (.cl 41)) (wV 1)))) (fun _ _ _ => False) sN)
    (sQ (sSet 2 (wCall (ct_put_together L) (aC (wC (.str "or")) (aC (wMeth [(41, ct_Numbers_writing L)] (wV 0) aN) (aC (wMeth [(41, ct_Numbers_writing L)] (wV 1) aN) aN)))))
    (sRet (wMakeS 41 (ci_Numbers L) [] (wV 2)))))
abbrev N_Numbers_and : List Str := ["self", "other", "parts"]
def wb_Numbers_and (L : Lw) : Ws :=
    (sQ (sIf (tNt (tB0 (wIsi (ansQ L (.cl 41)) (wV 1)))) (fun _ _ _ => False) sN)
    (sQ (sSet 2 (wCall (ct_put_together L) (aC (wC (.str "and")) (aC (wMeth [(41, ct_Numbers_writing L)] (wV 0) aN) (aC (wMeth [(41, ct_Numbers_writing L)] (wV 1) aN) aN)))))
    (sRet (wMakeS 41 (ci_Numbers L) [] (wV 2)))))
abbrev N_Numbers_sub : List Str := ["self", "other", "parts"]
def wb_Numbers_sub (L : Lw) : Ws :=
    (sQ (sIf (tNt (tB0 (wIsi (ansQ L (.cl 41)) (wV 1)))) (fun _ _ _ => False) sN)
    (sQ (sSet 2 (wCall (ct_put_together L) (aC (wC (.str "less")) (aC (wMeth [(41, ct_Numbers_writing L)] (wV 0) aN) (aC (wMeth [(41, ct_Numbers_writing L)] (wV 1) aN) aN)))))
    (sRet (wMakeS 41 (ci_Numbers L) [] (wV 2)))))
abbrev N_Numbers_xor : List Str := ["self", "other", "parts"]
def wb_Numbers_xor (L : Lw) : Ws :=
    (sQ (sIf (tNt (tB0 (wIsi (ansQ L (.cl 41)) (wV 1)))) (fun _ _ _ => False) sN)
    (sQ (sSet 2 (wCall (ct_put_together L) (aC (wC (.str "just")) (aC (wMeth [(41, ct_Numbers_writing L)] (wV 0) aN) (aC (wMeth [(41, ct_Numbers_writing L)] (wV 1) aN) aN)))))
    (sRet (wMakeS 41 (ci_Numbers L) [] (wV 2)))))
section
variable (L : Lw) {ds : List D} {μ : Mu} {Q : D → Mu → Prop} {E : Ek}
theorem data_opN {w : Str} {op : Bool → Bool → Bool} (hb : By w op) (h : ct_opN op L ds μ Q E) : wb_opN w L (deOf Q E) (startR N_Numbers_or ds) μ := by
  obtain ⟨x, y, rfl, hx, hy, hc, q1, q2⟩ := h
  refine isi_use (Q := fun b => _) (okd_obj hc) ?_
  refine ⟨x, rfl, y, rfl, w, op, x, y, rfl, hb, hx, hy, fun hl => ?_, q2⟩
  refine ⟨(together op x y).ds, .inr rfl, .inl ⟨together op x y, tog_ok hx hy hl, List.append_nil _, ?_⟩⟩
  rw [canon_fix (tog_canon hx hy).1 (tog_ok hx hy hl)]
  exact q1 hl
theorem data_Numbers_or (h : ct_Numbers_or L ds μ Q E) : wb_Numbers_or L (deOf Q E) (startR N_Numbers_or ds) μ := data_opN L .or h
theorem data_Numbers_and (h : ct_Numbers_and L ds μ Q E) : wb_Numbers_and L (deOf Q E) (startR N_Numbers_and ds) μ := data_opN L .and h
theorem data_Numbers_sub (h : ct_Numbers_sub L ds μ Q E) : wb_Numbers_sub L (deOf Q E) (startR N_Numbers_sub ds) μ := data_opN L .less h
theorem data_Numbers_xor (h : ct_Numbers_xor L ds μ Q E) : wb_Numbers_xor L (deOf Q E) (startR N_Numbers_xor ds) μ := data_opN L .just h
end
/-- all numbers -/
def allP : Pts := ⟨[], 1, 1, [0]⟩
theorem allP_ok : allP.Ok := ⟨by decide, by decide, by decide, by decide, List.Pairwise.nil, (fun n hn => by cases hn), List.pairwise_singleton _ _, fun n hn => by rw [List.mem_singleton.mp hn]; decide⟩
theorem allP_in (n : Nat) : 1 ≤ n → allP.inB n = true := fun h => by
  unfold Pts.inB allP
  rw [if_neg (by show ¬ n < 1; omega)]
  exact decide_eq_true (by show n % 1 ∈ [0]; rw [Nat.mod_one]; exact List.mem_singleton.mpr rfl)
def ct_Numbers_invert (L : Lw) : Ct := fun ds μ Q E => ∃ x : Pts, ds = [setD x] ∧ x.Ok ∧ Q (setD (together (fun a b => a && !b) allP x)) μ
abbrev N_Numbers_invert : List Str := ["self", "parts"]
def wb_Numbers_invert (L : Lw) : Ws :=
    (sQ (sSet 1 (wCall (ct_put_together L) (aC (wC (.str "less")) (aC (wC (.tup [(.tup []), (.int 1), (.int 1), (.tup [(.int 0)])])) (aC (wMeth [(41, ct_Numbers_writing L)] (wV 0) aN) aN)))))
    (sRet (wMakeS 41 (ci_Numbers L) [] (wV 1))))
theorem data_Numbers_invert (L : Lw) {ds : List D} {μ : Mu} {Q : D → Mu → Prop} {E : Ek} (h : ct_Numbers_invert L ds μ Q E) : wb_Numbers_invert L (deOf Q E) (startR N_Numbers_invert ds) μ := by
  obtain ⟨x, rfl, hx, q⟩ := h
  have hl : Nat.lcm allP.p x.p ≤ 9999 := by
    show Nat.lcm 1 x.p ≤ 9999
    rw [Nat.lcm_one_left]
    exact hx.p2
  refine ⟨x, rfl, "less", _, allP, x, rfl, .less, allP_ok, hx, fun _ => ?_, fun z => by omega⟩
  refine ⟨(together _ allP x).ds, .inr rfl, .inl ⟨together _ allP x, tog_ok allP_ok hx hl, List.append_nil _, ?_⟩⟩
  rw [canon_fix (tog_canon allP_ok hx).1 (tog_ok allP_ok hx hl)]
  exact q
/-! lies_in -/
def lackB (z : Pts) : Bool := z.hd.isEmpty && z.rs.isEmpty
theorem eqD_nats_nil (ns : List Nat) : eqD (.tup (natsD ns)) (.tup []) = some ns.isEmpty := by
  have er : natsD ns = (ns.map fun (n : Nat) => (n : Int)).map .int := by unfold natsD; rw [List.map_map]; rfl
  rw [er, eqD_nil_t]
  cases ns <;> rfl
def ct_Numbers_lies_in (L : Lw) : Ct := fun ds μ Q E => (∃ x y : Pts, ds = [setD x, setD y] ∧ x.Ok ∧ y.Ok ∧ L.cs.contains 41 = true ∧ (Nat.lcm x.p y.p ≤ 9999 → Q (.bl (lackB (together (fun a b => a && !b) x y))) μ) ∧ (9999 < Nat.lcm x.p y.p → E 5 (.int 9999) μ)) ∨
  ∃ (x : Pts) (d : D), ds = [setD x, d] ∧ Okd L d ∧ isQ (.cl 41) d = false ∧ d.okR ∧ E 1 d μ
abbrev N_Numbers_lies_in : List Str := ["self", "other", "heads", "first", "period", "rests"]
def wb_Numbers_lies_in (L : Lw) : Ws :=
    (sQ (sIf (tNt (tB0 (wIsi (ansQ L (.cl 41)) (wV 1)))) (sRaise 1 (wV 1)) sN)
    (sQ (sUnp (gT [2, 3, 4, 5]) (wCall (ct_put_together L) (aC (wC (.str "less")) (aC (wMeth [(41, ct_Numbers_writing L)] (wV 0) aN) (aC (wMeth [(41, ct_Numbers_writing L)] (wV 1) aN) aN)))))
    (sRet (wAn (w2 fEq (wV 2) (wN fTup aN)) (w2 fEq (wV 5) (wN fTup aN))))))
theorem data_Numbers_lies_in (L : Lw) {ds : List D} {μ : Mu} {Q : D → Mu → Prop} {E : Ek} (h : ct_Numbers_lies_in L ds μ Q E) : wb_Numbers_lies_in L (deOf Q E) (startR N_Numbers_lies_in ds) μ := by
  rcases h with ⟨x, y, rfl, hx, hy, hc, q1, q2⟩ | ⟨x, d, rfl, hd, hn, hr, q⟩
  · refine isi_use (Q := fun b => _) (okd_obj hc) ?_
    refine ⟨x, rfl, y, rfl, "less", _, x, y, rfl, .less, hx, hy, fun hl => ?_, q2⟩
    have q := q1 hl
    generalize together _ x y = z at q
    unfold lackB at q
    refine ⟨rfl, by decide, ?_⟩
    show fEq (.tup (natsD z.hd)) (.tup []) _
    rw [fEq_of (eqD_nats_nil _)]
    cases e : z.hd.isEmpty with
    | false => rw [e] at q; exact q
    | true =>
      rw [e] at q
      refine ⟨by decide, ?_⟩
      show fEq (.tup (natsD z.rs)) (.tup []) _
      rw [fEq_of (eqD_nats_nil _)]
      exact q
  · refine isi_use (Q := fun b => _) hd ?_
    rw [hn]
    exact ⟨rep_of hr, q⟩
/-- nothing is in it -/
theorem lack_iff {f : Nat → Bool} {z : Pts} (h : Canon f z) : lackB z = true ↔ ∀ n, 1 ≤ n → f n = false := by
  unfold lackB
  rw [Bool.and_eq_true, List.isEmpty_iff, List.isEmpty_iff]
  constructor
  · rintro ⟨h1, h2⟩ n hn
    rw [← h.inB hn]
    unfold Pts.inB
    rw [h1, h2]
    split <;> rfl
  · intro hz
    refine ⟨?_, ?_⟩
    · rw [h.hd, List.filter_eq_nil_iff]
      intro n hn
      rw [hz n (List.mem_range'_1.mp hn).1]
      exact Bool.false_ne_true
    · rw [h.rs, List.filter_eq_nil_iff]
      intro n hn
      have := h.f1; have := h.p1
      have : z.f ≤ z.f * z.p := Nat.le_mul_of_pos_right _ h.p1
      rw [hz _ (by omega)]
      exact Bool.false_ne_true
end Sk
namespace Sk
open PySem PySem.Spec PyProof.Rows L2 Dk He
/-! ### words and figures -/
/-- a text of ascii signs, at most so long -/
structure Asc (n : Nat) (x : Str) : Prop where
  a : ∀ c ∈ x.cps.toList, c < 128
  l : x.length ≤ n
theorem Asc.sok {n : Nat} {x : Str} (h : Asc n x) : PyData.strOk x = true := sok_mem.mpr fun c hc => by have := h.a c hc; omega
theorem Asc.mono {n m : Nat} {x : Str} (h : Asc n x) (hm : n ≤ m) : Asc m x := ⟨h.a, Nat.le_trans h.l hm⟩
theorem eqD_str {x y : Str} (hx : PyData.strOk x = true) (hy : PyData.strOk y = true) : eqD (.str x) (.str y) = some (decide (x = y)) := by
  rw [eqD_of (d := .str x) (e := .str y) ⟨hx, by show 0 ≤ 64; decide⟩ ⟨hy, by show 0 ≤ 64; decide⟩]
  congr 1
def isFig (w : Str) : Bool := w.cps.toList.all fun c => decide (48 ≤ c) && decide (c ≤ 57)
def fig (w : Str) : Int := if (1 ≤ w.length ∧ w.length ≤ 9) ∧ isFig w = true ∧ (w = "0" ∨ w.cps.toList.head? ≠ some 48) then ((NumText.digitsVal w.cps.toList : Nat) : Int) else -1
theorem fig_sign (c : Nat) : decide (c ∈ ("0123456789" : Str).cps.toList) = (decide (48 ≤ c) && decide (c ≤ 57)) := by
  have e : ("0123456789" : Str).cps.toList = [48, 49, 50, 51, 52, 53, 54, 55, 56, 57] := by decide +kernel
  rw [e, Bool.eq_iff_iff, Bool.and_eq_true, decide_eq_true_eq, decide_eq_true_eq, decide_eq_true_eq]
  simp only [List.mem_cons, List.not_mem_nil, or_false]
  omega
theorem one_sign {c : Nat} (h : c < 128) : PyData.strOk ⟨#[c]⟩ = true := sok_mem.mpr fun n hn => by
  have : n = c := by simpa using hn
  omega
theorem zero_tl : ("0" : Str).cps.toList = [48] := by decide +kernel
abbrev figRet : Ws := (sRet (wIf (tOrr (tB0 (w2 fEq (wV 0) (wC (.str "0")))) (tB0 (w2 fNe (w2 fIx (wV 0) (wC (.int 0))) (wC (.str "0"))))) (wN fIntS (aC (wV 0) aN)) (w1 fNeg (wC (.int 1)))))
def ct_figures_in (L : Lw) : Ct := fun ds μ Q E => ∃ w : Str, ds = [.str w] ∧ Asc 1000000 w ∧ Q (.int (fig w)) μ
abbrev N_figures_in : List Str := ["word", "figure"]
def wb_figures_in (L : Lw) : Ws :=
    (sQ (sIf (tOrr (tNt (tB0 (w3 fLe fLe (wC (.int 1)) (wN fLen (aC (wV 0) aN)) (wC (.int 9))))) (tNt (tB0 (wN fAll (aC (wL (wLc (iL (wV 0)) (gN 1) tY (w2 (fIn false) (wV 1) (wC (.str "0123456789"))) [1])) aN))))) (sRet (w1 fNeg (wC (.int 1)))) sN)
    (sRet (wIf (tOrr (tB0 (w2 fEq (wV 0) (wC (.str "0")))) (tB0 (w2 fNe (w2 fIx (wV 0) (wC (.int 0))) (wC (.str "0"))))) (wN fIntS (aC (wV 0) aN)) (w1 fNeg (wC (.int 1))))))
theorem data_figures_in (L : Lw) {ds : List D} {μ : Mu} {Q : D → Mu → Prop} {E : Ek} (h : ct_figures_in L ds μ Q E) : wb_figures_in L (deOf Q E) (startR N_figures_in ds) μ := by
  obtain ⟨w, rfl, ha, q⟩ := h
  have hl := ha.l
  have hz : w.length ≤ sizeLine := Nat.le_trans hl (by decide)
  have lt : w.length = w.cps.toList.length := TL.len_tl w
  unfold fig at q
  refine .inl ⟨w, rfl, hz, ?_⟩
  show (match D.bl (decide ((1 : Int) ≤ (w.length : Int))) with | .bl true => _ | .bl false => _ | _ => _)
  by_cases h1 : 1 ≤ w.length
  · rw [decide_eq_true (by omega)]
    show (match !(decide ((w.length : Int) ≤ (9 : Int))) with | true => _ | false => _)
    by_cases h9 : w.length ≤ 9
    · rw [decide_eq_true (by omega)]
      refine lcL_map (enc := fun c : Nat => D.str ⟨#[c]⟩) (f := fun c => .bl (decide (48 ≤ c) && decide (c ≤ 57))) w.cps.toList rfl (fun c hc P hP => ?_) (by rw [← lt]; exact hz) ?_
      · show P (.bl (!(Builtin.Str.occurrences "0123456789" ⟨#[c]⟩ 0 _ 1).isEmpty)) μ
        have := StrLaws.found_one "0123456789" c
        rw [fig_sign] at this
        exact this.symm ▸ hP
      · unfold aN
        dsimp only
        rw [fAll_f]
        have e : (w.cps.toList.all fun c => decide (48 ≤ c) && decide (c ≤ 57)) = isFig w := rfl
        rw [e]
        cases hf : isFig w with
        | false => rw [hf, if_neg (by rintro ⟨_, z, _⟩; cases z)] at q; exact q
        | true =>
          rw [hf] at q
          have dg : NumText.AllDigits w.cps.toList := fun c hc => by
            have := List.all_eq_true.mp hf c hc
            rw [Bool.and_eq_true, decide_eq_true_eq, decide_eq_true_eq] at this
            exact this
          have ne : w.cps.toList ≠ [] := fun z => by rw [z] at lt; simp at lt; omega
          have fin : (w = "0" ∨ w.cps.toList.head? ≠ some 48) → wN fIntS (aC (wV 0) aN) [.sh (.str w), .no] μ Q E := fun z => by
            rw [if_pos ⟨⟨h1, h9⟩, rfl, z⟩] at q
            exact ⟨w, _, rfl, intText_digits dg ne (by omega), by omega, q⟩
          show figRet (deOf Q E) [.sh (.str w), .no] μ
          simp only [figRet, sRet, wIf, tOrr, tB0, w2, wV, wC, deOf, List.getElem?_cons_zero]
          rw [fEq_of (eqD_str ha.sok (sok_of "0"))]
          by_cases h0 : w = "0"
          · rw [decide_eq_true h0]
            exact fin (.inl h0)
          · rw [decide_eq_false h0]
            refine ⟨hz, ?_⟩
            obtain ⟨c, r, hc⟩ : ∃ c r, w.cps.toList = c :: r := by
              cases e : w.cps.toList with
              | nil => exact absurd e ne
              | cons c r => exact ⟨c, r, rfl⟩
            have ea : atI w.cps.toList 0 = some c := by
              rw [hc]
              obtain ⟨h, e⟩ := atI_int (xs := c :: r) (show (0 : Int) ≤ 0 by decide) (by rw [List.length_cons]; omega)
              exact e
            rw [ea]
            have c128 : c < 128 := ha.a c (by rw [hc]; exact List.mem_cons_self ..)
            show fNe (.str ⟨#[c]⟩) (.str "0") _
            rw [fNe_of (eqD_str (one_sign c128) (sok_of "0"))]
            by_cases hc0 : c = 48
            · have : (⟨#[c]⟩ : Str) = "0" := by subst hc0; exact TL.ext_tl zero_tl.symm
              rw [decide_eq_true this]
              rw [if_neg (by rintro ⟨_, _, z | z⟩; exact h0 z; exact z (by rw [hc, hc0]; rfl))] at q
              exact q
            · have : (⟨#[c]⟩ : Str) ≠ "0" := fun z => hc0 (by
                have := congrArg (fun x : Str => x.cps.toList) z
                rw [zero_tl] at this
                simpa using this)
              rw [decide_eq_false this]
              exact fin (.inr (by rw [hc]; exact fun z => hc0 (Option.some.inj z)))
    · rw [decide_eq_false (by omega)]
      rw [if_neg (by rintro ⟨⟨_, z⟩, _⟩; omega)] at q
      exact q
  · rw [decide_eq_false (by omega)]
    rw [if_neg (by rintro ⟨⟨z, _⟩, _⟩; omega)] at q
    exact q
def ct_law_figure (L : Lw) : Ct := ct_figures_in L
abbrev N_law_figure : List Str := ["_law_word", "_law_sign"]
def wb_law_figure (L : Lw) : Ws :=
    (sQ (sIf (tOrr (tNt (tB0 (w3 fLe fLe (wC (.int 1)) (wN fLen (aC (wV 0) aN)) (wC (.int 9))))) (tNt (tB0 (wN fAll (aC (wL (wLc (iL (wV 0)) (gN 1) tY (w2 (fIn false) (wV 1) (wC (.str "0123456789"))) [1])) aN))))) (sRet (w1 fNeg (wC (.int 1)))) sN)
    (sRet (wIf (tOrr (tB0 (w2 fEq (wV 0) (wC (.str "0")))) (tB0 (w2 fNe (w2 fIx (wV 0) (wC (.int 0))) (wC (.str "0"))))) (wN fIntS (aC (wV 0) aN)) (w1 fNeg (wC (.int 1))))))
theorem data_law_figure (L : Lw) {ds : List D} {μ : Mu} {Q : D → Mu → Prop} {E : Ek} (h : ct_law_figure L ds μ Q E) : wb_law_figure L (deOf Q E) (startR N_law_figure ds) μ := data_figures_in L h
/-! the integers of words -/
theorem flat_ints (ns : List Int) : (ns.map D.int).all D.flat = true := by
  rw [List.all_map, List.all_eq_true]
  intro n _
  rfl
theorem inD_ints (n : Int) : ∀ ns : List Int, inD (.int n) (ns.map D.int) = decide (n ∈ ns)
  | [] => rfl
  | m :: ns => by
    have := inD_ints n ns
    unfold inD at this ⊢
    show (eqF (.int m) (.int n) || (ns.map D.int).any fun y => eqF y (.int n)) = _
    rw [this]
    show (m == n || decide (n ∈ ns)) = _
    by_cases h : n = m
    · subst h; simp
    · have : (m == n) = false := by simp; omega
      rw [this, Bool.false_or]
      exact decide_eq_decide.mpr ⟨fun z => List.mem_cons_of_mem _ z, fun z => (List.mem_cons.mp z).resolve_left h⟩
def AscL (ws : List Str) : Prop := (∀ w ∈ ws, Asc 1000000 w) ∧ ws.length ≤ 1000000
theorem AscL.sub {ws vs : List Str} (h : AscL ws) (s : ∀ w ∈ vs, w ∈ ws) (l : vs.length ≤ ws.length) : AscL vs := ⟨fun w hw => h.1 w (s w hw), Nat.le_trans l h.2⟩
def figs (ws : List Str) : List Int := ws.map fig
def intsIn (ws : List Str) : D := if (-1 : Int) ∈ figs ws then .non else .tup ((figs ws).map .int)
def ct_integers_in (L : Lw) : Ct := fun ds μ Q E => ∃ ws : List Str, ds = [.lst (ws.map .str)] ∧ AscL ws ∧ Q (intsIn ws) μ
abbrev N_integers_in : List Str := ["words", "found", "word"]
def wb_integers_in (L : Lw) : Ws :=
    (sQ (sSet 1 (wN fTuple (aC (wL (wLc (iL (wV 0)) (gN 2) tY (wCall (ct_figures_in L) (aC (wV 2) aN)) [2])) aN)))
    (sRet (wIf (tB0 (w2 (fIn false) (w1 fNeg (wC (.int 1))) (wV 1))) (wC .non) (wV 1))))
theorem data_integers_in (L : Lw) {ds : List D} {μ : Mu} {Q : D → Mu → Prop} {E : Ek} (h : ct_integers_in L ds μ Q E) : wb_integers_in L (deOf Q E) (startR N_integers_in ds) μ := by
  obtain ⟨ws, rfl, ha, q⟩ := h
  refine lcL_map (enc := fun w : Str => D.str w) (f := fun w => .int (fig w)) ws rfl (fun w hw P hP => ⟨w, rfl, ha.1 w hw, hP⟩) (Nat.le_trans ha.2 (by decide)) ?_
  refine .inl ⟨_, rfl, ?_⟩
  have e : ws.map (fun w => D.int (fig w)) = (figs ws).map .int := by unfold figs; rw [List.map_map]; rfl
  rw [e]
  refine ⟨rfl, flat_ints _, ?_⟩
  show (match inD (.int (-1)) ((figs ws).map .int) with | true => _ | false => _)
  rw [inD_ints]
  unfold intsIn at q
  by_cases h : (-1 : Int) ∈ figs ws
  · rw [decide_eq_true h]; rw [if_pos h] at q; exact q
  · rw [decide_eq_false h]; rw [if_neg h] at q; exact q
end Sk
namespace Sk
open PySem PySem.Spec PyProof.Rows L2 Dk He
/-! ### texts are cut -/
theorem spl_facts (S : List Nat) : ∀ (l : List Nat) (k : Nat) (acc : List Nat), (∀ p ∈ TL.spl S k acc l, ∀ c ∈ p, c ∈ acc ∨ c ∈ l) ∧ ((TL.spl S k acc l).map (·.length)).sum ≤ acc.length + l.length ∧ (TL.spl S k acc l).length ≤ l.length + 1 ∧ TL.spl S k acc l ≠ []
  | [], k, acc => by
    rw [TL.spl_nil]
    refine ⟨fun p hp c hc => .inl (by rw [List.mem_singleton.mp hp] at hc; exact hc), by simp, by simp, by simp⟩
  | c :: r, 0, acc => by
    by_cases h : TL.pre S (c :: r) = true
    · rw [TL.spl_hit h]
      obtain ⟨h1, h2, h3, _⟩ := spl_facts S r (S.length - 1) []
      refine ⟨fun p hp d hd => ?_, ?_, ?_, by simp⟩
      · rcases List.mem_cons.mp hp with rfl | hp
        · exact .inl hd
        · rcases h1 p hp d hd with z | z
          · cases z
          · exact .inr (List.mem_cons_of_mem _ z)
      · rw [List.map_cons, List.sum_cons, List.length_cons]
        simp only [List.length_nil] at h2
        omega
      · rw [List.length_cons, List.length_cons]; omega
    · have h : TL.pre S (c :: r) = false := by simpa using h
      rw [TL.spl_miss h]
      obtain ⟨h1, h2, h3, h4⟩ := spl_facts S r 0 (acc ++ [c])
      refine ⟨fun p hp d hd => ?_, ?_, ?_, h4⟩
      · rcases h1 p hp d hd with z | z
        · rcases List.mem_append.mp z with z | z
          · exact .inl z
          · exact .inr (by rw [List.mem_singleton.mp z]; exact List.mem_cons_self ..)
        · exact .inr (List.mem_cons_of_mem _ z)
      · rw [List.length_append, List.length_singleton] at h2
        rw [List.length_cons]; omega
      · rw [List.length_cons]; omega
  | c :: r, k + 1, acc => by
    have e : TL.spl S (k + 1) acc (c :: r) = TL.spl S k acc r := rfl
    rw [e]
    obtain ⟨h1, h2, h3, h4⟩ := spl_facts S r k acc
    refine ⟨fun p hp d hd => (h1 p hp d hd).imp id fun z => List.mem_cons_of_mem _ z, ?_, ?_, h4⟩
    · rw [List.length_cons]; omega
    · rw [List.length_cons]; omega
theorem blank_tl : TL.tl (" " : Str) = [32] := by decide +kernel
theorem blank_k : (" " : Str).cps.all (· < 256) = true := by decide +kernel
abbrev blk (x : Str) : List Str := Txt.split x " "
theorem blk_tl (x : Str) : (blk x).map TL.tl = TL.spl [32] 0 [] (TL.tl x) := by
  rw [← blank_tl]
  exact TL.split_spl x " " (by rw [blank_tl]; simp) (TL.kind_ok blank_k)
/-- words: ascii, so long in all, so many -/
structure Wds (n m : Nat) (ws : List Str) : Prop where
  a : ∀ w ∈ ws, ∀ c ∈ w.cps.toList, c < 128
  s : (ws.map (·.length)).sum ≤ n
  l : ws.length ≤ m
theorem blk_facts {n : Nat} {x : Str} (h : Asc n x) : Wds n (n + 1) (blk x) ∧ blk x ≠ [] := by
  obtain ⟨h1, h2, h3, h4⟩ := spl_facts [32] (TL.tl x) 0 []
  rw [← blk_tl] at h1 h2 h3 h4
  have hl := h.l
  rw [TL.len_tl] at hl
  refine ⟨⟨fun w hw c hc => ?_, ?_, ?_⟩, fun z => h4 (by rw [z]; rfl)⟩
  · rcases h1 _ (List.mem_map_of_mem hw) c hc with z | z
    · cases z
    · exact h.a c z
  · rw [List.map_map] at h2
    have e : (blk x).map ((fun x => x.length) ∘ TL.tl) = (blk x).map (·.length) := List.map_congr_left fun w _ => (TL.len_tl w).symm
    rw [e] at h2
    simp only [List.length_nil] at h2
    omega
  · rw [List.length_map] at h3
    omega
theorem sum_mem {ns : List Nat} {n : Nat} (h : n ∈ ns) : n ≤ ns.sum := by
  induction ns with
  | nil => cases h
  | cons m ns ih =>
    rw [List.sum_cons]
    rcases List.mem_cons.mp h with rfl | h
    · omega
    · have := ih h; omega
theorem Wds.asc {n m : Nat} {ws : List Str} (h : Wds n m ws) (hn : n ≤ 1000000) (hm : m ≤ 1000000) : AscL ws :=
  ⟨fun w hw => ⟨h.a w hw, by have := sum_mem (List.mem_map_of_mem (f := fun x : Str => x.length) hw); have := h.s; omega⟩, Nat.le_trans h.l hm⟩
/-! ### what a text tells -/
def wds (x : Str) : List Str := if x = "none" then [] else blk x
theorem wds_asc {x : Str} (h : Asc 100000 x) : AscL (wds x) := by
  unfold wds
  split
  · exact ⟨fun w hw => (by cases hw), Nat.zero_le _⟩
  · exact (blk_facts h).1.asc (by decide) (by decide)
def isFrom (w : Str) : Bool := decide (w = "from")
def fromAt (ws : List Str) : Nat := ws.findIdx isFrom
structure PrI where
  h : List Int
  f : Int
  p : Int
  r : List Int
def PrI.ds (q : PrI) : List D := [.tup (q.h.map .int), .int q.f, .int q.p, .tup (q.r.map .int)]
def PrI.d (q : PrI) : D := .tup q.ds
def maxI (ns : List Int) : Int := ((0 :: ns).max?).getD 0
def prsT (h : List Int) : List Str → Option PrI
  | [] => some ⟨h, maxI h + 1, 1, []⟩
  | _ :: a :: b :: c :: d :: e :: r => if b = "by" ∧ d = "rest" then some ⟨h, fig a, fig c, figs (e :: r)⟩ else none
  | _ => none
def prs (ws : List Str) : Option PrI := prsT (figs (ws.take (fromAt ws))) (ws.drop (fromAt ws))
def pIn (ws : List Str) : D := match prs ws with
  | none => .non
  | some q => if (-1 : Int) ∈ q.h ∨ (-1 : Int) ∈ q.f :: q.p :: q.r then .non else q.d
def lpD (ws : List Str) : D := match prs ws with
  | none => .non
  | some q => q.d
theorem maxI_of {ns : List Int} {m : Int} (h1 : m ∈ 0 :: ns) (h2 : ∀ y ∈ 0 :: ns, y ≤ m) : m = maxI ns := by
  unfold maxI
  rw [List.max?_eq_some_iff.mpr ⟨h1, h2⟩]
  rfl
theorem maxI_pos (ns : List Int) : 0 ≤ maxI ns := by
  cases e : (0 :: ns).max? with
  | none => rw [List.max?_eq_none_iff] at e; cases e
  | some m =>
    have := (List.max?_eq_some_iff.mp e).2 0 (List.mem_cons_self ..)
    unfold maxI
    rw [e]
    exact this
theorem inD_strs (z : Str) : ∀ ws : List Str, inD (.str z) (ws.map D.str) = decide (z ∈ ws)
  | [] => rfl
  | w :: ws => by
    have := inD_strs z ws
    unfold inD at this ⊢
    show (eqF (.str w) (.str z) || (ws.map D.str).any fun y => eqF y (.str z)) = _
    rw [this]
    show (w == z || decide (z ∈ ws)) = _
    by_cases h : z = w
    · subst h; simp
    · have : (w == z) = false := beq_eq_false_iff_ne.mpr fun e => h e.symm
      rw [this, Bool.false_or]
      exact decide_eq_decide.mpr ⟨fun z => List.mem_cons_of_mem _ z, fun z => (List.mem_cons.mp z).resolve_left h⟩
theorem flat_strs (ws : List Str) : (ws.map D.str).all D.flat = true := by
  rw [List.all_map, List.all_eq_true]
  intro n _
  rfl
theorem from_in {ws : List Str} (h : ("from" : Str) ∈ ws) : ws[fromAt ws]? = some "from" ∧ ∀ m, m < fromAt ws → ws[m]? ≠ some "from" := by
  have hlt : fromAt ws < ws.length := List.findIdx_lt_length_of_exists (p := isFrom) ⟨("from" : Str), h, decide_eq_true rfl⟩
  refine ⟨?_, fun m hm z => ?_⟩
  · have := List.findIdx_getElem (p := isFrom) (xs := ws) (w := hlt)
    have := of_decide_eq_true this
    rw [List.getElem?_eq_getElem hlt]
    exact congrArg some this
  · have hm2 : m < ws.length := by omega
    have := List.not_of_lt_findIdx (p := isFrom) (xs := ws) hm
    rw [List.getElem?_eq_getElem hm2] at z
    have z := Option.some.inj z
    rw [z] at this
    exact absurd (show isFrom "from" = true from decide_eq_true rfl) (by simpa using this)
theorem from_out {ws : List Str} (h : ("from" : Str) ∉ ws) : fromAt ws = ws.length := List.findIdx_eq_length_of_false (p := isFrom) fun w hw => decide_eq_false fun z => h (by rw [← z]; exact hw)
/-- the words of a text, and where they go on -/
theorem at_use {ws : List Str} {ρ : List Sl} {i : Nat} {μ : Mu} {Q : D → Mu → Prop} {E : Ek} (hi : ρ[i]? = some (.sh (.lst (ws.map .str)))) (q : Q (.int (fromAt ws : Nat)) μ) :
    wIf (tB0 (w2 (fIn false) (wC (.str "from")) (wV i))) (wIndex (wV i) (wC (.str "from"))) (wN fLen (aC (wV i) aN)) ρ μ Q E := by
  simp only [wIf, tB0, w2, wC, wV, hi, wIndex, wN, aC, aN, fIn]
  refine ⟨rfl, flat_strs _, ?_⟩
  rw [if_neg Bool.false_ne_true, inD_strs]
  by_cases h : ("from" : Str) ∈ ws
  · rw [decide_eq_true h]
    obtain ⟨h1, h2⟩ := from_in h
    exact ⟨ws, rfl, _, fromAt ws, rfl, h1, h2, q⟩
  · rw [decide_eq_false h]
    refine .inr (.inl ⟨_, rfl, ?_⟩)
    rw [List.length_map, ← from_out h]
    exact q
theorem eqD_strsL_nil {ws : List Str} (h : AscL ws) : eqD (.lst (ws.map .str)) (.lst []) = some ws.isEmpty := eqD_strs_nil fun w hw => (h.1 w hw).sok
end Sk
namespace Sk
open PySem PySem.Spec PyProof.Rows L2 Dk He
/-! ### the program's reading -/
def ct_parts_in (L : Lw) : Ct := fun ds μ Q E => ∃ x : Str, ds = [.str x] ∧ Asc 100000 x ∧ Q (pIn (wds x)) μ
abbrev N_parts_in : List Str := ["text", "words", "count", "heads", "tail", "integers"]
abbrev pi_1 : Ws := (sSet 1 (wIf (tB0 (w2 fNe (wV 0) (wC (.str "none")))) (wS1 fSplit (wV 0) (wC (.str " "))) (wN fLst aN)))
abbrev pi_2 : Ws := (sSet 2 (wIf (tB0 (w2 (fIn false) (wC (.str "from")) (wV 1))) (wIndex (wV 1) (wC (.str "from"))) (wN fLen (aC (wV 1) aN))))
abbrev pi_3 (L : Lw) : Ws := (sPar 3 4 (aC (wCall (ct_integers_in L) (aC (wSl (wV 1) pN (pS (wV 2))) aN)) (aC (wSl (wV 1) (pS (wV 2)) pN) aN)))
abbrev pi_4 : Ws := (sIf (tB0 (w2 fIsN (wV 3) (wC .non))) (sRet (wC .non)) sN)
abbrev pi_5 : Ws := (sIf (tB0 (w2 fEq (wV 4) (wN fLst aN))) (sRet (wN fTup (aC (wV 3) (aC (w2 fAdd (wN fMax (aC (wN fLst (aC (wC (.int 0)) (aS (wV 3) aN))) aN)) (wC (.int 1))) (aC (wC (.int 1)) (aC (wN fTup aN) aN)))))) sN)
abbrev pi_6 : Ws := (sIf (tOrr (tB0 (w2 fLe (wN fLen (aC (wV 4) aN)) (wC (.int 5)))) (tOrr (tB0 (w2 fNe (w2 fIx (wV 4) (wC (.int 2))) (wC (.str "by")))) (tB0 (w2 fNe (w2 fIx (wV 4) (wC (.int 4))) (wC (.str "rest")))))) (sRet (wC .non)) sN)
abbrev pi_7 (L : Lw) : Ws := (sSet 5 (wCall (ct_integers_in L) (aC (wN fLst (aC (w2 fIx (wV 4) (wC (.int 1))) (aC (w2 fIx (wV 4) (wC (.int 3))) (aS (wSl (wV 4) (pS (wC (.int 5))) pN) aN)))) aN)))
abbrev pi_8 : Ws := (sRet (wIf (tB0 (w2 fIsN (wV 5) (wC .non))) (wC .non) (wN fTup (aC (wV 3) (aC (w2 fIx (wV 5) (wC (.int 0))) (aC (w2 fIx (wV 5) (wC (.int 1))) (aC (wSl (wV 5) (pS (wC (.int 2))) pN) aN)))))))
def wb_parts_in (L : Lw) : Ws := (sQ pi_1 (sQ pi_2 (sQ (pi_3 L) (sQ pi_4 (sQ pi_5 (sQ pi_6 (sQ (pi_7 L) pi_8)))))))
section
variable {L : Lw} {x : Str} {D0 : De} {μ : Mu} {a b c d e : Sl}
theorem none_sok : PyData.strOk "none" = true := sok_of "none"
theorem pi1_use (h : Asc 100000 x) (k : D0.nx [.sh (.str x), .sh (.lst ((wds x).map .str)), b, c, d, e] μ) : pi_1 D0 [.sh (.str x), a, b, c, d, e] μ := by
  obtain ⟨nx, rt, ex, ct, bk⟩ := D0
  simp only [pi_1, sSet, wIf, tB0, w2, wV, wC, List.getElem?_cons_zero]
  rw [fNe_of (eqD_str h.sok none_sok)]
  unfold wds at k
  by_cases hx : x = "none"
  · rw [decide_eq_true hx]
    rw [if_pos hx] at k
    exact ⟨by decide, k⟩
  · rw [decide_eq_false hx]
    rw [if_neg hx] at k
    have := h.l
    exact ⟨by decide +kernel, Nat.le_trans (by omega : x.length + 2 ≤ 100002) (by decide), k⟩
theorem tail_use {ws : List Str} {n : Nat} : Dk.cutD (ws.map D.str) (some (n : Int)) none = (ws.drop n).map .str := by rw [cutD_from, List.map_drop]
theorem head_use {ws : List Str} {n : Nat} : Dk.cutD (ws.map D.str) none (some (n : Int)) = (ws.take n).map .str := by rw [cutD_to, List.map_take]
theorem at_k {xs : List D} {k : Nat} {z : D} (h : xs[k]? = some z) : atI xs (k : Int) = some z := by
  obtain ⟨h1, h2⟩ := List.getElem?_eq_some_iff.mp h
  rw [atI_nat' h1, h2]
/-- what is behind the heads -/
theorem pi_rest {H : List Int} {t : List Str} {Q : D → Mu → Prop} {E : Ek} {a b c f : Sl} (hH : (-1 : Int) ∉ H) (hl : H.length ≤ 1000000) (ht : AscL t)
    (q : Q (match prsT H t with | none => .non | some q => if (-1 : Int) ∈ q.h ∨ (-1 : Int) ∈ q.f :: q.p :: q.r then .non else q.d) μ) :
    (sQ pi_5 (sQ pi_6 (sQ (pi_7 L) pi_8))) (deOf Q E) [a, b, c, .sh (.tup (H.map .int)), .sh (.lst (t.map .str)), f] μ := by
  refine ⟨by decide, ?_⟩
  show fEq (.lst (t.map .str)) (.lst []) _
  rw [fEq_of (eqD_strsL_nil ht)]
  match t, ht, q with
  | [], ht, q =>
    have hp := maxI_pos H
    have q : Q (if (-1 : Int) ∈ H ∨ (-1 : Int) ∈ [maxI H + 1, 1] then .non else PrI.d ⟨H, maxI H + 1, 1, []⟩) μ := q
    rw [if_neg (by
      rintro (z | z)
      · exact hH z
      · simp only [List.mem_cons, List.not_mem_nil, or_false] at z
        omega)] at q
    refine ⟨H.map .int, .inr rfl, ?_⟩
    dsimp only [aN]
    rw [List.append_nil]
    refine ⟨?_, .inr ⟨0 :: H, rfl, by simp, fun m h1 h2 => ?_⟩⟩
    · rw [List.length_cons, List.length_map]; exact Nat.le_trans (by omega : _ ≤ 1000001) (by decide)
    · rw [maxI_of h1 h2]
      exact ⟨by decide, (by decide : 4 ≤ sizeLine), q⟩
  | [_], ht, q => exact .inr (.inl ⟨_, rfl, q⟩)
  | [_, _], ht, q => exact .inr (.inl ⟨_, rfl, q⟩)
  | [_, _, _], ht, q => exact .inr (.inl ⟨_, rfl, q⟩)
  | [_, _, _, _], ht, q => exact .inr (.inl ⟨_, rfl, q⟩)
  | [_, _, _, _, _], ht, q => exact .inr (.inl ⟨_, rfl, q⟩)
  | u0 :: u1 :: u2 :: u3 :: u4 :: u5 :: r, ht, q =>
    have s2 := (ht.1 u2 (by simp)).sok
    have s4 := (ht.1 u4 (by simp)).sok
    refine .inr (.inl ⟨_, rfl, ?_⟩)
    have e6 : decide ((((u0 :: u1 :: u2 :: u3 :: u4 :: u5 :: r).map D.str).length : Int) ≤ 5) = false := decide_eq_false (by simp; omega)
    have x1 : atI ((u0 :: u1 :: u2 :: u3 :: u4 :: u5 :: r).map D.str) 1 = some (.str u1) := at_k (k := 1) rfl
    have x2 : atI ((u0 :: u1 :: u2 :: u3 :: u4 :: u5 :: r).map D.str) 2 = some (.str u2) := at_k (k := 2) rfl
    have x3 : atI ((u0 :: u1 :: u2 :: u3 :: u4 :: u5 :: r).map D.str) 3 = some (.str u3) := at_k (k := 3) rfl
    have x4 : atI ((u0 :: u1 :: u2 :: u3 :: u4 :: u5 :: r).map D.str) 4 = some (.str u4) := at_k (k := 4) rfl
    have last : ∀ h1 : u2 = "by", ∀ h2 : u4 = "rest", (sQ (pi_7 L) pi_8) (deOf Q E) [a, b, c, .sh (.tup (H.map .int)), .sh (.lst ((u0 :: u1 :: u2 :: u3 :: u4 :: u5 :: r).map .str)), f] μ := fun h1 h2 => by
      have q : Q (match (if u2 = "by" ∧ u4 = "rest" then some (⟨H, fig u1, fig u3, figs (u5 :: r)⟩ : PrI) else none) with | none => .non | some q => if (-1 : Int) ∈ q.h ∨ (-1 : Int) ∈ q.f :: q.p :: q.r then .non else q.d) μ := q
      rw [if_pos ⟨h1, h2⟩] at q
      have q : Q (if (-1 : Int) ∈ H ∨ (-1 : Int) ∈ fig u1 :: fig u3 :: figs (u5 :: r) then .non else PrI.d ⟨H, fig u1, fig u3, figs (u5 :: r)⟩) μ := q
      simp only [pi_7, sQ, sSet, wCall, wN, aC, aS, wSl, w2, wV, wC, pS, pN, List.getElem?_cons_zero, List.getElem?_cons_succ]
      rw [fIx_l x1, fIx_l x3]
      have ec : Dk.cutD ((u0 :: u1 :: u2 :: u3 :: u4 :: u5 :: r).map D.str) (some 5) none = (u5 :: r).map .str := tail_use (n := 5)
      refine ⟨_, .inl rfl, ?_⟩
      rw [ec]
      dsimp only [aN]
      rw [List.append_nil]
      refine ⟨?_, u1 :: u3 :: u5 :: r, rfl, ?_, ?_⟩
      · have := ht.2
        simp only [List.length_cons, List.length_map] at this ⊢
        exact Nat.le_trans (by omega : _ ≤ 1000000) (by decide)
      · exact ht.sub (fun w hw => by simp only [List.mem_cons] at hw ⊢; rcases hw with h | h | h | h <;> simp [h]) (by simp)
      · show pi_8 (deOf Q E) [a, b, c, .sh (.tup (H.map .int)), .sh (.lst ((u0 :: u1 :: u2 :: u3 :: u4 :: u5 :: r).map .str)), .sh (intsIn (u1 :: u3 :: u5 :: r))] μ
        unfold intsIn
        by_cases hi : (-1 : Int) ∈ figs (u1 :: u3 :: u5 :: r)
        · rw [if_pos (.inr hi)] at q
          rw [if_pos hi]
          exact q
        · rw [if_neg (fun z => z.elim hH hi)] at q
          rw [if_neg hi]
          simp only [pi_8, sRet, wIf, tB0, w2, wV, wC, fIsN, D.isNon, wN, aC, aN, wSl, pS, pN, deOf, List.getElem?_cons_zero, List.getElem?_cons_succ]
          rw [fIx_t (show atI ((figs (u1 :: u3 :: u5 :: r)).map D.int) 0 = some (.int (fig u1)) from at_k (k := 0) rfl), fIx_t (show atI ((figs (u1 :: u3 :: u5 :: r)).map D.int) 1 = some (.int (fig u3)) from at_k (k := 1) rfl)]
          have ec2 : Dk.cutD ((figs (u1 :: u3 :: u5 :: r)).map D.int) (some 2) none = (figs (u5 :: r)).map D.int := cutD_from _ 2
          unfold fSl
          dsimp only
          rw [ec2]
          exact ⟨(by decide : 4 ≤ sizeLine), q⟩
    simp only [tOrr, tB0, w2, wV, wC, fCmp, List.getElem?_cons_zero, List.getElem?_cons_succ]
    rw [e6]
    rw [fIx_l x2, fNe_of (eqD_str s2 (sok_of "by"))]
    have q' : ¬ (u2 = "by" ∧ u4 = "rest") → Q .non μ := fun z => by
      have q : Q (match (if u2 = "by" ∧ u4 = "rest" then some (⟨H, fig u1, fig u3, figs (u5 :: r)⟩ : PrI) else none) with | none => .non | some q => if (-1 : Int) ∈ q.h ∨ (-1 : Int) ∈ q.f :: q.p :: q.r then .non else q.d) μ := q
      rw [if_neg z] at q
      exact q
    by_cases h1 : u2 = "by"
    · rw [decide_eq_true h1]
      show fIx _ _ _
      rw [fIx_l x4, fNe_of (eqD_str s4 (sok_of "rest"))]
      by_cases h2 : u4 = "rest"
      · rw [decide_eq_true h2]
        exact last h1 h2
      · rw [decide_eq_false h2]
        exact q' fun z => h2 z.2
    · rw [decide_eq_false h1]
      exact q' fun z => h1 z.1
theorem data_parts_in (L : Lw) {ds : List D} {μ : Mu} {Q : D → Mu → Prop} {E : Ek} (h : ct_parts_in L ds μ Q E) : wb_parts_in L (deOf Q E) (startR N_parts_in ds) μ := by
  obtain ⟨x, rfl, ha, q⟩ := h
  have hw := wds_asc ha
  refine pi1_use ha ?_
  generalize wds x = ws at hw q
  refine at_use (ws := ws) (i := 1) (ρ := [.sh (.str x), .sh (.lst (ws.map .str)), .no, .no, .no, .no]) rfl ?_
  have h3 := hw.sub (vs := ws.take (fromAt ws)) (fun w h => List.mem_of_mem_take h) (by rw [List.length_take]; omega)
  have h4 := hw.sub (vs := ws.drop (fromAt ws)) (fun w h => List.mem_of_mem_drop h) (by rw [List.length_drop]; omega)
  refine ⟨ws.take (fromAt ws), by show [D.lst (Dk.cutD (ws.map D.str) none (some ((fromAt ws : Nat) : Int)))] = _; rw [head_use], h3, ?_⟩
  have hnon : (-1 : Int) ∈ figs (ws.take (fromAt ws)) → Q .non μ := fun z => by
    have q2 := q
    unfold pIn at q2
    cases e : prs ws with
    | none => rw [e] at q2; exact q2
    | some r =>
      rw [e] at q2
      have : (-1 : Int) ∈ r.h := by
        unfold prs prsT at e
        split at e
        · cases e; exact z
        · split at e
          · cases e; exact z
          · cases e
        · cases e
      have q2 : Q (if (-1 : Int) ∈ r.h ∨ (-1 : Int) ∈ r.f :: r.p :: r.r then .non else r.d) μ := q2
      rw [if_pos (.inl this)] at q2
      exact q2
  have et : Dk.cutD (ws.map D.str) (some ((fromAt ws : Nat) : Int)) none = (ws.drop (fromAt ws)).map D.str := tail_use
  show (sQ pi_4 (sQ pi_5 (sQ pi_6 (sQ (pi_7 L) pi_8)))) (deOf Q E) [.sh (.str x), .sh (.lst (ws.map .str)), .sh (.int (fromAt ws : Nat)), .sh (intsIn (ws.take (fromAt ws))), .sh (.lst (Dk.cutD (ws.map D.str) (some ((fromAt ws : Nat) : Int)) none)), .no] μ
  rw [et]
  unfold intsIn
  by_cases hi : (-1 : Int) ∈ figs (ws.take (fromAt ws))
  · rw [if_pos hi]
    exact hnon hi
  · rw [if_neg hi]
    exact pi_rest hi (by have := h3.2; unfold figs; rw [List.length_map]; exact this) h4 q
end
end Sk
namespace Sk
open PySem PySem.Spec PyProof.Rows L2 Dk He
/-! ### right readings -/
def good (q : PrI) : Bool := areParts (.tup (q.h.map .int)) (.int q.f) (.int q.p) (.tup (q.r.map .int))
def toP (q : PrI) : Pts := ⟨q.h.map Int.toNat, q.f.toNat, q.p.toNat, q.r.map Int.toNat⟩
theorem asc_pw : ∀ {ns : List Int}, ascD (ns.map .int) = true → ns.Pairwise (· < ·)
  | [], _ => List.Pairwise.nil
  | [_], _ => List.pairwise_singleton _ _
  | a :: b :: r, h => by
    have h : (decide (a < b) && ascD ((b :: r).map .int)) = true := h
    rw [Bool.and_eq_true, decide_eq_true_eq] at h
    have ih := asc_pw h.2
    refine List.pairwise_cons.mpr ⟨fun c hc => ?_, ih⟩
    rcases List.mem_cons.mp hc with rfl | hc
    · exact h.1
    · exact Int.lt_trans h.1 ((List.pairwise_cons.mp ih).1 c hc)
theorem btw_all {l h : Int} {ns : List Int} (z : (ns.map D.int).all (fun x => btw x l h) = true) : ∀ n ∈ ns, l ≤ n ∧ n ≤ h := fun n hn => by
  have := List.all_eq_true.mp z _ (List.mem_map_of_mem hn)
  have this : (decide (l ≤ n) && decide (n ≤ h)) = true := this
  rw [Bool.and_eq_true, decide_eq_true_eq, decide_eq_true_eq] at this
  exact this
theorem toNat_D {ns : List Int} (h : ∀ n ∈ ns, 0 ≤ n) : natsD (ns.map Int.toNat) = ns.map .int := by
  unfold natsD
  rw [List.map_map]
  apply List.map_congr_left
  intro n hn
  show D.int ((n.toNat : Nat) : Int) = D.int n
  rw [Int.toNat_of_nonneg (h n hn)]
theorem toNat_pw {ns : List Int} (h : ns.Pairwise (· < ·)) (h0 : ∀ n ∈ ns, 0 ≤ n) : (ns.map Int.toNat).Pairwise (· < ·) := by
  rw [List.pairwise_map]
  exact List.Pairwise.imp_of_mem (fun {a b} ha hb hab => by have := h0 a ha; have := h0 b hb; omega) h
structure GoodQ (q : PrI) : Prop where
  f : 1 ≤ q.f ∧ q.f ≤ 9999
  p : 1 ≤ q.p ∧ q.p ≤ 9999
  h : areNums (.tup (q.h.map .int)) 1 (q.f - 1) = true
  r : areNums (.tup (q.r.map .int)) 0 (q.p - 1) = true
theorem good_iff {q : PrI} : good q = true ↔ GoodQ q := by
  have e : good q = ((decide (1 ≤ q.f) && decide (q.f ≤ 9999)) && ((decide (1 ≤ q.p) && decide (q.p ≤ 9999)) && (areNums (.tup (q.h.map .int)) 1 (q.f - 1) && areNums (.tup (q.r.map .int)) 0 (q.p - 1)))) := rfl
  rw [e]
  simp only [Bool.and_eq_true, decide_eq_true_eq]
  exact ⟨fun ⟨a, b, c, d⟩ => ⟨a, b, c, d⟩, fun h => ⟨h.f, h.p, h.h, h.r⟩⟩
theorem good_ok {q : PrI} (h : good q = true) : (toP q).Ok ∧ q.ds = (toP q).ds := by
  have g := good_iff.mp h
  have gh : ((q.h.map D.int).all (fun x => btw x 1 (q.f - 1)) && ascD (q.h.map D.int)) = true := g.h
  have gr : ((q.r.map D.int).all (fun x => btw x 0 (q.p - 1)) && ascD (q.r.map D.int)) = true := g.r
  rw [Bool.and_eq_true] at gh gr
  have h1 := btw_all gh.1
  have r1 := btw_all gr.1
  have h0 : ∀ n ∈ q.h, 0 ≤ n := fun n hn => by have := h1 n hn; omega
  have r0 : ∀ n ∈ q.r, 0 ≤ n := fun n hn => (r1 n hn).1
  have hf := g.f; have hp := g.p
  refine ⟨⟨?_, ?_, ?_, ?_, toNat_pw (asc_pw gh.2) h0, fun n hn => ?_, toNat_pw (asc_pw gr.2) r0, fun n hn => ?_⟩, ?_⟩
  · show 1 ≤ q.f.toNat; omega
  · show q.f.toNat ≤ 9999; omega
  · show 1 ≤ q.p.toNat; omega
  · show q.p.toNat ≤ 9999; omega
  · obtain ⟨m, hm, rfl⟩ := List.mem_map.mp hn
    have := h1 m hm
    show 1 ≤ m.toNat ∧ m.toNat < q.f.toNat
    omega
  · obtain ⟨m, hm, rfl⟩ := List.mem_map.mp hn
    have := r1 m hm
    show m.toNat < q.p.toNat
    omega
  · show [D.tup (q.h.map .int), .int q.f, .int q.p, .tup (q.r.map .int)] = [D.tup (natsD (q.h.map Int.toNat)), .int ((q.f.toNat : Nat) : Int), .int ((q.p.toNat : Nat) : Int), .tup (natsD (q.r.map Int.toNat))]
    rw [toNat_D h0, toNat_D r0, Int.toNat_of_nonneg (by omega), Int.toNat_of_nonneg (by omega)]
theorem bad_m1 {q : PrI} (h : (-1 : Int) ∈ q.h ∨ (-1 : Int) ∈ q.f :: q.p :: q.r) : good q = false := by
  rw [Bool.eq_false_iff]
  intro z
  have g := good_iff.mp z
  have gh : ((q.h.map D.int).all (fun x => btw x 1 (q.f - 1)) && ascD (q.h.map D.int)) = true := g.h
  have gr : ((q.r.map D.int).all (fun x => btw x 0 (q.p - 1)) && ascD (q.r.map D.int)) = true := g.r
  rw [Bool.and_eq_true] at gh gr
  rcases h with h | h
  · have := btw_all gh.1 _ h; omega
  · have hf := g.f; have hp := g.p
    rcases List.mem_cons.mp h with h | h
    · omega
    · rcases List.mem_cons.mp h with h | h
      · omega
      · have := btw_all gr.1 _ h; omega
def setOf (x : Str) : Option Pts := match prs (wds x) with
  | none => none
  | some q => if good q = true ∧ setText (toP q).lst = x then some (toP q).lst else none
def optS : Option Pts → D
  | none => .non
  | some z => setD z
theorem setOf_some {x : Str} {z : Pts} (h : setOf x = some z) : z.Ok ∧ setText z = x ∧ z.lst = z := by
  unfold setOf at h
  split at h
  · cases h
  · split at h
    · rename_i q _ g
      cases h
      have ok := (good_ok g.1).1
      exact ⟨lst_ok ok, g.2, lst_lst ok⟩
    · cases h
/-- lengths of what a text tells -/
structure PrI.Sm (q : PrI) : Prop where
  h : q.h.length ≤ 1000000
  r : q.r.length ≤ 1000000
theorem prs_sm {ws : List Str} {q : PrI} (h : prs ws = some q) (hw : AscL ws) : q.Sm := by
  have h1 : (figs (ws.take (fromAt ws))).length ≤ 1000000 := by unfold figs; rw [List.length_map, List.length_take]; have := hw.2; omega
  have h2 : (ws.drop (fromAt ws)).length ≤ 1000000 := by rw [List.length_drop]; have := hw.2; omega
  unfold prs at h
  generalize figs (ws.take (fromAt ws)) = H at h h1
  generalize ws.drop (fromAt ws) = t at h h2
  unfold prsT at h
  split at h
  · cases h; exact ⟨h1, Nat.zero_le _⟩
  · split at h
    · cases h
      refine ⟨h1, ?_⟩
      simp only [figs, List.length_map, List.length_cons] at h2 ⊢
      omega
    · cases h
  · cases h
theorem okTup_ints {L : Lw} {ns : List Int} (h : ns.length ≤ 1000000) : OkTup L (.tup (ns.map .int)) := fun xs e => by
  cases e
  refine ⟨by rw [List.length_map]; exact Nat.le_trans h (by decide), fun x hx => ?_⟩
  obtain ⟨n, _, rfl⟩ := List.mem_map.mp hx
  exact okd_int
def ct_numbers_in (L : Lw) : Ct := fun ds μ Q E => (∃ x : Str, ds = [.str x] ∧ Asc 100000 x ∧ Q (optS (setOf x)) μ) ∨ ∃ d, ds = [d] ∧ Okd L d ∧ isQ (.ty "str") d = false ∧ Q .non μ
abbrev N_numbers_in : List Str := ["text", "parts", "found"]
abbrev ni_2 (L : Lw) : Ws := (sIf (tOrr (tB0 (w2 fIsN (wV 1) (wC .non))) (tNt (tB0 (wCall (ct_are_parts L) (aS (wV 1) aN))))) (sRet (wC .non)) sN)
abbrev ni_3 (L : Lw) : Ws := (sSet 2 (wMakeS 41 (ci_Numbers L) [] (wV 1)))
abbrev ni_4 (L : Lw) : Ws := (sRet (wIf (tB0 (w2 fEq (wProp [(41, ct_Numbers_text L)] (wV 2)) (wV 0))) (wV 2) (wC .non)))
def wb_numbers_in (L : Lw) : Ws :=
    (sQ (sSet 1 (wIf (tB0 (wIsi (ansQ L (.ty "str")) (wV 0))) (wCall (ct_parts_in L) (aC (wV 0) aN)) (wC .non)))
    (sQ (ni_2 L) (sQ (ni_3 L) (ni_4 L))))
theorem data_numbers_in (L : Lw) {ds : List D} {μ : Mu} {Q : D → Mu → Prop} {E : Ek} (h : ct_numbers_in L ds μ Q E) : wb_numbers_in L (deOf Q E) (startR N_numbers_in ds) μ := by
  rcases h with ⟨x, rfl, ha, q⟩ | ⟨d, rfl, hd, hn, q⟩
  · refine isi_use (Q := fun b => _) okd_str ?_
    refine ⟨x, rfl, ha, ?_⟩
    show (sQ (ni_2 L) (sQ (ni_3 L) (ni_4 L))) (deOf Q E) [.sh (.str x), .sh (pIn (wds x)), .no] μ
    unfold setOf at q
    have hw := wds_asc ha
    unfold pIn
    generalize wds x = ws at q hw
    cases e : prs ws with
    | none => rw [e] at q; exact q
    | some r =>
      rw [e] at q
      have sm := prs_sm e hw
      have q : Q (optS (if good r = true ∧ setText (toP r).lst = x then some (toP r).lst else none)) μ := q
      show (sQ (ni_2 L) (sQ (ni_3 L) (ni_4 L))) (deOf Q E) [.sh (.str x), .sh (if (-1 : Int) ∈ r.h ∨ (-1 : Int) ∈ r.f :: r.p :: r.r then .non else r.d), .no] μ
      by_cases hm : (-1 : Int) ∈ r.h ∨ (-1 : Int) ∈ r.f :: r.p :: r.r
      · rw [if_pos hm]
        rw [if_neg fun z => by rw [bad_m1 hm] at z; cases z.1] at q
        exact q
      · rw [if_neg hm]
        refine ⟨r.ds, .inr rfl, ?_⟩
        dsimp only [aN]
        rw [List.append_nil]
        refine ⟨_, _, _, _, rfl, okd_tup, okd_int, okd_int, okd_tup, okTup_ints sm.h, okTup_ints sm.r, ?_⟩
        have eg : areParts (.tup (r.h.map .int)) (.int r.f) (.int r.p) (.tup (r.r.map .int)) = good r := rfl
        rw [eg]
        cases hg : good r with
        | false =>
          rw [if_neg fun z => by rw [hg] at z; cases z.1] at q
          exact q
        | true =>
          obtain ⟨ok, eds⟩ := good_ok hg
          refine ⟨r.ds, .inr rfl, .inl ⟨toP r, ok, by rw [List.append_nil]; exact eds, ?_⟩⟩
          refine ⟨(toP r).lst, rfl, lst_ok ok, ?_⟩
          simp only [wV, List.set_cons_succ, List.set_cons_zero, List.getElem?_cons_zero, List.getElem?_cons_succ]
          rw [fEq_of (eqD_str (text_sok _) ha.sok)]
          by_cases ht : setText (toP r).lst = x
          · rw [decide_eq_true ht]
            rw [if_pos ⟨hg, ht⟩] at q
            exact q
          · rw [decide_eq_false ht]
            rw [if_neg fun z => ht z.2] at q
            exact q
  · refine isi_use (Q := fun b => _) hd ?_
    rw [hn]
    exact q
theorem str_okR {x : Str} (h : Asc 100000 x) : (D.str x).okR := by
  refine ⟨?_, ?_, by show 0 ≤ 60; decide⟩
  · show (PyData.strOk x && PyData.strOk (reprText x)) = true
    rw [h.sok, sok_repr h.sok]; rfl
  · show x.length ≤ 2 ^ 20
    have := h.l
    omega
def ct_Numbers_of (L : Lw) : Ct := fun ds μ Q E => (∃ x : Str, ds = [.str x] ∧ Asc 100000 x ∧ (∀ z, setOf x = some z → Q (setD z) μ) ∧ (setOf x = none → E 2 (.str x) μ)) ∨ ∃ d, ds = [d] ∧ Okd L d ∧ isQ (.ty "str") d = false ∧ d.okR ∧ E 2 d μ
abbrev N_Numbers_of : List Str := ["text", "found"]
def wb_Numbers_of (L : Lw) : Ws :=
    (sQ (sSet 1 (wCall (ct_numbers_in L) (aC (wV 0) aN)))
    (sQ (sIf (tB0 (w2 fIsN (wV 1) (wC .non))) (sRaise 2 (wV 0)) sN)
    (sRet (wV 1))))
theorem data_Numbers_of (L : Lw) {ds : List D} {μ : Mu} {Q : D → Mu → Prop} {E : Ek} (h : ct_Numbers_of L ds μ Q E) : wb_Numbers_of L (deOf Q E) (startR N_Numbers_of ds) μ := by
  rcases h with ⟨x, rfl, ha, q1, q2⟩ | ⟨d, rfl, hd, hn, hr, q⟩
  · refine .inl ⟨x, rfl, ha, ?_⟩
    cases e : setOf x with
    | none => exact ⟨rep_of (str_okR ha), q2 e⟩
    | some z => exact q1 z e
  · exact .inr ⟨d, rfl, hd, hn, rep_of hr, q⟩
end Sk
namespace Sk
open PySem PySem.Spec PyProof.Rows L2 Dk He
/-! ### k03: the law's reading -/
def ct_law_parts_of (L : Lw) : Ct := fun ds μ Q E => ∃ x : Str, ds = [.str x] ∧ Asc 100000 x ∧ Q (lpD (wds x)) μ
abbrev N_law_parts_of : List Str := ["_law_text", "_law_words", "_law_at", "_law_heads", "_law_tail", "_law_word"]
abbrev lp_1 : Ws := (sSet 1 (wIf (tB0 (w2 fEq (wV 0) (wC (.str "none")))) (wN fLst aN) (wS1 fSplit (wV 0) (wC (.str " ")))))
abbrev lp_2 : Ws := (sSet 2 (wIf (tB0 (w2 (fIn false) (wC (.str "from")) (wV 1))) (wIndex (wV 1) (wC (.str "from"))) (wN fLen (aC (wV 1) aN))))
abbrev lp_3 (L : Lw) : Ws := (sPar 3 4 (aC (wL (wLc (iL (wSl (wV 1) pN (pS (wV 2)))) (gN 5) tY (wCall (ct_law_figure L) (aC (wV 5) aN)) [5])) (aC (wSl (wV 1) (pS (wV 2)) pN) aN)))
abbrev lp_4 : Ws := (sIf (tB0 (w2 fEq (wV 4) (wN fLst aN))) (sRet (wN fTup (aC (wN fTuple (aC (wV 3) aN)) (aC (w2 fAdd (wN fMax (aC (w2 fAdd (wN fLst (aC (wC (.int 0)) aN)) (wV 3)) aN)) (wC (.int 1))) (aC (wC (.int 1)) (aC (wN fTup aN) aN)))))) sN)
abbrev lp_5 : Ws := (sIf (tOrr (tB0 (w2 fLt (wN fLen (aC (wV 4) aN)) (wC (.int 6)))) (tOrr (tB0 (w2 fNe (w2 fIx (wV 4) (wC (.int 2))) (wC (.str "by")))) (tB0 (w2 fNe (w2 fIx (wV 4) (wC (.int 4))) (wC (.str "rest")))))) (sRet (wC .non)) sN)
abbrev lp_6 (L : Lw) : Ws := (sRet (wN fTup (aC (wN fTuple (aC (wV 3) aN)) (aC (wCall (ct_law_figure L) (aC (w2 fIx (wV 4) (wC (.int 1))) aN)) (aC (wCall (ct_law_figure L) (aC (w2 fIx (wV 4) (wC (.int 3))) aN)) (aC (wN fTuple (aC (wL (wLc (iL (wSl (wV 4) (pS (wC (.int 5))) pN)) (gN 5) tY (wCall (ct_law_figure L) (aC (wV 5) aN)) [5])) aN)) aN))))))
def wb_law_parts_of (L : Lw) : Ws := (sQ lp_1 (sQ lp_2 (sQ (lp_3 L) (sQ lp_4 (sQ lp_5 (lp_6 L))))))
section
variable {L : Lw} {x : Str} {D0 : De} {μ : Mu} {a b c d e : Sl}
theorem lp1_use (h : Asc 100000 x) (k : D0.nx [.sh (.str x), .sh (.lst ((wds x).map .str)), b, c, d, e] μ) : lp_1 D0 [.sh (.str x), a, b, c, d, e] μ := by
  obtain ⟨nx, rt, ex, ct, bk⟩ := D0
  simp only [lp_1, sSet, wIf, tB0, w2, wV, wC, List.getElem?_cons_zero]
  rw [fEq_of (eqD_str h.sok none_sok)]
  unfold wds at k
  by_cases hx : x = "none"
  · rw [decide_eq_true hx]
    rw [if_pos hx] at k
    exact ⟨by decide, k⟩
  · rw [decide_eq_false hx]
    rw [if_neg hx] at k
    have := h.l
    exact ⟨by decide +kernel, Nat.le_trans (by omega : x.length + 2 ≤ 100002) (by decide), k⟩
theorem figs_map (ws : List Str) : ws.map (fun w => D.int (fig w)) = (figs ws).map .int := by unfold figs; rw [List.map_map]; rfl
theorem lp_rest {H : List Int} {t : List Str} {Q : D → Mu → Prop} {E : Ek} {a b c : Sl} (hl : H.length ≤ 1000000) (ht : AscL t) (q : Q (match prsT H t with | none => .non | some q => q.d) μ) :
    (sQ lp_4 (sQ lp_5 (lp_6 L))) (deOf Q E) [a, b, c, .sh (.lst (H.map .int)), .sh (.lst (t.map .str)), .no] μ := by
  refine ⟨by decide, ?_⟩
  show fEq (.lst (t.map .str)) (.lst []) _
  rw [fEq_of (eqD_strsL_nil ht)]
  match t, ht, q with
  | [], ht, q =>
    refine .inl ⟨_, rfl, by decide, ?_, ?_⟩
    · rw [List.length_map]; exact Nat.le_trans (by show 1 + _ ≤ 1000001; omega) (by decide)
    · refine .inr ⟨0 :: H, rfl, by simp, fun m h1 h2 => ?_⟩
      rw [maxI_of h1 h2]
      exact ⟨by decide, (by decide : 4 ≤ sizeLine), q⟩
  | [_], ht, q => exact .inr (.inl ⟨_, rfl, q⟩)
  | [_, _], ht, q => exact .inr (.inl ⟨_, rfl, q⟩)
  | [_, _, _], ht, q => exact .inr (.inl ⟨_, rfl, q⟩)
  | [_, _, _, _], ht, q => exact .inr (.inl ⟨_, rfl, q⟩)
  | [_, _, _, _, _], ht, q => exact .inr (.inl ⟨_, rfl, q⟩)
  | u0 :: u1 :: u2 :: u3 :: u4 :: u5 :: r, ht, q =>
    have s2 := (ht.1 u2 (by simp)).sok
    have s4 := (ht.1 u4 (by simp)).sok
    refine .inr (.inl ⟨_, rfl, ?_⟩)
    have e6 : decide ((((u0 :: u1 :: u2 :: u3 :: u4 :: u5 :: r).map D.str).length : Int) < 6) = false := decide_eq_false (by simp; omega)
    have x1 : atI ((u0 :: u1 :: u2 :: u3 :: u4 :: u5 :: r).map D.str) 1 = some (.str u1) := at_k (k := 1) rfl
    have x2 : atI ((u0 :: u1 :: u2 :: u3 :: u4 :: u5 :: r).map D.str) 2 = some (.str u2) := at_k (k := 2) rfl
    have x3 : atI ((u0 :: u1 :: u2 :: u3 :: u4 :: u5 :: r).map D.str) 3 = some (.str u3) := at_k (k := 3) rfl
    have x4 : atI ((u0 :: u1 :: u2 :: u3 :: u4 :: u5 :: r).map D.str) 4 = some (.str u4) := at_k (k := 4) rfl
    simp only [tOrr, tB0, w2, wV, wC, fCmp, List.getElem?_cons_zero, List.getElem?_cons_succ]
    rw [e6]
    rw [fIx_l x2, fNe_of (eqD_str s2 (sok_of "by"))]
    have q' : ¬ (u2 = "by" ∧ u4 = "rest") → Q .non μ := fun z => by
      have q : Q (match (if u2 = "by" ∧ u4 = "rest" then some (⟨H, fig u1, fig u3, figs (u5 :: r)⟩ : PrI) else none) with | none => .non | some q => q.d) μ := q
      rw [if_neg z] at q
      exact q
    by_cases h1 : u2 = "by"
    · rw [decide_eq_true h1]
      show fIx _ _ _
      rw [fIx_l x4, fNe_of (eqD_str s4 (sok_of "rest"))]
      by_cases h2 : u4 = "rest"
      · rw [decide_eq_true h2]
        have q : Q (match (if u2 = "by" ∧ u4 = "rest" then some (⟨H, fig u1, fig u3, figs (u5 :: r)⟩ : PrI) else none) with | none => .non | some q => q.d) μ := q
        rw [if_pos ⟨h1, h2⟩] at q
        have q : Q (PrI.d ⟨H, fig u1, fig u3, figs (u5 :: r)⟩) μ := q
        show lp_6 L (deOf Q E) [a, b, c, .sh (.lst (H.map .int)), .sh (.lst ((u0 :: u1 :: u2 :: u3 :: u4 :: u5 :: r).map .str)), .no] μ
        refine .inl ⟨_, rfl, ?_⟩
        simp only [w2, wV, wC, aC, wCall, List.getElem?_cons_zero, List.getElem?_cons_succ]
        rw [fIx_l x1]
        refine ⟨u1, rfl, ht.1 u1 (by simp), ?_⟩
        dsimp only
        rw [fIx_l x3]
        refine ⟨u3, rfl, ht.1 u3 (by simp), ?_⟩
        have ec : Dk.cutD ((u0 :: u1 :: u2 :: u3 :: u4 :: u5 :: r).map D.str) (some 5) none = (u5 :: r).map .str := tail_use (n := 5)
        have h5 : AscL (u5 :: r) := ht.sub (fun w hw => by simp only [List.mem_cons] at hw ⊢; rcases hw with h | h <;> simp [h]) (by simp)
        refine lcL_map (enc := fun w : Str => D.str w) (f := fun w => .int (fig w)) (u5 :: r) ec (fun w hw P hP => ⟨w, rfl, h5.1 w hw, hP⟩) (Nat.le_trans h5.2 (by decide)) ?_
        rw [figs_map]
        exact .inl ⟨_, rfl, (by decide : 4 ≤ sizeLine), q⟩
      · rw [decide_eq_false h2]
        exact q' fun z => h2 z.2
    · rw [decide_eq_false h1]
      exact q' fun z => h1 z.1
end
theorem data_law_parts_of (L : Lw) {ds : List D} {μ : Mu} {Q : D → Mu → Prop} {E : Ek} (h : ct_law_parts_of L ds μ Q E) : wb_law_parts_of L (deOf Q E) (startR N_law_parts_of ds) μ := by
  obtain ⟨x, rfl, ha, q⟩ := h
  have hw := wds_asc ha
  refine lp1_use ha ?_
  generalize wds x = ws at hw q
  refine at_use (ws := ws) (i := 1) (ρ := [.sh (.str x), .sh (.lst (ws.map .str)), .no, .no, .no, .no]) rfl ?_
  have h3 := hw.sub (vs := ws.take (fromAt ws)) (fun w h => List.mem_of_mem_take h) (by rw [List.length_take]; omega)
  have h4 := hw.sub (vs := ws.drop (fromAt ws)) (fun w h => List.mem_of_mem_drop h) (by rw [List.length_drop]; omega)
  refine lcL_map (enc := fun w : Str => D.str w) (f := fun w => .int (fig w)) (ws.take (fromAt ws)) head_use (fun w hw P hP => ⟨w, rfl, h3.1 w hw, hP⟩) (Nat.le_trans h3.2 (by decide)) ?_
  rw [figs_map]
  have et : Dk.cutD (ws.map D.str) (some ((fromAt ws : Nat) : Int)) none = (ws.drop (fromAt ws)).map D.str := tail_use
  show (sQ lp_4 (sQ lp_5 (lp_6 L))) (deOf Q E) [.sh (.str x), .sh (.lst (ws.map .str)), .sh (.int (fromAt ws : Nat)), .sh (.lst ((figs (ws.take (fromAt ws))).map .int)), .sh (.lst (Dk.cutD (ws.map D.str) (some ((fromAt ws : Nat) : Int)) none)), .no] μ
  rw [et]
  exact lp_rest (by have := h3.2; unfold figs; rw [List.length_map]; exact this) h4 q
def ct_law_do_ascend (L : Lw) : Ct := fun ds μ Q E => ∃ (ns : List Int) (l h : Int), ds = [.tup (ns.map .int), .int l, .int h] ∧ ns.length ≤ 1000000 ∧ Q (.bl (areNums (.tup (ns.map .int)) l h)) μ
abbrev N_law_do_ascend : List Str := ["_law_values", "_law_low", "_law_high", "_law_fits", "_law_value", "_law_one", "_law_other"]
def wb_law_do_ascend (L : Lw) : Ws :=
    (sQ (sSet 3 (wN fAll (aC (wL (wLc (iL (wV 0)) (gN 4) tY (w3 fLe fLe (wV 1) (wV 4) (wV 2)) [4])) aN)))
    (sRet (wAn (wV 3) (wN fAll (aC (wL (wLc (iZp (aC (wV 0) (aC (wSl (wV 0) (pS (wC (.int 1))) pN) aN))) (gT [5, 6]) tY (w2 fLt (wV 5) (wV 6)) [5, 6])) aN)))))
theorem data_law_do_ascend (L : Lw) {ds : List D} {μ : Mu} {Q : D → Mu → Prop} {E : Ek} (h : ct_law_do_ascend L ds μ Q E) : wb_law_do_ascend L (deOf Q E) (startR N_law_do_ascend ds) μ := by
  obtain ⟨ns, l, h, rfl, hl, q⟩ := h
  have hz : ns.length ≤ sizeLine := Nat.le_trans hl (by decide)
  refine lcL_map (enc := fun n : Int => D.int n) (f := fun n => .bl (decide (l ≤ n) && decide (n ≤ h))) ns rfl (fun n hn P hP => ?_) hz ?_
  · show (match D.bl (decide (l ≤ n)) with | .bl true => _ | .bl false => _ | _ => _)
    cases e : decide (l ≤ n) with
    | false => rw [e] at hP; exact hP
    | true => rw [e] at hP; exact hP
  unfold aN
  dsimp only
  rw [fAll_f]
  have e1 : (ns.all fun n => decide (l ≤ n) && decide (n ≤ h)) = (ns.map D.int).all (fun x => btw x l h) := by rw [List.all_map]; rfl
  have q : Q (.bl ((ns.map D.int).all (fun x => btw x l h) && ascD (ns.map D.int))) μ := q
  rw [e1]
  cases hf : (ns.map D.int).all (fun x => btw x l h) with
  | false => rw [hf] at q; exact q
  | true =>
    rw [hf, Bool.true_and, ← asc_zip] at q
    have e : zpD (ns.map .int) (Dk.cutD (ns.map .int) (some 1) none) = (ns.zip (ns.drop 1)).map fun p => .tup [.int p.1, .int p.2] := by
      rw [show (1 : Int) = ((1 : Nat) : Int) from rfl, cutD_from, ← List.map_drop, zp_map]
    have hl2 : (ns.zip (ns.drop 1)).length ≤ sizeLine := by rw [List.length_zip]; omega
    refine lcL_map (enc := fun p : Int × Int => .tup [.int p.1, .int p.2]) (f := fun p : Int × Int => .bl (decide (p.1 < p.2))) (ns.zip (ns.drop 1)) e (fun p _ P h => ⟨rfl, h⟩) hl2 ?_
    dsimp only
    rw [fAll_f]
    exact q
def ct_law_is_text (L : Lw) : Ct := fun ds μ Q E => (∃ x : Str, ds = [.str x] ∧ Asc 100000 x ∧ Q (.bl (setOf x).isSome) μ) ∨ ∃ d, ds = [d] ∧ Okd L d ∧ isQ (.ty "str") d = false ∧ Q (.bl false) μ
abbrev N_law_is_text : List Str := ["_law_value", "_law_parts_here"]
abbrev it_2 : Ws := (sIf (tOrr (tB0 (w2 fIsN (wV 1) (wC .non))) (tOrr (tNt (tB0 (w3 fLe fLe (wC (.int 1)) (w2 fIx (wV 1) (wC (.int 1))) (wC (.int 9999))))) (tNt (tB0 (w3 fLe fLe (wC (.int 1)) (w2 fIx (wV 1) (wC (.int 2))) (wC (.int 9999))))))) (sRet (wC (.bl false))) sN)
abbrev it_3 (L : Lw) : Ws := (sIf (tOrr (tNt (tB0 (wCall (ct_law_do_ascend L) (aC (w2 fIx (wV 1) (wC (.int 0))) (aC (wC (.int 1)) (aC (w2 fSub (w2 fIx (wV 1) (wC (.int 1))) (wC (.int 1))) aN)))))) (tNt (tB0 (wCall (ct_law_do_ascend L) (aC (w2 fIx (wV 1) (wC (.int 3))) (aC (wC (.int 0)) (aC (w2 fSub (w2 fIx (wV 1) (wC (.int 2))) (wC (.int 1))) aN))))))) (sRet (wC (.bl false))) sN)
abbrev it_4 (L : Lw) : Ws := (sRet (w2 fEq (wCall (ct_law_set_text L) (aC (wCallL (hc_law_least L) 1 (wCall (ct_law_in L) (aC (wV 2) (aC (wV 0) aN))) (aC (w2 fIx (wV 1) (wC (.int 1))) (aC (w2 fIx (wV 1) (wC (.int 2))) aN))) aN)) (wV 0)))
def wb_law_is_text (L : Lw) : Ws :=
    (sQ (sSet 1 (wIf (tB0 (wIsi (ansQ L (.ty "str")) (wV 0))) (wCall (ct_law_parts_of L) (aC (wV 0) aN)) (wC .non)))
    (sQ it_2 (sQ (it_3 L) (it_4 L))))
section
variable {L : Lw} {x : Str} {D0 : De} {μ : Mu} {q : PrI}
theorem fLe_i {i j : Int} {Q : D → Prop} : fLe (.int i) (.int j) Q = Q (.bl (decide (i ≤ j))) := rfl
theorem it2_use (a : (1 ≤ q.f ∧ q.f ≤ 9999) → (1 ≤ q.p ∧ q.p ≤ 9999) → D0.nx [.sh (.str x), .sh q.d] μ) (b : ¬ ((1 ≤ q.f ∧ q.f ≤ 9999) ∧ 1 ≤ q.p ∧ q.p ≤ 9999) → D0.rt (.bl false) μ) : it_2 D0 [.sh (.str x), .sh q.d] μ := by
  obtain ⟨nx, rt, ex, ct, bk⟩ := D0
  have y1 : atI q.ds 1 = some (.int q.f) := rfl
  have y2 : atI q.ds 2 = some (.int q.p) := rfl
  have e0 : (PrI.d q) = .tup q.ds := rfl
  rw [e0]
  simp only [it_2, sIf, tOrr, tNt, tB0, w2, w3, wV, wC, fIsN, D.isNon, fCmp, List.getElem?_cons_zero, List.getElem?_cons_succ]
  rw [fIx_t y1, fIx_t y2]
  simp only [fLe_i]
  by_cases h1 : 1 ≤ q.f
  · rw [decide_eq_true h1]
    by_cases h2 : q.f ≤ 9999
    · rw [decide_eq_true h2]
      by_cases h3 : 1 ≤ q.p
      · rw [decide_eq_true h3]
        by_cases h4 : q.p ≤ 9999
        · rw [decide_eq_true h4]
          exact a ⟨h1, h2⟩ ⟨h3, h4⟩
        · rw [decide_eq_false h4]
          exact b fun z => h4 z.2.2
      · rw [decide_eq_false h3]
        exact b fun z => h3 z.2.1
    · rw [decide_eq_false h2]
      exact b fun z => h2 z.1.2
  · rw [decide_eq_false h1]
    exact b fun z => h1 z.1.1
theorem it3_use (sm : q.Sm) (a : areNums (.tup (q.h.map .int)) 1 (q.f - 1) = true → areNums (.tup (q.r.map .int)) 0 (q.p - 1) = true → D0.nx [.sh (.str x), .sh q.d] μ) (b : ¬ (areNums (.tup (q.h.map .int)) 1 (q.f - 1) = true ∧ areNums (.tup (q.r.map .int)) 0 (q.p - 1) = true) → D0.rt (.bl false) μ) : it_3 L D0 [.sh (.str x), .sh q.d] μ := by
  obtain ⟨nx, rt, ex, ct, bk⟩ := D0
  refine ⟨q.h, 1, q.f - 1, rfl, sm.h, ?_⟩
  cases h1 : areNums (.tup (q.h.map .int)) 1 (q.f - 1) with
  | false => exact b fun z => by rw [h1] at z; cases z.1
  | true =>
    refine ⟨q.r, 0, q.p - 1, rfl, sm.r, ?_⟩
    cases h2 : areNums (.tup (q.r.map .int)) 0 (q.p - 1) with
    | false => exact b fun z => by rw [h2] at z; cases z.2
    | true => exact a h1 h2
end
theorem data_law_is_text (L : Lw) {ds : List D} {μ : Mu} {Q : D → Mu → Prop} {E : Ek} (h : ct_law_is_text L ds μ Q E) : wb_law_is_text L (deOf Q E) (startR N_law_is_text ds) μ := by
  rcases h with ⟨x, rfl, ha, q⟩ | ⟨d, rfl, hd, hn, q⟩
  · refine isi_use (Q := fun b => _) okd_str ?_
    refine ⟨x, rfl, ha, ?_⟩
    show (sQ it_2 (sQ (it_3 L) (it_4 L))) (deOf Q E) [.sh (.str x), .sh (lpD (wds x))] μ
    unfold setOf at q
    have hw := wds_asc ha
    unfold lpD
    generalize wds x = ws at q hw
    cases e : prs ws with
    | none => rw [e] at q; exact q
    | some r =>
      rw [e] at q
      have sm := prs_sm e hw
      have q : Q (.bl (if good r = true ∧ setText (toP r).lst = x then some (toP r).lst else none).isSome) μ := q
      show (sQ it_2 (sQ (it_3 L) (it_4 L))) (deOf Q E) [.sh (.str x), .sh r.d] μ
      have bad : good r = false → Q (.bl false) μ := fun z => by
        rw [if_neg fun w => by rw [z] at w; cases w.1] at q
        exact q
      refine it2_use (fun g1 g2 => ?_) fun z => bad (Bool.eq_false_iff.mpr fun w => z ⟨(good_iff.mp w).f, (good_iff.mp w).p⟩)
      refine it3_use sm (fun g3 g4 => ?_) fun z => bad (Bool.eq_false_iff.mpr fun w => z ⟨(good_iff.mp w).h, (good_iff.mp w).r⟩)
      have hg : good r = true := good_iff.mpr ⟨g1, g2, g3, g4⟩
      obtain ⟨ok, eds⟩ := good_ok hg
      have ed : r.d = (toP r).d := congrArg D.tup eds
      rw [ed]
      have f1 := ok.f1; have f2 := ok.f2; have p1 := ok.p1; have p2 := ok.p2
      refine fun t => ⟨(toP r).inB, (toP r).f, (toP r).p, rfl, f1, by omega, p1, by omega, fun n _ Q' E' hq => ⟨rfl, toP r, n, rfl, p1, hq⟩, (toP r).per, fun z hz _ _ => ?_⟩
      rw [hz.uniq (canon_lst ok).1]
      refine ⟨(toP r).lst, rfl, lst_ok ok, ?_⟩
      simp only [wV, List.getElem?_cons_zero]
      rw [fEq_of (eqD_str (text_sok _) ha.sok)]
      by_cases ht : setText (toP r).lst = x
      · rw [decide_eq_true ht]
        rw [if_pos ⟨hg, ht⟩] at q
        exact q
      · rw [decide_eq_false ht]
        rw [if_neg fun z => ht z.2] at q
        exact q
  · refine isi_use (Q := fun b => _) hd ?_
    rw [hn]
    exact q
end Sk
namespace Sk
open PySem PySem.Spec PyProof.Rows L2 Dk He
/-! ### k03: texts otherwise -/
theorem Wds.sub {n m : Nat} {ws vs : List Str} (h : Wds n m ws) (s : vs.Sublist ws) : Wds n m vs := by
  refine ⟨fun w hw => h.a w (s.subset hw), ?_, Nat.le_trans s.length_le h.l⟩
  have : ∀ {vs ws : List Str}, vs.Sublist ws → (vs.map (·.length)).sum ≤ (ws.map (·.length)).sum := fun {vs ws} s => by
    induction s with
    | slnil => exact Nat.le_refl _
    | cons a _ ih => rw [List.map_cons, List.sum_cons]; omega
    | cons_cons a _ ih => rw [List.map_cons, List.sum_cons, List.map_cons, List.sum_cons]; omega
  exact Nat.le_trans (this s) h.s
theorem Wds.app {n m n' m' : Nat} {ws vs : List Str} (h : Wds n m ws) (g : Wds n' m' vs) : Wds (n + n') (m + m') (ws ++ vs) := by
  refine ⟨fun w hw => ?_, ?_, ?_⟩
  · rcases List.mem_append.mp hw with z | z
    · exact h.a w z
    · exact g.a w z
  · rw [List.map_append, List.sum_append]; exact Nat.add_le_add h.s g.s
  · rw [List.length_append]; exact Nat.add_le_add h.l g.l
theorem Wds.rev {n m : Nat} {ws : List Str} (h : Wds n m ws) : Wds n m ws.reverse := by
  refine ⟨fun w hw => h.a w (List.mem_reverse.mp hw), ?_, by rw [List.length_reverse]; exact h.l⟩
  rw [List.map_reverse, List.sum_reverse]
  exact h.s
theorem Wds.one {n : Nat} {x : Str} (h : Asc n x) : Wds n 1 [x] := by
  refine ⟨fun w hw => by rw [List.mem_singleton.mp hw]; exact h.a, ?_, Nat.le_refl _⟩
  rw [List.map_singleton, List.sum_singleton]
  exact h.l
theorem Wds.mono {n m n' m' : Nat} {ws : List Str} (h : Wds n m ws) (a : n ≤ n') (b : m ≤ m') : Wds n' m' ws := ⟨h.a, Nat.le_trans h.s a, Nat.le_trans h.l b⟩
theorem cutD_sub {α : Type} (xs : List α) (lo hi : Option Int) : (Dk.cutD xs lo hi).Sublist xs := by
  unfold Dk.cutD
  exact (List.take_sublist _ _).trans (List.drop_sublist _ _)
theorem cutD_map {α β : Type} (f : α → β) (xs : List α) (lo hi : Option Int) : Dk.cutD (xs.map f) lo hi = (Dk.cutD xs lo hi).map f := by
  unfold Dk.cutD
  rw [List.length_map, List.map_take, List.map_drop]
theorem join_asc {n m : Nat} {ws : List Str} (h : Wds n m ws) : Asc (n + m) (Txt.join " " ws) := by
  rw [txt_join]
  refine ⟨fun c hc => ?_, ?_⟩
  · rcases (mem_join " " c ws).mp hc with ⟨t, ht, z⟩ | ⟨_, z⟩
    · exact h.a t ht c z
    · have : c = 32 := by
        have e : (" " : Str).cps.toList = [32] := blank_tl
        rw [e] at z
        exact List.mem_singleton.mp z
      omega
  · have := StrLaws.join_length_le " " ws
    have e : (" " : Str).length = 1 := rfl
    rw [e] at this
    have := h.s; have := h.l
    omega
theorem Asc.app {n m : Nat} {x y : Str} (h : Asc n x) (g : Asc m y) : Asc (n + m) (x ++ y) := by
  refine ⟨fun c hc => ?_, ?_⟩
  · have hc : c ∈ TL.tl (x ++ y) := hc
    rw [TL.tl_append] at hc
    rcases List.mem_append.mp hc with z | z
    · exact h.a c z
    · exact g.a c z
  · rw [TL.len_tl, TL.tl_append, List.length_append, ← TL.len_tl, ← TL.len_tl]
    exact Nat.add_le_add h.l g.l
def ascB (n : Nat) (x : Str) : Bool := x.cps.toList.all (fun c => decide (c < 128)) && decide (x.length ≤ n)
theorem asc_of {n : Nat} {x : Str} (h : ascB n x = true) : Asc n x := by
  unfold ascB at h
  rw [Bool.and_eq_true, decide_eq_true_eq] at h
  exact ⟨fun c hc => of_decide_eq_true (List.all_eq_true.mp h.1 c hc), h.2⟩
theorem repl_mem {z : List Nat} : ∀ (l : List Nat), ∀ c ∈ StrLaws.replL [32] z l, c ∈ z ∨ c ∈ l
  | [], c, hc => by rw [StrLaws.replL_nil] at hc; cases hc
  | d :: r, c, hc => by
    by_cases h : (d :: r).take ([32] : List Nat).length = [32]
    · rw [StrLaws.replL_hit (by simp) h] at hc
      rcases List.mem_append.mp hc with q | q
      · exact .inl q
      · have e : (d :: r).drop ([32] : List Nat).length = r := rfl
        rw [e] at q
        exact (repl_mem r c q).imp id fun w => List.mem_cons_of_mem _ w
    · rw [StrLaws.replL_miss h] at hc
      rcases List.mem_cons.mp hc with q | q
      · exact .inr (by rw [q]; exact List.mem_cons_self ..)
      · exact (repl_mem r c q).imp id fun w => List.mem_cons_of_mem _ w
theorem repl_asc {n : Nat} {x : Str} (h : Asc n x) : Asc (3 * n + 2) (Txt.replace x " " "  ") := by
  refine ⟨fun c hc => ?_, ?_⟩
  · rw [StrLaws.replace_list (by decide +kernel)] at hc
    have e : (" " : Str).cps.toList = [32] := blank_tl
    rw [e] at hc
    rcases repl_mem _ c hc with z | z
    · have e2 : ("  " : Str).cps.toList = [32, 32] := by decide +kernel
      rw [e2] at z
      simp only [List.mem_cons, List.not_mem_nil, or_false] at z
      omega
    · exact h.a c z
  · have := TK.replace_len x " " "  "
    have e : ("  " : Str).length = 2 := by decide +kernel
    rw [e] at this
    have := h.l
    omega
theorem upper_one : ∀ c : Fin 128, (Unicode.upperOf c.val).length = 1 ∧ (Unicode.upperOf c.val).all (fun d => decide (d < 128)) = true := by decide +kernel
theorem upper_tl (x : Str) : (Txt.upper x).cps.toList = x.cps.toList.flatMap Unicode.upperOf := by
  obtain ⟨⟨l⟩⟩ := x
  show ((Array.mapIdx (fun i c => (Unicode.upperOf c).toArray) ⟨l⟩).flatten).toList = l.flatMap Unicode.upperOf
  rw [Array.toList_flatten, List.flatMap]
  congr 1
  simp only [Array.toList_mapIdx, Array.toList_map, List.map_map]
  apply List.ext_getElem?
  intro i
  simp only [List.getElem?_map, List.getElem?_mapIdx, Option.map_map, Array.toList_map]
  cases l[i]? <;> rfl
theorem upper_asc {n : Nat} {x : Str} (h : Asc n x) : Asc n (Txt.upper x) := by
  have key : ∀ l : List Nat, (∀ c ∈ l, c < 128) → (∀ c ∈ l.flatMap Unicode.upperOf, c < 128) ∧ (l.flatMap Unicode.upperOf).length = l.length := fun l => by
    induction l with
    | nil => intro _; exact ⟨fun c hc => (by cases hc), rfl⟩
    | cons a l ih =>
      intro hl
      obtain ⟨h1, h2⟩ := upper_one ⟨a, hl a (List.mem_cons_self ..)⟩
      obtain ⟨h3, h4⟩ := ih fun c hc => hl c (List.mem_cons_of_mem _ hc)
      rw [List.flatMap_cons]
      refine ⟨fun c hc => ?_, ?_⟩
      · rcases List.mem_append.mp hc with z | z
        · exact of_decide_eq_true (List.all_eq_true.mp h2 c z)
        · exact h3 c z
      · rw [List.length_append, List.length_cons, h4]
        have h1 : (Unicode.upperOf a).length = 1 := h1
        omega
  obtain ⟨h1, h2⟩ := key _ h.a
  rw [← upper_tl] at h1 h2
  refine ⟨h1, ?_⟩
  have e1 : (Txt.upper x).length = ((Txt.upper x).cps.toList).length := TL.len_tl _
  have e2 : x.length = x.cps.toList.length := TL.len_tl _
  have := h.l
  omega
end Sk
namespace Sk
open PySem PySem.Spec PyProof.Rows L2 Dk He
/-! ### k03: judged -/
def ct_law_is_judged (L : Lw) : Ct := fun ds μ Q E => ∃ d, ds = [d] ∧ L.es.contains 2 = true ∧ ((∃ x : Str, d = .str x ∧ Asc 100000 x) ∨ (Okd L d ∧ isQ (.ty "str") d = false ∧ d.okR)) ∧ Q (.bl true) μ
abbrev N_law_is_judged : List Str := ["_law_value", "_law_caught", "_law_numbers"]
abbrev ij_2 (L : Lw) : Ws := (sIf (tB0 (wCall (ct_law_is_text L) (aC (wV 0) aN))) (sRet (wAn (w2 fIsN (wV 1) (wC .non)) (w2 fEq (wProp [(41, ct_Numbers_text L)] (wV 2)) (wV 0)))) sN)
abbrev ij_3 (L : Lw) : Ws := (sRet (wAn (wIsi (ansQ L (.cl 2)) (wV 1)) (w2 fEq (wN fRepr (aC (wXv L.es (wV 1)) aN)) (wN fRepr (aC (wV 0) aN)))))
def wb_law_is_judged (L : Lw) : Ws :=
    (sQ (sUnp (gT [1, 2]) (wCallL (hc_law_told L) 0 (wCall (ct_Numbers_of L) (aC (wV 0) aN)) aN))
    (sQ (ij_2 L) (ij_3 L)))
theorem ij3_use {L : Lw} {v : D} {μ : Mu} {Q : D → Mu → Prop} {E : Ek} {a : Sl} (he : L.es.contains 2 = true) (hr : v.okR) (q : Q (.bl true) μ) : ij_3 L (deOf Q E) [.sh v, .sh (.exc 2 v), a] μ := by
  refine isi_use (Q := fun b => _) (okd_exc he) ?_
  refine ⟨List.contains_iff_mem.mp he, ?_⟩
  dsimp only [aN]
  refine fRepr_of hr ?_
  simp only [wN, aC, aN, wV, List.getElem?_cons_zero]
  refine fRepr_of hr ?_
  exact fEq_shw hr q
theorem data_law_is_judged (L : Lw) {ds : List D} {μ : Mu} {Q : D → Mu → Prop} {E : Ek} (h : ct_law_is_judged L ds μ Q E) : wb_law_is_judged L (deOf Q E) (startR N_law_is_judged ds) μ := by
  obtain ⟨d, rfl, he, h, q⟩ := h
  rcases h with ⟨x, rfl, ha⟩ | ⟨hd, hn, hr⟩
  · refine fun t => ⟨rfl, (fun d μ' => (∃ z, setOf x = some z ∧ d = setD z) ∧ μ' = μ), (fun c d μ' => c = 2 ∧ d = .str x ∧ setOf x = none ∧ μ' = μ), ⟨rfl, .inl ⟨x, rfl, ha, fun z hz => ⟨⟨z, hz, rfl⟩, rfl⟩, fun hz => ⟨rfl, rfl, hz, rfl⟩⟩⟩, ?_, ?_⟩
    · rintro d μ' ⟨⟨z, hz, rfl⟩, rfl⟩
      obtain ⟨z1, z2, z3⟩ := setOf_some hz
      refine ⟨rfl, ?_⟩
      show (sQ (ij_2 L) (ij_3 L)) (deOf Q E) [.sh (.str x), .sh .non, .sh (setD z)] μ'
      refine .inl ⟨x, rfl, ha, ?_⟩
      rw [hz]
      refine ⟨z, rfl, z1, ?_⟩
      simp only [wV, List.getElem?_cons_zero]
      rw [z2, fEq_of (eqStr ha.sok)]
      exact q
    · rintro c d μ' ⟨rfl, rfl, hz, rfl⟩
      refine ⟨he, rfl, .inl ⟨x, rfl, ha, ?_⟩⟩
      rw [hz]
      exact ij3_use he (str_okR ha) q
  · refine fun t => ⟨rfl, (fun d μ' => False), (fun c d' μ' => c = 2 ∧ d' = d ∧ μ' = μ), ⟨rfl, .inr ⟨d, rfl, hd, hn, hr, rfl, rfl, rfl⟩⟩, fun _ _ z => z.elim, ?_⟩
    rintro c d' μ' ⟨rfl, rfl, rfl⟩
    refine ⟨he, rfl, .inr ⟨d', rfl, hd, hn, ?_⟩⟩
    exact ij3_use he hr q
/-! ### a word otherwise -/
def GW (s m : Nat) (w : We) (ρ : List Sl) (μ μ' : Mu) : Prop := ∀ (Q : D → Mu → Prop) (E : Ek), (∀ vs : List Str, Wds s m vs → Q (.lst (vs.map .str)) μ') → w ρ μ Q E
theorem gw_sl {s m i : Nat} {ws : List Str} {l h : Wo} {ρ : List Sl} {μ : Mu} (hi : ρ[i]? = some (.sh (.lst (ws.map .str)))) (hw : Wds s m ws) (hl : ∀ Q E, (∀ lo, Q lo μ) → l ρ μ Q E) (hh : ∀ Q E, (∀ lo, Q lo μ) → h ρ μ Q E) : GW s m (wSl (wV i) l h) ρ μ μ := fun Q E k => by
  unfold wSl
  simp only [wV, hi]
  refine hl _ _ fun lo => hh _ _ fun up => ?_
  show Q (.lst (Dk.cutD (ws.map D.str) lo up)) μ
  rw [cutD_map]
  exact k _ (hw.sub (cutD_sub _ _ _))
theorem gw_add {s m s' m' : Nat} {a b : We} {ρ : List Sl} {μ μ1 μ2 : Mu} (ha : GW s m a ρ μ μ1) (hb : GW s' m' b ρ μ1 μ2) (hm : m + m' ≤ 1000000) : GW (s + s') (m + m') (w2 fAdd a b) ρ μ μ2 := fun Q E k => by
  refine ha _ _ fun vs h1 => hb _ _ fun us h2 => ⟨?_, ?_⟩
  · rw [List.length_map, List.length_map]
    have := h1.l; have := h2.l
    exact Nat.le_trans (by omega : _ ≤ 1000000) (by decide)
  · rw [← List.map_append]
    exact k _ (h1.app h2)
theorem gw_rev {s m : Nat} {a : We} {ρ : List Sl} {μ μ1 : Mu} (ha : GW s m a ρ μ μ1) : GW s m (wRev a (w1 fNeg (wC (.int 1)))) ρ μ μ1 := fun Q E k => by
  refine ha _ _ fun vs h1 => ⟨rfl, ?_⟩
  show Q (.lst (vs.map D.str).reverse) μ1
  rw [← List.map_reverse]
  exact k _ h1.rev
theorem gw_join {s m : Nat} {a : We} {ρ : List Sl} {μ μ1 : Mu} {Q : D → Mu → Prop} {E : Ek} (ha : GW s m a ρ μ μ1) (hm : s + m ≤ 1000000) (k : ∀ y, Asc (s + m) y → Q (.str y) μ1) : wS1 fJoin (wC (.str " ")) a ρ μ Q E := by
  refine ha _ _ fun vs h1 => ⟨vs, .inl rfl, ?_, k _ (join_asc h1)⟩
  have e : (" " : Str).length = 1 := rfl
  rw [e]
  have := h1.s; have := h1.l
  omega
theorem pn_any {ρ : List Sl} {μ : Mu} : ∀ Q E, (∀ lo, Q lo μ) → pN ρ μ Q E := fun Q E k => k none
theorem ps_any {w : We} {ρ : List Sl} {μ : Mu} {i : Int} (h : ∀ (Q : D → Mu → Prop) (E : Ek), Q (.int i) μ → w ρ μ Q E) : ∀ Q E, (∀ lo, Q lo μ) → pS w ρ μ Q E := fun Q E k => h _ _ (k (some i))
theorem if_int {i : Nat} {c v : Int} {s : Ws} {D0 : De} {ρ : List Sl} {μ : Mu} (hi : ρ[i]? = some (.sh (.int v))) (a : v = c → s D0 ρ μ) (b : v ≠ c → D0.nx ρ μ) : sIf (tB0 (w2 fEq (wV i) (wC (.int c)))) s sN D0 ρ μ := by
  obtain ⟨nx, rt, ex, ct, bk⟩ := D0
  simp only [sIf, tB0, w2, wV, wC, hi]
  rw [fEq_of (eqD_int _ _)]
  by_cases h : v = c
  · rw [decide_eq_true h]; exact a h
  · rw [decide_eq_false h]; exact b h
def ct_law_word_step (L : Lw) : Ct := fun ds μ Q E => ∃ (n k B : Nat) (x : Str), ds = [.cel n, .str x] ∧ μ[n]? = some (.pt k) ∧ k < 2 ^ 59 ∧ Asc B x ∧ B ≤ 10000 ∧ ∀ (y : Str) (k' : Nat), Asc (6 * B + 30) y → k ≤ k' → k' ≤ k + 10 → Q (.str y) (μ.set n (.pt k'))
abbrev N_law_word_step : List Str := ["_law_pot_here", "_law_text", "_law_words", "_law_way", "_law_at", "_law_some"]
abbrev ws_1 (L : Lw) : Ws := (sPar 2 3 (aC (wS1 fSplit (wV 1) (wC (.str " "))) (aC (wCall (ct_law_take L) (aC (wV 0) (aC (wC (.int 6)) aN))) aN)))
abbrev ws_2 (L : Lw) : Ws := (sSet 4 (wCall (ct_law_take L) (aC (wV 0) (aC (wN fLen (aC (wV 2) aN)) aN))))
abbrev ws_3 : Ws := (sIf (tB0 (w2 fEq (wV 3) (wC (.int 0)))) (sRet (wS1 fJoin (wC (.str " ")) (w2 fAdd (wSl (wV 2) pN (pS (wV 4))) (wSl (wV 2) (pS (w2 fAdd (wV 4) (wC (.int 1)))) pN)))) sN)
abbrev ws_4 : Ws := (sIf (tB0 (w2 fEq (wV 3) (wC (.int 1)))) (sRet (wS1 fJoin (wC (.str " ")) (w2 fAdd (w2 fAdd (wSl (wV 2) pN (pS (wV 4))) (wSl (wV 2) (pS (wV 4)) (pS (w2 fAdd (wV 4) (wC (.int 1)))))) (wSl (wV 2) (pS (wV 4)) pN)))) sN)
abbrev ws_5 : Ws := (sIf (tB0 (w2 fEq (wV 3) (wC (.int 2)))) (sRet (wS1 fJoin (wC (.str " ")) (w2 fAdd (w2 fAdd (wSl (wV 2) pN (pS (wV 4))) (wRev (wSl (wV 2) (pS (wV 4)) (pS (w2 fAdd (wV 4) (wC (.int 2))))) (w1 fNeg (wC (.int 1))))) (wSl (wV 2) (pS (w2 fAdd (wV 4) (wC (.int 2)))) pN)))) sN)
abbrev ws_6 (L : Lw) : Ws := (sIf (tB0 (w2 fEq (wV 3) (wC (.int 3)))) (sQ (sSet 5 (wN fLst (aC (w2 fAdd (wV 1) (wC (.str " "))) (aC (w2 fAdd (wC (.str " ")) (wV 1)) (aC (wRepl " " "  " (wV 1)) (aC (wS0 fUpper (wV 1)) (aC (w2 fAdd (wV 1) (wC (.str " 1"))) (aC (w2 fAdd (wC (.str "none ")) (wV 1)) aN))))))))
    (sRet (wCall (ct_law_of L) (aC (wV 0) (aC (wV 5) aN))))) sN)
abbrev ws_7 : Ws := (sSet 5 (wN fLst (aC (wC (.str "0")) (aC (wC (.str "1")) (aC (wC (.str "2")) (aC (wC (.str "3")) (aC (wC (.str "5")) (aC (wC (.str "12")) (aC (wC (.str "01")) (aC (wC (.str "-1")) (aC (wC (.str "x")) (aC (wC (.str "from")) (aC (wC (.str "by")) (aC (wC (.str "rest")) (aC (wC (.str "none")) (aC (wC (.str "")) aN))))))))))))))))
abbrev ws_8 (L : Lw) : Ws := (sRet (wS1 fJoin (wC (.str " ")) (w2 fAdd (w2 fAdd (wSl (wV 2) pN (pS (wV 4))) (wN fLst (aC (wCall (ct_law_of L) (aC (wV 0) (aC (wV 5) aN))) aN))) (wSl (wV 2) (pS (w2 fAdd (wV 4) (wC (.int 1)))) pN))))
def wb_law_word_step (L : Lw) : Ws := (sQ (ws_1 L) (sQ (ws_2 L) (sQ ws_3 (sQ ws_4 (sQ ws_5 (sQ (ws_6 L) (sQ ws_7 (ws_8 L))))))))
abbrev cw03 : List Str := ["0", "1", "2", "3", "5", "12", "01", "-1", "x", "from", "by", "rest", "none", ""]
theorem cw_asc : ∀ w ∈ cw03, ascB 4 w = true := by decide +kernel
theorem data_law_word_step (L : Lw) {ds : List D} {μ : Mu} {Q : D → Mu → Prop} {E : Ek} (h : ct_law_word_step L ds μ Q E) : wb_law_word_step L (deOf Q E) (startR N_law_word_step ds) μ := by
  obtain ⟨n, k, B, x, rfl, hn, hk, ha, hB, q⟩ := h
  obtain ⟨wd, ne⟩ := blk_facts ha
  have hl := ha.l
  refine ⟨by decide +kernel, Nat.le_trans (by omega : x.length + 2 ≤ 100002) (by decide), n, k, 6, rfl, hn, by omega, by decide, by decide, fun w w0 w1 => ?_⟩
  have lp : 0 < (blk x).length := List.length_pos_iff.mpr ne
  have lm := wd.l
  unfold blk at wd lp lm
  generalize Txt.split x (Str.ofString " ") = ws at wd lp lm ⊢
  refine .inr (.inl ⟨_, rfl, n, k + 1, ((ws.map D.str).length : Nat), rfl, set_at hn, by omega, by rw [List.length_map]; omega, ?_, fun r r0 r1 => ?_⟩)
  · rw [List.length_map]
    have := lg_le (x := (ws.length : Int)) (m := 60) (by omega)
    omega
  rw [List.set_set]
  have fin : ∀ y, Asc (6 * B + 30) y → Q (.str y) (μ.set n (.pt (k + 1 + 1))) := fun y hy => q y _ hy (by omega) (by omega)
  have fin3 : ∀ y, Asc (6 * B + 30) y → Q (.str y) ((μ.set n (.pt (k + 1 + 1))).set n (.pt (k + 1 + 1 + 1))) := fun y hy => by rw [List.set_set]; exact q y _ hy (by omega) (by omega)
  have hn1 : (μ.set n (.pt (k + 1 + 1)))[n]? = some (.pt (k + 1 + 1)) := set_at hn
  generalize μ.set n (.pt (k + 1 + 1)) = μ1 at fin fin3 hn1
  clear q hn
  show (sQ ws_3 (sQ ws_4 (sQ ws_5 (sQ (ws_6 L) (sQ ws_7 (ws_8 L)))))) (deOf Q E) [.sh (.cel n), .sh (.str x), .sh (.lst (ws.map .str)), .sh (.int w), .sh (.int r), .no] μ1
  refine if_int (i := 3) rfl (fun _ => gw_join (gw_add (gw_sl (i := 2) rfl wd pn_any (ps_any (i := r) fun Q E k => k)) (gw_sl (i := 2) rfl wd (ps_any (i := r + 1) fun Q E k => k) pn_any) (by omega)) (by omega) fun y hy => fin y (hy.mono (by omega))) fun e0 => ?_
  show (sQ ws_4 (sQ ws_5 (sQ (ws_6 L) (sQ ws_7 (ws_8 L))))) (deOf Q E) [.sh (.cel n), .sh (.str x), .sh (.lst (ws.map .str)), .sh (.int w), .sh (.int r), .no] μ1
  refine if_int (i := 3) rfl (fun _ => gw_join (gw_add (gw_add (gw_sl (i := 2) rfl wd pn_any (ps_any (i := r) fun Q E k => k)) (gw_sl (i := 2) rfl wd (ps_any (i := r) fun Q E k => k) (ps_any (i := r + 1) fun Q E k => k)) (by omega)) (gw_sl (i := 2) rfl wd (ps_any (i := r) fun Q E k => k) pn_any) (by omega)) (by omega) fun y hy => fin y (hy.mono (by omega))) fun e1 => ?_
  show (sQ ws_5 (sQ (ws_6 L) (sQ ws_7 (ws_8 L)))) (deOf Q E) [.sh (.cel n), .sh (.str x), .sh (.lst (ws.map .str)), .sh (.int w), .sh (.int r), .no] μ1
  refine if_int (i := 3) rfl (fun _ => gw_join (gw_add (gw_add (gw_sl (i := 2) rfl wd pn_any (ps_any (i := r) fun Q E k => k)) (gw_rev (gw_sl (i := 2) rfl wd (ps_any (i := r) fun Q E k => k) (ps_any (i := r + 2) fun Q E k => k))) (by omega)) (gw_sl (i := 2) rfl wd (ps_any (i := r + 2) fun Q E k => k) pn_any) (by omega)) (by omega) fun y hy => fin y (hy.mono (by omega))) fun e2 => ?_
  show (sQ (ws_6 L) (sQ ws_7 (ws_8 L))) (deOf Q E) [.sh (.cel n), .sh (.str x), .sh (.lst (ws.map .str)), .sh (.int w), .sh (.int r), .no] μ1
  have b1 : Asc 1 (" " : Str) := asc_of (by decide +kernel)
  have b2 : Asc 2 (" 1" : Str) := asc_of (by decide +kernel)
  have b5 : Asc 5 ("none " : Str) := asc_of (by decide +kernel)
  refine if_int (i := 3) rfl (fun e3 => ?_) fun e3 => ?_
  · have k1 : (" " : Str).length = 1 := rfl
    have k2 : (" 1" : Str).length = 2 := rfl
    have k5 : ("none " : Str).length = 5 := rfl
    have k6 : ("  " : Str).length = 2 := rfl
    have big : ∀ {j : Nat}, j ≤ 100000 → j ≤ sizeLine := fun {j} h => Nat.le_trans h (by decide)
    refine ⟨big (by rw [k1]; omega), big (by rw [k1]; omega), by rw [k6]; omega, by omega, big (by rw [k2]; omega), big (by rw [k5]; omega), (by decide : 6 ≤ sizeLine), ?_⟩
    refine ⟨n, k + 1 + 1, _, rfl, hn1, by omega, (by decide : 0 < 6), (by decide : 6 < 2 ^ 60), fun d hd => ?_⟩
    simp only [List.mem_cons, List.not_mem_nil, or_false] at hd
    rcases hd with rfl | rfl | rfl | rfl | rfl | rfl
    · exact fin3 _ ((ha.app b1).mono (by omega))
    · exact fin3 _ ((b1.app ha).mono (by omega))
    · exact fin3 _ ((repl_asc ha).mono (by omega))
    · exact fin3 _ ((upper_asc ha).mono (by omega))
    · exact fin3 _ ((ha.app b2).mono (by omega))
    · exact fin3 _ ((b5.app ha).mono (by omega))
  show (sQ ws_7 (ws_8 L)) (deOf Q E) [.sh (.cel n), .sh (.str x), .sh (.lst (ws.map .str)), .sh (.int w), .sh (.int r), .no] μ1
  refine ⟨(by decide : 14 ≤ sizeLine), ?_⟩
  show ws_8 L (deOf Q E) [.sh (.cel n), .sh (.str x), .sh (.lst (ws.map .str)), .sh (.int w), .sh (.int r), .sh (.lst (cw03.map .str))] μ1
  refine gw_join (μ1 := μ1.set n (.pt (k + 1 + 1 + 1))) (gw_add (gw_add (gw_sl (i := 2) rfl wd pn_any (ps_any (i := r) fun Q E k => k)) (s' := 4) (m' := 1) (μ2 := μ1.set n (.pt (k + 1 + 1 + 1))) ?_ (by omega)) (gw_sl (i := 2) rfl wd (ps_any (i := r + 1) fun Q E k => k) pn_any) (by omega)) (by omega) fun y hy => fin3 y (hy.mono (by omega))
  intro Q' E' k'
  refine ⟨n, k + 1 + 1, _, rfl, hn1, by omega, (by decide : 0 < 14), (by decide : 14 < 2 ^ 60), fun d hd => ?_⟩
  obtain ⟨v, hv, rfl⟩ := List.mem_map.mp hd
  exact ⟨(by decide : 1 ≤ sizeLine), k' [v] (Wds.one (asc_of (cw_asc v hv)))⟩
end Sk
namespace Sk
open PySem PySem.Spec PyProof.Rows L2 Dk He
/-! ### k03: a right text is read back -/
theorem natS_tl (n : Nat) : (natS n).cps.toList = TL.numL n := TL.tl_num n
theorem numL_head : ∀ n : Nat, 0 < n → (TL.numL n).head? ≠ some 48 := fun n => by
  induction n using Nat.strongRecOn with
  | _ n ih =>
    intro h0
    by_cases h : n < 10
    · rw [TL.numL_lt h]
      intro z
      have := Option.some.inj z
      omega
    · rw [TL.numL_step (by omega)]
      have h1 : 0 < n / 10 := by omega
      have := ih (n / 10) (by omega) h1
      cases e : TL.numL (n / 10) with
      | nil => exact absurd e (TL.numL_ne _)
      | cons c r => rw [e] at this; exact this
theorem fig_nat {n : Nat} (h : n ≤ 10000) : fig (natS n) = (n : Int) := by
  have hl := TL.numL_len (n := n) (k := 5) (by decide) (by omega)
  have el : (natS n).length = (TL.numL n).length := by rw [← natS_tl]; exact TL.len_tl _
  have h1 : 1 ≤ (TL.numL n).length := List.length_pos_iff.mpr (TL.numL_ne n)
  unfold fig
  rw [if_pos, natS_tl, TL.numL_val]
  refine ⟨⟨by omega, by omega⟩, ?_, ?_⟩
  · unfold isFig
    rw [natS_tl, List.all_eq_true]
    intro c hc
    have := TL.numL_digits n c hc
    rw [Bool.and_eq_true, decide_eq_true_eq, decide_eq_true_eq]
    exact this
  · rw [natS_tl]
    by_cases h0 : n = 0
    · subst h0
      left
      refine TL.ext_tl ?_
      show (natS 0).cps.toList = _
      rw [natS_tl]
      decide +kernel
    · exact .inr (numL_head n (by omega))
theorem natS_asc {n : Nat} (h : n ≤ 10000) : Asc 13 (natS n) := by
  refine ⟨fun c hc => ?_, natS_len h⟩
  rw [natS_tl] at hc
  have := TL.numL_digits n c hc
  omega
theorem natS_no {n c : Nat} (h : c < 48 ∨ 57 < c) : c ∉ TL.tl (natS n) := by
  show c ∉ (natS n).cps.toList
  rw [natS_tl]
  exact TL.numL_free h
theorem natS_ne {n : Nat} {w : Str} {c : Nat} (hc : c ∈ TL.tl w) (h : c < 48 ∨ 57 < c) : natS n ≠ w := fun z => by
  rw [← z] at hc
  exact natS_no h hc
theorem from_ne (n : Nat) : natS n ≠ "from" := natS_ne (c := 102) (by decide +kernel) (by decide)
theorem none_ne (n : Nat) : natS n ≠ "none" := natS_ne (c := 110) (by decide +kernel) (by decide)
theorem wds_nat {ns : List Nat} (h : ∀ n ∈ ns, n ≤ 10000) : Wds (13 * ns.length) ns.length (ns.map natS) :=
  ⟨fun w hw => by obtain ⟨n, hn, rfl⟩ := List.mem_map.mp hw; exact (natS_asc (h n hn)).a, sum_len ns h, by rw [List.length_map]; exact Nat.le_refl _⟩
theorem words_wds {x : Pts} (ok : x.Ok) : Wds (13 * x.hd.length + 36 + 13 * x.rs.length) (x.hd.length + 5 + x.rs.length) (wordsOf x) := by
  have hhd : ∀ n ∈ x.hd, n ≤ 10000 := fun n hn => by have := ok.hb n hn; have := ok.f2; omega
  have hrs : ∀ n ∈ x.rs, n ≤ 10000 := fun n hn => by have := ok.rb n hn; have := ok.p2; omega
  have hf : x.f ≤ 10000 := by have := ok.f2; omega
  have hp : x.p ≤ 10000 := by have := ok.p2; omega
  unfold wordsOf
  have h1 := wds_nat hhd
  have h2 := wds_nat hrs
  split
  · rw [List.append_nil]; exact h1.mono (by omega) (by omega)
  · have a1 : Wds 4 1 [("from" : Str)] := Wds.one (asc_of (by decide +kernel))
    have a2 : Wds 13 1 [natS x.f] := Wds.one (natS_asc hf)
    have a3 : Wds 2 1 [("by" : Str)] := Wds.one (asc_of (by decide +kernel))
    have a4 : Wds 13 1 [natS x.p] := Wds.one (natS_asc hp)
    have a5 : Wds 4 1 [("rest" : Str)] := Wds.one (asc_of (by decide +kernel))
    exact (h1.app ((a1.app (a2.app (a3.app (a4.app a5)))).app h2)).mono (by omega) (by omega)
theorem text_asc {x : Pts} (ok : x.Ok) (hf : x.f ≤ 12) (hp : x.p ≤ 12) : Asc 400 (setText x) := by
  have hl := len_asc ok.ha ok.hb
  have rl := len_asc (a := 0) ok.ra fun n hn => ⟨Nat.zero_le _, ok.rb n hn⟩
  unfold setText
  split
  · exact asc_of (by decide +kernel)
  · exact (join_asc (words_wds ok)).mono (by omega)
theorem no_blank (x : Pts) : ∀ w ∈ wordsOf x, 32 ∉ TL.tl w := fun w hw => by
  unfold wordsOf at hw
  rcases List.mem_append.mp hw with h | h
  · obtain ⟨n, _, rfl⟩ := List.mem_map.mp h
    exact natS_no (by decide)
  · split at h
    · cases h
    · rcases List.mem_append.mp h with h | h
      · simp only [List.mem_cons, List.not_mem_nil, or_false] at h
        rcases h with rfl | rfl | rfl | rfl | rfl
        · decide +kernel
        · exact natS_no (by decide)
        · decide +kernel
        · exact natS_no (by decide)
        · decide +kernel
      · obtain ⟨n, _, rfl⟩ := List.mem_map.mp h
        exact natS_no (by decide)
theorem blk_join {ws : List Str} (hne : ws ≠ []) (hp : ∀ w ∈ ws, 32 ∉ TL.tl w) : blk (Txt.join " " ws) = ws := TL.split_join blank_tl blank_k hne hp
theorem wds_text (x : Pts) : wds (setText x) = wordsOf x := by
  unfold setText
  by_cases h : wordsOf x = []
  · rw [if_pos h, h]
    exact if_pos rfl
  · rw [if_neg h]
    have hb := blk_join h (no_blank x)
    unfold wds
    rw [if_neg, hb]
    intro z
    rw [z] at hb
    have e : blk "none" = [("none" : Str)] := by
      have := blk_join (ws := [("none" : Str)]) (by simp) (fun w hw => by rw [List.mem_singleton.mp hw]; decide +kernel)
      rw [txt_join] at this
      exact this
    rw [e] at hb
    unfold wordsOf at hb
    cases hh : x.hd with
    | nil =>
      rw [hh] at hb
      split at hb
      · cases hb
      · have := congrArg List.length hb
        simp at this
    | cons n r =>
      rw [hh] at hb
      have hb : ("none" : Str) :: [] = natS n :: _ := hb
      injection hb with h1 h2
      exact none_ne n h1.symm
theorem figs_nat {ns : List Nat} (h : ∀ n ∈ ns, n ≤ 10000) : figs (ns.map natS) = ns.map fun (n : Nat) => (n : Int) := by
  unfold figs
  rw [List.map_map]
  apply List.map_congr_left
  intro n hn
  exact fig_nat (h n hn)
theorem no_from (ns : List Nat) : ("from" : Str) ∉ ns.map natS := fun z => by
  obtain ⟨n, _, e⟩ := List.mem_map.mp z
  exact from_ne n e
theorem ints_natsD (ns : List Nat) : (ns.map fun (n : Nat) => (n : Int)).map D.int = natsD ns := by unfold natsD; rw [List.map_map]; rfl
theorem toP_nat (ns : List Nat) : (ns.map fun (n : Nat) => (n : Int)).map Int.toNat = ns := by
  rw [List.map_map]
  have : ns.map (Int.toNat ∘ fun (n : Nat) => (n : Int)) = ns.map id := List.map_congr_left fun n _ => Int.toNat_natCast n
  rw [this, List.map_id]
/-- no rests: the first one is behind the greatest -/
theorem canon_none {z : Pts} (ok : z.Ok) (hz : z.lst = z) (hr : z.rs = []) : z.p = 1 ∧ (z.f : Int) = maxI (z.hd.map fun (n : Nat) => (n : Int)) + 1 := by
  have c : Canon z.inB z := by have := (canon_lst ok).1; rw [hz] at this; exact this
  have hi : ∀ n, z.f ≤ n → z.inB n = false := fun n hn => by
    unfold Pts.inB
    rw [if_neg (by omega), hr]
    rfl
  have hp : z.p = 1 := by
    rcases Nat.lt_or_ge 1 z.p with h | h
    · exact absurd (fun n hn => by rw [hi n hn, hi (n + 1) (by omega)]) (c.min 1 (by omega) h z.f)
    · have := c.p1; omega
  refine ⟨hp, ?_⟩
  rcases c.fst with h | h
  · have : z.hd = [] := by
      cases e : z.hd with
      | nil => rfl
      | cons n r => have := ok.hb n (by rw [e]; exact List.mem_cons_self ..); omega
    rw [this, h]
    rfl
  · rw [hi _ (by omega)] at h
    have f1 := ok.f1
    have hin : z.inB (z.f - 1) = true := by
      cases e : z.inB (z.f - 1) with
      | true => rfl
      | false => exact absurd e.symm h
    unfold Pts.inB at hin
    rw [if_pos (by omega)] at hin
    have hm := of_decide_eq_true hin
    have := maxI_of (ns := z.hd.map fun (n : Nat) => (n : Int)) (m := ((z.f - 1 : Nat) : Int)) (List.mem_cons_of_mem _ (List.mem_map.mpr ⟨_, hm, rfl⟩)) fun y hy => by
      rcases List.mem_cons.mp hy with rfl | hy
      · omega
      · obtain ⟨n, hn, rfl⟩ := List.mem_map.mp hy
        have := ok.hb n hn
        show (n : Int) ≤ _
        omega
    omega
theorem read_back {z : Pts} (ok : z.Ok) (hz : z.lst = z) : setOf (setText z) = some z := by
  have hhd : ∀ n ∈ z.hd, n ≤ 10000 := fun n hn => by have := ok.hb n hn; have := ok.f2; omega
  have hrs : ∀ n ∈ z.rs, n ≤ 10000 := fun n hn => by have := ok.rb n hn; have := ok.p2; omega
  have hf : z.f ≤ 10000 := by have := ok.f2; omega
  have hp : z.p ≤ 10000 := by have := ok.p2; omega
  have key : prs (wordsOf z) = some ⟨z.hd.map fun (n : Nat) => (n : Int), z.f, z.p, z.rs.map fun (n : Nat) => (n : Int)⟩ := by
    unfold wordsOf prs
    by_cases hr : z.rs = []
    · rw [if_pos hr, List.append_nil, from_out (no_from _), List.take_length, List.drop_length, figs_nat hhd, hr]
      obtain ⟨h1, h2⟩ := canon_none ok hz hr
      rw [h1, h2]
      rfl
    · rw [if_neg hr]
      obtain ⟨r0, rr, er⟩ : ∃ r0 rr, z.rs = r0 :: rr := by
        cases e : z.rs with
        | nil => exact absurd e hr
        | cons a b => exact ⟨a, b, rfl⟩
      have ea : fromAt (z.hd.map natS ++ ([("from" : Str), natS z.f, "by", natS z.p, "rest"] ++ z.rs.map natS)) = (z.hd.map natS).length := by
        unfold fromAt
        rw [List.findIdx_append]
        have : List.findIdx isFrom (z.hd.map natS) = (z.hd.map natS).length := from_out (no_from _)
        rw [this, if_neg (Nat.lt_irrefl _)]
        have e0 : List.findIdx isFrom ([("from" : Str), natS z.f, "by", natS z.p, "rest"] ++ z.rs.map natS) = 0 := by
          show List.findIdx isFrom ("from" :: _) = 0
          rw [List.findIdx_cons]
          have : isFrom "from" = true := decide_eq_true rfl
          rw [this]
          rfl
        rw [e0, Nat.zero_add]
      rw [ea, List.take_left, List.drop_left, figs_nat hhd, er]
      show (if ("by" : Str) = "by" ∧ ("rest" : Str) = "rest" then some (⟨_, fig (natS z.f), fig (natS z.p), figs ((r0 :: rr).map natS)⟩ : PrI) else none) = _
      rw [if_pos ⟨rfl, rfl⟩, fig_nat hf, fig_nat hp, ← er, figs_nat hrs]
  unfold setOf
  rw [wds_text, key]
  have eP : toP ⟨z.hd.map fun (n : Nat) => (n : Int), z.f, z.p, z.rs.map fun (n : Nat) => (n : Int)⟩ = z := by
    unfold toP
    dsimp only
    rw [toP_nat, toP_nat]
    rfl
  have eg : good ⟨z.hd.map fun (n : Nat) => (n : Int), z.f, z.p, z.rs.map fun (n : Nat) => (n : Int)⟩ = true := by
    unfold good
    dsimp only
    rw [ints_natsD, ints_natsD]
    exact ok.parts
  show (if good _ = true ∧ setText (toP _).lst = setText z then some (toP _).lst else none) = some z
  rw [eP, hz, if_pos ⟨eg, rfl⟩]
end Sk
namespace Dk
open PySem PySem.Spec PyProof.Rows L2
/-! ### sorted(set(xs)), iv, any number of them -/
abbrev nwSet (w : World) : Obj := ⟨.type "set", none, .set #[] 0 (.fresh 0 0 (!w.params.followText "set-order")), #[]⟩
section
variable {P : Program} {w : World} {A : Around} {E : Value → Shared → Prop} {s : Shared}
def SetMade (w : World) (s : Shared) (ns : List Int) (g : Heap) (c : Nat) : Prop := SetR w g s.heap.objs.size (fun j => decide (j ∈ ns)) c ∧ c ≤ ns.length ∧ ∀ b o, s.heap.get? b = some o → g.get? b = some o
theorem setL_made {l : Addr} {its : Array Value} (ns : List Int) {Q : Value → Shared → Prop} (qu : A.handled = none) (isL : s.heap.IsList l its) (iv : IntsAre its.toList ns) (few : ns.length + 1 < scanBound)
    (k : ∀ (g : Heap) (t c : Nat), SetMade w s ns g c → Q (.ref s.heap.objs.size) { s with heap := g, toks := t }) : wpAny (model P w) A (call (.type "set") [.ref l]) Q E s := by
  have len : its.size = ns.length := (Array.length_toList ▸ iv.length : its.size = ns.length)
  have ⟨cc, tt, mro⟩ := F.called_set.mro
  have c1 := F.called_set.made; have c2 := F.called_set.sub; have c3 := F.called_set.notType; have c4 := F.called_set.canCreate; have c5 := F.typeCall_set_1 (.ref l)
  refine wpAny_call (codeAny_of_tree (?_ : wpAny _ _ (callAny (.type "set") _) _ _ _))
  refine wpAny_pure ⟨Code.quiet_builtin _ (by decide +kernel), codeAny_builtin F.entry_type_call (Eq.mpr (congrArg (fun a => wpAny _ a _ _ _ _) (Around.under_plain (weight_type_call_type "set" [.ref l] []) rfl)) ?_)⟩
  repeat (any_goals (first | assumption | wp_step))
  refine codeAny_mono (code_set_led1 (.ref l) (E := E) (Q₁ := fun v z => v = .ref s.heap.objs.size ∧ z = { s with heap := s.heap.push (nwSet w) }) ⟨rfl, rfl⟩) fun r z hr => ?_
  rcases r with er | fl
  · exact hr
  cases fl with
  | ret v =>
    obtain ⟨rfl, rfl⟩ := hr
    have st : (s.heap.push (nwSet w)).get? s.heap.objs.size = some (nwSet w) := Heap.get?_push_size _ rfl
    have ty : Shared.TypeIs { s with heap := s.heap.push (nwSet w) } (.ref s.heap.objs.size) "set" := ⟨_, st, rfl⟩
    have i1 := F.called_set.init.lookup; have i2 := F.called_set.init.bind (.ref s.heap.objs.size)
    repeat (any_goals (first | assumption | wp_step))
    refine codeAny_mono (codeAny_call_builtin (R := wants (fun v z => v = .none ∧ ∃ g t c, z = { s with heap := g, toks := t } ∧ SetMade w s ns g c) E) F.called_set.init.plain F.entry_set_init (check_set_init_1 ty ?_)) fun r z hr => ?_
    · have lold : l < s.heap.objs.size := by
        obtain ⟨_, ho, _⟩ := isL
        exact Heap.lt_size ho
      have isL1 : (s.heap.push (nwSet w)).IsList l its := isL.push _
      obtain ⟨ob, ho, hc, n0, hd⟩ := isL1
      obtain ⟨x1, x2, x3, x4⟩ := ob
      simp only at hc hd
      subst hc hd
      have isL2 : (s.heap.push (nwSet w)).IsList l its := ⟨_, ho, rfl, n0, rfl⟩
      have n1 := F.sub_list_set; have n2 := F.sub_list_frozenset
      have n3 : (Value.type "list" == Value.type "dict") = false := by decide
      unfold Builtin.«set.__init__» noKeywords Builtin.Frozenset.updateFrom
      generalize hit : pyIter = it0
      wp_walk
      subst hit
      refine wpAny_pyIter_list isL2 (wpAny_bind (wpAny_runValue ?_))
      have sz1 : (s.heap.push (nwSet w)).objs.size = s.heap.objs.size + 1 := Heap.size_push ..
      have notI : l ≠ (s.heap.push (nwSet w)).objs.size := by rw [sz1]; exact Nat.ne_of_lt (Nat.lt_succ_of_lt lold)
      have notS : s.heap.objs.size ∉ [(s.heap.push (nwSet w)).objs.size, l] := fun z => by
        rcases List.mem_cons.mp z with z | z
        · exact absurd (z.trans sz1) (Nat.ne_of_lt (Nat.lt_succ_self _))
        · exact absurd (List.mem_singleton.mp z) (Nat.ne_of_gt lold)
      have vals : ∀ (i : Nat) (v : Value), its[i]? = some v → ∃ n t, ns[i]? = some n ∧ v = .int n t := fun i v hv => by
        have hi : i < ns.length := len ▸ (Array.getElem?_eq_some_iff.mp hv).1
        obtain ⟨t, e⟩ := iv.int_at i v (by rw [Array.getElem?_toList]; exact hv)
        exact ⟨ns[i], t, List.getElem?_eq_getElem hi, by rw [e, List.getD_eq_getElem?_getD, List.getElem?_eq_getElem hi]; rfl⟩
      refine set_update_ints ((Walks.list (by simp [qu]) _ l notI its).toS) s.heap.objs.size notS ns len few vals (its.size - 0) 0 _ (by omega) (Nat.zero_le _) ⟨⟨_, Heap.get?_push_size _ rfl, rfl, rfl⟩, isL2.push _⟩ ⟨0, Nat.le_refl 0, setR_new_at (Heap.get?_push_of_some _ st)⟩ ?_
      rintro ⟨g, g2, dr, t, os⟩ c mv hc hs
      obtain rfl : g2 = s.gens := mv.gens
      obtain rfl : dr = s.drawn := mv.drawn
      obtain rfl : os = s.os := mv.os
      refine wpAny_pure (wpAny_pure ⟨rfl, g, t, c, rfl, hs, len ▸ hc, fun b o e => mv.heap b o (fun z => ?_) (Heap.get?_push_of_some _ (Heap.get?_push_of_some _ e))⟩)
      have lt := Heap.lt_size e
      rcases List.mem_cons.mp z with z | z
      · exact absurd z (Nat.ne_of_lt lt)
      · exact absurd ((List.mem_singleton.mp z).trans sz1) (Nat.ne_of_lt (Nat.lt_succ_of_lt lt))
    · rcases r with er | fl2
      · exact hr
      cases fl2 with
      | ret v =>
        obtain ⟨rfl, g, t, c, rfl, hm⟩ := hr
        repeat (any_goals (first | assumption | wp_step))
        exact k g t c hm
      | _ => exact hr.elim
  | _ => exact hr.elim
end
end Dk
namespace Dk
open PySem PySem.Spec PyProof.Rows L2
section
variable {P : Program} {w : World} {A : Around} {E : Value → Shared → Prop} {s : Shared}
/-- a list that stands anew: these ints, in order -/
structure SortedAt (s z : Shared) (S : Int → Bool) (p : Addr) (out : List Value) (c : Nat) (ns : List Int) : Prop where
  old : ∀ b o, s.heap.get? b = some o → z.heap.get? b = some o
  gn : z.gens = s.gens
  os : z.os = s.os
  nw : s.heap.objs.size ≤ p
  at_ : z.heap.get? p = some (seqObj "list" out.toArray c)
  iv : IntsAre out ns
  asc : ns.Pairwise (· < ·)
  mem : ∀ k, k ∈ ns ↔ S k = true
  ln : ns.length ≤ sizeLine
theorem asc_nodup {ns : List Int} (h : ns.Pairwise (· ≤ ·)) (d : ns.Nodup) : ns.Pairwise (· < ·) := by
  have := h.and d
  exact this.imp fun {a b} z => by have := z.1; have := z.2; omega
theorem setR_sorted {S : Int → Bool} {n : Nat} {a : Addr} {Q : Value → Shared → Prop} (R : SetR w s.heap a S n) (qu : A.handled = none) (few : n ≤ 100000) (k : ∀ z p out c ns, SortedAt s z S p out c ns → Q (.ref p) z) : wpAny (model P w) A (call (.builtin "sorted") [.ref a]) Q E s := by
  obtain ⟨o, es, ep, t, h1, h2, h3, h4, h5, h6, h7, h8, h9, h10, h11⟩ := R
  have big : n ≤ sizeLine := Nat.le_trans few (by decide)
  refine Calls.call_function_entry kind_sorted plain_sorted entry_sorted (args_sorted1 _) (?_ : wpAny _ _ (Builtin.«sorted» _) _ _ _)
  unfold Builtin.«sorted»
  refine wpAny_bind (m := checkCount "sorted" 1 1 _) (wpAny_pure (wpAny_bind (collect_set (A := A.in1) qu ⟨o, h1, h2.1, h3⟩ h8 h7 h10 h11 fun s1 vs k1 z1 g1 o1 pm => ?_)))
  have vl : vs.length = n := by rw [pm.length_eq, List.length_map, Array.length_toList, h9]
  have vI : ∀ v ∈ vs, ∃ i t, v = Value.int i t := fun v hv => by
    obtain ⟨e, he, q⟩ := List.mem_map.mp (pm.mem_iff.mp hv)
    obtain ⟨i, t, e1, _⟩ := h4 e he
    exact ⟨i, t, by rw [← q, e1]⟩
  have pk : (vs.map SrtO.iv).Perm (es.toList.map keyOf) := by
    have q := pm.map SrtO.iv
    rw [List.map_map] at q
    have e : es.toList.map (SrtO.iv ∘ fun x => x.2) = es.toList.map keyOf := List.map_congr_left fun x hx => by
      obtain ⟨i, t, e1, _⟩ := h4 x hx
      show SrtO.iv x.2 = keyOf x
      unfold keyOf
      rw [e1]
      rfl
    rw [e] at q
    exact q
  refine wpAny_bind (wpAny_newList ?_ (by rw [vl]; exact big))
  have at1 : (s1.heap.push (seqObj "list" vs.toArray 0)).get? s1.heap.objs.size = some (seqObj "list" vs.toArray 0) := Heap.get?_push_size _ rfl
  refine wpAny_bind (wpAny_holding (wpAny_call_entry slot_list_sort ⟨_, at1, rfl⟩ entry_list_sort (SrtO.list_sort_ord SrtO.swo_int at1 (by rw [vl]; exact big) (fun h => SrtO.ints_sortable (SrtO.ints_iv vI) h) fun out a1 a2 => ⟨_, rfl, ?_⟩) (args_list_sort _)))
  obtain ⟨b1, b2, b3⟩ := SrtO.ints_out (SrtO.ints_iv vI) a1 a2
  obtain ⟨c, hc⟩ := sortedHeap_at (vs := vs) (out := out.toArray) at1
  have pn := b2.trans pk
  refine wpAny_pure ⟨_, rfl, k _ s1.heap.objs.size out c (out.map SrtO.iv) ⟨fun b u e => ?_, g1, o1, z1, hc, b1, asc_nodup b3 (pn.nodup_iff.mpr h5), fun j => by rw [pn.mem_iff, ← h6 j], by rw [pn.length_eq, List.length_map, Array.length_toList, h9]; exact big⟩⟩
  have q := k1 b u e
  have lt := Heap.lt_size q
  show (sortedHeap (s1.heap.push (seqObj "list" vs.toArray 0)) s1.heap.objs.size vs out.toArray).get? b = some u
  exact (sortedHeap_old (Nat.ne_of_lt lt) (size_push' .. ▸ Nat.lt_succ_of_lt lt)).trans (Heap.get?_push_of_some _ q)
end
section
variable {X : Cx}
def rSetLI (K : PySem.W.Frag) (w : World) : List V → Hp → VK → Prop := fun xs H Q => ∃ (l : Addr) (ns : List Int), xs = [.ref l] ∧ SqL K H l (ns.map V.int) ∧ ns.length ≤ 1000 ∧ ∀ p c, H p = none → c ≤ ns.length → Q (.ref p) (upd H p (SetO w p (fun j => decide (j ∈ ns)) c))
theorem cr_setLI (hc : X.calm = true) : CallR X (.type "set") (rSetLI X.K X.w) := fun pins s σ H xs us Q I r h => by
  obtain ⟨l, ns, rfl, hs, hl, q⟩ := h
  obtain ⟨its, rv, pl, hz⟩ := I.list hs
  rw [Vals.ref1 r]
  refine setL_made ns (I.ok.hd hc) pl.isList (by simpa using rv.ints) (by unfold scanBound; omega) fun g t c ⟨m1, m2, m3⟩ => ?_
  exact ⟨.ref s.heap.objs.size, _, I.laid m3 (Nat.le_refl _) (setO_new m1), rfl, q _ c (I.hok.fresh (Nat.le_refl _)) m2⟩
def rSortS (w : World) : List V → Hp → VK → Prop := fun xs H Q => ∃ (a : Addr) (S : Int → Bool) (n : Nat), xs = [.ref a] ∧ H a = some (SetO w a S n) ∧ n ≤ 1000 ∧ ∀ (ns : List Int) (p : Addr), ns.Pairwise (· < ·) → (∀ j, j ∈ ns ↔ S j = true) → ns.length ≤ sizeLine → H p = none → Q (.ref p) (upd H p (.lst (ns.map V.int)))
theorem cr_sortS (hc : X.calm = true) : CallR X (.builtin "sorted") (rSortS X.w) := fun pins s σ H xs us Q I r h => by
  obtain ⟨a, S, n, rfl, ha, hn, q⟩ := h
  rw [Vals.ref1 r]
  refine setR_sorted (setO_get I ha) (I.ok.hd hc) (Nat.le_trans hn (by decide)) fun z p out c ns B => ?_
  have free : H p = none := I.hok.fresh B.nw
  obtain ⟨zh, zg, zd, zt, zo⟩ := z
  obtain rfl : zg = s.gens := B.gn
  obtain rfl : zo = s.os := B.os
  refine ⟨.ref p, upd H p (.lst (ns.map V.int)), ?_, rfl, q ns p B.asc B.mem B.ln free⟩
  exact I.call (h' := zh) (ch := []) (Un.laid B.old B.nw free) (I.hok.laid B.old B.nw ⟨by rw [List.length_map]; exact B.ln, out, c, vals_of_ints B.iv, B.at_⟩) I.bare fun _ q => nomatch q
end
def wSortSet (w : We) : We := fun ρ μ Q E => w ρ μ (fun d μ => ∃ ns : List Int, d = .lst (ns.map .int) ∧ ns.length ≤ 1000 ∧ ∀ ns' : List Int, ns'.Pairwise (· < ·) → (∀ j, j ∈ ns' ↔ j ∈ ns) → Q (.lst (ns'.map .int)) μ) E
theorem de_sortSet {g : G} {X : Cx} {e : Expr} {we : We} {p p2 pos pos2 : Pos} (hc : X.calm = true) (h1 : Blt X "sorted") (h2 : Blt X "set") (he : DE g X e we)
    (s2 : starEach [e] X.env = (false, eval e X.env) :: starEach [] X.env := by rfl) (b2 : (backTo pos2 (starEach [] X.env)).any (·.1) = false := by rfl)
    (s1 : starEach [.Call (.Name "set" p2) [e] [] pos2] X.env = (false, eval (.Call (.Name "set" p2) [e] [] pos2) X.env) :: starEach [] X.env := by rfl) (b1 : (backTo pos (starEach [] X.env)).any (·.1) = false := by rfl) :
    DE g X (.Call (.Name "sorted" p) [.Call (.Name "set" p2) [e] [] pos2] [] pos) (wSortSet we) := ⟨fun gd W tk => PEw (pe_callB (cr_sortS hc) h1.1 h1.2 PyProof.Rows.Boot.«sorted» (pa_cons (pe_callTy (cr_setLI hc) h2.1 h2.2 PyProof.Rows.boot_set (pa_cons (he.run gd W tk) pa_nil s2) (by decide) (by decide) s2 b2) pa_nil s1) (by decide) (by decide) s1 b1) fun σ H Q h => by
  obtain ⟨B, ρ, μ, Q0, E0, rel, hw, hq, hx⟩ := h
  refine tD.go rel hw hx fun d μ1 v B1 H1 k1 n1 r1 => ?_
  obtain ⟨ns, rfl, hl, k1⟩ := k1
  obtain ⟨l, vs, rfl, q1, q2⟩ := r1.sq n1.bs
  rw [q2.ints_inv] at q1
  refine ⟨l, ns, rfl, by rw [gd.k]; exact q1, hl, fun p c hp hcl => ?_⟩
  refine ⟨p, _, c, rfl, upd_same, by omega, fun ns' p2 asc mem len hp2 => ?_⟩
  have o1 := Np.own n1.sub n1.notb n1.tabs hp (SetO X.w p (fun j => decide (j ∈ ns)) c)
  have n2 := n1.np o1
  obtain ⟨n3, r3⟩ := n2.bs.lst (g := g) (vs := ns'.map V.int) (ds := ns'.map D.int) RpA.ints hp2
  exact hq _ _ (k1 ns' asc fun j => by rw [mem j, decide_eq_true_eq]) _ _ _ (n2.np n3) r3⟩
end Dk
namespace Sk
open PySem PySem.Spec PyProof.Rows L2 Dk He
/-! ### the next one above a number -/
def IsNext (f : Nat → Bool) (n : Nat) : Option Nat → Prop
  | some m => n < m ∧ f m = true ∧ ∀ k, n < k → k < m → f k = false
  | none => ∀ k, n < k → f k = false
theorem IsNext.uniq {f : Nat → Bool} {n : Nat} {a b : Option Nat} (ha : IsNext f n a) (hb : IsNext f n b) : a = b := by
  cases a with
  | none =>
    cases b with
    | none => rfl
    | some m => have := ha m hb.1; rw [hb.2.1] at this; cases this
  | some m =>
    cases b with
    | none => have := hb m ha.1; rw [ha.2.1] at this; cases this
    | some k =>
      rcases Nat.lt_trichotomy m k with h | h | h
      · have := hb.2.2 m ha.1 h; rw [ha.2.1] at this; cases this
      · rw [h]
      · have := ha.2.2 k hb.1 h; rw [hb.2.1] at this; cases this
def nxt (f : Nat → Bool) (n l : Nat) : Option Nat := ((List.range' (n + 1) l).filter f).head?
theorem nxt_is {f : Nat → Bool} {F P n l : Nat} (hP : 1 ≤ P) (h : PerF f F P) (hl : max (n + 1) F + P ≤ n + 1 + l) : IsNext f n (nxt f n l) := by
  unfold nxt
  cases e : (List.range' (n + 1) l).filter f with
  | nil =>
    have hz : ∀ k, n < k → k < n + 1 + l → f k = false := fun k h1 h2 => by
      have := (List.filter_eq_nil_iff.mp e) k (List.mem_range'_1.mpr ⟨by omega, by omega⟩)
      simpa using this
    intro k hk
    by_cases h2 : k < n + 1 + l
    · exact hz k hk h2
    · -- brought back into the range
      have hb := Nat.mod_lt (k - max (n + 1) F) hP
      have d := Nat.div_add_mod (k - max (n + 1) F) P
      have e2 : k = (max (n + 1) F + (k - max (n + 1) F) % P) + (k - max (n + 1) F) / P * P := by
        rw [Nat.mul_comm] at d
        omega
      rw [e2, h.mul _ _ (by omega)]
      exact hz _ (by omega) (by omega)
  | cons m r =>
    have hm : m ∈ (List.range' (n + 1) l).filter f := by rw [e]; exact List.mem_cons_self ..
    have hm' := List.mem_filter.mp hm
    have hr := List.mem_range'_1.mp hm'.1
    refine ⟨by omega, hm'.2, fun k h1 h2 => ?_⟩
    cases q : f k with
    | false => rfl
    | true =>
      have hk : k ∈ (List.range' (n + 1) l).filter f := List.mem_filter.mpr ⟨List.mem_range'_1.mpr ⟨by omega, by omega⟩, q⟩
      have hs := asc_filter (n + 1) l f
      rw [e] at hk hs
      rcases List.mem_cons.mp hk with z | z
      · omega
      · have := (List.pairwise_cons.mp hs).1 k z
        omega
def optD : Option Nat → D
  | some m => .int (m : Int)
  | none => .non
/-- the next one of a writing -/
def Pts.nx (x : Pts) (n : Nat) : Option Nat := nxt x.inB n (max n x.f + x.p - n)
theorem nx_is {x : Pts} (h : x.Ok) (n : Nat) : IsNext x.inB n (x.nx n) := nxt_is h.p1 x.per (by omega)
/-- a set's own search -/
theorem canon_behind {x c : Pts} (hx : x.Ok) (h : Canon x.inB c) (n : Nat) : (c.hd.filter (fun m => decide (n < m)) ++ (List.range' (max (n + 1) c.f) c.p).filter c.inB).head? = x.nx n := by
  have e : c.hd.filter (fun m => decide (n < m)) ++ (List.range' (max (n + 1) c.f) c.p).filter c.inB = (List.range' (n + 1) (max (n + 1) c.f + c.p - (n + 1))).filter x.inB := by
    have e2 : (List.range' (max (n + 1) c.f) c.p).filter c.inB = (List.range' (max (n + 1) c.f) c.p).filter x.inB := List.filter_congr fun m hm => by
      have := (List.mem_range'_1.mp hm).1
      rw [h.inB (by omega)]
    have f1 := h.f1
    rw [e2, h.hd, List.filter_filter]
    by_cases hn : n + 1 ≤ c.f
    · have e3 : (List.range' 1 (c.f - 1)).filter (fun m => decide (n < m) && x.inB m) = (List.range' (n + 1) (c.f - (n + 1))).filter x.inB := by
        have e4 : List.range' 1 (c.f - 1) = List.range' 1 n ++ List.range' (n + 1) (c.f - (n + 1)) := by
          have := List.range'_append (s := 1) (m := n) (n := c.f - (n + 1)) (step := 1)
          rw [show 1 + 1 * n = n + 1 by omega] at this
          rw [this]
          congr 1
          omega
        rw [e4, List.filter_append]
        have z1 : (List.range' 1 n).filter (fun m => decide (n < m) && x.inB m) = [] := List.filter_eq_nil_iff.mpr fun m hm => by
          have := (List.mem_range'_1.mp hm)
          rw [decide_eq_false (by omega), Bool.false_and]
          exact Bool.false_ne_true
        rw [z1, List.nil_append]
        refine List.filter_congr fun m hm => ?_
        have := (List.mem_range'_1.mp hm)
        rw [decide_eq_true (by omega), Bool.true_and]
      rw [e3, ← List.filter_append]
      congr 1
      have := List.range'_append (s := n + 1) (m := c.f - (n + 1)) (n := c.p) (step := 1)
      rw [show n + 1 + 1 * (c.f - (n + 1)) = max (n + 1) c.f by omega] at this
      rw [this]
      congr 1
      omega
    · have z1 : (List.range' 1 (c.f - 1)).filter (fun m => decide (n < m) && x.inB m) = [] := List.filter_eq_nil_iff.mpr fun m hm => by
        have := (List.mem_range'_1.mp hm)
        rw [decide_eq_false (by omega), Bool.false_and]
        exact Bool.false_ne_true
      rw [z1, List.nil_append, show max (n + 1) c.f = n + 1 by omega]
      congr 2
      omega
  rw [e]
  have p1 := h.p1
  exact (nxt_is (F := c.f) (P := c.p) h.p1 h.per (by omega)).uniq (nx_is hx n)
theorem rs_nil {f : Nat → Bool} {x : Pts} (hp : 1 ≤ x.p) (hr : ∀ r ∈ x.rs, r < x.p) (hf : ∀ n, x.f ≤ n → 1 ≤ n → f n = decide (n % x.p ∈ x.rs)) : x.rs = [] ↔ ∃ N, ∀ n, N ≤ n → f n = false := by
  constructor
  · intro e
    refine ⟨x.f + 1, fun n hn => ?_⟩
    rw [hf n (by omega) (by omega), e]
    rfl
  · rintro ⟨N, h⟩
    cases e : x.rs with
    | nil => rfl
    | cons r rs =>
      have hr' : r < x.p := hr r (by rw [e]; exact List.mem_cons_self ..)
      have h1 : (N + x.f + 1) ≤ (N + x.f + 1) * x.p := Nat.le_mul_of_pos_right _ hp
      have := h ((N + x.f + 1) * x.p + r) (by omega)
      rw [hf _ (by omega) (by omega), Nat.mul_comm, Nat.mul_add_mod, Nat.mod_eq_of_lt hr', decide_eq_true (by rw [e]; exact List.mem_cons_self ..)] at this
      cases this
theorem lst_rs {x : Pts} (h : x.Ok) : x.lst.rs.isEmpty = x.rs.isEmpty := by
  have a : x.rs = [] ↔ ∃ N, ∀ n, N ≤ n → x.inB n = false := rs_nil h.p1 h.rb fun n hn _ => by unfold Pts.inB; rw [if_neg (by omega)]
  have ol := lst_ok h
  have b : x.lst.rs = [] ↔ ∃ N, ∀ n, N ≤ n → x.inB n = false := rs_nil ol.p1 ol.rb fun n hn h1 => by
    rw [← lst_inB h h1]
    unfold Pts.inB
    rw [if_neg (by omega)]
  have : x.lst.rs = [] ↔ x.rs = [] := b.trans a.symm
  cases e1 : x.rs <;> cases e2 : x.lst.rs <;> simp_all
/-! ### the program -/
def ct_Numbers_behind (L : Lw) : Ct := fun ds μ Q E => ∃ (x : Pts) (n : Nat), ds = [setD x.lst, .int n] ∧ x.Ok ∧ n < 2 ^ 40 ∧ Q (optD (x.nx n)) μ
abbrev N_Numbers_behind : List Str := ["self", "number", "begin", "some", "head", "parts", "later"]
def wb_Numbers_behind (L : Lw) : Ws :=
    (sQ (sSet 2 (wN fMax (aC (w2 fAdd (wV 1) (wC (.int 1))) (aC (wFld [(41, 1)] (wV 0)) aN))))
    (sQ (sOwn 3 (wLc (iL (wFld [(41, 0)] (wV 0))) (gN 4) (tB0 (w2 fGt (wV 4) (wV 1))) (wV 4) [4]))
    (sQ (sSet 5 (wMeth [(41, ct_Numbers_writing L)] (wV 0) aN))
    (sQ (sExt 3 (wL (wLc (iR2 (aC (wV 2) (aC (w2 fAdd (wV 2) (wFld [(41, 2)] (wV 0))) aN))) (gN 6) (tB0 (wCall (ct_is_in L) (aC (wV 5) (aC (wV 6) aN)))) (wV 6) [6])))
    (sFz 3 (sRet (wIf (tB0 (w2 fNe (wV 3) (wN fLst aN))) (w2 fIx (wV 3) (wC (.int 0))) (wC .non))))))))

theorem data_Numbers_behind (L : Lw) {ds : List D} {μ : Mu} {Q : D → Mu → Prop} {E : Ek} (h : ct_Numbers_behind L ds μ Q E) : wb_Numbers_behind L (deOf Q E) (startR N_Numbers_behind ds) μ := by
  obtain ⟨x, n, rfl, ok, hn, q⟩ := h
  have hc := (canon_lst ok).1
  have ol := lst_ok ok
  rw [← canon_behind ok hc n] at q
  generalize x.lst = c at *
  have f1 := ol.f1; have f2 := ol.f2; have p1 := ol.p1; have p2 := ol.p2
  have hb : max ((n : Int) + 1) (c.f : Int) = ((max (n + 1) c.f : Nat) : Int) := by omega
  refine .inl ⟨_, _, rfl, ?_⟩
  have hl := ol.hl
  refine lcL_filter (enc := fun (i : Nat) => D.int (i : Int)) (p := fun m => decide (n < m)) (f := fun (m : Nat) => D.int (m : Int)) c.hd rfl (fun m hm P R hP hR => ?_) (Nat.le_trans hl (by decide)) ?_
  · show (match decide ((n : Int) < (m : Int)) with | true => _ | false => _)
    by_cases e : n < m
    · rw [decide_eq_true (by omega)]; exact hP (decide_eq_true e)
    · rw [decide_eq_false (by omega)]; exact hR (decide_eq_false e)
  simp only [sQ, sN, sSet, sRet, sRet0, sIf, sDo, sUnp, sPar, gT, gN, wV, wC, w2, w1, w3, wN, wL, wLc, aC, aN, tB0, tNt, tAn, tOrr, tY, wIf, wAn, wOr, wNt, wCall, wSl, pN, pS, iL, iR1, iR2, iEn, iZp, wRg1, wRg2, wMeth, wFld, wProp, sRaise, wS0, wS1, fSl, wipeR, startR, deOf, fCmp, fAdd, fSub, fMod, fNeg, fLst, fTup, fInt_i, fInt_b, fLen_s, fLen_l, fLen_t, fLen_c, fAbs_i, fMax_2, fMin_2, fTuple_l, fTuple_t, fList_l, fList_t, fStr_i, List.map_cons, List.map_nil, List.length_cons, List.length_nil, List.replicate, List.cons_append, List.nil_append, List.getElem?_cons_zero, List.getElem?_cons_succ, List.set_cons_succ, List.set_cons_zero, List.zip, List.zipWith, List.foldl, List.lookup]
  refine ⟨c, rfl, ?_⟩
  simp only [hb]
  refine ⟨⟨by omega, by omega, by omega, by omega⟩, ?_⟩
  refine lcL_filter (enc := fun (i : Nat) => D.int (i : Int)) (p := c.inB) (f := fun (m : Nat) => D.int (m : Int)) (List.range' (max (n + 1) c.f) c.p) ?_ (fun m hm P R hP hR => ?_) ?_ ?_
  · show rgD _ (((max (n + 1) c.f : Nat) : Int) + (c.p : Int) - ((max (n + 1) c.f : Nat) : Int)).toNat = _
    rw [show (((max (n + 1) c.f : Nat) : Int) + (c.p : Int) - ((max (n + 1) c.f : Nat) : Int)).toNat = c.p by omega]
    exact rgD_nat _ _
  · refine ⟨c, m, rfl, p1, ?_⟩
    cases e : c.inB m with
    | true => exact hP e
    | false => exact hR e
  · rw [List.length_range']; exact Nat.le_trans (by omega : _ ≤ 1000000) (by decide)
  generalize hA : c.hd.filter (fun m => decide (n < m)) = A at *
  generalize hB : (List.range' (max (n + 1) c.f) c.p).filter c.inB = B at *
  have lA : A.length ≤ 10000 := by rw [← hA]; exact Nat.le_trans (List.length_filter_le _ _) hl
  have lB : B.length ≤ 10000 := by
    rw [← hB]
    have := List.length_filter_le c.inB (List.range' (max (n + 1) c.f) c.p)
    rw [List.length_range'] at this
    omega
  refine ⟨by rw [List.length_map, List.length_map]; exact Nat.le_trans (by omega : _ ≤ 1000000) (by decide), ?_⟩
  have e : A.map (fun (m : Nat) => D.int (m : Int)) ++ B.map (fun (m : Nat) => D.int (m : Int)) = ((A ++ B).map fun (m : Nat) => (m : Int)).map .int := by rw [← List.map_append, List.map_map]; rfl
  rw [e]
  generalize A ++ B = C at q
  refine ⟨by decide, ?_⟩
  show fNe (.lst ((C.map fun (m : Nat) => (m : Int)).map .int)) (.lst []) _
  rw [fNe_of eqD_nil_l]
  cases C with
  | nil => exact q
  | cons m r =>
    have hx : atI (((m :: r).map fun (m : Nat) => (m : Int)).map D.int) 0 = some (.int (m : Int)) := atI_nat' (i := 0) (by simp)
    show fIx (.lst (((m :: r).map fun (m : Nat) => (m : Int)).map D.int)) (.int 0) _
    rw [fIx_l hx]
    exact q
def ct_Numbers_least (L : Lw) : Ct := fun ds μ Q E => ∃ x : Pts, ds = [setD x.lst] ∧ x.Ok ∧ Q (optD (x.nx 0)) μ
abbrev N_Numbers_least : List Str := ["self"]
def wb_Numbers_least (L : Lw) : Ws :=
    (sRet (wMeth [(41, ct_Numbers_behind L)] (wV 0) (aC (wC (.int 0)) aN)))

theorem data_Numbers_least (L : Lw) {ds : List D} {μ : Mu} {Q : D → Mu → Prop} {E : Ek} (h : ct_Numbers_least L ds μ Q E) : wb_Numbers_least L (deOf Q E) (startR N_Numbers_least ds) μ := by
  obtain ⟨x, rfl, ok, q⟩ := h
  exact ⟨x, 0, rfl, ok, by decide, q⟩
def ct_Numbers_is_endless (L : Lw) : Ct := fun ds μ Q E => ∃ x : Pts, ds = [setD x] ∧ Q (.bl (!x.rs.isEmpty)) μ
abbrev N_Numbers_is_endless : List Str := ["self"]
def wb_Numbers_is_endless (L : Lw) : Ws :=
    (sRet (w2 fNe (wFld [(41, 3)] (wV 0)) (wN fTup aN)))

theorem fNe_nats {ns : List Nat} {Q : D → Prop} (q : Q (.bl (!ns.isEmpty))) : fNe (.tup (natsD ns)) (.tup []) Q := by
  have er : natsD ns = (ns.map fun (n : Nat) => (n : Int)).map .int := by unfold natsD; rw [List.map_map]; rfl
  rw [er, fNe_of eqD_nil_t]
  have eb : (ns.map fun (n : Nat) => (n : Int)).isEmpty = ns.isEmpty := by cases ns <;> rfl
  rw [eb]
  exact q
theorem data_Numbers_is_endless (L : Lw) {ds : List D} {μ : Mu} {Q : D → Mu → Prop} {E : Ek} (h : ct_Numbers_is_endless L ds μ Q E) : wb_Numbers_is_endless L (deOf Q E) (startR N_Numbers_is_endless ds) μ := by
  obtain ⟨x, rfl, q⟩ := h
  exact ⟨by decide, fNe_nats q⟩
def ct_Numbers_after (L : Lw) : Ct := fun ds μ Q E => ∃ (x : Pts) (d : D), ds = [setD x.lst, d] ∧ x.Ok ∧ Okd L d ∧ d.okR ∧ (∀ n : Nat, d = .int n → n < 2 ^ 40 ∧ Q (optD (x.nx n)) μ) ∧ ((∀ n : Nat, d ≠ .int n) → E 3 d μ)
abbrev N_Numbers_after : List Str := ["self", "value"]
def wb_Numbers_after (L : Lw) : Ws :=
    (sQ (sIf (tOrr (tNt (tB0 (wCall (ct_is_integer L) (aC (wV 1) aN)))) (tB0 (w2 fLt (wV 1) (wC (.int 0))))) (sRaise 3 (wV 1)) sN)
    (sRet (wMeth [(41, ct_Numbers_behind L)] (wV 0) (aC (wV 1) aN))))

theorem data_Numbers_after (L : Lw) {ds : List D} {μ : Mu} {Q : D → Mu → Prop} {E : Ek} (h : ct_Numbers_after L ds μ Q E) : wb_Numbers_after L (deOf Q E) (startR N_Numbers_after ds) μ := by
  obtain ⟨x, d, rfl, ok, hd, hr, q, e⟩ := h
  refine ⟨d, rfl, hd, ?_⟩
  cases d with
  | int i =>
    show (match decide (i < 0) with | true => _ | false => _)
    by_cases hi : i < 0
    · rw [decide_eq_true hi]
      exact ⟨rep_of hr, e fun n z => by cases z; omega⟩
    · rw [decide_eq_false hi]
      obtain ⟨n, rfl⟩ : ∃ n : Nat, i = (n : Int) := ⟨i.toNat, by omega⟩
      obtain ⟨q1, q2⟩ := q n rfl
      exact ⟨x, n, rfl, ok, q1, q2⟩
  | _ => exact ⟨rep_of hr, e fun n z => by cases z⟩
/-- those of a range -/
def Pts.rng (x : Pts) (l h : Nat) : D := .tup (natsD ((List.range' (max 1 l) (h - max 1 l)).filter x.inB))
def isEnd (d : D) : Bool := btw d 0 9999
def ct_Numbers_within (L : Lw) : Ct := fun ds μ Q E => ∃ (x : Pts) (d e : D), ds = [setD x.lst, d, e] ∧ x.Ok ∧ Okd L d ∧ Okd L e ∧ (D.tup [d, e]).okR ∧ (∀ l h : Nat, d = .int l → e = .int h → l ≤ 9999 → h ≤ 9999 → Q (x.rng l h) μ) ∧ ((isEnd d && isEnd e) = false → E 4 (.tup [d, e]) μ)
abbrev N_Numbers_within : List Str := ["self", "low", "high", "parts", "number"]
def wb_Numbers_within (L : Lw) : Ws :=
    (sQ (sIf (tOrr (tNt (tB0 (wCall (ct_is_between L) (aC (wV 1) (aC (wC (.int 0)) (aC (wC (.int 9999)) aN)))))) (tNt (tB0 (wCall (ct_is_between L) (aC (wV 2) (aC (wC (.int 0)) (aC (wC (.int 9999)) aN))))))) (sRaise 4 (wN fTup (aC (wV 1) (aC (wV 2) aN)))) sN)
    (sQ (sSet 3 (wMeth [(41, ct_Numbers_writing L)] (wV 0) aN))
    (sRet (wN fTuple (aC (wL (wLc (iR2 (aC (wN fMax (aC (wC (.int 1)) (aC (wV 1) aN))) (aC (wV 2) aN))) (gN 4) (tB0 (wCall (ct_is_in L) (aC (wV 3) (aC (wV 4) aN)))) (wV 4) [4])) aN)))))

theorem end_int {d : D} (h : isEnd d = true) : ∃ l : Nat, d = .int l ∧ l ≤ 9999 := by
  unfold isEnd btw at h
  cases d with
  | int i =>
    obtain ⟨h1, h2⟩ := Bool.and_eq_true_iff.mp h
    have h1 := of_decide_eq_true h1
    have h2 := of_decide_eq_true h2
    exact ⟨i.toNat, congrArg D.int (by omega), by omega⟩
  | _ => cases h
theorem data_Numbers_within (L : Lw) {ds : List D} {μ : Mu} {Q : D → Mu → Prop} {E : Ek} (h : ct_Numbers_within L ds μ Q E) : wb_Numbers_within L (deOf Q E) (startR N_Numbers_within ds) μ := by
  obtain ⟨x, d, e, rfl, ok, hd, he, hr, q, er⟩ := h
  refine ⟨d, 0, 9999, rfl, hd, ?_⟩
  cases h1 : btw d 0 9999 with
  | false => exact ⟨(by decide : 2 ≤ sizeLine), rep_of hr, er (by unfold isEnd; rw [h1]; rfl)⟩
  | true =>
    refine ⟨e, 0, 9999, rfl, he, ?_⟩
    cases h2 : btw e 0 9999 with
    | false => exact ⟨(by decide : 2 ≤ sizeLine), rep_of hr, er (by unfold isEnd; rw [h1, h2]; rfl)⟩
    | true =>
      obtain ⟨l, rfl, hl⟩ := end_int h1
      obtain ⟨h, rfl, hh⟩ := end_int h2
      have q := q l h rfl rfl hl hh
      have ol := lst_ok ok
      have hb : max (1 : Int) (l : Int) = ((max 1 l : Nat) : Int) := by omega
      simp only [sQ, sN, sSet, sRet, sRet0, sIf, sDo, sUnp, sPar, gT, gN, wV, wC, w2, w1, w3, wN, wL, wLc, aC, aN, tB0, tNt, tAn, tOrr, tY, wIf, wAn, wOr, wNt, wCall, wSl, pN, pS, iL, iR1, iR2, iEn, iZp, wRg1, wRg2, wMeth, wFld, wProp, sRaise, wS0, wS1, fSl, wipeR, startR, deOf, fCmp, fAdd, fSub, fMod, fNeg, fLst, fTup, fInt_i, fInt_b, fLen_s, fLen_l, fLen_t, fLen_c, fAbs_i, fMax_2, fMin_2, fTuple_l, fTuple_t, fList_l, fList_t, fStr_i, List.map_cons, List.map_nil, List.length_cons, List.length_nil, List.replicate, List.cons_append, List.nil_append, List.getElem?_cons_zero, List.getElem?_cons_succ, List.set_cons_succ, List.set_cons_zero, List.zip, List.zipWith, List.foldl, List.lookup]
      refine ⟨x.lst, rfl, ?_⟩
      rw [hb]
      refine ⟨⟨by omega, by omega, by omega, by omega⟩, ?_⟩
      refine lcL_filter (enc := fun (i : Nat) => D.int (i : Int)) (p := x.inB) (f := fun (m : Nat) => D.int (m : Int)) (List.range' (max 1 l) (h - max 1 l)) ?_ (fun m hm P R hP hR => ?_) ?_ ?_
      · rw [show ((h : Int) - ((max 1 l : Nat) : Int)).toNat = h - max 1 l by omega]
        exact rgD_nat _ _
      · have := (List.mem_range'_1.mp hm).1
        refine ⟨x.lst, m, rfl, ol.p1, ?_⟩
        rw [lst_inB ok (by omega)]
        cases e : x.inB m with
        | true => exact hP e
        | false => exact hR e
      · rw [List.length_range']; exact Nat.le_trans (by omega : _ ≤ 1000000) (by decide)
      · exact q
end Sk
namespace Sk
open PySem PySem.Spec PyProof.Rows L2 Dk He
/-! ### k07: sets by what is in them -/
structure St (f : Nat → Bool) (z : Pts) : Prop where
  ok : z.Ok
  c : Canon f z
  d : z.p ∣ 120
  l : z.f ≤ 20
theorem St.lst {f : Nat → Bool} {z : Pts} (h : St f z) : z.lst = z := canon_fix h.c h.ok
theorem St.eq {f g : Nat → Bool} {z y : Pts} (h : St f z) (k : St g y) (e : ∀ n, 1 ≤ n → f n = g n) : z = y := (h.c.congr e).uniq k.c
theorem St.lcm {f g : Nat → Bool} {z y : Pts} (h : St f z) (k : St g y) : Nat.lcm z.p y.p ∣ 120 ∧ Nat.lcm z.p y.p ≤ 9999 := by
  have := Nat.lcm_dvd h.d k.d
  have h2 := Nat.le_of_dvd (by decide) this
  exact ⟨this, by omega⟩
theorem St.tog {f g : Nat → Bool} {z y : Pts} (h : St f z) (k : St g y) (op : Bool → Bool → Bool) : St (fun n => op (f n) (g n)) (together op z y) := by
  obtain ⟨c, l, d⟩ := tog_canon (op := op) h.ok k.ok
  obtain ⟨h1, h2⟩ := h.lcm k
  have := h.l; have := k.l
  refine ⟨tog_ok h.ok k.ok h2, c.congr fun n hn => ?_, Nat.dvd_trans d h1, by omega⟩
  show op (z.inB n) (y.inB n) = op (f n) (g n)
  rw [h.c.inB hn, k.c.inB hn]
theorem st_all : St (fun _ => true) allP := by
  have h : allP.lst = allP := by decide +kernel
  have c := (canon_lst allP_ok).1
  rw [h] at c
  exact ⟨allP_ok, c.congr fun n hn => allP_in n hn, by decide, by decide⟩
def noneP : Pts := ⟨[], 1, 1, []⟩
theorem noneP_ok : noneP.Ok := ⟨by decide, by decide, by decide, by decide, List.Pairwise.nil, (fun n hn => by cases hn), List.Pairwise.nil, fun n hn => by cases hn⟩
theorem noneP_lst : noneP.lst = noneP := by decide +kernel
theorem st_none : St (fun _ => false) noneP := by
  have c := (canon_lst noneP_ok).1
  rw [noneP_lst] at c
  refine ⟨noneP_ok, c.congr fun n hn => ?_, by decide, by decide⟩
  show Pts.inB ⟨[], 1, 1, []⟩ n = false
  unfold Pts.inB
  split <;> rfl
theorem St.not {f : Nat → Bool} {z : Pts} (h : St f z) : St (fun n => !f n) (together (fun a b => a && !b) allP z) := by
  have t := st_all.tog h fun a b => a && !b
  exact ⟨t.ok, t.c.congr fun n _ => Bool.true_and _, t.d, t.l⟩
theorem st_drawn {x : Pts} (h : Dr 20 x) : St x.inB x.lst := by
  have c := canon_lst h.ok
  exact ⟨lst_ok h.ok, c.1, Nat.dvd_trans c.2.2 h.d, Nat.le_trans c.2.1 h.f⟩
section
variable {L : Lw} {f g : Nat → Bool} {x y : Pts} {μ : Mu} {Q : D → Mu → Prop} {E : Ek}
theorem op_use {op : Bool → Bool → Bool} (hc : L.cs.contains 41 = true) (hx : St f x) (hy : St g y) (k : ∀ z, St (fun n => op (f n) (g n)) z → Q (setD z) μ) : ct_opN op L [setD x, setD y] μ Q E :=
  ⟨x, y, rfl, hx.ok, hy.ok, hc, fun _ => k _ (hx.tog hy op), fun z => by have := (hx.lcm hy).2; omega⟩
theorem inv_use (hx : St f x) (k : ∀ z, St (fun n => !f n) z → Q (setD z) μ) : ct_Numbers_invert L [setD x] μ Q E := ⟨x, rfl, hx.ok, k _ hx.not⟩
theorem eq_use (hc : L.cs.contains 41 = true) (k : Q (.bl (decide (x = y))) μ) : (∃ t, kty (setD y) = some t ∧ okL L t = true) ∧ ct_Numbers_eq L [setD x, setD y] μ Q E := ⟨⟨.cl 41, rfl, hc⟩, .inl ⟨x, y, rfl, hc, k⟩⟩
theorem in_use (hc : L.cs.contains 41 = true) (hx : St f x) (hy : St g y) (k : ∀ b, (b = true ↔ ∀ n, 1 ≤ n → f n = true → g n = true) → Q (.bl b) μ) : ct_Numbers_lies_in L [setD x, setD y] μ Q E := by
  refine .inl ⟨x, y, rfl, hx.ok, hy.ok, hc, fun _ => k _ ?_, fun z => by have := (hx.lcm hy).2; omega⟩
  rw [lack_iff (hx.tog hy _).c]
  constructor
  · intro h n hn hf
    have := h n hn
    rw [hf] at this
    simpa using this
  · intro h n hn
    cases e : f n with
    | false => rfl
    | true => rw [h n hn e]; rfl
end
/-- a row of two that are one -/
def Rw (d : D) : Prop := ∃ z : Pts, d = .tup [setD z, setD z] ∧ z.Ok
theorem rw_of {f g : Nat → Bool} {z y : Pts} (h : St f z) (k : St g y) (e : ∀ n, 1 ≤ n → f n = g n) : Rw (.tup [setD z, setD y]) := by
  rw [h.eq k e]
  exact ⟨y, rfl, k.ok⟩
abbrev r07_0 (L : Lw) : Ws := (sSet 6 (wN fLst (aC (wN fTup (aC (wU [(41, ct_Numbers_invert L)] (wU [(41, ct_Numbers_invert L)] (wV 1))) (aC (wV 1) aN))) (aC (wN fTup (aC (wU [(41, ct_Numbers_invert L)] (w2x (fOwn [(41, ct_Numbers_or L)]) (wV 1) (wV 2))) (aC (w2x (fOwn [(41, ct_Numbers_and L)]) (wU [(41, ct_Numbers_invert L)] (wV 1)) (wU [(41, ct_Numbers_invert L)] (wV 2))) aN))) (aC (wN fTup (aC (wU [(41, ct_Numbers_invert L)] (w2x (fOwn [(41, ct_Numbers_and L)]) (wV 1) (wV 2))) (aC (w2x (fOwn [(41, ct_Numbers_or L)]) (wU [(41, ct_Numbers_invert L)] (wV 1)) (wU [(41, ct_Numbers_invert L)] (wV 2))) aN))) aN)))))
abbrev r07_1 (L : Lw) : Ws := (sSet 6 (w2 fAdd (wV 6) (wN fLst (aC (wN fTup (aC (w2x (fOwn [(41, ct_Numbers_sub L)]) (wV 1) (wV 2)) (aC (w2x (fOwn [(41, ct_Numbers_and L)]) (wV 1) (wU [(41, ct_Numbers_invert L)] (wV 2))) aN))) (aC (wN fTup (aC (w2x (fOwn [(41, ct_Numbers_xor L)]) (wV 1) (wV 2)) (aC (w2x (fOwn [(41, ct_Numbers_sub L)]) (w2x (fOwn [(41, ct_Numbers_or L)]) (wV 1) (wV 2)) (w2x (fOwn [(41, ct_Numbers_and L)]) (wV 1) (wV 2))) aN))) aN)))))
abbrev r07_2 (L : Lw) : Ws := (sSet 6 (w2 fAdd (wV 6) (wN fLst (aC (wN fTup (aC (w2x (fOwn [(41, ct_Numbers_and L)]) (wV 1) (w2x (fOwn [(41, ct_Numbers_or L)]) (wV 2) (wV 3))) (aC (w2x (fOwn [(41, ct_Numbers_or L)]) (w2x (fOwn [(41, ct_Numbers_and L)]) (wV 1) (wV 2)) (w2x (fOwn [(41, ct_Numbers_and L)]) (wV 1) (wV 3))) aN))) (aC (wN fTup (aC (w2x (fOwn [(41, ct_Numbers_xor L)]) (w2x (fOwn [(41, ct_Numbers_xor L)]) (wV 1) (wV 2)) (wV 2)) (aC (wV 1) aN))) aN)))))
abbrev r07_3 (L : Lw) : Ws := (sSet 6 (w2 fAdd (wV 6) (wN fLst (aC (wN fTup (aC (w2x (fOwn [(41, ct_Numbers_or L)]) (wV 1) (w2x (fOwn [(41, ct_Numbers_and L)]) (wV 2) (wV 3))) (aC (w2x (fOwn [(41, ct_Numbers_and L)]) (w2x (fOwn [(41, ct_Numbers_or L)]) (wV 1) (wV 2)) (w2x (fOwn [(41, ct_Numbers_or L)]) (wV 1) (wV 3))) aN))) (aC (wN fTup (aC (w2x (fOwn [(41, ct_Numbers_and L)]) (wV 1) (wU [(41, ct_Numbers_invert L)] (wV 1))) (aC (wV 5) aN))) aN)))))
abbrev r07_4 (L : Lw) : Ws := (sSet 6 (w2 fAdd (wV 6) (wN fLst (aC (wN fTup (aC (w2x (fOwn [(41, ct_Numbers_or L)]) (wV 1) (wU [(41, ct_Numbers_invert L)] (wV 1))) (aC (wU [(41, ct_Numbers_invert L)] (wV 5)) aN))) (aC (wN fTup (aC (w2x (fOwn [(41, ct_Numbers_sub L)]) (wV 1) (wV 1)) (aC (wV 5) aN))) (aC (wN fTup (aC (w2x (fOwn [(41, ct_Numbers_or L)]) (w2x (fOwn [(41, ct_Numbers_or L)]) (wV 1) (wV 2)) (wV 3)) (aC (w2x (fOwn [(41, ct_Numbers_or L)]) (wV 1) (w2x (fOwn [(41, ct_Numbers_or L)]) (wV 2) (wV 3))) aN))) aN))))))
section
variable {L : Lw} {f g h : Nat → Bool} {a b d : Pts} {D0 : De} {μ : Mu} {n : Nat} {q r s : Sl}
abbrev S07 (n : Nat) (a b d : Pts) (rw q r s : Sl) : List Sl := [.sh (.cel n), .sh (setD a), .sh (setD b), .sh (setD d), .no, .sh (setD noneP), rw, .no, .no, q, r, s]
def AllR (m : Nat) (xs : List D) : Prop := (∀ r ∈ xs, Rw r) ∧ xs.length ≤ m
theorem r07_0_use (hc : L.cs.contains 41 = true) (ha : St f a) (hb : St g b) (hd : St h d) (k : ∀ xs, AllR 3 xs → D0.nx (S07 n a b d (.sh (.lst xs)) q r s) μ) : r07_0 L D0 (S07 n a b d .no q r s) μ := by
  obtain ⟨nx, rt, ex, ct, bk⟩ := D0
  refine ⟨_, rfl, ha.ok, ?_⟩
  refine ⟨_, rfl, (ha.not).ok, ?_⟩
  refine ⟨(by decide : 2 ≤ sizeLine), ?_⟩
  refine ⟨rfl, _, _, rfl, ha.ok, hb.ok, hc, fun _ => ?_, fun z => absurd z (Nat.not_lt.mpr (ha.lcm hb).2)⟩
  refine ⟨_, rfl, (ha.tog hb fun a b => a || b).ok, ?_⟩
  refine ⟨_, rfl, ha.ok, ?_⟩
  refine ⟨_, rfl, hb.ok, ?_⟩
  refine ⟨rfl, _, _, rfl, (ha.not).ok, (hb.not).ok, hc, fun _ => ?_, fun z => absurd z (Nat.not_lt.mpr ((ha.not).lcm (hb.not)).2)⟩
  refine ⟨(by decide : 2 ≤ sizeLine), ?_⟩
  refine ⟨rfl, _, _, rfl, ha.ok, hb.ok, hc, fun _ => ?_, fun z => absurd z (Nat.not_lt.mpr (ha.lcm hb).2)⟩
  refine ⟨_, rfl, (ha.tog hb fun a b => a && b).ok, ?_⟩
  refine ⟨_, rfl, ha.ok, ?_⟩
  refine ⟨_, rfl, hb.ok, ?_⟩
  refine ⟨rfl, _, _, rfl, (ha.not).ok, (hb.not).ok, hc, fun _ => ?_, fun z => absurd z (Nat.not_lt.mpr ((ha.not).lcm (hb.not)).2)⟩
  refine ⟨(by decide : 2 ≤ sizeLine), ?_⟩
  refine ⟨(by decide : 3 ≤ sizeLine), ?_⟩
  refine k _ ⟨fun r hr => ?_, ?_⟩
  · simp only [List.mem_cons, List.not_mem_nil, or_false] at hr
    rcases hr with rfl | rfl | rfl
    · exact rw_of ((ha.not).not) ha (fun n _ => by first | rfl | (cases f n <;> cases g n <;> cases h n <;> rfl))
    · exact rw_of ((ha.tog hb fun a b => a || b).not) ((ha.not).tog (hb.not) fun a b => a && b) (fun n _ => by first | rfl | (cases f n <;> cases g n <;> cases h n <;> rfl))
    · exact rw_of ((ha.tog hb fun a b => a && b).not) ((ha.not).tog (hb.not) fun a b => a || b) (fun n _ => by first | rfl | (cases f n <;> cases g n <;> cases h n <;> rfl))
  · exact Nat.le_refl 3
theorem r07_1_use (hc : L.cs.contains 41 = true) (ha : St f a) (hb : St g b) (hd : St h d) {xs : List D} (hx : AllR 3 xs) (k : ∀ xs, AllR 5 xs → D0.nx (S07 n a b d (.sh (.lst xs)) q r s) μ) : r07_1 L D0 (S07 n a b d (.sh (.lst xs)) q r s) μ := by
  obtain ⟨nx, rt, ex, ct, bk⟩ := D0
  refine ⟨rfl, _, _, rfl, ha.ok, hb.ok, hc, fun _ => ?_, fun z => absurd z (Nat.not_lt.mpr (ha.lcm hb).2)⟩
  refine ⟨_, rfl, hb.ok, ?_⟩
  refine ⟨rfl, _, _, rfl, ha.ok, (hb.not).ok, hc, fun _ => ?_, fun z => absurd z (Nat.not_lt.mpr (ha.lcm (hb.not)).2)⟩
  refine ⟨(by decide : 2 ≤ sizeLine), ?_⟩
  refine ⟨rfl, _, _, rfl, ha.ok, hb.ok, hc, fun _ => ?_, fun z => absurd z (Nat.not_lt.mpr (ha.lcm hb).2)⟩
  refine ⟨rfl, _, _, rfl, ha.ok, hb.ok, hc, fun _ => ?_, fun z => absurd z (Nat.not_lt.mpr (ha.lcm hb).2)⟩
  refine ⟨rfl, _, _, rfl, ha.ok, hb.ok, hc, fun _ => ?_, fun z => absurd z (Nat.not_lt.mpr (ha.lcm hb).2)⟩
  refine ⟨rfl, _, _, rfl, (ha.tog hb fun a b => a || b).ok, (ha.tog hb fun a b => a && b).ok, hc, fun _ => ?_, fun z => absurd z (Nat.not_lt.mpr ((ha.tog hb fun a b => a || b).lcm (ha.tog hb fun a b => a && b)).2)⟩
  refine ⟨(by decide : 2 ≤ sizeLine), ?_⟩
  refine ⟨(by decide : 2 ≤ sizeLine), ?_⟩
  refine ⟨?_, ?_⟩
  · have := hx.2
    show xs.length + 2 ≤ sizeLine
    exact Nat.le_trans (by omega : _ ≤ 1000) (by decide)
  refine k _ ⟨fun r hr => ?_, ?_⟩
  · rcases List.mem_append.mp hr with z | z
    · exact hx.1 r z
    · simp only [List.mem_cons, List.not_mem_nil, or_false] at z
      rcases z with rfl | rfl
      · exact rw_of (ha.tog hb fun a b => a && !b) (ha.tog (hb.not) fun a b => a && b) (fun n _ => by first | rfl | (cases f n <;> cases g n <;> cases h n <;> rfl))
      · exact rw_of (ha.tog hb fun a b => !(decide (a = b))) ((ha.tog hb fun a b => a || b).tog (ha.tog hb fun a b => a && b) fun a b => a && !b) (fun n _ => by first | rfl | (cases f n <;> cases g n <;> cases h n <;> rfl))
  · rw [List.length_append]; exact Nat.add_le_add hx.2 (Nat.le_refl 2)
theorem r07_2_use (hc : L.cs.contains 41 = true) (ha : St f a) (hb : St g b) (hd : St h d) {xs : List D} (hx : AllR 5 xs) (k : ∀ xs, AllR 7 xs → D0.nx (S07 n a b d (.sh (.lst xs)) q r s) μ) : r07_2 L D0 (S07 n a b d (.sh (.lst xs)) q r s) μ := by
  obtain ⟨nx, rt, ex, ct, bk⟩ := D0
  refine ⟨rfl, _, _, rfl, hb.ok, hd.ok, hc, fun _ => ?_, fun z => absurd z (Nat.not_lt.mpr (hb.lcm hd).2)⟩
  refine ⟨rfl, _, _, rfl, ha.ok, (hb.tog hd fun a b => a || b).ok, hc, fun _ => ?_, fun z => absurd z (Nat.not_lt.mpr (ha.lcm (hb.tog hd fun a b => a || b)).2)⟩
  refine ⟨rfl, _, _, rfl, ha.ok, hb.ok, hc, fun _ => ?_, fun z => absurd z (Nat.not_lt.mpr (ha.lcm hb).2)⟩
  refine ⟨rfl, _, _, rfl, ha.ok, hd.ok, hc, fun _ => ?_, fun z => absurd z (Nat.not_lt.mpr (ha.lcm hd).2)⟩
  refine ⟨rfl, _, _, rfl, (ha.tog hb fun a b => a && b).ok, (ha.tog hd fun a b => a && b).ok, hc, fun _ => ?_, fun z => absurd z (Nat.not_lt.mpr ((ha.tog hb fun a b => a && b).lcm (ha.tog hd fun a b => a && b)).2)⟩
  refine ⟨(by decide : 2 ≤ sizeLine), ?_⟩
  refine ⟨rfl, _, _, rfl, ha.ok, hb.ok, hc, fun _ => ?_, fun z => absurd z (Nat.not_lt.mpr (ha.lcm hb).2)⟩
  refine ⟨rfl, _, _, rfl, (ha.tog hb fun a b => !(decide (a = b))).ok, hb.ok, hc, fun _ => ?_, fun z => absurd z (Nat.not_lt.mpr ((ha.tog hb fun a b => !(decide (a = b))).lcm hb).2)⟩
  refine ⟨(by decide : 2 ≤ sizeLine), ?_⟩
  refine ⟨(by decide : 2 ≤ sizeLine), ?_⟩
  refine ⟨?_, ?_⟩
  · have := hx.2
    show xs.length + 2 ≤ sizeLine
    exact Nat.le_trans (by omega : _ ≤ 1000) (by decide)
  refine k _ ⟨fun r hr => ?_, ?_⟩
  · rcases List.mem_append.mp hr with z | z
    · exact hx.1 r z
    · simp only [List.mem_cons, List.not_mem_nil, or_false] at z
      rcases z with rfl | rfl
      · exact rw_of (ha.tog (hb.tog hd fun a b => a || b) fun a b => a && b) ((ha.tog hb fun a b => a && b).tog (ha.tog hd fun a b => a && b) fun a b => a || b) (fun n _ => by first | rfl | (cases f n <;> cases g n <;> cases h n <;> rfl))
      · exact rw_of ((ha.tog hb fun a b => !(decide (a = b))).tog hb fun a b => !(decide (a = b))) ha (fun n _ => by first | rfl | (cases f n <;> cases g n <;> cases h n <;> rfl))
  · rw [List.length_append]; exact Nat.add_le_add hx.2 (Nat.le_refl 2)
theorem r07_3_use (hc : L.cs.contains 41 = true) (ha : St f a) (hb : St g b) (hd : St h d) {xs : List D} (hx : AllR 7 xs) (k : ∀ xs, AllR 9 xs → D0.nx (S07 n a b d (.sh (.lst xs)) q r s) μ) : r07_3 L D0 (S07 n a b d (.sh (.lst xs)) q r s) μ := by
  obtain ⟨nx, rt, ex, ct, bk⟩ := D0
  refine ⟨rfl, _, _, rfl, hb.ok, hd.ok, hc, fun _ => ?_, fun z => absurd z (Nat.not_lt.mpr (hb.lcm hd).2)⟩
  refine ⟨rfl, _, _, rfl, ha.ok, (hb.tog hd fun a b => a && b).ok, hc, fun _ => ?_, fun z => absurd z (Nat.not_lt.mpr (ha.lcm (hb.tog hd fun a b => a && b)).2)⟩
  refine ⟨rfl, _, _, rfl, ha.ok, hb.ok, hc, fun _ => ?_, fun z => absurd z (Nat.not_lt.mpr (ha.lcm hb).2)⟩
  refine ⟨rfl, _, _, rfl, ha.ok, hd.ok, hc, fun _ => ?_, fun z => absurd z (Nat.not_lt.mpr (ha.lcm hd).2)⟩
  refine ⟨rfl, _, _, rfl, (ha.tog hb fun a b => a || b).ok, (ha.tog hd fun a b => a || b).ok, hc, fun _ => ?_, fun z => absurd z (Nat.not_lt.mpr ((ha.tog hb fun a b => a || b).lcm (ha.tog hd fun a b => a || b)).2)⟩
  refine ⟨(by decide : 2 ≤ sizeLine), ?_⟩
  refine ⟨_, rfl, ha.ok, ?_⟩
  refine ⟨rfl, _, _, rfl, ha.ok, (ha.not).ok, hc, fun _ => ?_, fun z => absurd z (Nat.not_lt.mpr (ha.lcm (ha.not)).2)⟩
  refine ⟨(by decide : 2 ≤ sizeLine), ?_⟩
  refine ⟨(by decide : 2 ≤ sizeLine), ?_⟩
  refine ⟨?_, ?_⟩
  · have := hx.2
    show xs.length + 2 ≤ sizeLine
    exact Nat.le_trans (by omega : _ ≤ 1000) (by decide)
  refine k _ ⟨fun r hr => ?_, ?_⟩
  · rcases List.mem_append.mp hr with z | z
    · exact hx.1 r z
    · simp only [List.mem_cons, List.not_mem_nil, or_false] at z
      rcases z with rfl | rfl
      · exact rw_of (ha.tog (hb.tog hd fun a b => a && b) fun a b => a || b) ((ha.tog hb fun a b => a || b).tog (ha.tog hd fun a b => a || b) fun a b => a && b) (fun n _ => by first | rfl | (cases f n <;> cases g n <;> cases h n <;> rfl))
      · exact rw_of (ha.tog (ha.not) fun a b => a && b) st_none (fun n _ => by first | rfl | (cases f n <;> cases g n <;> cases h n <;> rfl))
  · rw [List.length_append]; exact Nat.add_le_add hx.2 (Nat.le_refl 2)
theorem r07_4_use (hc : L.cs.contains 41 = true) (ha : St f a) (hb : St g b) (hd : St h d) {xs : List D} (hx : AllR 9 xs) (k : ∀ xs, AllR 12 xs → D0.nx (S07 n a b d (.sh (.lst xs)) q r s) μ) : r07_4 L D0 (S07 n a b d (.sh (.lst xs)) q r s) μ := by
  obtain ⟨nx, rt, ex, ct, bk⟩ := D0
  refine ⟨_, rfl, ha.ok, ?_⟩
  refine ⟨rfl, _, _, rfl, ha.ok, (ha.not).ok, hc, fun _ => ?_, fun z => absurd z (Nat.not_lt.mpr (ha.lcm (ha.not)).2)⟩
  refine ⟨_, rfl, st_none.ok, ?_⟩
  refine ⟨(by decide : 2 ≤ sizeLine), ?_⟩
  refine ⟨rfl, _, _, rfl, ha.ok, ha.ok, hc, fun _ => ?_, fun z => absurd z (Nat.not_lt.mpr (ha.lcm ha).2)⟩
  refine ⟨(by decide : 2 ≤ sizeLine), ?_⟩
  refine ⟨rfl, _, _, rfl, ha.ok, hb.ok, hc, fun _ => ?_, fun z => absurd z (Nat.not_lt.mpr (ha.lcm hb).2)⟩
  refine ⟨rfl, _, _, rfl, (ha.tog hb fun a b => a || b).ok, hd.ok, hc, fun _ => ?_, fun z => absurd z (Nat.not_lt.mpr ((ha.tog hb fun a b => a || b).lcm hd).2)⟩
  refine ⟨rfl, _, _, rfl, hb.ok, hd.ok, hc, fun _ => ?_, fun z => absurd z (Nat.not_lt.mpr (hb.lcm hd).2)⟩
  refine ⟨rfl, _, _, rfl, ha.ok, (hb.tog hd fun a b => a || b).ok, hc, fun _ => ?_, fun z => absurd z (Nat.not_lt.mpr (ha.lcm (hb.tog hd fun a b => a || b)).2)⟩
  refine ⟨(by decide : 2 ≤ sizeLine), ?_⟩
  refine ⟨(by decide : 3 ≤ sizeLine), ?_⟩
  refine ⟨?_, ?_⟩
  · have := hx.2
    show xs.length + 3 ≤ sizeLine
    exact Nat.le_trans (by omega : _ ≤ 1000) (by decide)
  refine k _ ⟨fun r hr => ?_, ?_⟩
  · rcases List.mem_append.mp hr with z | z
    · exact hx.1 r z
    · simp only [List.mem_cons, List.not_mem_nil, or_false] at z
      rcases z with rfl | rfl | rfl
      · exact rw_of (ha.tog (ha.not) fun a b => a || b) (st_none.not) (fun n _ => by first | rfl | (cases f n <;> cases g n <;> cases h n <;> rfl))
      · exact rw_of (ha.tog ha fun a b => a && !b) st_none (fun n _ => by first | rfl | (cases f n <;> cases g n <;> cases h n <;> rfl))
      · exact rw_of ((ha.tog hb fun a b => a || b).tog hd fun a b => a || b) (ha.tog (hb.tog hd fun a b => a || b) fun a b => a || b) (fun n _ => by first | rfl | (cases f n <;> cases g n <;> cases h n <;> rfl))
  · rw [List.length_append]; exact Nat.add_le_add hx.2 (Nat.le_refl 3)
end
end Sk
namespace Sk
open PySem PySem.Spec PyProof.Rows L2 Dk He
/-! ### k07: what is told of them -/
theorem ends_iff {f : Nat → Bool} {z : Pts} (c : Canon f z) : z.rs.isEmpty = true ↔ ∀ n, z.f ≤ n → f n = false := by
  have f1 := c.f1
  rw [List.isEmpty_iff]
  constructor
  · intro h n hn
    rw [← c.inB (by omega)]
    unfold Pts.inB
    rw [if_neg (by omega), h]
    rfl
  · intro h
    rw [c.rs, List.filter_eq_nil_iff]
    intro r hr
    have : z.f ≤ z.f * z.p := Nat.le_mul_of_pos_right _ c.p1
    rw [h _ (by omega)]
    exact Bool.false_ne_true
theorem ends_rng {f : Nat → Bool} {z : Pts} (h : St f z) : z.rs.isEmpty = ((List.range' (max 1 9000) (9999 - max 1 9000)).filter f).isEmpty := by
  rw [Bool.eq_iff_iff, ends_iff h.c, List.isEmpty_iff, List.filter_eq_nil_iff]
  have hl := h.l
  constructor
  · intro k n hn
    have := (List.mem_range'_1.mp hn).1
    rw [k n (by omega)]
    exact Bool.false_ne_true
  · intro k n hn
    have e : f n = f (9000 + n % 120) := (h.c.per.dvd h.d).cong hn (by omega) (by omega)
    have := k (9000 + n % 120) (List.mem_range'_1.mpr ⟨by omega, by omega⟩)
    rw [e]
    simpa using this
theorem rng_of {l h l' h' : Nat} (e1 : D.int (l : Int) = .int (l' : Int)) (e2 : D.int (h : Int) = .int (h' : Int)) : l = l' ∧ h = h' := by
  have e1 : (l : Int) = l' := by injection e1
  have e2 : (h : Int) = h' := by injection e2
  exact ⟨by omega, by omega⟩
theorem no_end {l h : Nat} (hl : l ≤ 9999) (hh : h ≤ 9999) (z : (isEnd (.int (l : Int)) && isEnd (.int (h : Int))) = false) : False := by
  have z : ((decide ((0 : Int) ≤ l) && decide ((l : Int) ≤ 9999)) && (decide ((0 : Int) ≤ h) && decide ((h : Int) ≤ 9999))) = false := z
  rw [decide_eq_true (by omega), decide_eq_true (by omega), decide_eq_true (by omega), decide_eq_true (by omega)] at z
  cases z
theorem two_okR {l h : Nat} (hl : l ≤ 9999) (hh : h ≤ 9999) : (D.tup [.int (l : Int), .int (h : Int)]).okR := OkV.two (L := ⟨[], []⟩) (okv_int (by omega)) (okv_int (by omega))
theorem asc_ext {ns ms : List Int} (h : ns.Pairwise (· < ·)) (k : ms.Pairwise (· < ·)) (e : ∀ j, j ∈ ns ↔ j ∈ ms) : ns = ms := by
  have p : ns.Perm ms := (List.perm_ext_iff_of_nodup (h.imp fun z => Int.ne_of_lt z) (k.imp fun z => Int.ne_of_lt z)).mpr e
  exact List.Perm.eq_of_pairwise (le := (· ≤ ·)) (fun a b _ _ h1 h2 => Int.le_antisymm h1 h2) (h.imp fun z => Int.le_of_lt z) (k.imp fun z => Int.le_of_lt z) p
theorem cq_nats_t (ns : List Nat) : (D.tup (natsD ns)).cq := ⟨plqA_nats ns, by show D.depA _ + 1 ≤ 64; rw [depA_nats]; decide⟩
theorem fEq_nats {ns : List Nat} {Q : D → Prop} (q : Q (.bl true)) : fEq (.tup (natsD ns)) (.tup (natsD ns)) Q := by
  have : eqD (.tup (natsD ns)) (.tup (natsD ns)) = some true := by
    rw [eqD_of (cq_nats_t ns) (cq_nats_t ns)]
    show some (eqvL (natsD ns) (natsD ns)) = _
    rw [eqvL_nats, decide_eq_true rfl]
  rw [fEq_of this]
  exact q
theorem lack_t {f g : Nat → Bool} {x y : Pts} (hx : St f x) (hy : St g y) (h : ∀ n, 1 ≤ n → (f n && !g n) = false) : lackB (together (fun a b => a && !b) x y) = true := (lack_iff (hx.tog hy _).c).mpr h
theorem lack_or {f g : Nat → Bool} {x y : Pts} (hx : St f x) (hy : St g y) : lackB (together (fun a b => a && !b) x y) = decide (together (fun a b => a || b) x y = y) := by
  rw [Bool.eq_iff_iff, lack_iff (hx.tog hy _).c, decide_eq_true_eq]
  constructor
  · intro h
    refine (hx.tog hy fun a b => a || b).eq hy fun n hn => ?_
    have := h n hn
    revert this
    cases f n <;> cases g n <;> simp
  · intro h n hn
    have e := (hx.tog hy fun a b => a || b).c.inB hn
    rw [h, hy.c.inB hn] at e
    revert e
    cases f n <;> cases g n <;> simp
theorem lack_both {f g : Nat → Bool} {x y : Pts} (hx : St f x) (hy : St g y) : (lackB (together (fun a b => a && !b) x y) && lackB (together (fun a b => a && !b) y x)) = decide (x = y) := by
  rw [Bool.eq_iff_iff, Bool.and_eq_true, lack_iff (hx.tog hy _).c, lack_iff (hy.tog hx _).c, decide_eq_true_eq]
  constructor
  · rintro ⟨h, k⟩
    refine hx.eq hy fun n hn => ?_
    have a := h n hn
    have b := k n hn
    revert a b
    cases f n <;> cases g n <;> simp
  · intro h
    subst h
    have e : ∀ n, 1 ≤ n → f n = g n := fun n hn => by rw [← hx.c.inB hn, ← hy.c.inB hn]
    exact ⟨fun n hn => by rw [e n hn]; cases g n <;> rfl, fun n hn => by rw [e n hn]; cases g n <;> rfl⟩
abbrev q7 (L : Lw) : Ws := (sIf (tNt (tB0 (wN fAll (aC (wL (wLc (iL (wV 6)) (gT [7, 8]) tY (wAn (w2x (fOwnA (okL L) [(41, ct_Numbers_eq L)]) (wV 7) (wV 8)) (w2 fEq (wProp [(41, ct_Numbers_text L)] (wV 7)) (wProp [(41, ct_Numbers_text L)] (wV 8)))) [7, 8])) aN)))) (sRet (wC (.bl false))) sN)
abbrev q8 (L : Lw) : Ws := (sIf (tOrr (tNt (tB0 (wMeth [(41, ct_Numbers_lies_in L)] (w2x (fOwn [(41, ct_Numbers_and L)]) (wV 1) (wV 2)) (aC (wV 1) aN)))) (tOrr (tNt (tB0 (wMeth [(41, ct_Numbers_lies_in L)] (wV 1) (aC (w2x (fOwn [(41, ct_Numbers_or L)]) (wV 1) (wV 2)) aN)))) (tNt (tB0 (wMeth [(41, ct_Numbers_lies_in L)] (wV 5) (aC (wV 1) aN)))))) (sRet (wC (.bl false))) sN)
abbrev q9 (L : Lw) : Ws := (sIf (tOrr (tB0 (w2 fNe (wMeth [(41, ct_Numbers_lies_in L)] (wV 1) (aC (wV 2) aN)) (w2x (fOwnA (okL L) [(41, ct_Numbers_eq L)]) (w2x (fOwn [(41, ct_Numbers_or L)]) (wV 1) (wV 2)) (wV 2)))) (tNt (tB0 (wMeth [(41, ct_Numbers_lies_in L)] (wV 1) (aC (wU [(41, ct_Numbers_invert L)] (wV 5)) aN))))) (sRet (wC (.bl false))) sN)
abbrev q10 (L : Lw) : Ws := (sIf (tB0 (w2 fNe (wAn (wMeth [(41, ct_Numbers_lies_in L)] (wV 1) (aC (wV 2) aN)) (wMeth [(41, ct_Numbers_lies_in L)] (wV 2) (aC (wV 1) aN))) (w2x (fOwnA (okL L) [(41, ct_Numbers_eq L)]) (wV 1) (wV 2)))) (sRet (wC (.bl false))) sN)
abbrev q11 (L : Lw) : Ws := (sIf (tOrr (tB0 (w2 fNe (wProp [(41, ct_Numbers_is_endless L)] (wV 1)) (w2 fNe (wMeth [(41, ct_Numbers_within L)] (wV 1) (aC (wC (.int 9000)) (aC (wC (.int 9999)) aN))) (wN fTup aN)))) (tNt (tOrr (tB0 (wProp [(41, ct_Numbers_is_endless L)] (wU [(41, ct_Numbers_invert L)] (wV 1)))) (tB0 (wProp [(41, ct_Numbers_is_endless L)] (wV 1)))))) (sRet (wC (.bl false))) sN)
section
variable {L : Lw} {f g h : Nat → Bool} {a b d : Pts} {D0 : De} {μ : Mu} {n : Nat} {q r s : Sl} {xs : List D}
theorem q7_use (hc : L.cs.contains 41 = true) {m : Nat} (hm : m ≤ 1000) (hx : AllR m xs) (k : D0.nx (S07 n a b d (.sh (.lst xs)) q r s) μ) : q7 L D0 (S07 n a b d (.sh (.lst xs)) q r s) μ := by
  obtain ⟨nx, rt, ex, ct, bk⟩ := D0
  refine lcL_map (enc := fun d : D => d) (f := fun d => .bl true) xs (by simp) (fun v hv P hP => ?_) (Nat.le_trans hx.2 (Nat.le_trans hm (by decide))) ?_
  · obtain ⟨z, rfl, ok⟩ := hx.1 v hv
    refine ⟨rfl, ⟨.cl 41, rfl, hc⟩, .inl ⟨z, z, rfl, hc, ?_⟩⟩
    rw [decide_eq_true rfl]
    refine ⟨z, rfl, ok, z, rfl, ok, ?_⟩
    dsimp only
    rw [fEq_of (eqStr (text_sok z))]
    exact hP
  · dsimp only [aN]
    rw [fAll_f (p := fun _ => true)]
    have e : xs.all (fun _ => true) = true := by simp
    rw [e]
    exact k
theorem q8_use (hc : L.cs.contains 41 = true) (ha : St f a) (hb : St g b) (k : D0.nx (S07 n a b d (.sh (.lst xs)) q r s) μ) : q8 L D0 (S07 n a b d (.sh (.lst xs)) q r s) μ := by
  obtain ⟨nx, rt, ex, ct, bk⟩ := D0
  refine ⟨rfl, _, _, rfl, ha.ok, hb.ok, hc, fun _ => ?_, fun z => absurd z (Nat.not_lt.mpr (ha.lcm hb).2)⟩
  have hab := ha.tog hb fun a b => a && b
  have hob := ha.tog hb fun a b => a || b
  refine .inl ⟨_, _, rfl, hab.ok, ha.ok, hc, fun _ => ?_, fun z => absurd z (Nat.not_lt.mpr (hab.lcm ha).2)⟩
  rw [lack_t hab ha fun n _ => by cases f n <;> cases g n <;> rfl]
  refine ⟨rfl, _, _, rfl, ha.ok, hb.ok, hc, fun _ => ?_, fun z => absurd z (Nat.not_lt.mpr (ha.lcm hb).2)⟩
  refine .inl ⟨_, _, rfl, ha.ok, hob.ok, hc, fun _ => ?_, fun z => absurd z (Nat.not_lt.mpr (ha.lcm hob).2)⟩
  rw [lack_t ha hob fun n _ => by cases f n <;> cases g n <;> rfl]
  refine .inl ⟨_, _, rfl, st_none.ok, ha.ok, hc, fun _ => ?_, fun z => absurd z (Nat.not_lt.mpr (st_none.lcm ha).2)⟩
  rw [lack_t st_none ha fun n _ => rfl]
  exact k
theorem q9_use (hc : L.cs.contains 41 = true) (ha : St f a) (hb : St g b) (k : D0.nx (S07 n a b d (.sh (.lst xs)) q r s) μ) : q9 L D0 (S07 n a b d (.sh (.lst xs)) q r s) μ := by
  obtain ⟨nx, rt, ex, ct, bk⟩ := D0
  refine .inl ⟨_, _, rfl, ha.ok, hb.ok, hc, fun _ => ?_, fun z => absurd z (Nat.not_lt.mpr (ha.lcm hb).2)⟩
  refine ⟨rfl, _, _, rfl, ha.ok, hb.ok, hc, fun _ => ?_, fun z => absurd z (Nat.not_lt.mpr (ha.lcm hb).2)⟩
  refine ⟨⟨.cl 41, rfl, hc⟩, .inl ⟨_, _, rfl, hc, ?_⟩⟩
  rw [lack_or ha hb]
  dsimp only
  rw [fNe_of (eqD_bl _ _), decide_eq_true rfl]
  refine ⟨_, rfl, st_none.ok, ?_⟩
  have hn := st_none.not
  refine .inl ⟨_, _, rfl, ha.ok, hn.ok, hc, fun _ => ?_, fun z => absurd z (Nat.not_lt.mpr (ha.lcm hn).2)⟩
  rw [lack_t ha hn fun n _ => by cases f n <;> rfl]
  exact k
theorem q10_use (hc : L.cs.contains 41 = true) (ha : St f a) (hb : St g b) (k : D0.nx (S07 n a b d (.sh (.lst xs)) q r s) μ) : q10 L D0 (S07 n a b d (.sh (.lst xs)) q r s) μ := by
  obtain ⟨nx, rt, ex, ct, bk⟩ := D0
  have key := lack_both ha hb
  refine .inl ⟨_, _, rfl, ha.ok, hb.ok, hc, fun _ => ?_, fun z => absurd z (Nat.not_lt.mpr (ha.lcm hb).2)⟩
  cases e : lackB (together (fun a b => a && !b) a b) with
  | false =>
    rw [e, Bool.false_and] at key
    refine ⟨⟨.cl 41, rfl, hc⟩, .inl ⟨_, _, rfl, hc, ?_⟩⟩
    rw [← key]
    dsimp only
    rw [fNe_of (eqD_bl _ _)]
    exact k
  | true =>
    rw [e, Bool.true_and] at key
    refine .inl ⟨_, _, rfl, hb.ok, ha.ok, hc, fun _ => ?_, fun z => absurd z (Nat.not_lt.mpr (hb.lcm ha).2)⟩
    refine ⟨⟨.cl 41, rfl, hc⟩, .inl ⟨_, _, rfl, hc, ?_⟩⟩
    rw [key]
    dsimp only
    rw [fNe_of (eqD_bl _ _), decide_eq_true rfl]
    exact k
theorem q11_use {x : Pts} (ok : x.Ok) (ha : St x.inB x.lst) (k : D0.nx (S07 n x.lst b d (.sh (.lst xs)) q r s) μ) : q11 L D0 (S07 n x.lst b d (.sh (.lst xs)) q r s) μ := by
  obtain ⟨nx, rt, ex, ct, bk⟩ := D0
  refine ⟨x.lst, rfl, ?_⟩
  refine ⟨x, _, _, rfl, ok, okd_int, okd_int, two_okR (l := 9000) (h := 9999) (by decide) (by decide), fun l h e1 e2 _ _ => ?_, fun z => (no_end (l := 9000) (h := 9999) (by decide) (by decide) z).elim⟩
  obtain ⟨rfl, rfl⟩ := rng_of (l := 9000) (h := 9999) e1 e2
  refine ⟨by decide, ?_⟩
  refine fNe_nats ?_
  rw [← ends_rng ha]
  dsimp only
  rw [fNe_of (eqD_bl _ _), decide_eq_true rfl]
  refine ⟨_, rfl, ha.ok, _, rfl, ?_⟩
  have hn := ha.not
  cases e : (together (fun a b => a && !b) allP x.lst).rs.isEmpty with
  | false => exact k
  | true =>
    refine ⟨x.lst, rfl, ?_⟩
    have h1 := (ends_iff hn.c).mp e
    cases e2 : x.lst.rs.isEmpty with
    | false => exact k
    | true =>
      have h2 := (ends_iff ha.c).mp e2
      have := h1 100 (by have := hn.l; omega)
      rw [h2 100 (by have := ha.l; omega)] at this
      cases this
end
end Sk
namespace Sk
open PySem PySem.Spec PyProof.Rows L2 Dk He
/-! ### k07: the law -/
theorem text_asc2 {x : Pts} (ok : x.Ok) (hf : x.f ≤ 20) (hp : x.p ≤ 12) : Asc 600 (setText x) := by
  have hl := len_asc ok.ha ok.hb
  have rl := len_asc (a := 0) ok.ra fun n hn => ⟨Nat.zero_le _, ok.rb n hn⟩
  unfold setText
  split
  · exact asc_of (by decide +kernel)
  · exact (join_asc (words_wds ok)).mono (by omega)
def rngL (f : Nat → Bool) (l h : Nat) : List Nat := (List.range' (max 1 l) (h - max 1 l)).filter f
theorem rngL_len (f : Nat → Bool) {l h : Nat} (hh : h ≤ 80) : (rngL f l h).length ≤ 100 := by
  have := List.length_filter_le f (List.range' (max 1 l) (h - max 1 l))
  rw [List.length_range'] at this
  unfold rngL
  omega
theorem rngL_mem {f : Nat → Bool} {l h m : Nat} : m ∈ rngL f l h ↔ (max 1 l ≤ m ∧ m < h) ∧ f m = true := by
  unfold rngL
  rw [List.mem_filter, List.mem_range'_1]
  constructor
  · rintro ⟨a, b⟩; exact ⟨by omega, b⟩
  · rintro ⟨a, b⟩; exact ⟨by omega, b⟩
def intL (ns : List Nat) : List Int := ns.map fun (n : Nat) => (n : Int)
theorem intL_mem {ns : List Nat} {j : Int} : j ∈ intL ns ↔ ∃ m ∈ ns, (m : Int) = j := List.mem_map
theorem both_rng {f g : Nat → Bool} {l h : Nat} {ns : List Int} (asc : ns.Pairwise (· < ·)) (mem : ∀ j, j ∈ ns ↔ j ∈ intL (rngL f l h ++ rngL g l h)) : ns = intL (rngL (fun n => f n || g n) l h) := by
  refine asc_ext asc ?_ fun j => ?_
  · unfold intL rngL
    rw [List.pairwise_map]
    exact (asc_filter _ _ _).imp fun z => by omega
  · rw [mem j, intL_mem, intL_mem]
    constructor
    · rintro ⟨m, hm, rfl⟩
      refine ⟨m, ?_, rfl⟩
      rw [rngL_mem]
      rcases List.mem_append.mp hm with z | z
      · rw [rngL_mem] at z; exact ⟨z.1, by rw [z.2]; rfl⟩
      · rw [rngL_mem] at z; exact ⟨z.1, by rw [z.2]; exact Bool.or_true _⟩
    · rintro ⟨m, hm, rfl⟩
      refine ⟨m, ?_, rfl⟩
      rw [rngL_mem] at hm
      rw [List.mem_append, rngL_mem, rngL_mem]
      obtain ⟨h1, h2⟩ := hm
      rw [Bool.or_eq_true] at h2
      exact h2.imp (fun z => ⟨h1, z⟩) fun z => ⟨h1, z⟩
theorem rng_canon {f : Nat → Bool} {w : Pts} (h : St f w) (l k : Nat) : w.rng l k = .tup (natsD (rngL f l k)) := by
  unfold Pts.rng rngL
  congr 2
  apply List.filter_congr
  intro n hn
  exact h.c.inB (by have := (List.mem_range'_1.mp hn).1; omega)
def ct_law_right (L : Lw) : Ct := fun ds μ Q E => ∃ n k : Nat, ds = [.cel n] ∧ μ[n]? = some (.pt k) ∧ k < 2 ^ 50 ∧ L.cs.contains 41 = true ∧ ∀ μ', Q (.bl true) μ'
abbrev N_law_right : List Str := ["_law_pot_here", "_law_one", "_law_other", "_law_third", "_law_lap", "_law_none", "_law_rows", "_law_left", "_law_right_here", "_law_low", "_law_high", "_law_both"]
abbrev u1 (L : Lw) : Ws := (sUnp (gT [1, 2, 3]) (wL (wLc (iR1 (aC (wC (.int 3)) aN)) (gN 4) tY (wCall (ct_law_new L) (aC (wCall (ct_law_parts L) (aC (wV 0) (aC (wC (.int 20)) aN))) aN)) [4])))
abbrev u2 (L : Lw) : Ws := (sSet 5 (wMake 41 (ci_Numbers L) [.tup [], .int 1, .int 1, .tup []] aN))
abbrev q12 (L : Lw) : Ws := (sPar 9 10 (aC (wCall (ct_law_take L) (aC (wV 0) (aC (wC (.int 40)) aN))) (aC (wCall (ct_law_take L) (aC (wV 0) (aC (wC (.int 80)) aN))) aN)))
abbrev q13 (L : Lw) : Ws := (sSet 11 (wSortSet (w2 fAdd (wN fList (aC (wMeth [(41, ct_Numbers_within L)] (wV 1) (aC (wV 9) (aC (wV 10) aN))) aN)) (wN fList (aC (wMeth [(41, ct_Numbers_within L)] (wV 2) (aC (wV 9) (aC (wV 10) aN))) aN)))))
abbrev q14 (L : Lw) : Ws := (sRet (wAn (w2 fEq (wMeth [(41, ct_Numbers_within L)] (w2x (fOwn [(41, ct_Numbers_or L)]) (wV 1) (wV 2)) (aC (wV 9) (aC (wV 10) aN))) (wN fTuple (aC (wV 11) aN))) (w2x (fOwnA (okL L) [(41, ct_Numbers_eq L)]) (wCall (ct_Numbers_of L) (aC (wProp [(41, ct_Numbers_text L)] (wV 1)) aN)) (wV 1))))
def wb_law_right (L : Lw) : Ws := (sQ (u1 L) (sQ (u2 L) (sQ (r07_0 L) (sQ (r07_1 L) (sQ (r07_2 L) (sQ (r07_3 L) (sQ (r07_4 L) (sQ (q7 L) (sQ (q8 L) (sQ (q9 L) (sQ (q10 L) (sQ (q11 L) (sQ (q12 L) (sQ (q13 L) (q14 L)))))))))))))))
theorem end07 {L : Lw} {x y z : Pts} {n lo hi : Nat} {xs : List D} {μ : Mu} {Q : D → Mu → Prop} {E : Ek} (hc : L.cs.contains 41 = true) (dx : Dr 20 x) (dy : Dr 20 y) (hlo : lo ≤ 40) (hhi : hi ≤ 80) (q : Q (.bl true) μ) :
    (sQ (q13 L) (q14 L)) (deOf Q E) (S07 n x.lst y.lst z.lst (.sh (.lst xs)) (.sh (.int lo)) (.sh (.int hi)) .no) μ := by
  have ha := st_drawn dx
  have hb := st_drawn dy
  have hob := ha.tog hb fun a b => a || b
  refine ⟨x, _, _, rfl, dx.ok, okd_int, okd_int, two_okR (l := lo) (h := hi) (by omega) (by omega), fun l h e1 e2 _ _ => ?_, fun z => (no_end (l := lo) (h := hi) (by omega) (by omega) z).elim⟩
  obtain ⟨rfl, rfl⟩ := rng_of e1 e2
  refine .inr (.inl ⟨_, rfl, ?_⟩)
  refine ⟨y, _, _, rfl, dy.ok, okd_int, okd_int, two_okR (l := lo) (h := hi) (by omega) (by omega), fun l h e1 e2 _ _ => ?_, fun z => (no_end (l := lo) (h := hi) (by omega) (by omega) z).elim⟩
  obtain ⟨rfl, rfl⟩ := rng_of e1 e2
  refine .inr (.inl ⟨_, rfl, ?_⟩)
  have l1 := rngL_len x.inB (l := lo) hhi
  have l2 := rngL_len y.inB (l := lo) hhi
  refine ⟨?_, intL (rngL x.inB lo hi ++ rngL y.inB lo hi), ?_, ?_, fun ns asc mem => ?_⟩
  · show (natsD (rngL x.inB lo hi)).length + (natsD (rngL y.inB lo hi)).length ≤ sizeLine
    unfold natsD
    rw [List.length_map, List.length_map]
    exact Nat.le_trans (by omega : _ ≤ 1000) (by decide)
  · show D.lst (natsD (rngL x.inB lo hi) ++ natsD (rngL y.inB lo hi)) = _
    unfold intL natsD
    rw [List.map_map, List.map_append]
    rfl
  · unfold intL
    rw [List.length_map, List.length_append]
    omega
  have hns := both_rng asc mem
  show q14 L (deOf Q E) [.sh (.cel n), .sh (setD x.lst), .sh (setD y.lst), .sh (setD z.lst), .no, .sh (setD noneP), .sh (.lst xs), .no, .no, .sh (.int lo), .sh (.int hi), .sh (.lst (ns.map .int))] μ
  refine ⟨rfl, _, _, rfl, ha.ok, hb.ok, hc, fun _ => ?_, fun z => absurd z (Nat.not_lt.mpr (ha.lcm hb).2)⟩
  refine ⟨together (fun a b => a || b) x.lst y.lst, .int lo, .int hi, by rw [hob.lst]; rfl, hob.ok, okd_int, okd_int, two_okR (l := lo) (h := hi) (by omega) (by omega), fun l h e1 e2 _ _ => ?_, fun z => (no_end (l := lo) (h := hi) (by omega) (by omega) z).elim⟩
  obtain ⟨rfl, rfl⟩ := rng_of e1 e2
  refine .inl ⟨_, rfl, ?_⟩
  have e : ns.map D.int = natsD (rngL (fun n => x.inB n || y.inB n) lo hi) := by
    rw [hns]
    unfold intL natsD
    rw [List.map_map]
    rfl
  rw [rng_canon hob, e]
  dsimp only
  refine fEq_nats ?_
  have cl := canon_lst dx.ok
  have asc := text_asc2 ha.ok ha.l (Nat.le_trans (Nat.le_of_dvd dx.ok.p1 cl.2.2) dx.p)
  have rb := read_back ha.ok ha.lst
  refine ⟨x.lst, rfl, ha.ok, .inl ⟨_, rfl, asc.mono (by decide), fun w hw => ?_, fun hw => ?_⟩⟩
  · rw [rb] at hw
    cases hw
    refine ⟨⟨.cl 41, rfl, hc⟩, .inl ⟨_, _, rfl, hc, ?_⟩⟩
    rw [decide_eq_true rfl]
    exact q
  · rw [rb] at hw; cases hw
theorem data_law_right (L : Lw) {ds : List D} {μ : Mu} {Q : D → Mu → Prop} {E : Ek} (h : ct_law_right L ds μ Q E) : wb_law_right L (deOf Q E) (startR N_law_right ds) μ := by
  obtain ⟨n, k, rfl, hn, hk, hc, q⟩ := h
  refine ⟨by decide, by decide, n, k, 20, rfl, hn, by omega, by decide, by decide, fun x k1 dx a1 a2 => ⟨x, rfl, dx.ok, (by decide : 0 < sizeLine), n, k1, 20, rfl, set_at hn, by omega, by decide, by decide, fun y k2 dy b1 b2 => ?_⟩⟩
  refine ⟨y, rfl, dy.ok, (by decide : 1 < sizeLine), n, k2, 20, rfl, set_at (set_at hn), by omega, by decide, by decide, fun z k3 dz c1 c2 => ?_⟩
  refine ⟨z, rfl, dz.ok, (by decide : 2 < sizeLine), rfl, ?_⟩
  rw [List.set_set, List.set_set]
  have hn3 : (μ.set n (.pt k3))[n]? = some (.pt k3) := set_at hn
  generalize μ.set n (.pt k3) = μ3 at hn3
  have ha := st_drawn dx
  have hb := st_drawn dy
  have hd := st_drawn dz
  refine .inl ⟨noneP, noneP_ok, rfl, ?_⟩
  rw [noneP_lst]
  show (sQ (r07_0 L) (sQ (r07_1 L) (sQ (r07_2 L) (sQ (r07_3 L) (sQ (r07_4 L) (sQ (q7 L) (sQ (q8 L) (sQ (q9 L) (sQ (q10 L) (sQ (q11 L) (sQ (q12 L) (sQ (q13 L) (q14 L))))))))))))) (deOf Q E) (S07 n x.lst y.lst z.lst .no .no .no .no) μ3
  refine r07_0_use hc ha hb hd fun x0 h0 => r07_1_use hc ha hb hd h0 fun x1 h1 => r07_2_use hc ha hb hd h1 fun x2 h2 => r07_3_use hc ha hb hd h2 fun x3 h3 => r07_4_use hc ha hb hd h3 fun x4 h4 => q7_use hc (by decide) h4 (q8_use hc ha hb (q9_use hc ha hb (q10_use hc ha hb (q11_use dx.ok ha ?_))))
  refine ⟨n, k3, 40, rfl, hn3, by omega, by decide, by decide, fun r r0 r1 => ?_⟩
  refine ⟨n, k3 + 1, 80, rfl, set_at hn3, by omega, by decide, by decide, fun t t0 t1 => ?_⟩
  obtain ⟨lo, rfl, hlo⟩ : ∃ lo : Nat, r = (lo : Int) ∧ lo ≤ 40 := ⟨r.toNat, by omega, by omega⟩
  obtain ⟨hi, rfl, hhi⟩ : ∃ hi : Nat, t = (hi : Int) ∧ hi ≤ 80 := ⟨t.toNat, by omega, by omega⟩
  exact end07 hc dx dy hlo hhi (q _)
def ct_law (L : Lw) : Ct := fun ds μ Q E => ∃ ns, ds = [.scr ns] ∧ μ = [] ∧ L.cs.contains 41 = true ∧ ∀ μ', Q (.bl true) μ'
abbrev N_law : List Str := ["_law_script", "_law_place", "_law_pot_here"]
def wb_law (L : Lw) : Ws :=
    (sQ (sFor (iL (wCall (ct_law_cells L) (aC (wV 0) (aC (wC (.int 6)) aN)))) (gN 1) (sQ (sSet 2 (wCall (ct_law_pot L) (aC (wV 0) (aC (wV 1) aN))))
    (sIf (tNt (tB0 (wCall (ct_law_right L) (aC (wV 2) aN)))) (sRet (wC (.bl false))) sN)))
    (sRet (wC (.bl true))))
theorem data_law (L : Lw) {ds : List D} {μ : Mu} {Q : D → Mu → Prop} {E : Ek} (h : ct_law L ds μ Q E) : wb_law L (deOf Q E) (startR N_law ds) μ := by
  obtain ⟨ns, rfl, rfl, hc, q⟩ := h
  refine ⟨ns, 6, rfl, by decide, by decide, fun n hn => ?_⟩
  refine forL_inv (fun rest ρ μ => (∀ d ∈ rest, ∃ i : Nat, i < 6 ∧ d = .int i) ∧ ∃ a b, ρ = [.sh (.scr ns), a, b]) ?_ (fun ρ μ _ => q μ) ⟨fun d hd => ?_, _, _, rfl⟩
  · rintro d rest ρ μ N ⟨hr, a, b, rfl⟩ hN
    obtain ⟨i, hi, rfl⟩ := hr d (List.mem_cons_self ..)
    refine ⟨ns, _, rfl, by omega, by omega, ?_⟩
    refine ⟨μ.length, 0, rfl, by rw [List.getElem?_append_right (Nat.le_refl _), Nat.sub_self]; rfl, by decide, hc, fun μ' => ?_⟩
    exact hN _ _ ⟨fun d hd => hr d (List.mem_cons_of_mem _ hd), _, _, rfl⟩
  · obtain ⟨i, hi, rfl⟩ := rg_mem hd
    exact ⟨i, by have : (6 : Int).toNat = 6 := rfl; omega, by rw [Int.zero_add]⟩
end Sk
namespace K07
open PySem PySem.Spec PyProof.Rows L2 Dk He Sk
def top (i : Nat) : Stmt := PySem.Challenge.pw_skipround_k07_whole_algebra_of_sets.main.body.getD i (.Pass ⟨0, 0, 0, 0⟩)
abbrev s_law_cells : Stmt := top 48
abbrev s_law_pot : Stmt := top 45
abbrev s_is_integer : Stmt := top 14
abbrev s_is_between : Stmt := top 15
abbrev s_do_ascend : Stmt := top 16
abbrev s_are_numbers : Stmt := top 17
abbrev s_are_parts : Stmt := top 39
abbrev s_least_ring : Stmt := top 8
abbrev s_ring_of : Stmt := top 9
abbrev s_least_first : Stmt := top 10
abbrev s_least_parts : Stmt := top 35
abbrev s_is_in : Stmt := top 34
abbrev s_Numbers_init : Stmt := inClass (top 40) 0
abbrev s_law_new : Stmt := top 50
abbrev s_law_take : Stmt := top 46
abbrev s_law_of : Stmt := top 47
abbrev s_law_parts : Stmt := top 49
abbrev s_common_of : Stmt := top 19
abbrev s_multiple_of : Stmt := top 20
abbrev s_common_period : Stmt := top 38
abbrev s_is_by : Stmt := top 36
abbrev s_put_together : Stmt := top 37
abbrev s_Numbers_writing : Stmt := inClass (top 40) 9
abbrev s_Numbers_or : Stmt := inClass (top 40) 16
abbrev s_Numbers_invert : Stmt := inClass (top 40) 20
abbrev s_Numbers_and : Stmt := inClass (top 40) 17
abbrev s_Numbers_sub : Stmt := inClass (top 40) 18
abbrev s_Numbers_xor : Stmt := inClass (top 40) 19
abbrev s_Numbers_text : Stmt := inClass (top 40) 7
abbrev s_Numbers_eq : Stmt := inClass (top 40) 15
abbrev s_Numbers_lies_in : Stmt := inClass (top 40) 21
abbrev s_Numbers_is_endless : Stmt := inClass (top 40) 5
abbrev s_Numbers_within : Stmt := inClass (top 40) 13
abbrev s_figures_in : Stmt := top 18
abbrev s_integers_in : Stmt := top 41
abbrev s_parts_in : Stmt := top 42
abbrev s_numbers_in : Stmt := top 43
abbrev s_Numbers_of : Stmt := inClass (top 40) 8
abbrev s_law_right : Stmt := top 51
abbrev s_law : Stmt := top 52
abbrev L : Lw := ⟨[41], [0, 1, 2, 4, 5]⟩
abbrev TT (K : PySem.W.Frag) : List (Addr × Str) := []
abbrev gg (K : PySem.W.Frag) : G := gOf K (TT K)
structure Tx (P : Program) (K : PySem.W.Frag) (mg : Str → Option Value) : Prop where
  z_list : mg "list" = none
  z_range : mg "range" = none
  z_max : mg "max" = none
  z_min : mg "min" = none
  z_len : mg "len" = none
  z_int : mg "int" = none
  z_abs : mg "abs" = none
  z_isinstance : mg "isinstance" = none
  z_bool : mg "bool" = none
  z_all : mg "all" = none
  z_zip : mg "zip" = none
  z_tuple : mg "tuple" = none
  z_enumerate : mg "enumerate" = none
  z_str : mg "str" = none
  z_sorted : mg "sorted" = none
  z_set : mg "set" = none
  c_LAST : ∃ t, mg "LAST" = some (.int 9999 t)
  c_JUST : ∃ t, mg "JUST" = some (.str "just" t)
  c_LESS : ∃ t, mg "LESS" = some (.str "less" t)
  c_AND : ∃ t, mg "AND" = some (.str "and" t)
  c_OR : ∃ t, mg "OR" = some (.str "or" t)
  c_REST : ∃ t, mg "REST" = some (.str "rest" t)
  c_BY : ∃ t, mg "BY" = some (.str "by" t)
  c_FROM : ∃ t, mg "FROM" = some (.str "from" t)
  c_BLANK : ∃ t, mg "BLANK" = some (.str " " t)
  c_NONE : ∃ t, mg "NONE" = some (.str "none" t)
  c_FIGURES : ∃ t, mg "FIGURES" = some (.str "0123456789" t)
  c_MOST_FIGURES : ∃ t, mg "MOST_FIGURES" = some (.int 9 t)
  c_WORDS : ∃ t, mg "WORDS" = some (.int 5 t)
  m_ALL : mg "ALL" = some (.ref (ga K "ALL"))
  g_ALL : GtF (gg K) mg "ALL" (.tup [(.tup []), (.int 1), (.int 1), (.tup [(.int 0)])])
  F_law_cells : FnF K "_law_cells" "_law_cells" s_law_cells ["_law_script", "_law_limit"] (ga K "_law_cells") (.ref (cdA K (ga K "_law_cells")))
  m__law_cells : mg "_law_cells" = some (.ref (ga K "_law_cells"))
  F_law_pot : FnF K "_law_pot" "_law_pot" s_law_pot ["_law_script", "_law_place"] (ga K "_law_pot") (.ref (cdA K (ga K "_law_pot")))
  m__law_pot : mg "_law_pot" = some (.ref (ga K "_law_pot"))
  F_is_integer : FnF K "is_integer" "is_integer" s_is_integer ["value"] (ga K "is_integer") (.ref (cdA K (ga K "is_integer")))
  m_is_integer : mg "is_integer" = some (.ref (ga K "is_integer"))
  F_is_between : FnF K "is_between" "is_between" s_is_between ["value", "low", "high"] (ga K "is_between") (.ref (cdA K (ga K "is_between")))
  m_is_between : mg "is_between" = some (.ref (ga K "is_between"))
  F_do_ascend : FnF K "do_ascend" "do_ascend" s_do_ascend ["values"] (ga K "do_ascend") (.ref (cdA K (ga K "do_ascend")))
  m_do_ascend : mg "do_ascend" = some (.ref (ga K "do_ascend"))
  F_are_numbers : FnF K "are_numbers" "are_numbers" s_are_numbers ["value", "low", "high"] (ga K "are_numbers") (.ref (cdA K (ga K "are_numbers")))
  m_are_numbers : mg "are_numbers" = some (.ref (ga K "are_numbers"))
  F_are_parts : FnF K "are_parts" "are_parts" s_are_parts ["heads", "first", "period", "rests"] (ga K "are_parts") (.ref (cdA K (ga K "are_parts")))
  m_are_parts : mg "are_parts" = some (.ref (ga K "are_parts"))
  F_least_ring : FnF K "least_ring" "least_ring" s_least_ring ["ring"] (ga K "least_ring") (.ref (cdA K (ga K "least_ring")))
  m_least_ring : mg "least_ring" = some (.ref (ga K "least_ring"))
  F_ring_of : FnF K "ring_of" "ring_of" s_ring_of ["marks", "first"] (ga K "ring_of") (.ref (cdA K (ga K "ring_of")))
  m_ring_of : mg "ring_of" = some (.ref (ga K "ring_of"))
  F_least_first : FnF K "least_first" "least_first" s_least_first ["marks", "ring", "first"] (ga K "least_first") (.ref (cdA K (ga K "least_first")))
  m_least_first : mg "least_first" = some (.ref (ga K "least_first"))
  F_least_parts : FnF K "least_parts" "least_parts" s_least_parts ["marks", "first"] (ga K "least_parts") (.ref (cdA K (ga K "least_parts")))
  m_least_parts : mg "least_parts" = some (.ref (ga K "least_parts"))
  F_is_in : FnF K "is_in" "is_in" s_is_in ["parts", "number"] (ga K "is_in") (.ref (cdA K (ga K "is_in")))
  m_is_in : mg "is_in" = some (.ref (ga K "is_in"))
  df_Numbers_0 : datV K (.tup []) (.ref (dflAt ("Numbers", some "__init__") 0 K)) = true
  df_Numbers_3 : datV K (.tup []) (.ref (dflAt ("Numbers", some "__init__") 3 K)) = true
  F_Numbers_init : ∃ fd, FunD K "__init__" "Numbers.__init__" (defArgs s_Numbers_init) (defBody s_Numbers_init) (defScope s_Numbers_init) (([.adr (dflAt ("Numbers", some "__init__") 0), .int 1, .int 1, .adr (dflAt ("Numbers", some "__init__") 3)] : List Dv).map (Dv.v K)) [] (ma K (ga K "Numbers") "__init__") fd
  F_law_new : FnF K "_law_new" "_law_new" s_law_new ["_law_parts_here"] (ga K "_law_new") (.ref (cdA K (ga K "_law_new")))
  m__law_new : mg "_law_new" = some (.ref (ga K "_law_new"))
  F_law_take : FnF K "_law_take" "_law_take" s_law_take ["_law_pot_here", "_law_upto"] (ga K "_law_take") (.ref (cdA K (ga K "_law_take")))
  m__law_take : mg "_law_take" = some (.ref (ga K "_law_take"))
  F_law_of : FnF K "_law_of" "_law_of" s_law_of ["_law_pot_here", "_law_some"] (ga K "_law_of") (.ref (cdA K (ga K "_law_of")))
  m__law_of : mg "_law_of" = some (.ref (ga K "_law_of"))
  F_law_parts : FnF K "_law_parts" "_law_parts" s_law_parts ["_law_pot_here", "_law_top"] (ga K "_law_parts") (.ref (cdA K (ga K "_law_parts")))
  m__law_parts : mg "_law_parts" = some (.ref (ga K "_law_parts"))
  F_common_of : FnF K "common_of" "common_of" s_common_of ["one", "other"] (ga K "common_of") (.ref (cdA K (ga K "common_of")))
  m_common_of : mg "common_of" = some (.ref (ga K "common_of"))
  F_multiple_of : FnF K "multiple_of" "multiple_of" s_multiple_of ["one", "other"] (ga K "multiple_of") (.ref (cdA K (ga K "multiple_of")))
  m_multiple_of : mg "multiple_of" = some (.ref (ga K "multiple_of"))
  F_common_period : FnF K "common_period" "common_period" s_common_period ["one", "other"] (ga K "common_period") (.ref (cdA K (ga K "common_period")))
  m_common_period : mg "common_period" = some (.ref (ga K "common_period"))
  F_is_by : FnF K "is_by" "is_by" s_is_by ["word", "here", "there"] (ga K "is_by") (.ref (cdA K (ga K "is_by")))
  m_is_by : mg "is_by" = some (.ref (ga K "is_by"))
  F_put_together : FnF K "put_together" "put_together" s_put_together ["word", "one", "other"] (ga K "put_together") (.ref (cdA K (ga K "put_together")))
  m_put_together : mg "put_together" = some (.ref (ga K "put_together"))
  F_Numbers_writing : FnF K "writing" "Numbers.writing" s_Numbers_writing ["self"] (ma K (ga K "Numbers") "writing") (.ref (cdA K (ma K (ga K "Numbers") "writing")))
  M_Numbers_writing : Meth K (ga K "Numbers") "writing" (ma K (ga K "Numbers") "writing")
  F_Numbers_or : FnF K "__or__" "Numbers.__or__" s_Numbers_or ["self", "other"] (ma K (ga K "Numbers") "__or__") (.ref (cdA K (ma K (ga K "Numbers") "__or__")))
  M_Numbers_or : Meth K (ga K "Numbers") "__or__" (ma K (ga K "Numbers") "__or__")
  F_Numbers_invert : FnF K "__invert__" "Numbers.__invert__" s_Numbers_invert ["self"] (ma K (ga K "Numbers") "__invert__") (.ref (cdA K (ma K (ga K "Numbers") "__invert__")))
  M_Numbers_invert : Meth K (ga K "Numbers") "__invert__" (ma K (ga K "Numbers") "__invert__")
  F_Numbers_and : FnF K "__and__" "Numbers.__and__" s_Numbers_and ["self", "other"] (ma K (ga K "Numbers") "__and__") (.ref (cdA K (ma K (ga K "Numbers") "__and__")))
  M_Numbers_and : Meth K (ga K "Numbers") "__and__" (ma K (ga K "Numbers") "__and__")
  F_Numbers_sub : FnF K "__sub__" "Numbers.__sub__" s_Numbers_sub ["self", "other"] (ma K (ga K "Numbers") "__sub__") (.ref (cdA K (ma K (ga K "Numbers") "__sub__")))
  M_Numbers_sub : Meth K (ga K "Numbers") "__sub__" (ma K (ga K "Numbers") "__sub__")
  F_Numbers_xor : FnF K "__xor__" "Numbers.__xor__" s_Numbers_xor ["self", "other"] (ma K (ga K "Numbers") "__xor__") (.ref (cdA K (ma K (ga K "Numbers") "__xor__")))
  M_Numbers_xor : Meth K (ga K "Numbers") "__xor__" (ma K (ga K "Numbers") "__xor__")
  F_Numbers_text : FnF K "text" "Numbers.text" s_Numbers_text ["self"] (pga K (ga K "Numbers") "text") (.ref (cdA K (pga K (ga K "Numbers") "text")))
  p_Numbers_text : PropOf K (ga K "Numbers") "text" (ma K (ga K "Numbers") "text") (pga K (ga K "Numbers") "text")
  F_Numbers_eq : FnF K "__eq__" "Numbers.__eq__" s_Numbers_eq ["self", "other"] (ma K (ga K "Numbers") "__eq__") (.ref (cdA K (ma K (ga K "Numbers") "__eq__")))
  M_Numbers_eq : Meth K (ga K "Numbers") "__eq__" (ma K (ga K "Numbers") "__eq__")
  F_Numbers_lies_in : FnF K "lies_in" "Numbers.lies_in" s_Numbers_lies_in ["self", "other"] (ma K (ga K "Numbers") "lies_in") (.ref (cdA K (ma K (ga K "Numbers") "lies_in")))
  M_Numbers_lies_in : Meth K (ga K "Numbers") "lies_in" (ma K (ga K "Numbers") "lies_in")
  F_Numbers_is_endless : FnF K "is_endless" "Numbers.is_endless" s_Numbers_is_endless ["self"] (pga K (ga K "Numbers") "is_endless") (.ref (cdA K (pga K (ga K "Numbers") "is_endless")))
  p_Numbers_is_endless : PropOf K (ga K "Numbers") "is_endless" (ma K (ga K "Numbers") "is_endless") (pga K (ga K "Numbers") "is_endless")
  F_Numbers_within : FnF K "within" "Numbers.within" s_Numbers_within ["self", "low", "high"] (ma K (ga K "Numbers") "within") (.ref (cdA K (ma K (ga K "Numbers") "within")))
  M_Numbers_within : Meth K (ga K "Numbers") "within" (ma K (ga K "Numbers") "within")
  F_figures_in : FnF K "figures_in" "figures_in" s_figures_in ["word"] (ga K "figures_in") (.ref (cdA K (ga K "figures_in")))
  m_figures_in : mg "figures_in" = some (.ref (ga K "figures_in"))
  F_integers_in : FnF K "integers_in" "integers_in" s_integers_in ["words"] (ga K "integers_in") (.ref (cdA K (ga K "integers_in")))
  m_integers_in : mg "integers_in" = some (.ref (ga K "integers_in"))
  F_parts_in : FnF K "parts_in" "parts_in" s_parts_in ["text"] (ga K "parts_in") (.ref (cdA K (ga K "parts_in")))
  m_parts_in : mg "parts_in" = some (.ref (ga K "parts_in"))
  F_numbers_in : FnF K "numbers_in" "numbers_in" s_numbers_in ["text"] (ga K "numbers_in") (.ref (cdA K (ga K "numbers_in")))
  m_numbers_in : mg "numbers_in" = some (.ref (ga K "numbers_in"))
  F_Numbers_of : FnF K "of" "Numbers.of" s_Numbers_of ["text"] (sga K (ga K "Numbers") "of") (.ref (cdA K (sga K (ga K "Numbers") "of")))
  s_Numbers_of : StC K (ga K "Numbers") "of"
  F_law_right : FnF K "_law_right" "_law_right" s_law_right ["_law_pot_here"] (ga K "_law_right") (.ref (cdA K (ga K "_law_right")))
  m__law_right : mg "_law_right" = some (.ref (ga K "_law_right"))
  F_law : FnF K "law" "law" s_law ["_law_script"] (ga K "law") (.ref (cdA K (ga K "law")))
  m_law : mg "law" = some (.ref (ga K "law"))
  cl_Numbers : ClF K "Numbers"
  m_Numbers : mg "Numbers" = some (.ref (ga K "Numbers"))
  n_Numbers_own_rests : NoAttr K (ga K "Numbers") "own_rests"
  n_Numbers_own_period : NoAttr K (ga K "Numbers") "own_period"
  n_Numbers_own_first : NoAttr K (ga K "Numbers") "own_first"
  n_Numbers_own_heads : NoAttr K (ga K "Numbers") "own_heads"
  ring : RingI P K mg (ga K "RingError") (ma K (ga K "RingError") "__init__")
  x_BadNumbers : XC K (ga K "RingError") (ga K "BadNumbers") (ma K (ga K "RingError") "__init__")
  m_BadNumbers : mg "BadNumbers" = some (.ref (ga K "BadNumbers"))
  x_BadText : XC K (ga K "RingError") (ga K "BadText") (ma K (ga K "RingError") "__init__")
  m_BadText : mg "BadText" = some (.ref (ga K "BadText"))
  x_BadRange : XC K (ga K "RingError") (ga K "BadRange") (ma K (ga K "RingError") "__init__")
  m_BadRange : mg "BadRange" = some (.ref (ga K "BadRange"))
  x_TooGreat : XC K (ga K "RingError") (ga K "TooGreat") (ma K (ga K "RingError") "__init__")
  m_TooGreat : mg "TooGreat" = some (.ref (ga K "TooGreat"))
  sys : SysOk K
  kn : KnC (gg K) K (okL L)
  i_bool : IsA (gg K) K (ansQ L (.ty "bool")) (.type "bool")
  i_int : IsA (gg K) K (ansQ L (.ty "int")) (.type "int")
  i_tuple : IsA (gg K) K (ansQ L (.ty "tuple")) (.type "tuple")
  i_Numbers : IsA (gg K) K (ansQ L (.cl 41)) (.ref (ga K "Numbers"))
  i_str : IsA (gg K) K (ansQ L (.ty "str")) (.type "str")
  nf_Numbers : ∀ t, okL L t = true → PySem.W.notFirst K ((gg K).cls 41) (t.val (gg K)) = true
structure Zt (K : PySem.W.Frag) (base : Heap) (mg : Str → Option Value) : Prop where
  tt : True
variable {P : Program} {w : World} {K : PySem.W.Frag} {mg : Str → Option Value} {base : Heap}
theorem zUp {base' : Heap} (hB : BUp mg base base') (Z : Zt K base mg) : Zt K base' mg := ⟨trivial⟩
theorem one_c {p : Nat → Prop} {a : Nat} (h : p a) : ∀ c ∈ [a], p c := fun c hc => by rw [List.mem_singleton.mp hc]; exact h
theorem one_p {α : Type} {p : Nat × α → Prop} {a : Nat × α} (h : p a) : ∀ c ∈ [a], p c := fun c hc => by rw [List.mem_singleton.mp hc]; exact h
theorem cons_p {α : Type} {p : α → Prop} {a : α} {l : List α} (h : p a) (h2 : ∀ c ∈ l, p c) : ∀ c ∈ a :: l, p c := fun c hc => by rcases List.mem_cons.mp hc with rfl | z; exact h; exact h2 c z
theorem consL {g : G} {X : Cx} {kl : Nat} {p : D → Prop} {n : Nat} {wb : We} {ls : List ((D → Prop) × Nat × We)} (h : LamI g X kl p n wb) (t : ∀ l ∈ ls, LamI g X kl l.1 l.2.1 l.2.2) : ∀ l ∈ (p, n, wb) :: ls, LamI g X kl l.1 l.2.1 l.2.2 := fun l hl => by rcases List.mem_cons.mp hl with rfl | z; exact h; exact t l z
theorem rp_dat {g : G} {d : D} {a : Addr} (h : datV g.K d (.ref a) = true) (B : Hp) : Rp g B (.ref a) d := by
  obtain ⟨v, h1, h2⟩ := datV_ok (g := g) h
  cases v with
  | ref b => cases h1; exact h2 B
  | _ => first | (obtain ⟨_, e⟩ := h1; cases e; done) | (cases h1; done)
theorem nil_p {α : Type} {p : α → Prop} : ∀ c ∈ ([] : List α), p c := fun c hc => by cases hc
theorem fk_Numbers_own_rests (T : Tx P K mg) : FOk (gg K) K "own_rests" 41 3 := ⟨T.cl_Numbers.cl, T.n_Numbers_own_rests, by show (clsFl 41).Nodup; decide +kernel, by show (clsFl 41).length < 1000; decide, rfl⟩
theorem fk_Numbers_own_period (T : Tx P K mg) : FOk (gg K) K "own_period" 41 2 := ⟨T.cl_Numbers.cl, T.n_Numbers_own_period, by show (clsFl 41).Nodup; decide +kernel, by show (clsFl 41).length < 1000; decide, rfl⟩
theorem fk_Numbers_own_first (T : Tx P K mg) : FOk (gg K) K "own_first" 41 1 := ⟨T.cl_Numbers.cl, T.n_Numbers_own_first, by show (clsFl 41).Nodup; decide +kernel, by show (clsFl 41).length < 1000; decide, rfl⟩
theorem fk_Numbers_own_heads (T : Tx P K mg) : FOk (gg K) K "own_heads" 41 0 := ⟨T.cl_Numbers.cl, T.n_Numbers_own_heads, by show (clsFl 41).Nodup; decide +kernel, by show (clsFl 41).length < 1000; decide, rfl⟩
theorem fl_Numbers_own_rests (T : Tx P K mg) : ∀ p ∈ [(41, 3)], FOk (gg K) K "own_rests" p.1 p.2 := (cons_p (fk_Numbers_own_rests T) nil_p)
theorem fc_Numbers_own_rests (T : Tx P K mg) : ∀ c ∈ [41], FOk (gg K) K "own_rests" c 3 := one_c (fk_Numbers_own_rests T)
theorem fl_Numbers_own_period (T : Tx P K mg) : ∀ p ∈ [(41, 2)], FOk (gg K) K "own_period" p.1 p.2 := (cons_p (fk_Numbers_own_period T) nil_p)
theorem fc_Numbers_own_period (T : Tx P K mg) : ∀ c ∈ [41], FOk (gg K) K "own_period" c 2 := one_c (fk_Numbers_own_period T)
theorem fl_Numbers_own_first (T : Tx P K mg) : ∀ p ∈ [(41, 1)], FOk (gg K) K "own_first" p.1 p.2 := (cons_p (fk_Numbers_own_first T) nil_p)
theorem fc_Numbers_own_first (T : Tx P K mg) : ∀ c ∈ [41], FOk (gg K) K "own_first" c 1 := one_c (fk_Numbers_own_first T)
theorem fl_Numbers_own_heads (T : Tx P K mg) : ∀ p ∈ [(41, 0)], FOk (gg K) K "own_heads" p.1 p.2 := (cons_p (fk_Numbers_own_heads T) nil_p)
theorem fc_Numbers_own_heads (T : Tx P K mg) : ∀ c ∈ [41], FOk (gg K) K "own_heads" c 0 := one_c (fk_Numbers_own_heads T)
theorem xk_BadNumbers (T : Tx P K mg) : XkF P K mg (gg K) "BadNumbers" 1 := ⟨⟨_, _, T.ring, T.x_BadNumbers⟩, T.m_BadNumbers⟩
theorem xk_BadText (T : Tx P K mg) : XkF P K mg (gg K) "BadText" 2 := ⟨⟨_, _, T.ring, T.x_BadText⟩, T.m_BadText⟩
theorem xk_BadRange (T : Tx P K mg) : XkF P K mg (gg K) "BadRange" 4 := ⟨⟨_, _, T.ring, T.x_BadRange⟩, T.m_BadRange⟩
theorem xk_TooGreat (T : Tx P K mg) : XkF P K mg (gg K) "TooGreat" 5 := ⟨⟨_, _, T.ring, T.x_TooGreat⟩, T.m_TooGreat⟩
theorem S_law_cells : FnScope ["_law_script", "_law_limit"] ["_law_script", "_law_limit"] (defScope s_law_cells) := ⟨rfl, rfl, rfl, by decide +kernel, rfl, by decide +kernel, by decide +kernel⟩
theorem fn_law_cells (T : Tx P K mg) (Z : Zt K base mg) : DFn P w K mg base (gg K) 1 (ga K "_law_cells") (ct_law_cells L) := by
  have S := S_law_cells
  refine dfn_of T.F_law_cells rfl S (fun A outer s H E hr =>
(dss_one (ds_ret (de_listRg rfl ⟨by rfl, T.z_list⟩ ⟨by rfl, T.z_range⟩ (de_max rfl ⟨by rfl, T.z_max⟩ (da_cons de_int (da_cons (de_min rfl ⟨by rfl, T.z_min⟩ (da_cons (de_var 1) (da_cons (de_len ⟨by rfl, T.z_len⟩ (da_cons (de_var 0) da_nil)) da_nil))) da_nil))))))
    ) (fun ds μ Q E h => by first | (obtain ⟨_, rfl, _⟩ := h; rfl; done) | (obtain ⟨_, _, rfl, _⟩ := h; rfl; done) | (obtain ⟨_, _, _, rfl, _⟩ := h; rfl; done) | (obtain ⟨_, _, _, _, rfl, _⟩ := h; rfl; done) | (obtain ⟨_, _, _, _, _, rfl, _⟩ := h; rfl; done) | (rcases h with ⟨_, _, rfl, _⟩ | ⟨_, _, rfl, _⟩ <;> rfl; done) | (rcases h with ⟨_, _, _, _, _, _, rfl, _⟩ | ⟨_, _, rfl, _⟩ <;> rfl; done) | (rcases h with ⟨_, _, rfl, _⟩ | ⟨_, _, _, _, rfl, _⟩ <;> rfl; done) | (rcases h with ⟨_, rfl, _⟩ | ⟨_, rfl, _⟩ <;> rfl; done) | (rcases h with ⟨_, rfl, _⟩ | ⟨_, _, rfl, _⟩ <;> rfl; done) | (obtain ⟨rfl, _⟩ := h; rfl; done)) (fun ds μ Q E h => data_law_cells L h)
theorem cal_law_cells (T : Tx P K mg) (Z : Zt K base mg) : CalO P w K mg base (gg K) 1 "_law_cells" (ct_law_cells L) := ⟨_, fn_law_cells T Z, T.m__law_cells, T.F_law_cells.kp⟩
theorem S_law_pot : FnScope ["_law_script", "_law_place", "_law_cell", "_law_own", "_law_small"] ["_law_script", "_law_place"] (defScope s_law_pot) := ⟨rfl, rfl, rfl, by decide +kernel, rfl, by decide +kernel, by decide +kernel⟩
theorem fn_law_pot (T : Tx P K mg) (Z : Zt K base mg) : DFn P w K mg base (gg K) 1 (ga K "_law_pot") (ct_law_pot L) := by
  have S := S_law_pot
  refine dfn_of T.F_law_pot rfl S (fun A outer s H E hr =>
(dss_cons (ds_set 2 S.nd (de_if (dt_lt (de_var 1) (de_len ⟨by rfl, T.z_len⟩ (da_cons (de_var 0) da_nil))) (de_ix (de_var 0) (de_var 1)) (de_add (de_mul de_int (de_var 1)) de_int)))
      (dss_cons (ds_set 3 S.nd (de_mul (de_mod (de_int1 ⟨by rfl, T.z_int⟩ (da_cons (de_abs ⟨by rfl, T.z_abs⟩ (da_cons (de_var 2) da_nil)) da_nil)) (de_pow (de_pow de_int de_int) de_int)) (de_int1 ⟨by rfl, T.z_int⟩ (da_cons (de_ge (de_abs ⟨by rfl, T.z_abs⟩ (da_cons (de_var 2) da_nil)) (de_pow de_int de_int)) da_nil))))
      (dss_cons (ds_set 4 S.nd (de_mod (de_int1 ⟨by rfl, T.z_int⟩ (da_cons (de_var 2) da_nil)) de_int))
      (dss_one (ds_ret (de_mkPot (da_cons (de_var 3) (da_cons (de_mod (de_int1 ⟨by rfl, T.z_int⟩ (da_cons (de_add (de_add (de_mul (de_var 4) de_int) (de_mul (de_mul de_int (de_var 1)) (de_var 1))) de_int) da_nil)) de_int) (da_cons de_int da_nil)))))))))
    ) (fun ds μ Q E h => by first | (obtain ⟨_, rfl, _⟩ := h; rfl; done) | (obtain ⟨_, _, rfl, _⟩ := h; rfl; done) | (obtain ⟨_, _, _, rfl, _⟩ := h; rfl; done) | (obtain ⟨_, _, _, _, rfl, _⟩ := h; rfl; done) | (obtain ⟨_, _, _, _, _, rfl, _⟩ := h; rfl; done) | (rcases h with ⟨_, _, rfl, _⟩ | ⟨_, _, rfl, _⟩ <;> rfl; done) | (rcases h with ⟨_, _, _, _, _, _, rfl, _⟩ | ⟨_, _, rfl, _⟩ <;> rfl; done) | (rcases h with ⟨_, _, rfl, _⟩ | ⟨_, _, _, _, rfl, _⟩ <;> rfl; done) | (rcases h with ⟨_, rfl, _⟩ | ⟨_, rfl, _⟩ <;> rfl; done) | (rcases h with ⟨_, rfl, _⟩ | ⟨_, _, rfl, _⟩ <;> rfl; done) | (obtain ⟨rfl, _⟩ := h; rfl; done)) (fun ds μ Q E h => data_law_pot L (c1 := 57) (c2 := 26) (c3 := 70067) (c4 := 7015) (c5 := 83) ⟨by decide, by decide, by decide, by decide, by decide⟩ _ rfl h)
theorem cal_law_pot (T : Tx P K mg) (Z : Zt K base mg) : CalO P w K mg base (gg K) 1 "_law_pot" (ct_law_pot L) := ⟨_, fn_law_pot T Z, T.m__law_pot, T.F_law_pot.kp⟩
theorem S_is_integer : FnScope ["value"] ["value"] (defScope s_is_integer) := ⟨rfl, rfl, rfl, by decide +kernel, rfl, by decide +kernel, by decide +kernel⟩
theorem fn_is_integer (T : Tx P K mg) (Z : Zt K base mg) : DFn P w K mg base (gg K) 1 (ga K "is_integer") (ct_is_integer L) := by
  have S := S_is_integer
  refine dfn_of T.F_is_integer rfl S (fun A outer s H E hr =>
(dss_one (ds_ret (de_and (de_isiB T.z_isinstance T.z_int PyProof.Rows.Boot.«int» T.i_int (de_var 0)) (de_one (de_not (de_isiB T.z_isinstance T.z_bool PyProof.Rows.Boot.«bool» T.i_bool (de_var 0)))))))
    ) (fun ds μ Q E h => by first | (obtain ⟨_, rfl, _⟩ := h; rfl; done) | (obtain ⟨_, _, rfl, _⟩ := h; rfl; done) | (obtain ⟨_, _, _, rfl, _⟩ := h; rfl; done) | (obtain ⟨_, _, _, _, rfl, _⟩ := h; rfl; done) | (obtain ⟨_, _, _, _, _, rfl, _⟩ := h; rfl; done) | (rcases h with ⟨_, _, rfl, _⟩ | ⟨_, _, rfl, _⟩ <;> rfl; done) | (rcases h with ⟨_, _, _, _, _, _, rfl, _⟩ | ⟨_, _, rfl, _⟩ <;> rfl; done) | (rcases h with ⟨_, _, rfl, _⟩ | ⟨_, _, _, _, rfl, _⟩ <;> rfl; done) | (rcases h with ⟨_, rfl, _⟩ | ⟨_, rfl, _⟩ <;> rfl; done) | (rcases h with ⟨_, rfl, _⟩ | ⟨_, _, rfl, _⟩ <;> rfl; done) | (obtain ⟨rfl, _⟩ := h; rfl; done)) (fun ds μ Q E h => data_is_integer L h)
theorem cal_is_integer (T : Tx P K mg) (Z : Zt K base mg) : CalO P w K mg base (gg K) 1 "is_integer" (ct_is_integer L) := ⟨_, fn_is_integer T Z, T.m_is_integer, T.F_is_integer.kp⟩
theorem S_is_between : FnScope ["value", "low", "high"] ["value", "low", "high"] (defScope s_is_between) := ⟨rfl, rfl, rfl, by decide +kernel, rfl, by decide +kernel, by decide +kernel⟩
theorem fn_is_between (T : Tx P K mg) (Z : Zt K base mg) : DFn P w K mg base (gg K) 2 (ga K "is_between") (ct_is_between L) := by
  have S := S_is_between
  refine dfn_of T.F_is_between rfl S (fun A outer s H E hr =>
(dss_one (ds_ret (de_and (de_cal (cal_is_integer T Z) (hr.mono (by decide)) (da_cons (de_var 0) da_nil)) (de_one (de_lele (de_var 1) (de_var 0) (de_var 2))))))
    ) (fun ds μ Q E h => by first | (obtain ⟨_, rfl, _⟩ := h; rfl; done) | (obtain ⟨_, _, rfl, _⟩ := h; rfl; done) | (obtain ⟨_, _, _, rfl, _⟩ := h; rfl; done) | (obtain ⟨_, _, _, _, rfl, _⟩ := h; rfl; done) | (obtain ⟨_, _, _, _, _, rfl, _⟩ := h; rfl; done) | (rcases h with ⟨_, _, rfl, _⟩ | ⟨_, _, rfl, _⟩ <;> rfl; done) | (rcases h with ⟨_, _, _, _, _, _, rfl, _⟩ | ⟨_, _, rfl, _⟩ <;> rfl; done) | (rcases h with ⟨_, _, rfl, _⟩ | ⟨_, _, _, _, rfl, _⟩ <;> rfl; done) | (rcases h with ⟨_, rfl, _⟩ | ⟨_, rfl, _⟩ <;> rfl; done) | (rcases h with ⟨_, rfl, _⟩ | ⟨_, _, rfl, _⟩ <;> rfl; done) | (obtain ⟨rfl, _⟩ := h; rfl; done)) (fun ds μ Q E h => data_is_between L h)
theorem cal_is_between (T : Tx P K mg) (Z : Zt K base mg) : CalO P w K mg base (gg K) 2 "is_between" (ct_is_between L) := ⟨_, fn_is_between T Z, T.m_is_between, T.F_is_between.kp⟩
theorem S_do_ascend : FnScope ["values", "one", "other"] ["values"] (defScope s_do_ascend) := ⟨rfl, rfl, rfl, by decide +kernel, rfl, by decide +kernel, by decide +kernel⟩
theorem fn_do_ascend (T : Tx P K mg) (Z : Zt K base mg) : DFn P w K mg base (gg K) 1 (ga K "do_ascend") (ct_do_ascend L) := by
  have S := S_do_ascend
  refine dfn_of T.F_do_ascend rfl S (fun A outer s H E hr =>
(dss_one (ds_ret (de_all rfl ⟨by rfl, T.z_all⟩ (da_cons (dl_de (dl_comp rfl S.nd (di_zip (by rfl) T.z_zip (da_cons (de_var 0) (da_cons (de_slice (de_var 0) (do_s de_int) do_n) da_nil))) (blkOk_by (own := [("one", 1), ("other", 2)]) (by rfl)) (fun _ _ _ _ _ => (dg_tup (dgs_cons 1 S.nd (dgs_cons 2 S.nd dgs_nil)))) (fun _ _ _ _ _ => dts_nil) (fun _ _ _ _ _ => (de_lt (de_var 1) (de_var 2))))) da_nil))))
    ) (fun ds μ Q E h => by first | (obtain ⟨_, rfl, _⟩ := h; rfl; done) | (obtain ⟨_, _, rfl, _⟩ := h; rfl; done) | (obtain ⟨_, _, _, rfl, _⟩ := h; rfl; done) | (obtain ⟨_, _, _, _, rfl, _⟩ := h; rfl; done) | (obtain ⟨_, _, _, _, _, rfl, _⟩ := h; rfl; done) | (rcases h with ⟨_, _, rfl, _⟩ | ⟨_, _, rfl, _⟩ <;> rfl; done) | (rcases h with ⟨_, _, _, _, _, _, rfl, _⟩ | ⟨_, _, rfl, _⟩ <;> rfl; done) | (rcases h with ⟨_, _, rfl, _⟩ | ⟨_, _, _, _, rfl, _⟩ <;> rfl; done) | (rcases h with ⟨_, rfl, _⟩ | ⟨_, rfl, _⟩ <;> rfl; done) | (rcases h with ⟨_, rfl, _⟩ | ⟨_, _, rfl, _⟩ <;> rfl; done) | (obtain ⟨rfl, _⟩ := h; rfl; done)) (fun ds μ Q E h => data_do_ascend L h)
theorem cal_do_ascend (T : Tx P K mg) (Z : Zt K base mg) : CalO P w K mg base (gg K) 1 "do_ascend" (ct_do_ascend L) := ⟨_, fn_do_ascend T Z, T.m_do_ascend, T.F_do_ascend.kp⟩
theorem S_are_numbers : FnScope ["value", "low", "high", "one"] ["value", "low", "high"] (defScope s_are_numbers) := ⟨rfl, rfl, rfl, by decide +kernel, rfl, by decide +kernel, by decide +kernel⟩
theorem fn_are_numbers (T : Tx P K mg) (Z : Zt K base mg) : DFn P w K mg base (gg K) 3 (ga K "are_numbers") (ct_are_numbers L) := by
  have S := S_are_numbers
  refine dfn_of T.F_are_numbers rfl S (fun A outer s H E hr =>
(dss_one (ds_ret (de_and (de_isiB T.z_isinstance T.z_tuple PyProof.Rows.Boot.«tuple» T.i_tuple (de_var 0)) (de_and (de_all rfl ⟨by rfl, T.z_all⟩ (da_cons (dl_de (dl_comp rfl S.nd (di_list (de_var 0)) (blkOk_by (own := [("one", 3)]) (by rfl)) (fun _ _ _ _ _ => (dg_name 3 S.nd)) (fun _ _ _ _ _ => dts_nil) (fun _ _ _ _ _ => (de_cal (cal_is_between T Z) (hr.mono (by decide)) (da_cons (de_var 3) (da_cons (de_var 1) (da_cons (de_var 2) da_nil))))))) da_nil)) (de_one (de_cal (cal_do_ascend T Z) (hr.mono (by decide)) (da_cons (de_var 0) da_nil)))))))
    ) (fun ds μ Q E h => by first | (obtain ⟨_, rfl, _⟩ := h; rfl; done) | (obtain ⟨_, _, rfl, _⟩ := h; rfl; done) | (obtain ⟨_, _, _, rfl, _⟩ := h; rfl; done) | (obtain ⟨_, _, _, _, rfl, _⟩ := h; rfl; done) | (obtain ⟨_, _, _, _, _, rfl, _⟩ := h; rfl; done) | (rcases h with ⟨_, _, rfl, _⟩ | ⟨_, _, rfl, _⟩ <;> rfl; done) | (rcases h with ⟨_, _, _, _, _, _, rfl, _⟩ | ⟨_, _, rfl, _⟩ <;> rfl; done) | (rcases h with ⟨_, _, rfl, _⟩ | ⟨_, _, _, _, rfl, _⟩ <;> rfl; done) | (rcases h with ⟨_, rfl, _⟩ | ⟨_, rfl, _⟩ <;> rfl; done) | (rcases h with ⟨_, rfl, _⟩ | ⟨_, _, rfl, _⟩ <;> rfl; done) | (obtain ⟨rfl, _⟩ := h; rfl; done)) (fun ds μ Q E h => data_are_numbers L h)
theorem cal_are_numbers (T : Tx P K mg) (Z : Zt K base mg) : CalO P w K mg base (gg K) 3 "are_numbers" (ct_are_numbers L) := ⟨_, fn_are_numbers T Z, T.m_are_numbers, T.F_are_numbers.kp⟩
theorem S_are_parts : FnScope ["heads", "first", "period", "rests"] ["heads", "first", "period", "rests"] (defScope s_are_parts) := ⟨rfl, rfl, rfl, by decide +kernel, rfl, by decide +kernel, by decide +kernel⟩
theorem fn_are_parts (T : Tx P K mg) (Z : Zt K base mg) : DFn P w K mg base (gg K) 4 (ga K "are_parts") (ct_are_parts L) := by
  have S := S_are_parts
  refine dfn_of T.F_are_parts rfl S (fun A outer s H E hr =>
(dss_cons (ds_if (dw_pt (dw_or (dt_not (dt_val (de_cal (cal_is_between T Z) (hr.mono (by decide)) (da_cons (de_var 1) (da_cons de_int (da_cons (de_gi (by rfl) T.c_LAST.choose_spec) da_nil)))))) (dw_or1 (dt_not (dt_val (de_cal (cal_is_between T Z) (hr.mono (by decide)) (da_cons (de_var 2) (da_cons de_int (da_cons (de_gi (by rfl) T.c_LAST.choose_spec) da_nil))))))))) (dss_one (ds_ret de_bl)) dss_nil)
      (dss_one (ds_ret (de_and (de_cal (cal_are_numbers T Z) (hr.mono (by decide)) (da_cons (de_var 0) (da_cons de_int (da_cons (de_sub (de_var 1) de_int) da_nil)))) (de_one (de_cal (cal_are_numbers T Z) (hr.mono (by decide)) (da_cons (de_var 3) (da_cons de_int (da_cons (de_sub (de_var 2) de_int) da_nil)))))))))
    ) (fun ds μ Q E h => by first | (obtain ⟨_, rfl, _⟩ := h; rfl; done) | (obtain ⟨_, _, rfl, _⟩ := h; rfl; done) | (obtain ⟨_, _, _, rfl, _⟩ := h; rfl; done) | (obtain ⟨_, _, _, _, rfl, _⟩ := h; rfl; done) | (obtain ⟨_, _, _, _, _, rfl, _⟩ := h; rfl; done) | (rcases h with ⟨_, _, rfl, _⟩ | ⟨_, _, rfl, _⟩ <;> rfl; done) | (rcases h with ⟨_, _, _, _, _, _, rfl, _⟩ | ⟨_, _, rfl, _⟩ <;> rfl; done) | (rcases h with ⟨_, _, rfl, _⟩ | ⟨_, _, _, _, rfl, _⟩ <;> rfl; done) | (rcases h with ⟨_, rfl, _⟩ | ⟨_, rfl, _⟩ <;> rfl; done) | (rcases h with ⟨_, rfl, _⟩ | ⟨_, _, rfl, _⟩ <;> rfl; done) | (obtain ⟨rfl, _⟩ := h; rfl; done)) (fun ds μ Q E h => data_are_parts L h)
theorem cal_are_parts (T : Tx P K mg) (Z : Zt K base mg) : CalO P w K mg base (gg K) 4 "are_parts" (ct_are_parts L) := ⟨_, fn_are_parts T Z, T.m_are_parts, T.F_are_parts.kp⟩
theorem S_least_ring : FnScope ["ring", "many", "period", "at"] ["ring"] (defScope s_least_ring) := ⟨rfl, rfl, rfl, by decide +kernel, rfl, by decide +kernel, by decide +kernel⟩
theorem fn_least_ring (T : Tx P K mg) (Z : Zt K base mg) : DFn P w K mg base (gg K) 1 (ga K "least_ring") (ct_least_ring L) := by
  have S := S_least_ring
  refine dfn_of T.F_least_ring rfl S (fun A outer s H E hr =>
(dss_cons (ds_set 1 S.nd (de_len ⟨by rfl, T.z_len⟩ (da_cons (de_var 0) da_nil)))
      (dss_cons (ds_for rfl (di_range2 (by rfl) T.z_range (da_cons de_int (da_cons (de_var 1) da_nil))) (dg_name 2 S.nd) (dss_one (ds_if (dw_pt (dw_and (dt_eq (de_mod (de_var 1) (de_var 2)) de_int) (dw_and1 (dt_val (de_all rfl ⟨by rfl, T.z_all⟩ (da_cons (dl_de (dl_comp rfl S.nd (di_range1 (by rfl) T.z_range (da_cons (de_var 1) da_nil)) (blkOk_by (own := [("at", 3)]) (by rfl)) (fun _ _ _ _ _ => (dg_name 3 S.nd)) (fun _ _ _ _ _ => dts_nil) (fun _ _ _ _ _ => (de_eq (de_ix (de_var 0) (de_var 3)) (de_ix (de_var 0) (de_mod (de_var 3) (de_var 2))))))) da_nil)))))) (dss_one (ds_ret (de_slice (de_var 0) do_n (do_s (de_var 2))))) dss_nil)))
      (dss_one (ds_ret (de_var 0)))))
    ) (fun ds μ Q E h => by first | (obtain ⟨_, rfl, _⟩ := h; rfl; done) | (obtain ⟨_, _, rfl, _⟩ := h; rfl; done) | (obtain ⟨_, _, _, rfl, _⟩ := h; rfl; done) | (obtain ⟨_, _, _, _, rfl, _⟩ := h; rfl; done) | (obtain ⟨_, _, _, _, _, rfl, _⟩ := h; rfl; done) | (rcases h with ⟨_, _, rfl, _⟩ | ⟨_, _, rfl, _⟩ <;> rfl; done) | (rcases h with ⟨_, _, _, _, _, _, rfl, _⟩ | ⟨_, _, rfl, _⟩ <;> rfl; done) | (rcases h with ⟨_, _, rfl, _⟩ | ⟨_, _, _, _, rfl, _⟩ <;> rfl; done) | (rcases h with ⟨_, rfl, _⟩ | ⟨_, rfl, _⟩ <;> rfl; done) | (rcases h with ⟨_, rfl, _⟩ | ⟨_, _, rfl, _⟩ <;> rfl; done) | (obtain ⟨rfl, _⟩ := h; rfl; done)) (fun ds μ Q E h => data_least_ring L h)
theorem cal_least_ring (T : Tx P K mg) (Z : Zt K base mg) : CalO P w K mg base (gg K) 1 "least_ring" (ct_least_ring L) := ⟨_, fn_least_ring T Z, T.m_least_ring, T.F_least_ring.kp⟩
theorem S_ring_of : FnScope ["marks", "first", "period", "rest"] ["marks", "first"] (defScope s_ring_of) := ⟨rfl, rfl, rfl, by decide +kernel, rfl, by decide +kernel, by decide +kernel⟩
theorem fn_ring_of (T : Tx P K mg) (Z : Zt K base mg) : DFn P w K mg base (gg K) 2 (ga K "ring_of") (ct_ring_of L) := by
  have S := S_ring_of
  refine dfn_of T.F_ring_of rfl S (fun A outer s H E hr =>
(dss_cons (ds_set 2 S.nd (de_add (de_sub (de_len ⟨by rfl, T.z_len⟩ (da_cons (de_var 0) da_nil)) (de_var 1)) de_int))
      (dss_one (ds_ret (de_cal (cal_least_ring T Z) (hr.mono (by decide)) (da_cons (dl_de (dl_comp rfl S.nd (di_range1 (by rfl) T.z_range (da_cons (de_var 2) da_nil)) (blkOk_by (own := [("rest", 3)]) (by rfl)) (fun _ _ _ _ _ => (dg_name 3 S.nd)) (fun _ _ _ _ _ => dts_nil) (fun _ _ _ _ _ => (de_ix (de_var 0) (de_add (de_sub (de_var 1) de_int) (de_mod (de_sub (de_var 3) (de_var 1)) (de_var 2))))))) da_nil)))))
    ) (fun ds μ Q E h => by first | (obtain ⟨_, rfl, _⟩ := h; rfl; done) | (obtain ⟨_, _, rfl, _⟩ := h; rfl; done) | (obtain ⟨_, _, _, rfl, _⟩ := h; rfl; done) | (obtain ⟨_, _, _, _, rfl, _⟩ := h; rfl; done) | (obtain ⟨_, _, _, _, _, rfl, _⟩ := h; rfl; done) | (rcases h with ⟨_, _, rfl, _⟩ | ⟨_, _, rfl, _⟩ <;> rfl; done) | (rcases h with ⟨_, _, _, _, _, _, rfl, _⟩ | ⟨_, _, rfl, _⟩ <;> rfl; done) | (rcases h with ⟨_, _, rfl, _⟩ | ⟨_, _, _, _, rfl, _⟩ <;> rfl; done) | (rcases h with ⟨_, rfl, _⟩ | ⟨_, rfl, _⟩ <;> rfl; done) | (rcases h with ⟨_, rfl, _⟩ | ⟨_, _, rfl, _⟩ <;> rfl; done) | (obtain ⟨rfl, _⟩ := h; rfl; done)) (fun ds μ Q E h => data_ring_of L h)
theorem cal_ring_of (T : Tx P K mg) (Z : Zt K base mg) : CalO P w K mg base (gg K) 2 "ring_of" (ct_ring_of L) := ⟨_, fn_ring_of T Z, T.m_ring_of, T.F_ring_of.kp⟩
theorem S_least_first : FnScope ["marks", "ring", "first", "some", "number"] ["marks", "ring", "first"] (defScope s_least_first) := ⟨rfl, rfl, rfl, by decide +kernel, rfl, by decide +kernel, by decide +kernel⟩
theorem fn_least_first (T : Tx P K mg) (Z : Zt K base mg) : DFn P w K mg base (gg K) 1 (ga K "least_first") (ct_least_first L) := by
  have S := S_least_first
  refine dfn_of T.F_least_first rfl S (fun A outer s H E hr =>
(dss_cons (ds_setLc (i := 3) rfl S.nd (di_range2 (by rfl) T.z_range (da_cons de_int (da_cons (de_var 2) da_nil))) (blkOk_by (own := [("number", 4)]) (by rfl)) (fun _ _ _ _ _ => (dg_name 4 S.nd)) (fun _ _ _ _ _ => (dts_one (dt_ne (de_ix (de_var 0) (de_sub (de_var 4) de_int)) (de_ix (de_var 1) (de_mod (de_var 4) (de_len ⟨by rfl, T.z_len⟩ (da_cons (de_var 1) da_nil))))))) (fun _ _ _ _ _ => (de_var 4)) (by rfl))
      (dss_one (ds_ret (de_if (dt_ne (de_var 3) (de_lst da_nil)) (de_add (de_ix (de_var 3) (de_neg de_int)) de_int) de_int))))
    ) (fun ds μ Q E h => by first | (obtain ⟨_, rfl, _⟩ := h; rfl; done) | (obtain ⟨_, _, rfl, _⟩ := h; rfl; done) | (obtain ⟨_, _, _, rfl, _⟩ := h; rfl; done) | (obtain ⟨_, _, _, _, rfl, _⟩ := h; rfl; done) | (obtain ⟨_, _, _, _, _, rfl, _⟩ := h; rfl; done) | (rcases h with ⟨_, _, rfl, _⟩ | ⟨_, _, rfl, _⟩ <;> rfl; done) | (rcases h with ⟨_, _, _, _, _, _, rfl, _⟩ | ⟨_, _, rfl, _⟩ <;> rfl; done) | (rcases h with ⟨_, _, rfl, _⟩ | ⟨_, _, _, _, rfl, _⟩ <;> rfl; done) | (rcases h with ⟨_, rfl, _⟩ | ⟨_, rfl, _⟩ <;> rfl; done) | (rcases h with ⟨_, rfl, _⟩ | ⟨_, _, rfl, _⟩ <;> rfl; done) | (obtain ⟨rfl, _⟩ := h; rfl; done)) (fun ds μ Q E h => data_least_first L h)
theorem cal_least_first (T : Tx P K mg) (Z : Zt K base mg) : CalO P w K mg base (gg K) 1 "least_first" (ct_least_first L) := ⟨_, fn_least_first T Z, T.m_least_first, T.F_least_first.kp⟩
theorem S_least_parts : FnScope ["marks", "first", "ring", "begin", "heads", "at", "is_one", "rest"] ["marks", "first"] (defScope s_least_parts) := ⟨rfl, rfl, rfl, by decide +kernel, rfl, by decide +kernel, by decide +kernel⟩
theorem fn_least_parts (T : Tx P K mg) (Z : Zt K base mg) : DFn P w K mg base (gg K) 3 (ga K "least_parts") (ct_least_parts L) := by
  have S := S_least_parts
  refine dfn_of T.F_least_parts rfl S (fun A outer s H E hr =>
(dss_cons (ds_set 2 S.nd (de_cal (cal_ring_of T Z) (hr.mono (by decide)) (da_cons (de_var 0) (da_cons (de_var 1) da_nil))))
      (dss_cons (ds_set 3 S.nd (de_cal (cal_least_first T Z) (hr.mono (by decide)) (da_cons (de_var 0) (da_cons (de_var 2) (da_cons (de_var 1) da_nil)))))
      (dss_cons (ds_set 4 S.nd (de_tuple ⟨by rfl, T.z_tuple⟩ (da_cons (dl_de (dl_comp rfl S.nd (di_enum (by rfl) T.z_enumerate (da_cons (de_slice (de_var 0) do_n (do_s (de_sub (de_var 3) de_int))) da_nil)) (blkOk_by (own := [("at", 5), ("is_one", 6)]) (by rfl)) (fun _ _ _ _ _ => (dg_tup (dgs_cons 5 S.nd (dgs_cons 6 S.nd dgs_nil)))) (fun _ _ _ _ _ => (dts_one (dt_val (de_var 6)))) (fun _ _ _ _ _ => (de_add (de_var 5) de_int)))) da_nil)))
      (dss_one (ds_ret (de_tup (da_cons (de_var 4) (da_cons (de_var 3) (da_cons (de_len ⟨by rfl, T.z_len⟩ (da_cons (de_var 2) da_nil)) (da_cons (de_tuple ⟨by rfl, T.z_tuple⟩ (da_cons (dl_de (dl_comp rfl S.nd (di_enum (by rfl) T.z_enumerate (da_cons (de_var 2) da_nil)) (blkOk_by (own := [("rest", 7), ("is_one", 6)]) (by rfl)) (fun _ _ _ _ _ => (dg_tup (dgs_cons 7 S.nd (dgs_cons 6 S.nd dgs_nil)))) (fun _ _ _ _ _ => (dts_one (dt_val (de_var 6)))) (fun _ _ _ _ _ => (de_var 7)))) da_nil)) da_nil))))))))))
    ) (fun ds μ Q E h => by first | (obtain ⟨_, rfl, _⟩ := h; rfl; done) | (obtain ⟨_, _, rfl, _⟩ := h; rfl; done) | (obtain ⟨_, _, _, rfl, _⟩ := h; rfl; done) | (obtain ⟨_, _, _, _, rfl, _⟩ := h; rfl; done) | (obtain ⟨_, _, _, _, _, rfl, _⟩ := h; rfl; done) | (rcases h with ⟨_, _, rfl, _⟩ | ⟨_, _, rfl, _⟩ <;> rfl; done) | (rcases h with ⟨_, _, _, _, _, _, rfl, _⟩ | ⟨_, _, rfl, _⟩ <;> rfl; done) | (rcases h with ⟨_, _, rfl, _⟩ | ⟨_, _, _, _, rfl, _⟩ <;> rfl; done) | (rcases h with ⟨_, rfl, _⟩ | ⟨_, rfl, _⟩ <;> rfl; done) | (rcases h with ⟨_, rfl, _⟩ | ⟨_, _, rfl, _⟩ <;> rfl; done) | (obtain ⟨rfl, _⟩ := h; rfl; done)) (fun ds μ Q E h => data_least_parts L h)
theorem cal_least_parts (T : Tx P K mg) (Z : Zt K base mg) : CalO P w K mg base (gg K) 3 "least_parts" (ct_least_parts L) := ⟨_, fn_least_parts T Z, T.m_least_parts, T.F_least_parts.kp⟩
theorem S_is_in : FnScope ["parts", "number", "heads", "first", "period", "rests"] ["parts", "number"] (defScope s_is_in) := ⟨rfl, rfl, rfl, by decide +kernel, rfl, by decide +kernel, by decide +kernel⟩
theorem fn_is_in (T : Tx P K mg) (Z : Zt K base mg) : DFn P w K mg base (gg K) 1 (ga K "is_in") (ct_is_in L) := by
  have S := S_is_in
  refine dfn_of T.F_is_in rfl S (fun A outer s H E hr =>
(dss_cons (ds_unp rfl (de_var 0) (dg_tup (dgs_cons 2 S.nd (dgs_cons 3 S.nd (dgs_cons 4 S.nd (dgs_cons 5 S.nd dgs_nil))))))
      (dss_one (ds_ret (de_if (dt_lt (de_var 1) (de_var 3)) (de_in (de_var 1) (de_var 2)) (de_in (de_mod (de_var 1) (de_var 4)) (de_var 5))))))
    ) (fun ds μ Q E h => by first | (obtain ⟨_, rfl, _⟩ := h; rfl; done) | (obtain ⟨_, _, rfl, _⟩ := h; rfl; done) | (obtain ⟨_, _, _, rfl, _⟩ := h; rfl; done) | (obtain ⟨_, _, _, _, rfl, _⟩ := h; rfl; done) | (obtain ⟨_, _, _, _, _, rfl, _⟩ := h; rfl; done) | (rcases h with ⟨_, _, rfl, _⟩ | ⟨_, _, rfl, _⟩ <;> rfl; done) | (rcases h with ⟨_, _, _, _, _, _, rfl, _⟩ | ⟨_, _, rfl, _⟩ <;> rfl; done) | (rcases h with ⟨_, _, rfl, _⟩ | ⟨_, _, _, _, rfl, _⟩ <;> rfl; done) | (rcases h with ⟨_, rfl, _⟩ | ⟨_, rfl, _⟩ <;> rfl; done) | (rcases h with ⟨_, rfl, _⟩ | ⟨_, _, rfl, _⟩ <;> rfl; done) | (obtain ⟨rfl, _⟩ := h; rfl; done)) (fun ds μ Q E h => data_is_in L h)
theorem cal_is_in (T : Tx P K mg) (Z : Zt K base mg) : CalO P w K mg base (gg K) 1 "is_in" (ct_is_in L) := ⟨_, fn_is_in T Z, T.m_is_in, T.F_is_in.kp⟩
theorem S_Numbers_init : FnScope ["self", "heads", "first", "period", "rests", "parts", "number"] ["self", "heads", "first", "period", "rests"] (defScope s_Numbers_init) := ⟨rfl, rfl, rfl, by decide +kernel, rfl, by decide +kernel, by decide +kernel⟩
theorem din_Numbers (T : Tx P K mg) (Z : Zt K base mg) : ∃ fd, DIn P w K mg base (gg K) 5 (ma K (ga K "Numbers") "__init__") fd ["self", "heads", "first", "period", "rests"] 41 (ci_Numbers L) ∧ FunD K "__init__" "Numbers.__init__" (defArgs s_Numbers_init) (defBody s_Numbers_init) (defScope s_Numbers_init) (([.adr (dflAt ("Numbers", some "__init__") 0), .int 1, .int 1, .adr (dflAt ("Numbers", some "__init__") 3)] : List Dv).map (Dv.v K)) [] (ma K (ga K "Numbers") "__init__") fd := by
  have S := S_Numbers_init
  obtain ⟨fd, F⟩ := T.F_Numbers_init
  obtain ⟨oc, od, dV, kV, doc, pm, an, cdv, ct, osl, rfl, lk, hcd, hd1, hd2⟩ := F.ex
  refine ⟨_, ?_, F⟩
  refine din_mk lk hcd S rfl (fun ds μ Q E h => by first | (obtain ⟨_, rfl, _⟩ := h; rfl; done) | (obtain ⟨_, _, rfl, _⟩ := h; rfl; done) | (obtain ⟨_, _, _, rfl, _⟩ := h; rfl; done) | (obtain ⟨_, _, _, _, rfl, _⟩ := h; rfl; done) | (obtain ⟨_, _, _, _, _, rfl, _⟩ := h; rfl; done) | (rcases h with ⟨_, _, rfl, _⟩ | ⟨_, _, rfl, _⟩ <;> rfl; done) | (rcases h with ⟨_, _, _, _, _, _, rfl, _⟩ | ⟨_, _, rfl, _⟩ <;> rfl; done) | (rcases h with ⟨_, _, rfl, _⟩ | ⟨_, _, _, _, rfl, _⟩ <;> rfl; done) | (rcases h with ⟨_, rfl, _⟩ | ⟨_, rfl, _⟩ <;> rfl; done) | (rcases h with ⟨_, rfl, _⟩ | ⟨_, _, rfl, _⟩ <;> rfl; done) | (obtain ⟨rfl, _⟩ := h; rfl; done)) (fun A outer s H E hr =>
(dss_cons (ds_if (dt_not (dt_val (de_cal (cal_are_parts T Z) (hr.mono (by decide)) (da_cons (de_var 1) (da_cons (de_var 2) (da_cons (de_var 3) (da_cons (de_var 4) da_nil))))))) (dss_one (ds_raiseF (k := 0) (xk_BadNumbers T) (hr.mono (by decide)) (de_tup (da_cons (de_var 1) (da_cons (de_var 2) (da_cons (de_var 3) (da_cons (de_var 4) da_nil))))))) dss_nil)
      (dss_cons (ds_set 5 S.nd (de_tup (da_cons (de_var 1) (da_cons (de_var 2) (da_cons (de_var 3) (da_cons (de_var 4) da_nil))))))
      (dss_cons (ds_set 5 S.nd (de_cal (cal_least_parts T Z) (hr.mono (by decide)) (da_cons (dl_de (dl_comp rfl S.nd (di_range2 (by rfl) T.z_range (da_cons de_int (da_cons (de_add (de_var 2) (de_var 3)) da_nil))) (blkOk_by (own := [("number", 6)]) (by rfl)) (fun _ _ _ _ _ => (dg_name 6 S.nd)) (fun _ _ _ _ _ => dts_nil) (fun _ _ _ _ _ => (de_cal (cal_is_in T Z) (hr.mono (by decide)) (da_cons (de_var 5) (da_cons (de_var 6) da_nil)))))) (da_cons (de_var 2) da_nil))))
      (dss_one (ds_unpF (i := 0) (j := 0) (cs := [41]) rfl (de_var 5) (dfs_cons (fc_Numbers_own_heads T) rfl (dfs_cons (fc_Numbers_own_first T) rfl (dfs_cons (fc_Numbers_own_period T) rfl (dfs_cons (fc_Numbers_own_rests T) rfl dfs_nil)))))))))
    ) fun ds μ Q E h => data_Numbers_init L K (TT K) h
theorem mk_Numbers_0 (T : Tx P K mg) (Z : Zt K base mg) : MkF P w K mg base (gg K) "Numbers" 5 41 (ci_Numbers L) [.tup [], .int 1, .int 1, .tup []] := by
  obtain ⟨fd, h, F⟩ := din_Numbers (w := w) T Z
  obtain ⟨d0, v0, b0⟩ := F.binds1 (ps := ["self", "heads", "first", "period", "rests"]) 1 0 (by simp) rfl (fun T kV doc pm an cdv ct us its h1 h2 => match us, its, h1, h2 with | [_], [_, _, _, _], _, _ => ⟨_, rfl, rfl⟩)
  exact ⟨⟨_, fd, _, _, [.ref (dflAt ("Numbers", some "__init__") 0 K), .int 1, .int 1, .ref (dflAt ("Numbers", some "__init__") 3 K)], T.cl_Numbers.make, h, b0, v0, fun _ => (.cons (rp_dat (g := gg K) T.df_Numbers_0 _) (.cons (.int _) (.cons (.int _) (.cons (rp_dat (g := gg K) T.df_Numbers_3 _) .nil))))⟩, T.m_Numbers⟩
theorem mk_Numbers_4 (T : Tx P K mg) (Z : Zt K base mg) : MkF P w K mg base (gg K) "Numbers" 5 41 (ci_Numbers L) [] := by
  obtain ⟨fd, h, F⟩ := din_Numbers (w := w) T Z
  obtain ⟨d0, v0, b0⟩ := F.binds1 (ps := ["self", "heads", "first", "period", "rests"]) 5 4 (by simp) rfl (fun T kV doc pm an cdv ct us its h1 h2 => match us, its, h1, h2 with | [_, _, _, _, _], [_, _, _, _], _, _ => ⟨_, rfl, rfl⟩)
  cases v0
  exact ⟨⟨_, fd, _, _, _, T.cl_Numbers.make, h, b0, .nil, fun _ => .nil⟩, T.m_Numbers⟩
theorem S_law_new : FnScope ["_law_parts_here"] ["_law_parts_here"] (defScope s_law_new) := ⟨rfl, rfl, rfl, by decide +kernel, rfl, by decide +kernel, by decide +kernel⟩
theorem fn_law_new (T : Tx P K mg) (Z : Zt K base mg) : DFn P w K mg base (gg K) 7 (ga K "_law_new") (ct_law_new L) := by
  have S := S_law_new
  refine dfn_of T.F_law_new rfl S (fun A outer s H E hr =>
(dss_one (ds_ret (de_makeF (mk_Numbers_4 T Z) (hr.mono (by decide)) (da_cons (de_ix (de_var 0) de_int) (da_cons (de_ix (de_var 0) de_int) (da_cons (de_ix (de_var 0) de_int) (da_cons (de_ix (de_var 0) de_int) da_nil)))))))
    ) (fun ds μ Q E h => by first | (obtain ⟨_, rfl, _⟩ := h; rfl; done) | (obtain ⟨_, _, rfl, _⟩ := h; rfl; done) | (obtain ⟨_, _, _, rfl, _⟩ := h; rfl; done) | (obtain ⟨_, _, _, _, rfl, _⟩ := h; rfl; done) | (obtain ⟨_, _, _, _, _, rfl, _⟩ := h; rfl; done) | (rcases h with ⟨_, _, rfl, _⟩ | ⟨_, _, rfl, _⟩ <;> rfl; done) | (rcases h with ⟨_, _, _, _, _, _, rfl, _⟩ | ⟨_, _, rfl, _⟩ <;> rfl; done) | (rcases h with ⟨_, _, rfl, _⟩ | ⟨_, _, _, _, rfl, _⟩ <;> rfl; done) | (rcases h with ⟨_, rfl, _⟩ | ⟨_, rfl, _⟩ <;> rfl; done) | (rcases h with ⟨_, rfl, _⟩ | ⟨_, _, rfl, _⟩ <;> rfl; done) | (obtain ⟨rfl, _⟩ := h; rfl; done)) (fun ds μ Q E h => data_law_new L h)
theorem cal_law_new (T : Tx P K mg) (Z : Zt K base mg) : CalO P w K mg base (gg K) 7 "_law_new" (ct_law_new L) := ⟨_, fn_law_new T Z, T.m__law_new, T.F_law_new.kp⟩
theorem S_law_take : FnScope ["_law_pot_here", "_law_upto", "_law_digit", "_law_prime", "_law_mixed"] ["_law_pot_here", "_law_upto"] (defScope s_law_take) := ⟨rfl, rfl, rfl, by decide +kernel, rfl, by decide +kernel, by decide +kernel⟩
theorem fn_law_take (T : Tx P K mg) (Z : Zt K base mg) : DFn P w K mg base (gg K) 1 (ga K "_law_take") (ct_law_take L) := by
  have S := S_law_take
  refine dfn_of T.F_law_take rfl S (fun A outer s H E hr =>
(dss_cons (ds_if (dt_gt (de_potIx 0 (de_var 0)) de_int) (dss_cons (ds_set 2 S.nd (de_mod (de_int1 ⟨by rfl, T.z_int⟩ (da_cons (de_potIx 0 (de_var 0)) da_nil)) (de_var 1)))
      (dss_cons (ds_pot 0 (de_fdiv (de_potIx 0 (de_var 0)) (de_var 1)) (de_var 0))
      (dss_one (ds_ret (de_var 2))))) dss_nil)
      (dss_cons (ds_pot 2 (de_add (de_potIx 2 (de_var 0)) de_int) (de_var 0))
      (dss_cons (ds_set 3 S.nd (de_ix (de_lst (da_cons de_int (da_cons de_int (da_cons de_int (da_cons de_int (da_cons de_int da_nil)))))) (de_mod (de_int1 ⟨by rfl, T.z_int⟩ (da_cons (de_potIx 2 (de_var 0)) da_nil)) de_int)))
      (dss_cons (ds_set 4 S.nd (de_mod (de_int1 ⟨by rfl, T.z_int⟩ (da_cons (de_pow (de_int1 ⟨by rfl, T.z_int⟩ (da_cons (de_add (de_add (de_potIx 1 (de_var 0)) (de_mul (de_mul de_int (de_potIx 2 (de_var 0))) (de_potIx 2 (de_var 0)))) de_int) da_nil)) de_int) da_nil)) (de_var 3)))
      (dss_cons (ds_set 4 S.nd (de_mod (de_int1 ⟨by rfl, T.z_int⟩ (da_cons (de_mul (de_var 4) (de_add (de_mod (de_int1 ⟨by rfl, T.z_int⟩ (da_cons (de_var 4) da_nil)) de_int) (de_mul de_int (de_potIx 2 (de_var 0))))) da_nil)) de_int))
      (dss_one (ds_ret (de_mod (de_int1 ⟨by rfl, T.z_int⟩ (da_cons (de_fdiv (de_var 4) de_int) da_nil)) (de_var 1)))))))))
    ) (fun ds μ Q E h => by first | (obtain ⟨_, rfl, _⟩ := h; rfl; done) | (obtain ⟨_, _, rfl, _⟩ := h; rfl; done) | (obtain ⟨_, _, _, rfl, _⟩ := h; rfl; done) | (obtain ⟨_, _, _, _, rfl, _⟩ := h; rfl; done) | (obtain ⟨_, _, _, _, _, rfl, _⟩ := h; rfl; done) | (rcases h with ⟨_, _, rfl, _⟩ | ⟨_, _, rfl, _⟩ <;> rfl; done) | (rcases h with ⟨_, _, _, _, _, _, rfl, _⟩ | ⟨_, _, rfl, _⟩ <;> rfl; done) | (rcases h with ⟨_, _, rfl, _⟩ | ⟨_, _, _, _, rfl, _⟩ <;> rfl; done) | (rcases h with ⟨_, rfl, _⟩ | ⟨_, rfl, _⟩ <;> rfl; done) | (rcases h with ⟨_, rfl, _⟩ | ⟨_, _, rfl, _⟩ <;> rfl; done) | (obtain ⟨rfl, _⟩ := h; rfl; done)) (fun ds μ Q E h => data_law_take L (c1 := 131) (c2 := 43) (c3 := 11017) (c4 := 97) (c5 := 99045) ⟨by decide, by decide, by decide, by decide, by decide⟩ h)
theorem cal_law_take (T : Tx P K mg) (Z : Zt K base mg) : CalO P w K mg base (gg K) 1 "_law_take" (ct_law_take L) := ⟨_, fn_law_take T Z, T.m__law_take, T.F_law_take.kp⟩
theorem S_law_of : FnScope ["_law_pot_here", "_law_some"] ["_law_pot_here", "_law_some"] (defScope s_law_of) := ⟨rfl, rfl, rfl, by decide +kernel, rfl, by decide +kernel, by decide +kernel⟩
theorem fn_law_of (T : Tx P K mg) (Z : Zt K base mg) : DFn P w K mg base (gg K) 2 (ga K "_law_of") (ct_law_of L) := by
  have S := S_law_of
  refine dfn_of T.F_law_of rfl S (fun A outer s H E hr =>
(dss_one (ds_ret (de_ix (de_var 1) (de_cal (cal_law_take T Z) (hr.mono (by decide)) (da_cons (de_var 0) (da_cons (de_len ⟨by rfl, T.z_len⟩ (da_cons (de_var 1) da_nil)) da_nil))))))
    ) (fun ds μ Q E h => by first | (obtain ⟨_, rfl, _⟩ := h; rfl; done) | (obtain ⟨_, _, rfl, _⟩ := h; rfl; done) | (obtain ⟨_, _, _, rfl, _⟩ := h; rfl; done) | (obtain ⟨_, _, _, _, rfl, _⟩ := h; rfl; done) | (obtain ⟨_, _, _, _, _, rfl, _⟩ := h; rfl; done) | (rcases h with ⟨_, _, rfl, _⟩ | ⟨_, _, rfl, _⟩ <;> rfl; done) | (rcases h with ⟨_, _, _, _, _, _, rfl, _⟩ | ⟨_, _, rfl, _⟩ <;> rfl; done) | (rcases h with ⟨_, _, rfl, _⟩ | ⟨_, _, _, _, rfl, _⟩ <;> rfl; done) | (rcases h with ⟨_, rfl, _⟩ | ⟨_, rfl, _⟩ <;> rfl; done) | (rcases h with ⟨_, rfl, _⟩ | ⟨_, _, rfl, _⟩ <;> rfl; done) | (obtain ⟨rfl, _⟩ := h; rfl; done)) (fun ds μ Q E h => data_law_of L h)
theorem cal_law_of (T : Tx P K mg) (Z : Zt K base mg) : CalO P w K mg base (gg K) 2 "_law_of" (ct_law_of L) := ⟨_, fn_law_of T Z, T.m__law_of, T.F_law_of.kp⟩
theorem S_law_parts : FnScope ["_law_pot_here", "_law_top", "_law_first", "_law_period", "_law_heads", "_law_number", "_law_way", "_law_rests", "_law_rest"] ["_law_pot_here", "_law_top"] (defScope s_law_parts) := ⟨rfl, rfl, rfl, by decide +kernel, rfl, by decide +kernel, by decide +kernel⟩
theorem fn_law_parts (T : Tx P K mg) (Z : Zt K base mg) : DFn P w K mg base (gg K) 3 (ga K "_law_parts") (ct_law_parts L) := by
  have S := S_law_parts
  refine dfn_of T.F_law_parts rfl S (fun A outer s H E hr =>
(dss_cons (ds_par 2 3 rfl S.nd (da_cons (de_add de_int (de_cal (cal_law_take T Z) (hr.mono (by decide)) (da_cons (de_var 0) (da_cons (de_var 1) da_nil)))) (da_cons (de_cal (cal_law_of T Z) (hr.mono (by decide)) (da_cons (de_var 0) (da_cons (de_lst (da_cons de_int (da_cons de_int (da_cons de_int (da_cons de_int (da_cons de_int (da_cons de_int (da_cons de_int (da_cons de_int (da_cons de_int da_nil)))))))))) da_nil))) da_nil)))
      (dss_cons (ds_set 4 S.nd (de_tuple ⟨by rfl, T.z_tuple⟩ (da_cons (dl_de (dl_comp rfl S.nd (di_range2 (by rfl) T.z_range (da_cons de_int (da_cons (de_var 2) da_nil))) (blkOk_by (own := [("_law_number", 5)]) (by rfl)) (fun _ _ _ _ _ => (dg_name 5 S.nd)) (fun _ _ _ _ _ => (dts_one (dt_eq (de_cal (cal_law_take T Z) (hr.mono (by decide)) (da_cons (de_var 0) (da_cons de_int da_nil))) de_int))) (fun _ _ _ _ _ => (de_var 5)))) da_nil)))
      (dss_cons (ds_set 6 S.nd (de_cal (cal_law_take T Z) (hr.mono (by decide)) (da_cons (de_var 0) (da_cons de_int da_nil))))
      (dss_cons (ds_setLc (i := 7) rfl S.nd (di_range1 (by rfl) T.z_range (da_cons (de_var 3) da_nil)) (blkOk_by (own := [("_law_rest", 8)]) (by rfl)) (fun _ _ _ _ _ => (dg_name 8 S.nd)) (fun _ _ _ _ _ => (dts_one (dw_pt (dw_and (dt_gt (de_var 6) de_int) (dw_and1 (dt_eq (de_cal (cal_law_take T Z) (hr.mono (by decide)) (da_cons (de_var 0) (da_cons de_int da_nil))) de_int)))))) (fun _ _ _ _ _ => (de_var 8)) (by rfl))
      (dss_cons (ds_if (dt_eq (de_var 6) de_int) (dss_one (ds_set 7 S.nd (de_listRg rfl ⟨by rfl, T.z_list⟩ ⟨by rfl, T.z_range⟩ (de_var 3)))) dss_nil)
      (dss_one (ds_ret (de_tup (da_cons (de_var 4) (da_cons (de_var 2) (da_cons (de_var 3) (da_cons (de_tuple ⟨by rfl, T.z_tuple⟩ (da_cons (de_var 7) da_nil)) da_nil))))))))))))
    ) (fun ds μ Q E h => by first | (obtain ⟨_, rfl, _⟩ := h; rfl; done) | (obtain ⟨_, _, rfl, _⟩ := h; rfl; done) | (obtain ⟨_, _, _, rfl, _⟩ := h; rfl; done) | (obtain ⟨_, _, _, _, rfl, _⟩ := h; rfl; done) | (obtain ⟨_, _, _, _, _, rfl, _⟩ := h; rfl; done) | (rcases h with ⟨_, _, rfl, _⟩ | ⟨_, _, rfl, _⟩ <;> rfl; done) | (rcases h with ⟨_, _, _, _, _, _, rfl, _⟩ | ⟨_, _, rfl, _⟩ <;> rfl; done) | (rcases h with ⟨_, _, rfl, _⟩ | ⟨_, _, _, _, rfl, _⟩ <;> rfl; done) | (rcases h with ⟨_, rfl, _⟩ | ⟨_, rfl, _⟩ <;> rfl; done) | (rcases h with ⟨_, rfl, _⟩ | ⟨_, _, rfl, _⟩ <;> rfl; done) | (obtain ⟨rfl, _⟩ := h; rfl; done)) (fun ds μ Q E h => data_law_parts L h)
theorem cal_law_parts (T : Tx P K mg) (Z : Zt K base mg) : CalO P w K mg base (gg K) 3 "_law_parts" (ct_law_parts L) := ⟨_, fn_law_parts T Z, T.m__law_parts, T.F_law_parts.kp⟩
theorem S_common_of : FnScope ["one", "other"] ["one", "other"] (defScope s_common_of) := ⟨rfl, rfl, rfl, by decide +kernel, rfl, by decide +kernel, by decide +kernel⟩
theorem fn_common_of (T : Tx P K mg) (Z : Zt K base mg) : DFn P w K mg base (gg K) 1 (ga K "common_of") (ct_common_of L) := by
  have S := S_common_of
  refine dfn_of T.F_common_of rfl S (fun A outer s H E hr =>
(dss_cons (ds_par 0 1 rfl S.nd (da_cons (de_abs ⟨by rfl, T.z_abs⟩ (da_cons (de_var 0) da_nil)) (da_cons (de_abs ⟨by rfl, T.z_abs⟩ (da_cons (de_var 1) da_nil)) da_nil)))
      (dss_cons (ds_while (dt_gt (de_var 1) de_int) (dss_one (ds_par 0 1 rfl S.nd (da_cons (de_var 1) (da_cons (de_mod (de_var 0) (de_var 1)) da_nil)))))
      (dss_one (ds_ret (de_var 0)))))
    ) (fun ds μ Q E h => by first | (obtain ⟨_, rfl, _⟩ := h; rfl; done) | (obtain ⟨_, _, rfl, _⟩ := h; rfl; done) | (obtain ⟨_, _, _, rfl, _⟩ := h; rfl; done) | (obtain ⟨_, _, _, _, rfl, _⟩ := h; rfl; done) | (obtain ⟨_, _, _, _, _, rfl, _⟩ := h; rfl; done) | (rcases h with ⟨_, _, rfl, _⟩ | ⟨_, _, rfl, _⟩ <;> rfl; done) | (rcases h with ⟨_, _, _, _, _, _, rfl, _⟩ | ⟨_, _, rfl, _⟩ <;> rfl; done) | (rcases h with ⟨_, _, rfl, _⟩ | ⟨_, _, _, _, rfl, _⟩ <;> rfl; done) | (rcases h with ⟨_, rfl, _⟩ | ⟨_, rfl, _⟩ <;> rfl; done) | (rcases h with ⟨_, rfl, _⟩ | ⟨_, _, rfl, _⟩ <;> rfl; done) | (obtain ⟨rfl, _⟩ := h; rfl; done)) (fun ds μ Q E h => data_common_of L h)
theorem cal_common_of (T : Tx P K mg) (Z : Zt K base mg) : CalO P w K mg base (gg K) 1 "common_of" (ct_common_of L) := ⟨_, fn_common_of T Z, T.m_common_of, T.F_common_of.kp⟩
theorem S_multiple_of : FnScope ["one", "other"] ["one", "other"] (defScope s_multiple_of) := ⟨rfl, rfl, rfl, by decide +kernel, rfl, by decide +kernel, by decide +kernel⟩
theorem fn_multiple_of (T : Tx P K mg) (Z : Zt K base mg) : DFn P w K mg base (gg K) 2 (ga K "multiple_of") (ct_multiple_of L) := by
  have S := S_multiple_of
  refine dfn_of T.F_multiple_of rfl S (fun A outer s H E hr =>
(dss_one (ds_ret (de_mul (de_fdiv (de_var 0) (de_cal (cal_common_of T Z) (hr.mono (by decide)) (da_cons (de_var 0) (da_cons (de_var 1) da_nil)))) (de_var 1))))
    ) (fun ds μ Q E h => by first | (obtain ⟨_, rfl, _⟩ := h; rfl; done) | (obtain ⟨_, _, rfl, _⟩ := h; rfl; done) | (obtain ⟨_, _, _, rfl, _⟩ := h; rfl; done) | (obtain ⟨_, _, _, _, rfl, _⟩ := h; rfl; done) | (obtain ⟨_, _, _, _, _, rfl, _⟩ := h; rfl; done) | (rcases h with ⟨_, _, rfl, _⟩ | ⟨_, _, rfl, _⟩ <;> rfl; done) | (rcases h with ⟨_, _, _, _, _, _, rfl, _⟩ | ⟨_, _, rfl, _⟩ <;> rfl; done) | (rcases h with ⟨_, _, rfl, _⟩ | ⟨_, _, _, _, rfl, _⟩ <;> rfl; done) | (rcases h with ⟨_, rfl, _⟩ | ⟨_, rfl, _⟩ <;> rfl; done) | (rcases h with ⟨_, rfl, _⟩ | ⟨_, _, rfl, _⟩ <;> rfl; done) | (obtain ⟨rfl, _⟩ := h; rfl; done)) (fun ds μ Q E h => data_multiple_of L h)
theorem cal_multiple_of (T : Tx P K mg) (Z : Zt K base mg) : CalO P w K mg base (gg K) 2 "multiple_of" (ct_multiple_of L) := ⟨_, fn_multiple_of T Z, T.m_multiple_of, T.F_multiple_of.kp⟩
theorem S_common_period : FnScope ["one", "other", "found"] ["one", "other"] (defScope s_common_period) := ⟨rfl, rfl, rfl, by decide +kernel, rfl, by decide +kernel, by decide +kernel⟩
theorem fn_common_period (T : Tx P K mg) (Z : Zt K base mg) : DFn P w K mg base (gg K) 3 (ga K "common_period") (ct_common_period L) := by
  have S := S_common_period
  refine dfn_of T.F_common_period rfl S (fun A outer s H E hr =>
(dss_cons (ds_set 2 S.nd (de_cal (cal_multiple_of T Z) (hr.mono (by decide)) (da_cons (de_var 0) (da_cons (de_var 1) da_nil))))
      (dss_cons (ds_if (dt_gt (de_var 2) (de_gi (by rfl) T.c_LAST.choose_spec)) (dss_one (ds_raiseF (k := 0) (xk_TooGreat T) (hr.mono (by decide)) (de_gi (by rfl) T.c_LAST.choose_spec))) dss_nil)
      (dss_one (ds_ret (de_var 2)))))
    ) (fun ds μ Q E h => by first | (obtain ⟨_, rfl, _⟩ := h; rfl; done) | (obtain ⟨_, _, rfl, _⟩ := h; rfl; done) | (obtain ⟨_, _, _, rfl, _⟩ := h; rfl; done) | (obtain ⟨_, _, _, _, rfl, _⟩ := h; rfl; done) | (obtain ⟨_, _, _, _, _, rfl, _⟩ := h; rfl; done) | (rcases h with ⟨_, _, rfl, _⟩ | ⟨_, _, rfl, _⟩ <;> rfl; done) | (rcases h with ⟨_, _, _, _, _, _, rfl, _⟩ | ⟨_, _, rfl, _⟩ <;> rfl; done) | (rcases h with ⟨_, _, rfl, _⟩ | ⟨_, _, _, _, rfl, _⟩ <;> rfl; done) | (rcases h with ⟨_, rfl, _⟩ | ⟨_, rfl, _⟩ <;> rfl; done) | (rcases h with ⟨_, rfl, _⟩ | ⟨_, _, rfl, _⟩ <;> rfl; done) | (obtain ⟨rfl, _⟩ := h; rfl; done)) (fun ds μ Q E h => data_common_period L h)
theorem cal_common_period (T : Tx P K mg) (Z : Zt K base mg) : CalO P w K mg base (gg K) 3 "common_period" (ct_common_period L) := ⟨_, fn_common_period T Z, T.m_common_period, T.F_common_period.kp⟩
theorem S_is_by : FnScope ["word", "here", "there"] ["word", "here", "there"] (defScope s_is_by) := ⟨rfl, rfl, rfl, by decide +kernel, rfl, by decide +kernel, by decide +kernel⟩
theorem fn_is_by (T : Tx P K mg) (Z : Zt K base mg) : DFn P w K mg base (gg K) 1 (ga K "is_by") (ct_is_by L) := by
  have S := S_is_by
  refine dfn_of T.F_is_by rfl S (fun A outer s H E hr =>
(dss_one (ds_ret (de_ixD (de_dic (hd := distB_ok (by decide +kernel)) (dps_cons (key := .inr "or") (pe_gs (by rfl) T.c_OR.choose_spec) (de_or (de_var 1) (de_one (de_var 2))) (dps_cons (key := .inr "and") (pe_gs (by rfl) T.c_AND.choose_spec) (de_and (de_var 1) (de_one (de_var 2))) (dps_cons (key := .inr "less") (pe_gs (by rfl) T.c_LESS.choose_spec) (de_and (de_var 1) (de_one (de_not (de_var 2)))) (dps_cons (key := .inr "just") (pe_gs (by rfl) T.c_JUST.choose_spec) (de_ne (de_var 1) (de_var 2)) dps_nil))))) (de_var 0))))
    ) (fun ds μ Q E h => by first | (obtain ⟨_, rfl, _⟩ := h; rfl; done) | (obtain ⟨_, _, rfl, _⟩ := h; rfl; done) | (obtain ⟨_, _, _, rfl, _⟩ := h; rfl; done) | (obtain ⟨_, _, _, _, rfl, _⟩ := h; rfl; done) | (obtain ⟨_, _, _, _, _, rfl, _⟩ := h; rfl; done) | (rcases h with ⟨_, _, rfl, _⟩ | ⟨_, _, rfl, _⟩ <;> rfl; done) | (rcases h with ⟨_, _, _, _, _, _, rfl, _⟩ | ⟨_, _, rfl, _⟩ <;> rfl; done) | (rcases h with ⟨_, _, rfl, _⟩ | ⟨_, _, _, _, rfl, _⟩ <;> rfl; done) | (rcases h with ⟨_, rfl, _⟩ | ⟨_, rfl, _⟩ <;> rfl; done) | (rcases h with ⟨_, rfl, _⟩ | ⟨_, _, rfl, _⟩ <;> rfl; done) | (obtain ⟨rfl, _⟩ := h; rfl; done)) (fun ds μ Q E h => data_is_by L h)
theorem cal_is_by (T : Tx P K mg) (Z : Zt K base mg) : CalO P w K mg base (gg K) 1 "is_by" (ct_is_by L) := ⟨_, fn_is_by T Z, T.m_is_by, T.F_is_by.kp⟩
theorem S_put_together : FnScope ["word", "one", "other", "first", "period", "marks", "number"] ["word", "one", "other"] (defScope s_put_together) := ⟨rfl, rfl, rfl, by decide +kernel, rfl, by decide +kernel, by decide +kernel⟩
theorem fn_put_together (T : Tx P K mg) (Z : Zt K base mg) : DFn P w K mg base (gg K) 4 (ga K "put_together") (ct_put_together L) := by
  have S := S_put_together
  refine dfn_of T.F_put_together rfl S (fun A outer s H E hr =>
(dss_cons (ds_par 3 4 rfl S.nd (da_cons (de_max rfl ⟨by rfl, T.z_max⟩ (da_cons (de_ix (de_var 1) de_int) (da_cons (de_ix (de_var 2) de_int) da_nil))) (da_cons (de_cal (cal_common_period T Z) (hr.mono (by decide)) (da_cons (de_ix (de_var 1) de_int) (da_cons (de_ix (de_var 2) de_int) da_nil))) da_nil)))
      (dss_cons (ds_setLc (i := 5) rfl S.nd (di_range2 (by rfl) T.z_range (da_cons de_int (da_cons (de_add (de_var 3) (de_var 4)) da_nil))) (blkOk_by (own := [("number", 6)]) (by rfl)) (fun _ _ _ _ _ => (dg_name 6 S.nd)) (fun _ _ _ _ _ => dts_nil) (fun _ _ _ _ _ => (de_cal (cal_is_by T Z) (hr.mono (by decide)) (da_cons (de_var 0) (da_cons (de_cal (cal_is_in T Z) (hr.mono (by decide)) (da_cons (de_var 1) (da_cons (de_var 6) da_nil))) (da_cons (de_cal (cal_is_in T Z) (hr.mono (by decide)) (da_cons (de_var 2) (da_cons (de_var 6) da_nil))) da_nil))))) (by rfl))
      (dss_one (ds_ret (de_cal (cal_least_parts T Z) (hr.mono (by decide)) (da_cons (de_var 5) (da_cons (de_var 3) da_nil)))))))
    ) (fun ds μ Q E h => by first | (obtain ⟨_, rfl, _⟩ := h; rfl; done) | (obtain ⟨_, _, rfl, _⟩ := h; rfl; done) | (obtain ⟨_, _, _, rfl, _⟩ := h; rfl; done) | (obtain ⟨_, _, _, _, rfl, _⟩ := h; rfl; done) | (obtain ⟨_, _, _, _, _, rfl, _⟩ := h; rfl; done) | (rcases h with ⟨_, _, rfl, _⟩ | ⟨_, _, rfl, _⟩ <;> rfl; done) | (rcases h with ⟨_, _, _, _, _, _, rfl, _⟩ | ⟨_, _, rfl, _⟩ <;> rfl; done) | (rcases h with ⟨_, _, rfl, _⟩ | ⟨_, _, _, _, rfl, _⟩ <;> rfl; done) | (rcases h with ⟨_, rfl, _⟩ | ⟨_, rfl, _⟩ <;> rfl; done) | (rcases h with ⟨_, rfl, _⟩ | ⟨_, _, rfl, _⟩ <;> rfl; done) | (obtain ⟨rfl, _⟩ := h; rfl; done)) (fun ds μ Q E h => data_put_together L h)
theorem cal_put_together (T : Tx P K mg) (Z : Zt K base mg) : CalO P w K mg base (gg K) 4 "put_together" (ct_put_together L) := ⟨_, fn_put_together T Z, T.m_put_together, T.F_put_together.kp⟩
theorem S_Numbers_writing : FnScope ["self"] ["self"] (defScope s_Numbers_writing) := ⟨rfl, rfl, rfl, by decide +kernel, rfl, by decide +kernel, by decide +kernel⟩
theorem fn_Numbers_writing (T : Tx P K mg) (Z : Zt K base mg) : DFn P w K mg base (gg K) 1 (ma K (ga K "Numbers") "writing") (ct_Numbers_writing L) := by
  have S := S_Numbers_writing
  refine dfn_of T.F_Numbers_writing rfl S (fun A outer s H E hr =>
(dss_one (ds_ret (de_tup (da_cons (de_fld (fl_Numbers_own_heads T) (de_var 0)) (da_cons (de_fld (fl_Numbers_own_first T) (de_var 0)) (da_cons (de_fld (fl_Numbers_own_period T) (de_var 0)) (da_cons (de_fld (fl_Numbers_own_rests T) (de_var 0)) da_nil)))))))
    ) (fun ds μ Q E h => by first | (obtain ⟨_, rfl, _⟩ := h; rfl; done) | (obtain ⟨_, _, rfl, _⟩ := h; rfl; done) | (obtain ⟨_, _, _, rfl, _⟩ := h; rfl; done) | (obtain ⟨_, _, _, _, rfl, _⟩ := h; rfl; done) | (obtain ⟨_, _, _, _, _, rfl, _⟩ := h; rfl; done) | (rcases h with ⟨_, _, rfl, _⟩ | ⟨_, _, rfl, _⟩ <;> rfl; done) | (rcases h with ⟨_, _, _, _, _, _, rfl, _⟩ | ⟨_, _, rfl, _⟩ <;> rfl; done) | (rcases h with ⟨_, _, rfl, _⟩ | ⟨_, _, _, _, rfl, _⟩ <;> rfl; done) | (rcases h with ⟨_, rfl, _⟩ | ⟨_, rfl, _⟩ <;> rfl; done) | (rcases h with ⟨_, rfl, _⟩ | ⟨_, _, rfl, _⟩ <;> rfl; done) | (obtain ⟨rfl, _⟩ := h; rfl; done)) (fun ds μ Q E h => data_Numbers_writing L h)
theorem ms_Numbers_writing (T : Tx P K mg) (Z : Zt K base mg) : MsF P w K mg base (gg K) "writing" 1 [(41, ct_Numbers_writing L)] := ⟨(cons_p ⟨⟨_, T.M_Numbers_writing, fn_Numbers_writing T Z⟩, T.cl_Numbers.cl, by show ("writing" : Str) ∉ clsFl 41; decide +kernel⟩ nil_p)⟩
theorem op_Numbers_writing (T : Tx P K mg) (Z : Zt K base mg) : OpF P w K mg base (gg K) "writing" 1 [(41, ct_Numbers_writing L)] := ⟨(cons_p ⟨⟨_, T.M_Numbers_writing.at_, T.M_Numbers_writing.fn, fn_Numbers_writing T Z⟩, T.cl_Numbers.sf⟩ nil_p)⟩
theorem un_Numbers_writing (T : Tx P K mg) (Z : Zt K base mg) : UnF P w K mg base (gg K) "writing" 1 [(41, ct_Numbers_writing L)] := ⟨(cons_p ⟨_, T.M_Numbers_writing.at_, T.M_Numbers_writing.fn, fn_Numbers_writing T Z⟩ nil_p)⟩
theorem S_Numbers_or : FnScope ["self", "other", "parts"] ["self", "other"] (defScope s_Numbers_or) := ⟨rfl, rfl, rfl, by decide +kernel, rfl, by decide +kernel, by decide +kernel⟩
theorem fn_Numbers_or (T : Tx P K mg) (Z : Zt K base mg) : DFn P w K mg base (gg K) 7 (ma K (ga K "Numbers") "__or__") (ct_Numbers_or L) := by
  have S := S_Numbers_or
  refine dfn_of T.F_Numbers_or rfl S (fun A outer s H E hr =>
(dss_cons (ds_if (dt_not (dt_val (de_isiC T.z_isinstance T.m_Numbers T.i_Numbers (de_var 1)))) dss_dead dss_nil)
      (dss_cons (ds_set 2 S.nd (de_cal (cal_put_together T Z) (hr.mono (by decide)) (da_cons (de_gs (by rfl) T.c_OR.choose_spec) (da_cons (de_meth0F (ms_Numbers_writing T Z) (hr.mono (by decide)) (de_var 0)) (da_cons (de_meth0F (ms_Numbers_writing T Z) (hr.mono (by decide)) (de_var 1)) da_nil)))))
      (dss_one (ds_ret (de_makeSF (mk_Numbers_4 T Z) (hr.mono (by decide)) (de_var 2))))))
    ) (fun ds μ Q E h => by first | (obtain ⟨_, rfl, _⟩ := h; rfl; done) | (obtain ⟨_, _, rfl, _⟩ := h; rfl; done) | (obtain ⟨_, _, _, rfl, _⟩ := h; rfl; done) | (obtain ⟨_, _, _, _, rfl, _⟩ := h; rfl; done) | (obtain ⟨_, _, _, _, _, rfl, _⟩ := h; rfl; done) | (rcases h with ⟨_, _, rfl, _⟩ | ⟨_, _, rfl, _⟩ <;> rfl; done) | (rcases h with ⟨_, _, _, _, _, _, rfl, _⟩ | ⟨_, _, rfl, _⟩ <;> rfl; done) | (rcases h with ⟨_, _, rfl, _⟩ | ⟨_, _, _, _, rfl, _⟩ <;> rfl; done) | (rcases h with ⟨_, rfl, _⟩ | ⟨_, rfl, _⟩ <;> rfl; done) | (rcases h with ⟨_, rfl, _⟩ | ⟨_, _, rfl, _⟩ <;> rfl; done) | (obtain ⟨rfl, _⟩ := h; rfl; done)) (fun ds μ Q E h => data_Numbers_or L h)
theorem ms_Numbers_or (T : Tx P K mg) (Z : Zt K base mg) : MsF P w K mg base (gg K) "__or__" 7 [(41, ct_Numbers_or L)] := ⟨(cons_p ⟨⟨_, T.M_Numbers_or, fn_Numbers_or T Z⟩, T.cl_Numbers.cl, by show ("__or__" : Str) ∉ clsFl 41; decide +kernel⟩ nil_p)⟩
theorem op_Numbers_or (T : Tx P K mg) (Z : Zt K base mg) : OpF P w K mg base (gg K) "__or__" 7 [(41, ct_Numbers_or L)] := ⟨(cons_p ⟨⟨_, T.M_Numbers_or.at_, T.M_Numbers_or.fn, fn_Numbers_or T Z⟩, T.cl_Numbers.sf⟩ nil_p)⟩
theorem un_Numbers_or (T : Tx P K mg) (Z : Zt K base mg) : UnF P w K mg base (gg K) "__or__" 7 [(41, ct_Numbers_or L)] := ⟨(cons_p ⟨_, T.M_Numbers_or.at_, T.M_Numbers_or.fn, fn_Numbers_or T Z⟩ nil_p)⟩
theorem S_Numbers_invert : FnScope ["self", "parts"] ["self"] (defScope s_Numbers_invert) := ⟨rfl, rfl, rfl, by decide +kernel, rfl, by decide +kernel, by decide +kernel⟩
theorem fn_Numbers_invert (T : Tx P K mg) (Z : Zt K base mg) : DFn P w K mg base (gg K) 7 (ma K (ga K "Numbers") "__invert__") (ct_Numbers_invert L) := by
  have S := S_Numbers_invert
  refine dfn_of T.F_Numbers_invert rfl S (fun A outer s H E hr =>
(dss_cons (ds_set 1 S.nd (de_cal (cal_put_together T Z) (hr.mono (by decide)) (da_cons (de_gs (by rfl) T.c_LESS.choose_spec) (da_cons (de_gtup (by rfl) T.g_ALL) (da_cons (de_meth0F (ms_Numbers_writing T Z) (hr.mono (by decide)) (de_var 0)) da_nil)))))
      (dss_one (ds_ret (de_makeSF (mk_Numbers_4 T Z) (hr.mono (by decide)) (de_var 1)))))
    ) (fun ds μ Q E h => by first | (obtain ⟨_, rfl, _⟩ := h; rfl; done) | (obtain ⟨_, _, rfl, _⟩ := h; rfl; done) | (obtain ⟨_, _, _, rfl, _⟩ := h; rfl; done) | (obtain ⟨_, _, _, _, rfl, _⟩ := h; rfl; done) | (obtain ⟨_, _, _, _, _, rfl, _⟩ := h; rfl; done) | (rcases h with ⟨_, _, rfl, _⟩ | ⟨_, _, rfl, _⟩ <;> rfl; done) | (rcases h with ⟨_, _, _, _, _, _, rfl, _⟩ | ⟨_, _, rfl, _⟩ <;> rfl; done) | (rcases h with ⟨_, _, rfl, _⟩ | ⟨_, _, _, _, rfl, _⟩ <;> rfl; done) | (rcases h with ⟨_, rfl, _⟩ | ⟨_, rfl, _⟩ <;> rfl; done) | (rcases h with ⟨_, rfl, _⟩ | ⟨_, _, rfl, _⟩ <;> rfl; done) | (obtain ⟨rfl, _⟩ := h; rfl; done)) (fun ds μ Q E h => data_Numbers_invert L h)
theorem ms_Numbers_invert (T : Tx P K mg) (Z : Zt K base mg) : MsF P w K mg base (gg K) "__invert__" 7 [(41, ct_Numbers_invert L)] := ⟨(cons_p ⟨⟨_, T.M_Numbers_invert, fn_Numbers_invert T Z⟩, T.cl_Numbers.cl, by show ("__invert__" : Str) ∉ clsFl 41; decide +kernel⟩ nil_p)⟩
theorem op_Numbers_invert (T : Tx P K mg) (Z : Zt K base mg) : OpF P w K mg base (gg K) "__invert__" 7 [(41, ct_Numbers_invert L)] := ⟨(cons_p ⟨⟨_, T.M_Numbers_invert.at_, T.M_Numbers_invert.fn, fn_Numbers_invert T Z⟩, T.cl_Numbers.sf⟩ nil_p)⟩
theorem un_Numbers_invert (T : Tx P K mg) (Z : Zt K base mg) : UnF P w K mg base (gg K) "__invert__" 7 [(41, ct_Numbers_invert L)] := ⟨(cons_p ⟨_, T.M_Numbers_invert.at_, T.M_Numbers_invert.fn, fn_Numbers_invert T Z⟩ nil_p)⟩
theorem S_Numbers_and : FnScope ["self", "other", "parts"] ["self", "other"] (defScope s_Numbers_and) := ⟨rfl, rfl, rfl, by decide +kernel, rfl, by decide +kernel, by decide +kernel⟩
theorem fn_Numbers_and (T : Tx P K mg) (Z : Zt K base mg) : DFn P w K mg base (gg K) 7 (ma K (ga K "Numbers") "__and__") (ct_Numbers_and L) := by
  have S := S_Numbers_and
  refine dfn_of T.F_Numbers_and rfl S (fun A outer s H E hr =>
(dss_cons (ds_if (dt_not (dt_val (de_isiC T.z_isinstance T.m_Numbers T.i_Numbers (de_var 1)))) dss_dead dss_nil)
      (dss_cons (ds_set 2 S.nd (de_cal (cal_put_together T Z) (hr.mono (by decide)) (da_cons (de_gs (by rfl) T.c_AND.choose_spec) (da_cons (de_meth0F (ms_Numbers_writing T Z) (hr.mono (by decide)) (de_var 0)) (da_cons (de_meth0F (ms_Numbers_writing T Z) (hr.mono (by decide)) (de_var 1)) da_nil)))))
      (dss_one (ds_ret (de_makeSF (mk_Numbers_4 T Z) (hr.mono (by decide)) (de_var 2))))))
    ) (fun ds μ Q E h => by first | (obtain ⟨_, rfl, _⟩ := h; rfl; done) | (obtain ⟨_, _, rfl, _⟩ := h; rfl; done) | (obtain ⟨_, _, _, rfl, _⟩ := h; rfl; done) | (obtain ⟨_, _, _, _, rfl, _⟩ := h; rfl; done) | (obtain ⟨_, _, _, _, _, rfl, _⟩ := h; rfl; done) | (rcases h with ⟨_, _, rfl, _⟩ | ⟨_, _, rfl, _⟩ <;> rfl; done) | (rcases h with ⟨_, _, _, _, _, _, rfl, _⟩ | ⟨_, _, rfl, _⟩ <;> rfl; done) | (rcases h with ⟨_, _, rfl, _⟩ | ⟨_, _, _, _, rfl, _⟩ <;> rfl; done) | (rcases h with ⟨_, rfl, _⟩ | ⟨_, rfl, _⟩ <;> rfl; done) | (rcases h with ⟨_, rfl, _⟩ | ⟨_, _, rfl, _⟩ <;> rfl; done) | (obtain ⟨rfl, _⟩ := h; rfl; done)) (fun ds μ Q E h => data_Numbers_and L h)
theorem ms_Numbers_and (T : Tx P K mg) (Z : Zt K base mg) : MsF P w K mg base (gg K) "__and__" 7 [(41, ct_Numbers_and L)] := ⟨(cons_p ⟨⟨_, T.M_Numbers_and, fn_Numbers_and T Z⟩, T.cl_Numbers.cl, by show ("__and__" : Str) ∉ clsFl 41; decide +kernel⟩ nil_p)⟩
theorem op_Numbers_and (T : Tx P K mg) (Z : Zt K base mg) : OpF P w K mg base (gg K) "__and__" 7 [(41, ct_Numbers_and L)] := ⟨(cons_p ⟨⟨_, T.M_Numbers_and.at_, T.M_Numbers_and.fn, fn_Numbers_and T Z⟩, T.cl_Numbers.sf⟩ nil_p)⟩
theorem un_Numbers_and (T : Tx P K mg) (Z : Zt K base mg) : UnF P w K mg base (gg K) "__and__" 7 [(41, ct_Numbers_and L)] := ⟨(cons_p ⟨_, T.M_Numbers_and.at_, T.M_Numbers_and.fn, fn_Numbers_and T Z⟩ nil_p)⟩
theorem S_Numbers_sub : FnScope ["self", "other", "parts"] ["self", "other"] (defScope s_Numbers_sub) := ⟨rfl, rfl, rfl, by decide +kernel, rfl, by decide +kernel, by decide +kernel⟩
theorem fn_Numbers_sub (T : Tx P K mg) (Z : Zt K base mg) : DFn P w K mg base (gg K) 7 (ma K (ga K "Numbers") "__sub__") (ct_Numbers_sub L) := by
  have S := S_Numbers_sub
  refine dfn_of T.F_Numbers_sub rfl S (fun A outer s H E hr =>
(dss_cons (ds_if (dt_not (dt_val (de_isiC T.z_isinstance T.m_Numbers T.i_Numbers (de_var 1)))) dss_dead dss_nil)
      (dss_cons (ds_set 2 S.nd (de_cal (cal_put_together T Z) (hr.mono (by decide)) (da_cons (de_gs (by rfl) T.c_LESS.choose_spec) (da_cons (de_meth0F (ms_Numbers_writing T Z) (hr.mono (by decide)) (de_var 0)) (da_cons (de_meth0F (ms_Numbers_writing T Z) (hr.mono (by decide)) (de_var 1)) da_nil)))))
      (dss_one (ds_ret (de_makeSF (mk_Numbers_4 T Z) (hr.mono (by decide)) (de_var 2))))))
    ) (fun ds μ Q E h => by first | (obtain ⟨_, rfl, _⟩ := h; rfl; done) | (obtain ⟨_, _, rfl, _⟩ := h; rfl; done) | (obtain ⟨_, _, _, rfl, _⟩ := h; rfl; done) | (obtain ⟨_, _, _, _, rfl, _⟩ := h; rfl; done) | (obtain ⟨_, _, _, _, _, rfl, _⟩ := h; rfl; done) | (rcases h with ⟨_, _, rfl, _⟩ | ⟨_, _, rfl, _⟩ <;> rfl; done) | (rcases h with ⟨_, _, _, _, _, _, rfl, _⟩ | ⟨_, _, rfl, _⟩ <;> rfl; done) | (rcases h with ⟨_, _, rfl, _⟩ | ⟨_, _, _, _, rfl, _⟩ <;> rfl; done) | (rcases h with ⟨_, rfl, _⟩ | ⟨_, rfl, _⟩ <;> rfl; done) | (rcases h with ⟨_, rfl, _⟩ | ⟨_, _, rfl, _⟩ <;> rfl; done) | (obtain ⟨rfl, _⟩ := h; rfl; done)) (fun ds μ Q E h => data_Numbers_sub L h)
theorem ms_Numbers_sub (T : Tx P K mg) (Z : Zt K base mg) : MsF P w K mg base (gg K) "__sub__" 7 [(41, ct_Numbers_sub L)] := ⟨(cons_p ⟨⟨_, T.M_Numbers_sub, fn_Numbers_sub T Z⟩, T.cl_Numbers.cl, by show ("__sub__" : Str) ∉ clsFl 41; decide +kernel⟩ nil_p)⟩
theorem op_Numbers_sub (T : Tx P K mg) (Z : Zt K base mg) : OpF P w K mg base (gg K) "__sub__" 7 [(41, ct_Numbers_sub L)] := ⟨(cons_p ⟨⟨_, T.M_Numbers_sub.at_, T.M_Numbers_sub.fn, fn_Numbers_sub T Z⟩, T.cl_Numbers.sf⟩ nil_p)⟩
theorem un_Numbers_sub (T : Tx P K mg) (Z : Zt K base mg) : UnF P w K mg base (gg K) "__sub__" 7 [(41, ct_Numbers_sub L)] := ⟨(cons_p ⟨_, T.M_Numbers_sub.at_, T.M_Numbers_sub.fn, fn_Numbers_sub T Z⟩ nil_p)⟩
theorem S_Numbers_xor : FnScope ["self", "other", "parts"] ["self", "other"] (defScope s_Numbers_xor) := ⟨rfl, rfl, rfl, by decide +kernel, rfl, by decide +kernel, by decide +kernel⟩
theorem fn_Numbers_xor (T : Tx P K mg) (Z : Zt K base mg) : DFn P w K mg base (gg K) 7 (ma K (ga K "Numbers") "__xor__") (ct_Numbers_xor L) := by
  have S := S_Numbers_xor
  refine dfn_of T.F_Numbers_xor rfl S (fun A outer s H E hr =>
(dss_cons (ds_if (dt_not (dt_val (de_isiC T.z_isinstance T.m_Numbers T.i_Numbers (de_var 1)))) dss_dead dss_nil)
      (dss_cons (ds_set 2 S.nd (de_cal (cal_put_together T Z) (hr.mono (by decide)) (da_cons (de_gs (by rfl) T.c_JUST.choose_spec) (da_cons (de_meth0F (ms_Numbers_writing T Z) (hr.mono (by decide)) (de_var 0)) (da_cons (de_meth0F (ms_Numbers_writing T Z) (hr.mono (by decide)) (de_var 1)) da_nil)))))
      (dss_one (ds_ret (de_makeSF (mk_Numbers_4 T Z) (hr.mono (by decide)) (de_var 2))))))
    ) (fun ds μ Q E h => by first | (obtain ⟨_, rfl, _⟩ := h; rfl; done) | (obtain ⟨_, _, rfl, _⟩ := h; rfl; done) | (obtain ⟨_, _, _, rfl, _⟩ := h; rfl; done) | (obtain ⟨_, _, _, _, rfl, _⟩ := h; rfl; done) | (obtain ⟨_, _, _, _, _, rfl, _⟩ := h; rfl; done) | (rcases h with ⟨_, _, rfl, _⟩ | ⟨_, _, rfl, _⟩ <;> rfl; done) | (rcases h with ⟨_, _, _, _, _, _, rfl, _⟩ | ⟨_, _, rfl, _⟩ <;> rfl; done) | (rcases h with ⟨_, _, rfl, _⟩ | ⟨_, _, _, _, rfl, _⟩ <;> rfl; done) | (rcases h with ⟨_, rfl, _⟩ | ⟨_, rfl, _⟩ <;> rfl; done) | (rcases h with ⟨_, rfl, _⟩ | ⟨_, _, rfl, _⟩ <;> rfl; done) | (obtain ⟨rfl, _⟩ := h; rfl; done)) (fun ds μ Q E h => data_Numbers_xor L h)
theorem ms_Numbers_xor (T : Tx P K mg) (Z : Zt K base mg) : MsF P w K mg base (gg K) "__xor__" 7 [(41, ct_Numbers_xor L)] := ⟨(cons_p ⟨⟨_, T.M_Numbers_xor, fn_Numbers_xor T Z⟩, T.cl_Numbers.cl, by show ("__xor__" : Str) ∉ clsFl 41; decide +kernel⟩ nil_p)⟩
theorem op_Numbers_xor (T : Tx P K mg) (Z : Zt K base mg) : OpF P w K mg base (gg K) "__xor__" 7 [(41, ct_Numbers_xor L)] := ⟨(cons_p ⟨⟨_, T.M_Numbers_xor.at_, T.M_Numbers_xor.fn, fn_Numbers_xor T Z⟩, T.cl_Numbers.sf⟩ nil_p)⟩
theorem un_Numbers_xor (T : Tx P K mg) (Z : Zt K base mg) : UnF P w K mg base (gg K) "__xor__" 7 [(41, ct_Numbers_xor L)] := ⟨(cons_p ⟨_, T.M_Numbers_xor.at_, T.M_Numbers_xor.fn, fn_Numbers_xor T Z⟩ nil_p)⟩
theorem S_Numbers_text : FnScope ["self", "words", "number", "rest"] ["self"] (defScope s_Numbers_text) := ⟨rfl, rfl, rfl, by decide +kernel, rfl, by decide +kernel, by decide +kernel⟩
theorem fn_Numbers_text (T : Tx P K mg) (Z : Zt K base mg) : DFn P w K mg base (gg K) 1 (pga K (ga K "Numbers") "text") (ct_Numbers_text L) := by
  have S := S_Numbers_text
  refine dfn_of T.F_Numbers_text rfl S (fun A outer s H E hr =>
(dss_cons (ds_ownLc (i := 1) rfl S.nd (di_list (de_fld (fl_Numbers_own_heads T) (de_var 0))) (blkOk_by (own := [("number", 2)]) (by rfl)) (fun _ _ _ _ _ => (dg_name 2 S.nd)) (fun _ _ _ _ _ => dts_nil) (fun _ _ _ _ _ => (de_str1 ⟨by rfl, T.z_str⟩ (da_cons (de_var 2) da_nil))) (by rfl))
      (dss_cons (ds_if (dt_ne (de_fld (fl_Numbers_own_rests T) (de_var 0)) (de_tup da_nil)) (dss_cons (ds_ext 1 (de_lst (da_cons (de_gs (by rfl) T.c_FROM.choose_spec) (da_cons (de_str1 ⟨by rfl, T.z_str⟩ (da_cons (de_fld (fl_Numbers_own_first T) (de_var 0)) da_nil)) (da_cons (de_gs (by rfl) T.c_BY.choose_spec) (da_cons (de_str1 ⟨by rfl, T.z_str⟩ (da_cons (de_fld (fl_Numbers_own_period T) (de_var 0)) da_nil)) (da_cons (de_gs (by rfl) T.c_REST.choose_spec) da_nil)))))))
      (dss_one (ds_ext 1 (dl_de (dl_comp rfl S.nd (di_list (de_fld (fl_Numbers_own_rests T) (de_var 0))) (blkOk_by (own := [("rest", 3)]) (by rfl)) (fun _ _ _ _ _ => (dg_name 3 S.nd)) (fun _ _ _ _ _ => dts_nil) (fun _ _ _ _ _ => (de_str1 ⟨by rfl, T.z_str⟩ (da_cons (de_var 3) da_nil)))))))) dss_nil)
      (dss_fz 1 (dss_one (ds_ret (de_if (dt_ne (de_var 1) (de_lst da_nil)) (de_join (de_gs (by rfl) T.c_BLANK.choose_spec) (de_var 1)) (de_gs (by rfl) T.c_NONE.choose_spec)))))))
    ) (fun ds μ Q E h => by first | (obtain ⟨_, rfl, _⟩ := h; rfl; done) | (obtain ⟨_, _, rfl, _⟩ := h; rfl; done) | (obtain ⟨_, _, _, rfl, _⟩ := h; rfl; done) | (obtain ⟨_, _, _, _, rfl, _⟩ := h; rfl; done) | (obtain ⟨_, _, _, _, _, rfl, _⟩ := h; rfl; done) | (rcases h with ⟨_, _, rfl, _⟩ | ⟨_, _, rfl, _⟩ <;> rfl; done) | (rcases h with ⟨_, _, _, _, _, _, rfl, _⟩ | ⟨_, _, rfl, _⟩ <;> rfl; done) | (rcases h with ⟨_, _, rfl, _⟩ | ⟨_, _, _, _, rfl, _⟩ <;> rfl; done) | (rcases h with ⟨_, rfl, _⟩ | ⟨_, rfl, _⟩ <;> rfl; done) | (rcases h with ⟨_, rfl, _⟩ | ⟨_, _, rfl, _⟩ <;> rfl; done) | (obtain ⟨rfl, _⟩ := h; rfl; done)) (fun ds μ Q E h => data_Numbers_text L h)
theorem pr_Numbers_text (T : Tx P K mg) (Z : Zt K base mg) : PsF P w K mg base (gg K) "text" 1 [(41, ct_Numbers_text L)] := ⟨(cons_p ⟨⟨_, _, T.p_Numbers_text, fn_Numbers_text T Z⟩, T.cl_Numbers.cl⟩ nil_p)⟩
theorem S_Numbers_eq : FnScope ["self", "other"] ["self", "other"] (defScope s_Numbers_eq) := ⟨rfl, rfl, rfl, by decide +kernel, rfl, by decide +kernel, by decide +kernel⟩
theorem fn_Numbers_eq (T : Tx P K mg) (Z : Zt K base mg) : DFn P w K mg base (gg K) 2 (ma K (ga K "Numbers") "__eq__") (ct_Numbers_eq L) := by
  have S := S_Numbers_eq
  refine dfn_of T.F_Numbers_eq rfl S (fun A outer s H E hr =>
(dss_one (ds_ret (de_and (de_isiC T.z_isinstance T.m_Numbers T.i_Numbers (de_var 1)) (de_one (de_eq (de_meth0F (ms_Numbers_writing T Z) (hr.mono (by decide)) (de_var 0)) (de_meth0F (ms_Numbers_writing T Z) (hr.mono (by decide)) (de_var 1)))))))
    ) (fun ds μ Q E h => by first | (obtain ⟨_, rfl, _⟩ := h; rfl; done) | (obtain ⟨_, _, rfl, _⟩ := h; rfl; done) | (obtain ⟨_, _, _, rfl, _⟩ := h; rfl; done) | (obtain ⟨_, _, _, _, rfl, _⟩ := h; rfl; done) | (obtain ⟨_, _, _, _, _, rfl, _⟩ := h; rfl; done) | (rcases h with ⟨_, _, rfl, _⟩ | ⟨_, _, rfl, _⟩ <;> rfl; done) | (rcases h with ⟨_, _, _, _, _, _, rfl, _⟩ | ⟨_, _, rfl, _⟩ <;> rfl; done) | (rcases h with ⟨_, _, rfl, _⟩ | ⟨_, _, _, _, rfl, _⟩ <;> rfl; done) | (rcases h with ⟨_, rfl, _⟩ | ⟨_, rfl, _⟩ <;> rfl; done) | (rcases h with ⟨_, rfl, _⟩ | ⟨_, _, rfl, _⟩ <;> rfl; done) | (obtain ⟨rfl, _⟩ := h; rfl; done)) (fun ds μ Q E h => data_Numbers_eq L h)
theorem ms_Numbers_eq (T : Tx P K mg) (Z : Zt K base mg) : MsF P w K mg base (gg K) "__eq__" 2 [(41, ct_Numbers_eq L)] := ⟨(cons_p ⟨⟨_, T.M_Numbers_eq, fn_Numbers_eq T Z⟩, T.cl_Numbers.cl, by show ("__eq__" : Str) ∉ clsFl 41; decide +kernel⟩ nil_p)⟩
theorem op_Numbers_eq (T : Tx P K mg) (Z : Zt K base mg) : OpF P w K mg base (gg K) "__eq__" 2 [(41, ct_Numbers_eq L)] := ⟨(cons_p ⟨⟨_, T.M_Numbers_eq.at_, T.M_Numbers_eq.fn, fn_Numbers_eq T Z⟩, T.cl_Numbers.sf⟩ nil_p)⟩
theorem un_Numbers_eq (T : Tx P K mg) (Z : Zt K base mg) : UnF P w K mg base (gg K) "__eq__" 2 [(41, ct_Numbers_eq L)] := ⟨(cons_p ⟨_, T.M_Numbers_eq.at_, T.M_Numbers_eq.fn, fn_Numbers_eq T Z⟩ nil_p)⟩
theorem oa_Numbers (T : Tx P K mg) (Z : Zt K base mg) : OwA P w K mg base (gg K) (okL L) "__eq__" 2 [(41, ct_Numbers_eq L)] := ⟨T.kn, (cons_p ⟨_, T.M_Numbers_eq.at_, T.M_Numbers_eq.fn, fn_Numbers_eq T Z⟩ nil_p), (cons_p T.nf_Numbers nil_p)⟩
theorem S_Numbers_lies_in : FnScope ["self", "other", "heads", "first", "period", "rests"] ["self", "other"] (defScope s_Numbers_lies_in) := ⟨rfl, rfl, rfl, by decide +kernel, rfl, by decide +kernel, by decide +kernel⟩
theorem fn_Numbers_lies_in (T : Tx P K mg) (Z : Zt K base mg) : DFn P w K mg base (gg K) 5 (ma K (ga K "Numbers") "lies_in") (ct_Numbers_lies_in L) := by
  have S := S_Numbers_lies_in
  refine dfn_of T.F_Numbers_lies_in rfl S (fun A outer s H E hr =>
(dss_cons (ds_if (dt_not (dt_val (de_isiC T.z_isinstance T.m_Numbers T.i_Numbers (de_var 1)))) (dss_one (ds_raiseF (k := 0) (xk_BadNumbers T) (hr.mono (by decide)) (de_var 1))) dss_nil)
      (dss_cons (ds_unp rfl (de_cal (cal_put_together T Z) (hr.mono (by decide)) (da_cons (de_gs (by rfl) T.c_LESS.choose_spec) (da_cons (de_meth0F (ms_Numbers_writing T Z) (hr.mono (by decide)) (de_var 0)) (da_cons (de_meth0F (ms_Numbers_writing T Z) (hr.mono (by decide)) (de_var 1)) da_nil)))) (dg_tup (dgs_cons 2 S.nd (dgs_cons 3 S.nd (dgs_cons 4 S.nd (dgs_cons 5 S.nd dgs_nil))))))
      (dss_one (ds_ret (de_and (de_eq (de_var 2) (de_tup da_nil)) (de_one (de_eq (de_var 5) (de_tup da_nil))))))))
    ) (fun ds μ Q E h => by first | (obtain ⟨_, rfl, _⟩ := h; rfl; done) | (obtain ⟨_, _, rfl, _⟩ := h; rfl; done) | (obtain ⟨_, _, _, rfl, _⟩ := h; rfl; done) | (obtain ⟨_, _, _, _, rfl, _⟩ := h; rfl; done) | (obtain ⟨_, _, _, _, _, rfl, _⟩ := h; rfl; done) | (rcases h with ⟨_, _, rfl, _⟩ | ⟨_, _, rfl, _⟩ <;> rfl; done) | (rcases h with ⟨_, _, _, _, _, _, rfl, _⟩ | ⟨_, _, rfl, _⟩ <;> rfl; done) | (rcases h with ⟨_, _, rfl, _⟩ | ⟨_, _, _, _, rfl, _⟩ <;> rfl; done) | (rcases h with ⟨_, rfl, _⟩ | ⟨_, rfl, _⟩ <;> rfl; done) | (rcases h with ⟨_, rfl, _⟩ | ⟨_, _, rfl, _⟩ <;> rfl; done) | (obtain ⟨rfl, _⟩ := h; rfl; done)) (fun ds μ Q E h => data_Numbers_lies_in L h)
theorem ms_Numbers_lies_in (T : Tx P K mg) (Z : Zt K base mg) : MsF P w K mg base (gg K) "lies_in" 5 [(41, ct_Numbers_lies_in L)] := ⟨(cons_p ⟨⟨_, T.M_Numbers_lies_in, fn_Numbers_lies_in T Z⟩, T.cl_Numbers.cl, by show ("lies_in" : Str) ∉ clsFl 41; decide +kernel⟩ nil_p)⟩
theorem op_Numbers_lies_in (T : Tx P K mg) (Z : Zt K base mg) : OpF P w K mg base (gg K) "lies_in" 5 [(41, ct_Numbers_lies_in L)] := ⟨(cons_p ⟨⟨_, T.M_Numbers_lies_in.at_, T.M_Numbers_lies_in.fn, fn_Numbers_lies_in T Z⟩, T.cl_Numbers.sf⟩ nil_p)⟩
theorem un_Numbers_lies_in (T : Tx P K mg) (Z : Zt K base mg) : UnF P w K mg base (gg K) "lies_in" 5 [(41, ct_Numbers_lies_in L)] := ⟨(cons_p ⟨_, T.M_Numbers_lies_in.at_, T.M_Numbers_lies_in.fn, fn_Numbers_lies_in T Z⟩ nil_p)⟩
theorem S_Numbers_is_endless : FnScope ["self"] ["self"] (defScope s_Numbers_is_endless) := ⟨rfl, rfl, rfl, by decide +kernel, rfl, by decide +kernel, by decide +kernel⟩
theorem fn_Numbers_is_endless (T : Tx P K mg) (Z : Zt K base mg) : DFn P w K mg base (gg K) 1 (pga K (ga K "Numbers") "is_endless") (ct_Numbers_is_endless L) := by
  have S := S_Numbers_is_endless
  refine dfn_of T.F_Numbers_is_endless rfl S (fun A outer s H E hr =>
(dss_one (ds_ret (de_ne (de_fld (fl_Numbers_own_rests T) (de_var 0)) (de_tup da_nil))))
    ) (fun ds μ Q E h => by first | (obtain ⟨_, rfl, _⟩ := h; rfl; done) | (obtain ⟨_, _, rfl, _⟩ := h; rfl; done) | (obtain ⟨_, _, _, rfl, _⟩ := h; rfl; done) | (obtain ⟨_, _, _, _, rfl, _⟩ := h; rfl; done) | (obtain ⟨_, _, _, _, _, rfl, _⟩ := h; rfl; done) | (rcases h with ⟨_, _, rfl, _⟩ | ⟨_, _, rfl, _⟩ <;> rfl; done) | (rcases h with ⟨_, _, _, _, _, _, rfl, _⟩ | ⟨_, _, rfl, _⟩ <;> rfl; done) | (rcases h with ⟨_, _, rfl, _⟩ | ⟨_, _, _, _, rfl, _⟩ <;> rfl; done) | (rcases h with ⟨_, rfl, _⟩ | ⟨_, rfl, _⟩ <;> rfl; done) | (rcases h with ⟨_, rfl, _⟩ | ⟨_, _, rfl, _⟩ <;> rfl; done) | (obtain ⟨rfl, _⟩ := h; rfl; done)) (fun ds μ Q E h => data_Numbers_is_endless L h)
theorem pr_Numbers_is_endless (T : Tx P K mg) (Z : Zt K base mg) : PsF P w K mg base (gg K) "is_endless" 1 [(41, ct_Numbers_is_endless L)] := ⟨(cons_p ⟨⟨_, _, T.p_Numbers_is_endless, fn_Numbers_is_endless T Z⟩, T.cl_Numbers.cl⟩ nil_p)⟩
theorem S_Numbers_within : FnScope ["self", "low", "high", "parts", "number"] ["self", "low", "high"] (defScope s_Numbers_within) := ⟨rfl, rfl, rfl, by decide +kernel, rfl, by decide +kernel, by decide +kernel⟩
theorem fn_Numbers_within (T : Tx P K mg) (Z : Zt K base mg) : DFn P w K mg base (gg K) 3 (ma K (ga K "Numbers") "within") (ct_Numbers_within L) := by
  have S := S_Numbers_within
  refine dfn_of T.F_Numbers_within rfl S (fun A outer s H E hr =>
(dss_cons (ds_if (dw_pt (dw_or (dt_not (dt_val (de_cal (cal_is_between T Z) (hr.mono (by decide)) (da_cons (de_var 1) (da_cons de_int (da_cons (de_gi (by rfl) T.c_LAST.choose_spec) da_nil)))))) (dw_or1 (dt_not (dt_val (de_cal (cal_is_between T Z) (hr.mono (by decide)) (da_cons (de_var 2) (da_cons de_int (da_cons (de_gi (by rfl) T.c_LAST.choose_spec) da_nil))))))))) (dss_one (ds_raiseF (k := 0) (xk_BadRange T) (hr.mono (by decide)) (de_tup (da_cons (de_var 1) (da_cons (de_var 2) da_nil))))) dss_nil)
      (dss_cons (ds_set 3 S.nd (de_meth0F (ms_Numbers_writing T Z) (hr.mono (by decide)) (de_var 0)))
      (dss_one (ds_ret (de_tuple ⟨by rfl, T.z_tuple⟩ (da_cons (dl_de (dl_comp rfl S.nd (di_range2 (by rfl) T.z_range (da_cons (de_max rfl ⟨by rfl, T.z_max⟩ (da_cons de_int (da_cons (de_var 1) da_nil))) (da_cons (de_var 2) da_nil))) (blkOk_by (own := [("number", 4)]) (by rfl)) (fun _ _ _ _ _ => (dg_name 4 S.nd)) (fun _ _ _ _ _ => (dts_one (dt_val (de_cal (cal_is_in T Z) (hr.mono (by decide)) (da_cons (de_var 3) (da_cons (de_var 4) da_nil)))))) (fun _ _ _ _ _ => (de_var 4)))) da_nil))))))
    ) (fun ds μ Q E h => by first | (obtain ⟨_, rfl, _⟩ := h; rfl; done) | (obtain ⟨_, _, rfl, _⟩ := h; rfl; done) | (obtain ⟨_, _, _, rfl, _⟩ := h; rfl; done) | (obtain ⟨_, _, _, _, rfl, _⟩ := h; rfl; done) | (obtain ⟨_, _, _, _, _, rfl, _⟩ := h; rfl; done) | (rcases h with ⟨_, _, rfl, _⟩ | ⟨_, _, rfl, _⟩ <;> rfl; done) | (rcases h with ⟨_, _, _, _, _, _, rfl, _⟩ | ⟨_, _, rfl, _⟩ <;> rfl; done) | (rcases h with ⟨_, _, rfl, _⟩ | ⟨_, _, _, _, rfl, _⟩ <;> rfl; done) | (rcases h with ⟨_, rfl, _⟩ | ⟨_, rfl, _⟩ <;> rfl; done) | (rcases h with ⟨_, rfl, _⟩ | ⟨_, _, rfl, _⟩ <;> rfl; done) | (obtain ⟨rfl, _⟩ := h; rfl; done)) (fun ds μ Q E h => data_Numbers_within L h)
theorem ms_Numbers_within (T : Tx P K mg) (Z : Zt K base mg) : MsF P w K mg base (gg K) "within" 3 [(41, ct_Numbers_within L)] := ⟨(cons_p ⟨⟨_, T.M_Numbers_within, fn_Numbers_within T Z⟩, T.cl_Numbers.cl, by show ("within" : Str) ∉ clsFl 41; decide +kernel⟩ nil_p)⟩
theorem op_Numbers_within (T : Tx P K mg) (Z : Zt K base mg) : OpF P w K mg base (gg K) "within" 3 [(41, ct_Numbers_within L)] := ⟨(cons_p ⟨⟨_, T.M_Numbers_within.at_, T.M_Numbers_within.fn, fn_Numbers_within T Z⟩, T.cl_Numbers.sf⟩ nil_p)⟩
theorem un_Numbers_within (T : Tx P K mg) (Z : Zt K base mg) : UnF P w K mg base (gg K) "within" 3 [(41, ct_Numbers_within L)] := ⟨(cons_p ⟨_, T.M_Numbers_within.at_, T.M_Numbers_within.fn, fn_Numbers_within T Z⟩ nil_p)⟩
theorem S_figures_in : FnScope ["word", "figure"] ["word"] (defScope s_figures_in) := ⟨rfl, rfl, rfl, by decide +kernel, rfl, by decide +kernel, by decide +kernel⟩
theorem fn_figures_in (T : Tx P K mg) (Z : Zt K base mg) : DFn P w K mg base (gg K) 1 (ga K "figures_in") (ct_figures_in L) := by
  have S := S_figures_in
  refine dfn_of T.F_figures_in rfl S (fun A outer s H E hr =>
(dss_cons (ds_if (dw_pt (dw_or (dt_not (dt_lele de_int (de_len ⟨by rfl, T.z_len⟩ (da_cons (de_var 0) da_nil)) (de_gi (by rfl) T.c_MOST_FIGURES.choose_spec))) (dw_or1 (dt_not (dt_val (de_all rfl ⟨by rfl, T.z_all⟩ (da_cons (dl_de (dl_comp rfl S.nd (di_list (de_var 0)) (blkOk_by (own := [("figure", 1)]) (by rfl)) (fun _ _ _ _ _ => (dg_name 1 S.nd)) (fun _ _ _ _ _ => dts_nil) (fun _ _ _ _ _ => (de_in (de_var 1) (de_gs (by rfl) T.c_FIGURES.choose_spec))))) da_nil))))))) (dss_one (ds_ret (de_neg de_int))) dss_nil)
      (dss_one (ds_ret (de_if (dw_pt (dw_or (dt_eq (de_var 0) de_str) (dw_or1 (dt_ne (de_ix (de_var 0) de_int) de_str)))) (de_intS ⟨by rfl, T.z_int⟩ (da_cons (de_var 0) da_nil)) (de_neg de_int)))))
    ) (fun ds μ Q E h => by first | (obtain ⟨_, rfl, _⟩ := h; rfl; done) | (obtain ⟨_, _, rfl, _⟩ := h; rfl; done) | (obtain ⟨_, _, _, rfl, _⟩ := h; rfl; done) | (obtain ⟨_, _, _, _, rfl, _⟩ := h; rfl; done) | (obtain ⟨_, _, _, _, _, rfl, _⟩ := h; rfl; done) | (rcases h with ⟨_, _, rfl, _⟩ | ⟨_, _, rfl, _⟩ <;> rfl; done) | (rcases h with ⟨_, _, _, _, _, _, rfl, _⟩ | ⟨_, _, rfl, _⟩ <;> rfl; done) | (rcases h with ⟨_, _, rfl, _⟩ | ⟨_, _, _, _, rfl, _⟩ <;> rfl; done) | (rcases h with ⟨_, rfl, _⟩ | ⟨_, rfl, _⟩ <;> rfl; done) | (rcases h with ⟨_, rfl, _⟩ | ⟨_, _, rfl, _⟩ <;> rfl; done) | (obtain ⟨rfl, _⟩ := h; rfl; done)) (fun ds μ Q E h => data_figures_in L h)
theorem cal_figures_in (T : Tx P K mg) (Z : Zt K base mg) : CalO P w K mg base (gg K) 1 "figures_in" (ct_figures_in L) := ⟨_, fn_figures_in T Z, T.m_figures_in, T.F_figures_in.kp⟩
theorem S_integers_in : FnScope ["words", "found", "word"] ["words"] (defScope s_integers_in) := ⟨rfl, rfl, rfl, by decide +kernel, rfl, by decide +kernel, by decide +kernel⟩
theorem fn_integers_in (T : Tx P K mg) (Z : Zt K base mg) : DFn P w K mg base (gg K) 2 (ga K "integers_in") (ct_integers_in L) := by
  have S := S_integers_in
  refine dfn_of T.F_integers_in rfl S (fun A outer s H E hr =>
(dss_cons (ds_set 1 S.nd (de_tuple ⟨by rfl, T.z_tuple⟩ (da_cons (dl_de (dl_comp rfl S.nd (di_list (de_var 0)) (blkOk_by (own := [("word", 2)]) (by rfl)) (fun _ _ _ _ _ => (dg_name 2 S.nd)) (fun _ _ _ _ _ => dts_nil) (fun _ _ _ _ _ => (de_cal (cal_figures_in T Z) (hr.mono (by decide)) (da_cons (de_var 2) da_nil))))) da_nil)))
      (dss_one (ds_ret (de_if (dt_in (de_neg de_int) (de_var 1)) de_non (de_var 1)))))
    ) (fun ds μ Q E h => by first | (obtain ⟨_, rfl, _⟩ := h; rfl; done) | (obtain ⟨_, _, rfl, _⟩ := h; rfl; done) | (obtain ⟨_, _, _, rfl, _⟩ := h; rfl; done) | (obtain ⟨_, _, _, _, rfl, _⟩ := h; rfl; done) | (obtain ⟨_, _, _, _, _, rfl, _⟩ := h; rfl; done) | (rcases h with ⟨_, _, rfl, _⟩ | ⟨_, _, rfl, _⟩ <;> rfl; done) | (rcases h with ⟨_, _, _, _, _, _, rfl, _⟩ | ⟨_, _, rfl, _⟩ <;> rfl; done) | (rcases h with ⟨_, _, rfl, _⟩ | ⟨_, _, _, _, rfl, _⟩ <;> rfl; done) | (rcases h with ⟨_, rfl, _⟩ | ⟨_, rfl, _⟩ <;> rfl; done) | (rcases h with ⟨_, rfl, _⟩ | ⟨_, _, rfl, _⟩ <;> rfl; done) | (obtain ⟨rfl, _⟩ := h; rfl; done)) (fun ds μ Q E h => data_integers_in L h)
theorem cal_integers_in (T : Tx P K mg) (Z : Zt K base mg) : CalO P w K mg base (gg K) 2 "integers_in" (ct_integers_in L) := ⟨_, fn_integers_in T Z, T.m_integers_in, T.F_integers_in.kp⟩
theorem S_parts_in : FnScope ["text", "words", "count", "heads", "tail", "integers"] ["text"] (defScope s_parts_in) := ⟨rfl, rfl, rfl, by decide +kernel, rfl, by decide +kernel, by decide +kernel⟩
theorem fn_parts_in (T : Tx P K mg) (Z : Zt K base mg) : DFn P w K mg base (gg K) 3 (ga K "parts_in") (ct_parts_in L) := by
  have S := S_parts_in
  refine dfn_of T.F_parts_in rfl S (fun A outer s H E hr =>
(dss_cons (ds_set 1 S.nd (de_if (dt_ne (de_var 0) (de_gs (by rfl) T.c_NONE.choose_spec)) (de_split (de_var 0) (de_gs (by rfl) T.c_BLANK.choose_spec)) (de_lst da_nil)))
      (dss_cons (ds_set 2 S.nd (de_if (dt_in (de_gs (by rfl) T.c_FROM.choose_spec) (de_var 1)) (de_index (de_var 1) (de_gs (by rfl) T.c_FROM.choose_spec)) (de_len ⟨by rfl, T.z_len⟩ (da_cons (de_var 1) da_nil))))
      (dss_cons (ds_par 3 4 rfl S.nd (da_cons (de_cal (cal_integers_in T Z) (hr.mono (by decide)) (da_cons (de_slice (de_var 1) do_n (do_s (de_var 2))) da_nil)) (da_cons (de_slice (de_var 1) (do_s (de_var 2)) do_n) da_nil)))
      (dss_cons (ds_if (dt_isN (de_var 3) de_non) (dss_one (ds_ret de_non)) dss_nil)
      (dss_cons (ds_if (dt_eq (de_var 4) (de_lst da_nil)) (dss_one (ds_ret (de_tup (da_cons (de_var 3) (da_cons (de_add (de_max rfl ⟨by rfl, T.z_max⟩ (da_cons (de_lst (da_cons de_int (da_star (de_var 3) da_nil))) da_nil)) de_int) (da_cons de_int (da_cons (de_tup da_nil) da_nil))))))) dss_nil)
      (dss_cons (ds_if (dw_pt (dw_or (dt_le (de_len ⟨by rfl, T.z_len⟩ (da_cons (de_var 4) da_nil)) (de_gi (by rfl) T.c_WORDS.choose_spec)) (dw_or (dt_ne (de_ix (de_var 4) de_int) (de_gs (by rfl) T.c_BY.choose_spec)) (dw_or1 (dt_ne (de_ix (de_var 4) de_int) (de_gs (by rfl) T.c_REST.choose_spec)))))) (dss_one (ds_ret de_non)) dss_nil)
      (dss_cons (ds_set 5 S.nd (de_cal (cal_integers_in T Z) (hr.mono (by decide)) (da_cons (de_lst (da_cons (de_ix (de_var 4) de_int) (da_cons (de_ix (de_var 4) de_int) (da_star (de_slice (de_var 4) (do_s (de_gi (by rfl) T.c_WORDS.choose_spec)) do_n) da_nil)))) da_nil)))
      (dss_one (ds_ret (de_if (dt_isN (de_var 5) de_non) de_non (de_tup (da_cons (de_var 3) (da_cons (de_ix (de_var 5) de_int) (da_cons (de_ix (de_var 5) de_int) (da_cons (de_slice (de_var 5) (do_s de_int) do_n) da_nil)))))))))))))))
    ) (fun ds μ Q E h => by first | (obtain ⟨_, rfl, _⟩ := h; rfl; done) | (obtain ⟨_, _, rfl, _⟩ := h; rfl; done) | (obtain ⟨_, _, _, rfl, _⟩ := h; rfl; done) | (obtain ⟨_, _, _, _, rfl, _⟩ := h; rfl; done) | (obtain ⟨_, _, _, _, _, rfl, _⟩ := h; rfl; done) | (rcases h with ⟨_, _, rfl, _⟩ | ⟨_, _, rfl, _⟩ <;> rfl; done) | (rcases h with ⟨_, _, _, _, _, _, rfl, _⟩ | ⟨_, _, rfl, _⟩ <;> rfl; done) | (rcases h with ⟨_, _, rfl, _⟩ | ⟨_, _, _, _, rfl, _⟩ <;> rfl; done) | (rcases h with ⟨_, rfl, _⟩ | ⟨_, rfl, _⟩ <;> rfl; done) | (rcases h with ⟨_, rfl, _⟩ | ⟨_, _, rfl, _⟩ <;> rfl; done) | (obtain ⟨rfl, _⟩ := h; rfl; done)) (fun ds μ Q E h => data_parts_in L h)
theorem cal_parts_in (T : Tx P K mg) (Z : Zt K base mg) : CalO P w K mg base (gg K) 3 "parts_in" (ct_parts_in L) := ⟨_, fn_parts_in T Z, T.m_parts_in, T.F_parts_in.kp⟩
theorem S_numbers_in : FnScope ["text", "parts", "found"] ["text"] (defScope s_numbers_in) := ⟨rfl, rfl, rfl, by decide +kernel, rfl, by decide +kernel, by decide +kernel⟩
theorem fn_numbers_in (T : Tx P K mg) (Z : Zt K base mg) : DFn P w K mg base (gg K) 7 (ga K "numbers_in") (ct_numbers_in L) := by
  have S := S_numbers_in
  refine dfn_of T.F_numbers_in rfl S (fun A outer s H E hr =>
(dss_cons (ds_set 1 S.nd (de_if (dt_val (de_isiB T.z_isinstance T.z_str PyProof.Rows.Boot.«str» T.i_str (de_var 0))) (de_cal (cal_parts_in T Z) (hr.mono (by decide)) (da_cons (de_var 0) da_nil)) de_non))
      (dss_cons (ds_if (dw_pt (dw_or (dt_isN (de_var 1) de_non) (dw_or1 (dt_not (dt_val (de_calS (cal_are_parts T Z) (hr.mono (by decide)) (de_var 1))))))) (dss_one (ds_ret de_non)) dss_nil)
      (dss_cons (ds_set 2 S.nd (de_makeSF (mk_Numbers_4 T Z) (hr.mono (by decide)) (de_var 1)))
      (dss_one (ds_ret (de_if (dt_eq (de_propF (pr_Numbers_text T Z) (hr.mono (by decide)) (de_var 2)) (de_var 0)) (de_var 2) de_non))))))
    ) (fun ds μ Q E h => by first | (obtain ⟨_, rfl, _⟩ := h; rfl; done) | (obtain ⟨_, _, rfl, _⟩ := h; rfl; done) | (obtain ⟨_, _, _, rfl, _⟩ := h; rfl; done) | (obtain ⟨_, _, _, _, rfl, _⟩ := h; rfl; done) | (obtain ⟨_, _, _, _, _, rfl, _⟩ := h; rfl; done) | (rcases h with ⟨_, _, rfl, _⟩ | ⟨_, _, rfl, _⟩ <;> rfl; done) | (rcases h with ⟨_, _, _, _, _, _, rfl, _⟩ | ⟨_, _, rfl, _⟩ <;> rfl; done) | (rcases h with ⟨_, _, rfl, _⟩ | ⟨_, _, _, _, rfl, _⟩ <;> rfl; done) | (rcases h with ⟨_, rfl, _⟩ | ⟨_, rfl, _⟩ <;> rfl; done) | (rcases h with ⟨_, rfl, _⟩ | ⟨_, _, rfl, _⟩ <;> rfl; done) | (obtain ⟨rfl, _⟩ := h; rfl; done)) (fun ds μ Q E h => data_numbers_in L h)
theorem cal_numbers_in (T : Tx P K mg) (Z : Zt K base mg) : CalO P w K mg base (gg K) 7 "numbers_in" (ct_numbers_in L) := ⟨_, fn_numbers_in T Z, T.m_numbers_in, T.F_numbers_in.kp⟩
theorem S_Numbers_of : FnScope ["text", "found"] ["text"] (defScope s_Numbers_of) := ⟨rfl, rfl, rfl, by decide +kernel, rfl, by decide +kernel, by decide +kernel⟩
theorem fn_Numbers_of (T : Tx P K mg) (Z : Zt K base mg) : DFn P w K mg base (gg K) 8 (sga K (ga K "Numbers") "of") (ct_Numbers_of L) := by
  have S := S_Numbers_of
  refine dfn_of T.F_Numbers_of rfl S (fun A outer s H E hr =>
(dss_cons (ds_set 1 S.nd (de_cal (cal_numbers_in T Z) (hr.mono (by decide)) (da_cons (de_var 0) da_nil)))
      (dss_cons (ds_if (dt_isN (de_var 1) de_non) (dss_one (ds_raiseF (k := 0) (xk_BadText T) (hr.mono (by decide)) (de_var 0))) dss_nil)
      (dss_one (ds_ret (de_var 1)))))
    ) (fun ds μ Q E h => by first | (obtain ⟨_, rfl, _⟩ := h; rfl; done) | (obtain ⟨_, _, rfl, _⟩ := h; rfl; done) | (obtain ⟨_, _, _, rfl, _⟩ := h; rfl; done) | (obtain ⟨_, _, _, _, rfl, _⟩ := h; rfl; done) | (obtain ⟨_, _, _, _, _, rfl, _⟩ := h; rfl; done) | (rcases h with ⟨_, _, rfl, _⟩ | ⟨_, _, rfl, _⟩ <;> rfl; done) | (rcases h with ⟨_, _, _, _, _, _, rfl, _⟩ | ⟨_, _, rfl, _⟩ <;> rfl; done) | (rcases h with ⟨_, _, rfl, _⟩ | ⟨_, _, _, _, rfl, _⟩ <;> rfl; done) | (rcases h with ⟨_, rfl, _⟩ | ⟨_, rfl, _⟩ <;> rfl; done) | (rcases h with ⟨_, rfl, _⟩ | ⟨_, _, rfl, _⟩ <;> rfl; done) | (obtain ⟨rfl, _⟩ := h; rfl; done)) (fun ds μ Q E h => data_Numbers_of L h)
theorem st_Numbers_of (T : Tx P K mg) (Z : Zt K base mg) : StF P w K mg base (gg K) "Numbers" "of" 8 (ct_Numbers_of L) := stF_of T.s_Numbers_of T.m_Numbers T.F_Numbers_of.kp (fn_Numbers_of T Z)
theorem S_law_right : FnScope ["_law_pot_here", "_law_one", "_law_other", "_law_third", "_law_lap", "_law_none", "_law_rows", "_law_left", "_law_right_here", "_law_low", "_law_high", "_law_both"] ["_law_pot_here"] (defScope s_law_right) := ⟨rfl, rfl, rfl, by decide +kernel, rfl, by decide +kernel, by decide +kernel⟩
theorem fn_law_right (T : Tx P K mg) (Z : Zt K base mg) : DFn P w K mg base (gg K) 9 (ga K "_law_right") (ct_law_right L) := by
  have S := S_law_right
  refine dfn_of T.F_law_right rfl S (fun A outer s H E hr =>
(dss_cons (ds_unp rfl (dl_de (dl_comp rfl S.nd (di_range1 (by rfl) T.z_range (da_cons de_int da_nil)) (blkOk_by (own := [("_law_lap", 4)]) (by rfl)) (fun _ _ _ _ _ => (dg_name 4 S.nd)) (fun _ _ _ _ _ => dts_nil) (fun _ _ _ _ _ => (de_cal (cal_law_new T Z) (hr.mono (by decide)) (da_cons (de_cal (cal_law_parts T Z) (hr.mono (by decide)) (da_cons (de_var 0) (da_cons de_int da_nil))) da_nil))))) (dg_tup (dgs_cons 1 S.nd (dgs_cons 2 S.nd (dgs_cons 3 S.nd dgs_nil)))))
      (dss_cons (ds_set 5 S.nd (de_make0F (mk_Numbers_0 T Z) (hr.mono (by decide))))
      (dss_cons (ds_set 6 S.nd (de_lst (da_cons (de_tup (da_cons (de_invF (un_Numbers_invert T Z) (hr.mono (by decide)) (de_invF (un_Numbers_invert T Z) (hr.mono (by decide)) (de_var 1))) (da_cons (de_var 1) da_nil))) (da_cons (de_tup (da_cons (de_invF (un_Numbers_invert T Z) (hr.mono (by decide)) (de_opF (op_Numbers_or T Z) (hr.mono (by decide)) (de_var 1) (de_var 2))) (da_cons (de_opF (op_Numbers_and T Z) (hr.mono (by decide)) (de_invF (un_Numbers_invert T Z) (hr.mono (by decide)) (de_var 1)) (de_invF (un_Numbers_invert T Z) (hr.mono (by decide)) (de_var 2))) da_nil))) (da_cons (de_tup (da_cons (de_invF (un_Numbers_invert T Z) (hr.mono (by decide)) (de_opF (op_Numbers_and T Z) (hr.mono (by decide)) (de_var 1) (de_var 2))) (da_cons (de_opF (op_Numbers_or T Z) (hr.mono (by decide)) (de_invF (un_Numbers_invert T Z) (hr.mono (by decide)) (de_var 1)) (de_invF (un_Numbers_invert T Z) (hr.mono (by decide)) (de_var 2))) da_nil))) da_nil)))))
      (dss_cons (ds_set 6 S.nd (de_add (de_var 6) (de_lst (da_cons (de_tup (da_cons (de_opF (op_Numbers_sub T Z) (hr.mono (by decide)) (de_var 1) (de_var 2)) (da_cons (de_opF (op_Numbers_and T Z) (hr.mono (by decide)) (de_var 1) (de_invF (un_Numbers_invert T Z) (hr.mono (by decide)) (de_var 2))) da_nil))) (da_cons (de_tup (da_cons (de_opF (op_Numbers_xor T Z) (hr.mono (by decide)) (de_var 1) (de_var 2)) (da_cons (de_opF (op_Numbers_sub T Z) (hr.mono (by decide)) (de_opF (op_Numbers_or T Z) (hr.mono (by decide)) (de_var 1) (de_var 2)) (de_opF (op_Numbers_and T Z) (hr.mono (by decide)) (de_var 1) (de_var 2))) da_nil))) da_nil)))))
      (dss_cons (ds_set 6 S.nd (de_add (de_var 6) (de_lst (da_cons (de_tup (da_cons (de_opF (op_Numbers_and T Z) (hr.mono (by decide)) (de_var 1) (de_opF (op_Numbers_or T Z) (hr.mono (by decide)) (de_var 2) (de_var 3))) (da_cons (de_opF (op_Numbers_or T Z) (hr.mono (by decide)) (de_opF (op_Numbers_and T Z) (hr.mono (by decide)) (de_var 1) (de_var 2)) (de_opF (op_Numbers_and T Z) (hr.mono (by decide)) (de_var 1) (de_var 3))) da_nil))) (da_cons (de_tup (da_cons (de_opF (op_Numbers_xor T Z) (hr.mono (by decide)) (de_opF (op_Numbers_xor T Z) (hr.mono (by decide)) (de_var 1) (de_var 2)) (de_var 2)) (da_cons (de_var 1) da_nil))) da_nil)))))
      (dss_cons (ds_set 6 S.nd (de_add (de_var 6) (de_lst (da_cons (de_tup (da_cons (de_opF (op_Numbers_or T Z) (hr.mono (by decide)) (de_var 1) (de_opF (op_Numbers_and T Z) (hr.mono (by decide)) (de_var 2) (de_var 3))) (da_cons (de_opF (op_Numbers_and T Z) (hr.mono (by decide)) (de_opF (op_Numbers_or T Z) (hr.mono (by decide)) (de_var 1) (de_var 2)) (de_opF (op_Numbers_or T Z) (hr.mono (by decide)) (de_var 1) (de_var 3))) da_nil))) (da_cons (de_tup (da_cons (de_opF (op_Numbers_and T Z) (hr.mono (by decide)) (de_var 1) (de_invF (un_Numbers_invert T Z) (hr.mono (by decide)) (de_var 1))) (da_cons (de_var 5) da_nil))) da_nil)))))
      (dss_cons (ds_set 6 S.nd (de_add (de_var 6) (de_lst (da_cons (de_tup (da_cons (de_opF (op_Numbers_or T Z) (hr.mono (by decide)) (de_var 1) (de_invF (un_Numbers_invert T Z) (hr.mono (by decide)) (de_var 1))) (da_cons (de_invF (un_Numbers_invert T Z) (hr.mono (by decide)) (de_var 5)) da_nil))) (da_cons (de_tup (da_cons (de_opF (op_Numbers_sub T Z) (hr.mono (by decide)) (de_var 1) (de_var 1)) (da_cons (de_var 5) da_nil))) (da_cons (de_tup (da_cons (de_opF (op_Numbers_or T Z) (hr.mono (by decide)) (de_opF (op_Numbers_or T Z) (hr.mono (by decide)) (de_var 1) (de_var 2)) (de_var 3)) (da_cons (de_opF (op_Numbers_or T Z) (hr.mono (by decide)) (de_var 1) (de_opF (op_Numbers_or T Z) (hr.mono (by decide)) (de_var 2) (de_var 3))) da_nil))) da_nil))))))
      (dss_cons (ds_if (dt_not (dt_val (de_all rfl ⟨by rfl, T.z_all⟩ (da_cons (dl_de (dl_comp rfl S.nd (di_list (de_var 6)) (blkOk_by (own := [("_law_left", 7), ("_law_right_here", 8)]) (by rfl)) (fun _ _ _ _ _ => (dg_tup (dgs_cons 7 S.nd (dgs_cons 8 S.nd dgs_nil)))) (fun _ _ _ _ _ => dts_nil) (fun _ _ _ _ _ => (de_and (de_cmpX (ox_ownA (fun _ _ => rfl) (oa_Numbers T Z) (hr.mono (by decide))) (de_var 7) (de_var 8) (nomark _)) (de_one (de_eq (de_propF (pr_Numbers_text T Z) (hr.mono (by decide)) (de_var 7)) (de_propF (pr_Numbers_text T Z) (hr.mono (by decide)) (de_var 8)))))))) da_nil)))) (dss_one (ds_ret de_bl)) dss_nil)
      (dss_cons (ds_if (dw_pt (dw_or (dt_not (dt_val (de_methF (ms_Numbers_lies_in T Z) (hr.mono (by decide)) (de_opF (op_Numbers_and T Z) (hr.mono (by decide)) (de_var 1) (de_var 2)) (da_cons (de_var 1) da_nil)))) (dw_or (dt_not (dt_val (de_methF (ms_Numbers_lies_in T Z) (hr.mono (by decide)) (de_var 1) (da_cons (de_opF (op_Numbers_or T Z) (hr.mono (by decide)) (de_var 1) (de_var 2)) da_nil)))) (dw_or1 (dt_not (dt_val (de_methF (ms_Numbers_lies_in T Z) (hr.mono (by decide)) (de_var 5) (da_cons (de_var 1) da_nil)))))))) (dss_one (ds_ret de_bl)) dss_nil)
      (dss_cons (ds_if (dw_pt (dw_or (dt_ne (de_methF (ms_Numbers_lies_in T Z) (hr.mono (by decide)) (de_var 1) (da_cons (de_var 2) da_nil)) (de_cmpX (ox_ownA (fun _ _ => rfl) (oa_Numbers T Z) (hr.mono (by decide))) (de_opF (op_Numbers_or T Z) (hr.mono (by decide)) (de_var 1) (de_var 2)) (de_var 2) (nomark _))) (dw_or1 (dt_not (dt_val (de_methF (ms_Numbers_lies_in T Z) (hr.mono (by decide)) (de_var 1) (da_cons (de_invF (un_Numbers_invert T Z) (hr.mono (by decide)) (de_var 5)) da_nil))))))) (dss_one (ds_ret de_bl)) dss_nil)
      (dss_cons (ds_if (dt_ne (de_and (de_methF (ms_Numbers_lies_in T Z) (hr.mono (by decide)) (de_var 1) (da_cons (de_var 2) da_nil)) (de_one (de_methF (ms_Numbers_lies_in T Z) (hr.mono (by decide)) (de_var 2) (da_cons (de_var 1) da_nil)))) (de_cmpX (ox_ownA (fun _ _ => rfl) (oa_Numbers T Z) (hr.mono (by decide))) (de_var 1) (de_var 2) (nomark _))) (dss_one (ds_ret de_bl)) dss_nil)
      (dss_cons (ds_if (dw_pt (dw_or (dt_ne (de_propF (pr_Numbers_is_endless T Z) (hr.mono (by decide)) (de_var 1)) (de_ne (de_methF (ms_Numbers_within T Z) (hr.mono (by decide)) (de_var 1) (da_cons de_int (da_cons de_int da_nil))) (de_tup da_nil))) (dw_or1 (dt_not (dw_pt (dw_or (dt_val (de_propF (pr_Numbers_is_endless T Z) (hr.mono (by decide)) (de_invF (un_Numbers_invert T Z) (hr.mono (by decide)) (de_var 1)))) (dw_or1 (dt_val (de_propF (pr_Numbers_is_endless T Z) (hr.mono (by decide)) (de_var 1)))))))))) (dss_one (ds_ret de_bl)) dss_nil)
      (dss_cons (ds_par 9 10 rfl S.nd (da_cons (de_cal (cal_law_take T Z) (hr.mono (by decide)) (da_cons (de_var 0) (da_cons de_int da_nil))) (da_cons (de_cal (cal_law_take T Z) (hr.mono (by decide)) (da_cons (de_var 0) (da_cons de_int da_nil))) da_nil)))
      (dss_cons (ds_set 11 S.nd (de_sortSet rfl ⟨by rfl, T.z_sorted⟩ ⟨by rfl, T.z_set⟩ (de_add (de_list ⟨by rfl, T.z_list⟩ (da_cons (de_methF (ms_Numbers_within T Z) (hr.mono (by decide)) (de_var 1) (da_cons (de_var 9) (da_cons (de_var 10) da_nil))) da_nil)) (de_list ⟨by rfl, T.z_list⟩ (da_cons (de_methF (ms_Numbers_within T Z) (hr.mono (by decide)) (de_var 2) (da_cons (de_var 9) (da_cons (de_var 10) da_nil))) da_nil)))))
      (dss_one (ds_ret (de_and (de_eq (de_methF (ms_Numbers_within T Z) (hr.mono (by decide)) (de_opF (op_Numbers_or T Z) (hr.mono (by decide)) (de_var 1) (de_var 2)) (da_cons (de_var 9) (da_cons (de_var 10) da_nil))) (de_tuple ⟨by rfl, T.z_tuple⟩ (da_cons (de_var 11) da_nil))) (de_one (de_cmpX (ox_ownA (fun _ _ => rfl) (oa_Numbers T Z) (hr.mono (by decide))) (de_stat (st_Numbers_of T Z) (hr.mono (by decide)) (da_cons (de_propF (pr_Numbers_text T Z) (hr.mono (by decide)) (de_var 1)) da_nil)) (de_var 1) (nomark _))))))))))))))))))))
    ) (fun ds μ Q E h => by first | (obtain ⟨_, rfl, _⟩ := h; rfl; done) | (obtain ⟨_, _, rfl, _⟩ := h; rfl; done) | (obtain ⟨_, _, _, rfl, _⟩ := h; rfl; done) | (obtain ⟨_, _, _, _, rfl, _⟩ := h; rfl; done) | (obtain ⟨_, _, _, _, _, rfl, _⟩ := h; rfl; done) | (rcases h with ⟨_, _, rfl, _⟩ | ⟨_, _, rfl, _⟩ <;> rfl; done) | (rcases h with ⟨_, _, _, _, _, _, rfl, _⟩ | ⟨_, _, rfl, _⟩ <;> rfl; done) | (rcases h with ⟨_, _, rfl, _⟩ | ⟨_, _, _, _, rfl, _⟩ <;> rfl; done) | (rcases h with ⟨_, rfl, _⟩ | ⟨_, rfl, _⟩ <;> rfl; done) | (rcases h with ⟨_, rfl, _⟩ | ⟨_, _, rfl, _⟩ <;> rfl; done) | (obtain ⟨rfl, _⟩ := h; rfl; done)) (fun ds μ Q E h => data_law_right L h)
theorem cal_law_right (T : Tx P K mg) (Z : Zt K base mg) : CalO P w K mg base (gg K) 9 "_law_right" (ct_law_right L) := ⟨_, fn_law_right T Z, T.m__law_right, T.F_law_right.kp⟩
theorem S_law : FnScope ["_law_script", "_law_place", "_law_pot_here"] ["_law_script"] (defScope s_law) := ⟨rfl, rfl, rfl, by decide +kernel, rfl, by decide +kernel, by decide +kernel⟩
theorem fn_law (T : Tx P K mg) (Z : Zt K base mg) : DFn P w K mg base (gg K) 10 (ga K "law") (ct_law L) := by
  have S := S_law
  refine dfn_of T.F_law rfl S (fun A outer s H E hr =>
(dss_cons (ds_for rfl (di_list (de_cal (cal_law_cells T Z) (hr.mono (by decide)) (da_cons (de_var 0) (da_cons de_int da_nil)))) (dg_name 1 S.nd) (dss_cons (ds_set 2 S.nd (de_cal (cal_law_pot T Z) (hr.mono (by decide)) (da_cons (de_var 0) (da_cons (de_var 1) da_nil))))
      (dss_one (ds_if (dt_not (dt_val (de_cal (cal_law_right T Z) (hr.mono (by decide)) (da_cons (de_var 2) da_nil)))) (dss_one (ds_ret de_bl)) dss_nil))))
      (dss_one (ds_ret de_bl)))
    ) (fun ds μ Q E h => by first | (obtain ⟨_, rfl, _⟩ := h; rfl; done) | (obtain ⟨_, _, rfl, _⟩ := h; rfl; done) | (obtain ⟨_, _, _, rfl, _⟩ := h; rfl; done) | (obtain ⟨_, _, _, _, rfl, _⟩ := h; rfl; done) | (obtain ⟨_, _, _, _, _, rfl, _⟩ := h; rfl; done) | (rcases h with ⟨_, _, rfl, _⟩ | ⟨_, _, rfl, _⟩ <;> rfl; done) | (rcases h with ⟨_, _, _, _, _, _, rfl, _⟩ | ⟨_, _, rfl, _⟩ <;> rfl; done) | (rcases h with ⟨_, _, rfl, _⟩ | ⟨_, _, _, _, rfl, _⟩ <;> rfl; done) | (rcases h with ⟨_, rfl, _⟩ | ⟨_, rfl, _⟩ <;> rfl; done) | (rcases h with ⟨_, rfl, _⟩ | ⟨_, _, rfl, _⟩ <;> rfl; done) | (obtain ⟨rfl, _⟩ := h; rfl; done)) (fun ds μ Q E h => data_law L h)
theorem cal_law (T : Tx P K mg) (Z : Zt K base mg) : CalO P w K mg base (gg K) 10 "law" (ct_law L) := ⟨_, fn_law T Z, T.m_law, T.F_law.kp⟩
end K07
namespace K07
open PySem PySem.Spec PyProof.Rows L2 Dk He Sk
def dqs : List DefQ := [⟨.glo "_law_cells", "_law_cells", "_law_cells", s_law_cells, []⟩,
  ⟨.glo "_law_pot", "_law_pot", "_law_pot", s_law_pot, []⟩,
  ⟨.glo "is_integer", "is_integer", "is_integer", s_is_integer, []⟩,
  ⟨.glo "is_between", "is_between", "is_between", s_is_between, []⟩,
  ⟨.glo "do_ascend", "do_ascend", "do_ascend", s_do_ascend, []⟩,
  ⟨.glo "are_numbers", "are_numbers", "are_numbers", s_are_numbers, []⟩,
  ⟨.glo "are_parts", "are_parts", "are_parts", s_are_parts, []⟩,
  ⟨.glo "least_ring", "least_ring", "least_ring", s_least_ring, []⟩,
  ⟨.glo "ring_of", "ring_of", "ring_of", s_ring_of, []⟩,
  ⟨.glo "least_first", "least_first", "least_first", s_least_first, []⟩,
  ⟨.glo "least_parts", "least_parts", "least_parts", s_least_parts, []⟩,
  ⟨.glo "is_in", "is_in", "is_in", s_is_in, []⟩,
  ⟨.met "Numbers" "__init__", "__init__", "Numbers.__init__", s_Numbers_init, [.adr (dflAt ("Numbers", some "__init__") 0), .int 1, .int 1, .adr (dflAt ("Numbers", some "__init__") 3)]⟩,
  ⟨.glo "_law_new", "_law_new", "_law_new", s_law_new, []⟩,
  ⟨.glo "_law_take", "_law_take", "_law_take", s_law_take, []⟩,
  ⟨.glo "_law_of", "_law_of", "_law_of", s_law_of, []⟩,
  ⟨.glo "_law_parts", "_law_parts", "_law_parts", s_law_parts, []⟩,
  ⟨.glo "common_of", "common_of", "common_of", s_common_of, []⟩,
  ⟨.glo "multiple_of", "multiple_of", "multiple_of", s_multiple_of, []⟩,
  ⟨.glo "common_period", "common_period", "common_period", s_common_period, []⟩,
  ⟨.glo "is_by", "is_by", "is_by", s_is_by, []⟩,
  ⟨.glo "put_together", "put_together", "put_together", s_put_together, []⟩,
  ⟨.met "Numbers" "writing", "writing", "Numbers.writing", s_Numbers_writing, []⟩,
  ⟨.met "Numbers" "__or__", "__or__", "Numbers.__or__", s_Numbers_or, []⟩,
  ⟨.met "Numbers" "__invert__", "__invert__", "Numbers.__invert__", s_Numbers_invert, []⟩,
  ⟨.met "Numbers" "__and__", "__and__", "Numbers.__and__", s_Numbers_and, []⟩,
  ⟨.met "Numbers" "__sub__", "__sub__", "Numbers.__sub__", s_Numbers_sub, []⟩,
  ⟨.met "Numbers" "__xor__", "__xor__", "Numbers.__xor__", s_Numbers_xor, []⟩,
  ⟨.prp "Numbers" "text", "text", "Numbers.text", s_Numbers_text, []⟩,
  ⟨.met "Numbers" "__eq__", "__eq__", "Numbers.__eq__", s_Numbers_eq, []⟩,
  ⟨.met "Numbers" "lies_in", "lies_in", "Numbers.lies_in", s_Numbers_lies_in, []⟩,
  ⟨.prp "Numbers" "is_endless", "is_endless", "Numbers.is_endless", s_Numbers_is_endless, []⟩,
  ⟨.met "Numbers" "within", "within", "Numbers.within", s_Numbers_within, []⟩,
  ⟨.glo "figures_in", "figures_in", "figures_in", s_figures_in, []⟩,
  ⟨.glo "integers_in", "integers_in", "integers_in", s_integers_in, []⟩,
  ⟨.glo "parts_in", "parts_in", "parts_in", s_parts_in, []⟩,
  ⟨.glo "numbers_in", "numbers_in", "numbers_in", s_numbers_in, []⟩,
  ⟨.stc "Numbers" "of", "of", "Numbers.of", s_Numbers_of, []⟩,
  ⟨.glo "_law_right", "_law_right", "_law_right", s_law_right, []⟩,
  ⟨.glo "law", "law", "law", s_law, []⟩]
def fas : List Fa := [.free "list", .free "range", .free "max", .free "min", .free "len", .free "int", .free "abs", .free "isinstance", .free "bool", .free "all", .free "zip", .free "tuple", .free "enumerate", .free "str", .free "sorted", .free "set", .int "LAST" 9999, .str "JUST" "just", .str "LESS" "less", .str "AND" "and", .str "OR" "or", .str "REST" "rest", .str "BY" "by", .str "FROM" "from", .str "BLANK" " ", .str "NONE" "none", .str "FIGURES" "0123456789", .int "MOST_FIGURES" 9, .int "WORDS" 5, .glo "ALL", .glo "_law_cells", .glo "_law_pot", .glo "is_integer", .glo "is_between", .glo "do_ascend", .glo "are_numbers", .glo "are_parts", .glo "least_ring", .glo "ring_of", .glo "least_first", .glo "least_parts", .glo "is_in", .glo "_law_new", .glo "_law_take", .glo "_law_of", .glo "_law_parts", .glo "common_of", .glo "multiple_of", .glo "common_period", .glo "is_by", .glo "put_together", .meth "Numbers" "writing", .meth "Numbers" "__or__", .meth "Numbers" "__invert__", .meth "Numbers" "__and__", .meth "Numbers" "__sub__", .meth "Numbers" "__xor__", .meth "Numbers" "__eq__", .meth "Numbers" "lies_in", .meth "Numbers" "within", .glo "figures_in", .glo "integers_in", .glo "parts_in", .glo "numbers_in", .glo "_law_right", .glo "law", .glo "Numbers", .noat "Numbers" "own_rests", .noat "Numbers" "own_period", .noat "Numbers" "own_first", .noat "Numbers" "own_heads", .free "super", .free "repr", .glo "BadNumbers", .glo "BadText", .glo "BadRange", .glo "TooGreat"]
def oths : List (PySem.W.Frag → Bool) := [fun K => datV K (.tup [(.tup []), (.int 1), (.int 1), (.tup [(.int 0)])]) (.ref (ga K "ALL")),
  fun K => datV K (.tup []) (.ref (dflAt ("Numbers", some "__init__") 0 K)),
  fun K => datV K (.tup []) (.ref (dflAt ("Numbers", some "__init__") 3 K)),
  fun K => prB K (ga K "Numbers") "text",
  fun K => prB K (ga K "Numbers") "is_endless",
  fun K => stB K (ga K "Numbers") "of",
  fun K => clB K "Numbers",
  fun K => rgB K PySem.Challenge.pw_skipround_k07_whole_algebra_of_sets.main.file (ga K "RingError") (ma K (ga K "RingError") "__init__") "RingError.__init__",
  fun K => xcB K (ga K "RingError") (ga K "BadNumbers") (ma K (ga K "RingError") "__init__"),
  fun K => xcB K (ga K "RingError") (ga K "BadText") (ma K (ga K "RingError") "__init__"),
  fun K => xcB K (ga K "RingError") (ga K "BadRange") (ma K (ga K "RingError") "__init__"),
  fun K => xcB K (ga K "RingError") (ga K "TooGreat") (ma K (ga K "RingError") "__init__"),
  fun K => sysB K,
  fun K => clsB K L,
  fun K => excsB K L,
  fun K => isB (gOf K []) L (.ty "bool"),
  fun K => isB (gOf K []) L (.ty "int"),
  fun K => isB (gOf K []) L (.ty "tuple"),
  fun K => isB (gOf K []) L (.cl 41),
  fun K => isB (gOf K []) L (.ty "str"),
  fun K => nfB (gOf K []) L 41]
abbrev exK : PySem.W.Frag → Bool := exG fas oths
abbrev ringSt : Stmt := inClass (top 2) 0
def rgK (K : PySem.W.Frag) : FnX := fnX K (ma K (ga K "RingError") "__init__")
def rvK : FnX := rgVal "RingError.__init__" (defArgs ringSt) (defBody ringSt) (defScope ringSt)
def tfs : List Whr := []
abbrev hk : PySem.W.Hook := hookK 7 dqs tfs exK rgK rvK
noncomputable def ob (s : PySem.W.SharedT) : AlK := obsK 7 dqs tfs exK rgK (HandSHeadRun.getT s)
theorem ob_eq (s : PySem.W.SharedT) : ob s = hk.obs s.abs := obsK_eq (rv := rvK) (HandSHeadRun.getT_eq s)
abbrev R : PySem.W.OpenRow := PySem.W.OpenLaw.row PySem.Challenge.rw_skipround_k07_whole_algebra_of_sets
abbrev qv : Program := PySem.W.view R.prog [52]
def names : List PySem.Str := (["_wall", "RingError", "BadNumbers", "BadText", "BadRange", "TooGreat", "least_ring", "ring_of", "least_first", "FIGURES", "MOST_FIGURES", "is_integer", "is_between", "do_ascend", "are_numbers", "figures_in", "common_of", "multiple_of", "BLANK", "NONE"] : List PySem.Str) ++ (["FROM", "BY", "REST", "LAST", "WORDS", "OR", "AND", "LESS", "JUST", "ALL", "is_in", "least_parts", "is_by", "put_together", "common_period", "are_parts", "Numbers", "integers_in", "parts_in", "numbers_in"] : List PySem.Str) ++ (["_law_pot", "_law_take", "_law_of", "_law_cells", "_law_parts", "_law_new", "_law_right"] : List PySem.Str)
theorem run (w : World) : HandSHeadRun.RunEq R qv hk ob 12000 names w := by
  intro os
  kernel_rfl
section
variable {h : Heap} {K : PySem.W.Frag} {mg : Str → Option Value}
theorem ring_of (c : SaysK dqs tfs exK rgK rvK h K) (X : K.In h) (G : h.Ns mainGlobals mg) : RingI PySem.Challenge.pw_skipround_k07_whole_algebra_of_sets K mg (ga K "RingError") (ma K (ga K "RingError") "__init__") := by
  obtain ⟨⟨oc, od, kV, doc, pm, an, cda, cc, ct, osl, ccl, cl, cdd, cld, ccs, csl, vs, file, tf, cdD, h1, h2, h3, h4, h5, h6, h7⟩, hop⟩ := rgB_ok (c.ring) (othG c 7 (f := fun K => rgB K PySem.Challenge.pw_skipround_k07_whole_algebra_of_sets.main.file (ga K "RingError") (ma K (ga K "RingError") "__init__") "RingError.__init__") rfl)
  refine ⟨⟨oc, od, "RingError.__init__", defArgs ringSt, defScope ringSt, .none, kV, doc, pm, an, cda, cc, ct, osl, _, _, _, _, _, _, _, _, _, _, _, _, ccl, cl, cdd, cld, ccs, csl, vs, file, tf, cdD, _, h1, h2, ?_, ?_, rfl, rfl, h3, h4, h5, h6, h7, _, fun L => rfl⟩, by decide +kernel, ?_, free_ok X G (factG c 72 (f := .free "repr") rfl), hop, sysB_ok (othG c 12 (f := fun K => sysB K) rfl)⟩
  · exact ⟨rfl, rfl, rfl, by decide +kernel, by decide +kernel, by decide +kernel, by decide +kernel, by decide +kernel, by decide +kernel, by decide +kernel⟩
  · exact fun s u v => BindsTo.of_eq (by first | rfl | with_unfolding_all rfl)
  · exact free_ok X G (factG c 71 (f := .free "super") rfl)
theorem tx_of (c : SaysK dqs tfs exK rgK rvK h K) (X : K.In h) (G : h.Ns mainGlobals mg) : Tx PySem.Challenge.pw_skipround_k07_whole_algebra_of_sets K mg where
  z_list := free_ok X G (factG c 0 (f := .free "list") rfl)
  z_range := free_ok X G (factG c 1 (f := .free "range") rfl)
  z_max := free_ok X G (factG c 2 (f := .free "max") rfl)
  z_min := free_ok X G (factG c 3 (f := .free "min") rfl)
  z_len := free_ok X G (factG c 4 (f := .free "len") rfl)
  z_int := free_ok X G (factG c 5 (f := .free "int") rfl)
  z_abs := free_ok X G (factG c 6 (f := .free "abs") rfl)
  z_isinstance := free_ok X G (factG c 7 (f := .free "isinstance") rfl)
  z_bool := free_ok X G (factG c 8 (f := .free "bool") rfl)
  z_all := free_ok X G (factG c 9 (f := .free "all") rfl)
  z_zip := free_ok X G (factG c 10 (f := .free "zip") rfl)
  z_tuple := free_ok X G (factG c 11 (f := .free "tuple") rfl)
  z_enumerate := free_ok X G (factG c 12 (f := .free "enumerate") rfl)
  z_str := free_ok X G (factG c 13 (f := .free "str") rfl)
  z_sorted := free_ok X G (factG c 14 (f := .free "sorted") rfl)
  z_set := free_ok X G (factG c 15 (f := .free "set") rfl)
  c_LAST := int_ok X G (factG c 16 (f := .int "LAST" 9999) rfl)
  c_JUST := str_ok X G (factG c 17 (f := .str "JUST" "just") rfl)
  c_LESS := str_ok X G (factG c 18 (f := .str "LESS" "less") rfl)
  c_AND := str_ok X G (factG c 19 (f := .str "AND" "and") rfl)
  c_OR := str_ok X G (factG c 20 (f := .str "OR" "or") rfl)
  c_REST := str_ok X G (factG c 21 (f := .str "REST" "rest") rfl)
  c_BY := str_ok X G (factG c 22 (f := .str "BY" "by") rfl)
  c_FROM := str_ok X G (factG c 23 (f := .str "FROM" "from") rfl)
  c_BLANK := str_ok X G (factG c 24 (f := .str "BLANK" " ") rfl)
  c_NONE := str_ok X G (factG c 25 (f := .str "NONE" "none") rfl)
  c_FIGURES := str_ok X G (factG c 26 (f := .str "FIGURES" "0123456789") rfl)
  c_MOST_FIGURES := int_ok X G (factG c 27 (f := .int "MOST_FIGURES" 9) rfl)
  c_WORDS := int_ok X G (factG c 28 (f := .int "WORDS" 5) rfl)
  m_ALL := glo_ok X G (factG c 29 (f := .glo "ALL") rfl)
  g_ALL := gt_of (g := gg K) (glo_ok X G (factG c 29 (f := .glo "ALL") rfl)) (othG c 0 (f := fun K => datV K (.tup [(.tup []), (.int 1), (.int 1), (.tup [(.int 0)])]) (.ref (ga K "ALL"))) rfl)
  F_law_cells := fdqG (ps := ["_law_script", "_law_limit"]) c 0 rfl rfl fun _ _ _ _ _ _ us hl => match us, hl with | [_, _], _ => rfl
  m__law_cells := glo_ok X G (factG c 30 (f := .glo "_law_cells") rfl)
  F_law_pot := fdqG (ps := ["_law_script", "_law_place"]) c 1 rfl rfl fun _ _ _ _ _ _ us hl => match us, hl with | [_, _], _ => rfl
  m__law_pot := glo_ok X G (factG c 31 (f := .glo "_law_pot") rfl)
  F_is_integer := fdqG (ps := ["value"]) c 2 rfl rfl fun _ _ _ _ _ _ us hl => match us, hl with | [_], _ => rfl
  m_is_integer := glo_ok X G (factG c 32 (f := .glo "is_integer") rfl)
  F_is_between := fdqG (ps := ["value", "low", "high"]) c 3 rfl rfl fun _ _ _ _ _ _ us hl => match us, hl with | [_, _, _], _ => rfl
  m_is_between := glo_ok X G (factG c 33 (f := .glo "is_between") rfl)
  F_do_ascend := fdqG (ps := ["values"]) c 4 rfl rfl fun _ _ _ _ _ _ us hl => match us, hl with | [_], _ => rfl
  m_do_ascend := glo_ok X G (factG c 34 (f := .glo "do_ascend") rfl)
  F_are_numbers := fdqG (ps := ["value", "low", "high"]) c 5 rfl rfl fun _ _ _ _ _ _ us hl => match us, hl with | [_, _, _], _ => rfl
  m_are_numbers := glo_ok X G (factG c 35 (f := .glo "are_numbers") rfl)
  F_are_parts := fdqG (ps := ["heads", "first", "period", "rests"]) c 6 rfl rfl fun _ _ _ _ _ _ us hl => match us, hl with | [_, _, _, _], _ => rfl
  m_are_parts := glo_ok X G (factG c 36 (f := .glo "are_parts") rfl)
  F_least_ring := fdqG (ps := ["ring"]) c 7 rfl rfl fun _ _ _ _ _ _ us hl => match us, hl with | [_], _ => rfl
  m_least_ring := glo_ok X G (factG c 37 (f := .glo "least_ring") rfl)
  F_ring_of := fdqG (ps := ["marks", "first"]) c 8 rfl rfl fun _ _ _ _ _ _ us hl => match us, hl with | [_, _], _ => rfl
  m_ring_of := glo_ok X G (factG c 38 (f := .glo "ring_of") rfl)
  F_least_first := fdqG (ps := ["marks", "ring", "first"]) c 9 rfl rfl fun _ _ _ _ _ _ us hl => match us, hl with | [_, _, _], _ => rfl
  m_least_first := glo_ok X G (factG c 39 (f := .glo "least_first") rfl)
  F_least_parts := fdqG (ps := ["marks", "first"]) c 10 rfl rfl fun _ _ _ _ _ _ us hl => match us, hl with | [_, _], _ => rfl
  m_least_parts := glo_ok X G (factG c 40 (f := .glo "least_parts") rfl)
  F_is_in := fdqG (ps := ["parts", "number"]) c 11 rfl rfl fun _ _ _ _ _ _ us hl => match us, hl with | [_, _], _ => rfl
  m_is_in := glo_ok X G (factG c 41 (f := .glo "is_in") rfl)
  df_Numbers_0 := (othG c 1 (f := fun K => datV K (.tup []) (.ref (dflAt ("Numbers", some "__init__") 0 K))) rfl)
  df_Numbers_3 := (othG c 2 (f := fun K => datV K (.tup []) (.ref (dflAt ("Numbers", some "__init__") 3 K))) rfl)
  F_Numbers_init := DefQ.funD (c.txt _ (List.mem_of_getElem? (i := 12) rfl)) (c.ok _ (List.mem_of_getElem? (i := 12) rfl))
  F_law_new := fdqG (ps := ["_law_parts_here"]) c 13 rfl rfl fun _ _ _ _ _ _ us hl => match us, hl with | [_], _ => rfl
  m__law_new := glo_ok X G (factG c 42 (f := .glo "_law_new") rfl)
  F_law_take := fdqG (ps := ["_law_pot_here", "_law_upto"]) c 14 rfl rfl fun _ _ _ _ _ _ us hl => match us, hl with | [_, _], _ => rfl
  m__law_take := glo_ok X G (factG c 43 (f := .glo "_law_take") rfl)
  F_law_of := fdqG (ps := ["_law_pot_here", "_law_some"]) c 15 rfl rfl fun _ _ _ _ _ _ us hl => match us, hl with | [_, _], _ => rfl
  m__law_of := glo_ok X G (factG c 44 (f := .glo "_law_of") rfl)
  F_law_parts := fdqG (ps := ["_law_pot_here", "_law_top"]) c 16 rfl rfl fun _ _ _ _ _ _ us hl => match us, hl with | [_, _], _ => rfl
  m__law_parts := glo_ok X G (factG c 45 (f := .glo "_law_parts") rfl)
  F_common_of := fdqG (ps := ["one", "other"]) c 17 rfl rfl fun _ _ _ _ _ _ us hl => match us, hl with | [_, _], _ => rfl
  m_common_of := glo_ok X G (factG c 46 (f := .glo "common_of") rfl)
  F_multiple_of := fdqG (ps := ["one", "other"]) c 18 rfl rfl fun _ _ _ _ _ _ us hl => match us, hl with | [_, _], _ => rfl
  m_multiple_of := glo_ok X G (factG c 47 (f := .glo "multiple_of") rfl)
  F_common_period := fdqG (ps := ["one", "other"]) c 19 rfl rfl fun _ _ _ _ _ _ us hl => match us, hl with | [_, _], _ => rfl
  m_common_period := glo_ok X G (factG c 48 (f := .glo "common_period") rfl)
  F_is_by := fdqG (ps := ["word", "here", "there"]) c 20 rfl rfl fun _ _ _ _ _ _ us hl => match us, hl with | [_, _, _], _ => rfl
  m_is_by := glo_ok X G (factG c 49 (f := .glo "is_by") rfl)
  F_put_together := fdqG (ps := ["word", "one", "other"]) c 21 rfl rfl fun _ _ _ _ _ _ us hl => match us, hl with | [_, _, _], _ => rfl
  m_put_together := glo_ok X G (factG c 50 (f := .glo "put_together") rfl)
  F_Numbers_writing := fdqG (ps := ["self"]) c 22 rfl rfl fun _ _ _ _ _ _ us hl => match us, hl with | [_], _ => rfl
  M_Numbers_writing := meth_ok (factG c 51 (f := .meth "Numbers" "writing") rfl)
  F_Numbers_or := fdqG (ps := ["self", "other"]) c 23 rfl rfl fun _ _ _ _ _ _ us hl => match us, hl with | [_, _], _ => rfl
  M_Numbers_or := meth_ok (factG c 52 (f := .meth "Numbers" "__or__") rfl)
  F_Numbers_invert := fdqG (ps := ["self"]) c 24 rfl rfl fun _ _ _ _ _ _ us hl => match us, hl with | [_], _ => rfl
  M_Numbers_invert := meth_ok (factG c 53 (f := .meth "Numbers" "__invert__") rfl)
  F_Numbers_and := fdqG (ps := ["self", "other"]) c 25 rfl rfl fun _ _ _ _ _ _ us hl => match us, hl with | [_, _], _ => rfl
  M_Numbers_and := meth_ok (factG c 54 (f := .meth "Numbers" "__and__") rfl)
  F_Numbers_sub := fdqG (ps := ["self", "other"]) c 26 rfl rfl fun _ _ _ _ _ _ us hl => match us, hl with | [_, _], _ => rfl
  M_Numbers_sub := meth_ok (factG c 55 (f := .meth "Numbers" "__sub__") rfl)
  F_Numbers_xor := fdqG (ps := ["self", "other"]) c 27 rfl rfl fun _ _ _ _ _ _ us hl => match us, hl with | [_, _], _ => rfl
  M_Numbers_xor := meth_ok (factG c 56 (f := .meth "Numbers" "__xor__") rfl)
  F_Numbers_text := fdqG (ps := ["self"]) c 28 rfl rfl fun _ _ _ _ _ _ us hl => match us, hl with | [_], _ => rfl
  p_Numbers_text := prB_ok (othG c 3 (f := fun K => prB K (ga K "Numbers") "text") rfl)
  F_Numbers_eq := fdqG (ps := ["self", "other"]) c 29 rfl rfl fun _ _ _ _ _ _ us hl => match us, hl with | [_, _], _ => rfl
  M_Numbers_eq := meth_ok (factG c 57 (f := .meth "Numbers" "__eq__") rfl)
  F_Numbers_lies_in := fdqG (ps := ["self", "other"]) c 30 rfl rfl fun _ _ _ _ _ _ us hl => match us, hl with | [_, _], _ => rfl
  M_Numbers_lies_in := meth_ok (factG c 58 (f := .meth "Numbers" "lies_in") rfl)
  F_Numbers_is_endless := fdqG (ps := ["self"]) c 31 rfl rfl fun _ _ _ _ _ _ us hl => match us, hl with | [_], _ => rfl
  p_Numbers_is_endless := prB_ok (othG c 4 (f := fun K => prB K (ga K "Numbers") "is_endless") rfl)
  F_Numbers_within := fdqG (ps := ["self", "low", "high"]) c 32 rfl rfl fun _ _ _ _ _ _ us hl => match us, hl with | [_, _, _], _ => rfl
  M_Numbers_within := meth_ok (factG c 59 (f := .meth "Numbers" "within") rfl)
  F_figures_in := fdqG (ps := ["word"]) c 33 rfl rfl fun _ _ _ _ _ _ us hl => match us, hl with | [_], _ => rfl
  m_figures_in := glo_ok X G (factG c 60 (f := .glo "figures_in") rfl)
  F_integers_in := fdqG (ps := ["words"]) c 34 rfl rfl fun _ _ _ _ _ _ us hl => match us, hl with | [_], _ => rfl
  m_integers_in := glo_ok X G (factG c 61 (f := .glo "integers_in") rfl)
  F_parts_in := fdqG (ps := ["text"]) c 35 rfl rfl fun _ _ _ _ _ _ us hl => match us, hl with | [_], _ => rfl
  m_parts_in := glo_ok X G (factG c 62 (f := .glo "parts_in") rfl)
  F_numbers_in := fdqG (ps := ["text"]) c 36 rfl rfl fun _ _ _ _ _ _ us hl => match us, hl with | [_], _ => rfl
  m_numbers_in := glo_ok X G (factG c 63 (f := .glo "numbers_in") rfl)
  F_Numbers_of := fdqG (ps := ["text"]) c 37 rfl rfl fun _ _ _ _ _ _ us hl => match us, hl with | [_], _ => rfl
  s_Numbers_of := stB_ok (othG c 5 (f := fun K => stB K (ga K "Numbers") "of") rfl)
  F_law_right := fdqG (ps := ["_law_pot_here"]) c 38 rfl rfl fun _ _ _ _ _ _ us hl => match us, hl with | [_], _ => rfl
  m__law_right := glo_ok X G (factG c 64 (f := .glo "_law_right") rfl)
  F_law := fdqG (ps := ["_law_script"]) c 39 rfl rfl fun _ _ _ _ _ _ us hl => match us, hl with | [_], _ => rfl
  m_law := glo_ok X G (factG c 65 (f := .glo "law") rfl)
  cl_Numbers := clB_ok (othG c 6 (f := fun K => clB K "Numbers") rfl)
  m_Numbers := glo_ok X G (factG c 66 (f := .glo "Numbers") rfl)
  n_Numbers_own_rests := noat_ok (factG c 67 (f := .noat "Numbers" "own_rests") rfl)
  n_Numbers_own_period := noat_ok (factG c 68 (f := .noat "Numbers" "own_period") rfl)
  n_Numbers_own_first := noat_ok (factG c 69 (f := .noat "Numbers" "own_first") rfl)
  n_Numbers_own_heads := noat_ok (factG c 70 (f := .noat "Numbers" "own_heads") rfl)
  ring := ring_of c X G
  x_BadNumbers := xcB_ok (othG c 8 (f := fun K => xcB K (ga K "RingError") (ga K "BadNumbers") (ma K (ga K "RingError") "__init__")) rfl)
  m_BadNumbers := glo_ok X G (factG c 73 (f := .glo "BadNumbers") rfl)
  x_BadText := xcB_ok (othG c 9 (f := fun K => xcB K (ga K "RingError") (ga K "BadText") (ma K (ga K "RingError") "__init__")) rfl)
  m_BadText := glo_ok X G (factG c 74 (f := .glo "BadText") rfl)
  x_BadRange := xcB_ok (othG c 10 (f := fun K => xcB K (ga K "RingError") (ga K "BadRange") (ma K (ga K "RingError") "__init__")) rfl)
  m_BadRange := glo_ok X G (factG c 75 (f := .glo "BadRange") rfl)
  x_TooGreat := xcB_ok (othG c 11 (f := fun K => xcB K (ga K "RingError") (ga K "TooGreat") (ma K (ga K "RingError") "__init__")) rfl)
  m_TooGreat := glo_ok X G (factG c 76 (f := .glo "TooGreat") rfl)
  sys := sysB_ok (othG c 12 (f := fun K => sysB K) rfl)
  kn := knC_of (othG c 13 (f := fun K => clsB K L) rfl) (othG c 14 (f := fun K => excsB K L) rfl)
  i_bool := isA_of (g := gg K) (q := .ty "bool") (othG c 15 (f := fun K => isB (gOf K []) L (.ty "bool")) rfl) (knC_of (othG c 13 (f := fun K => clsB K L) rfl) (othG c 14 (f := fun K => excsB K L) rfl))
  i_int := isA_of (g := gg K) (q := .ty "int") (othG c 16 (f := fun K => isB (gOf K []) L (.ty "int")) rfl) (knC_of (othG c 13 (f := fun K => clsB K L) rfl) (othG c 14 (f := fun K => excsB K L) rfl))
  i_tuple := isA_of (g := gg K) (q := .ty "tuple") (othG c 17 (f := fun K => isB (gOf K []) L (.ty "tuple")) rfl) (knC_of (othG c 13 (f := fun K => clsB K L) rfl) (othG c 14 (f := fun K => excsB K L) rfl))
  i_Numbers := isA_of (g := gg K) (q := .cl 41) (othG c 18 (f := fun K => isB (gOf K []) L (.cl 41)) rfl) (knC_of (othG c 13 (f := fun K => clsB K L) rfl) (othG c 14 (f := fun K => excsB K L) rfl))
  i_str := isA_of (g := gg K) (q := .ty "str") (othG c 19 (f := fun K => isB (gOf K []) L (.ty "str")) rfl) (knC_of (othG c 13 (f := fun K => clsB K L) rfl) (othG c 14 (f := fun K => excsB K L) rfl))
  nf_Numbers := nf_of (g := gg K) (othG c 20 (f := fun K => nfB (gOf K []) L 41) rfl)
end
theorem lawD {w : World} {h : Heap} {K : PySem.W.Frag} {mg : Str → Option Value} (c : SaysK dqs tfs exK rgK rvK h K) (X : K.In h) (G : h.Ns mainGlobals mg) : LawD PySem.Challenge.rw_skipround_k07_whole_algebra_of_sets w K 63 mg (ga K "law") h := by
  refine ⟨[], gg K, 10, ct_law L, ⟨rfl, by decide, by decide⟩, rfl, ?_, ?_, ?_, ?_, fun ns h1 h2 => ⟨ns, rfl, rfl, rfl, fun _ => rfl⟩, fun base _ _ hTB => fn_law (tx_of c X G) ⟨trivial⟩⟩
  · exact nil_p
  · exact nil_p
  · exact nil_p
  · exact nil_p
end K07
open PySem PySem.W PySem.Calls PyProof.Rows in
set_option maxHeartbeats 0 in
theorem PySem.Challenge.cw_skipround_k07_whole_algebra_of_sets_holds : PySem.Challenge.rw_skipround_k07_whole_algebra_of_sets.Holds := by
  w_on; o_law
  refine HandSHeadRun.head_any (r := K07.R) (q := K07.qv) (H := K07.hk) (ob := K07.ob) (M := 12000) (loose := K07.names) (d := HandSHeadRun.topDef K07.R.prog 52) (kwd := []) K07.ob_eq
    (by kernel_rfl) (fun s => by kernel_rfl) K07.run (by kernel_rfl) (by kernel_rfl) (by kernel_rfl) (by rfl) (by first | assumption | decide +kernel) (by decide +kernel) ⟨rfl, rfl, rfl, rfl, rfl, by decide +kernel⟩ ?hw ?hc
  case hw => w_witness2
  case hc =>
    refine Dk.walkK (l := PySem.Challenge.rw_skipround_k07_whole_algebra_of_sets) (n := 63) rfl (by decide) (by kernel_rfl) ?F
    intro w mg fa h Y G hmg0
    obtain ⟨K, KX, c⟩ := Y
    have hmg : mg ("law" : PySem.Str) = some (.ref fa) := by
      have e : (HandSHeadRun.topDef K07.R.prog 52).name = ("law" : PySem.Str) := by kernel_rfl
      rw [← e]
      exact hmg0
    have e := hmg.symm.trans (K07.tx_of c KX G).m_law
    cases e
    exact ⟨K, KX, K07.lawD c KX G⟩
