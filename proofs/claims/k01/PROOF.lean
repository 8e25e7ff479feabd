import PyProof.Rows.All
import HandS.ForMost
import HandS.ForExc
import HandS.Flow
import HandS.Wide
import HandS.TupAny
import HandS.Deep
import HandS.NoneIn
import HandS.Conv
import HandS.Style
import HandS.Rev
import HandS.SortInts
import HandS.SortRule
import HandS.IsInst
import HandS.Small
import HandS.Zip
import Wide.All
import OpenK.AllK
import Wide.FinOn
import KE.DataMinMax
import HandS.ExcInit
import HandS.ExcOwn
import HandS.ExcField
import HandS.RaiseMore
import KE.KExcIs
import PyProof.SliceList
import HandS.SetFor
import HandS.Strs
import HandS.Codes
import HandS.SetIn
import KE.KDictWalk
import HandS.TupSets
import KE.SortData
import PyProof.Rows.SortWalk
import HandS.More
import KE.BitLaws
import PySem.Challenge.RW_sparenext_k01_a_net_made
set_option Elab.async false
set_option linter.all false
set_option maxRecDepth 100000
/-! G: trees in the place of addresses. D: data as trees; Den: a value that stands for a tree; Rel: a frame that stands for a list of trees; judgements that say what an expression, a statement makes of the trees. -/
namespace G
open PySem PySem.Spec L2
open PyProof.Rows hiding St

inductive D where
  | non | bl (b : Bool) | int (i : Int) | str (x : Str)
  | lst (xs : List D) | tup (xs : List D)
  | dk (kvs : List (Key × D)) | dt (kvs : List (List Key × D))
  | obj (c : Str) (fs : List (Str × D))
  | exc (c : Str) (fs : List (Str × D))
  | kt (xs : List D)
  | kl (xs : List D)
  deriving Inhabited

inductive Rs (α : Type) where
  | ok (a : α) | exc (c : Str) (fs : List (Str × D)) | bad
def Rs.bind {α β : Type} (r : Rs α) (f : α → Rs β) : Rs β := match r with
  | .ok a => f a
  | .exc c fs => .exc c fs
  | .bad => .bad
@[simp] theorem Rs.bind_ok {α β : Type} (a : α) (f : α → Rs β) : (Rs.ok a).bind f = f a := rfl
@[simp] theorem Rs.bind_exc {α β : Type} (c : Str) (fs : List (Str × D)) (f : α → Rs β) : (Rs.exc c fs : Rs α).bind f = .exc c fs := rfl
@[simp] theorem Rs.bind_bad {α β : Type} (f : α → Rs β) : (Rs.bad : Rs α).bind f = .bad := rfl

abbrev Env := List (Option D)
inductive Out where
  | nx (ρ : Env) | bk (ρ : Env) | ct (ρ : Env) | rt (d : D) | exc (c : Str) (fs : List (Str × D)) (ρ : Env) | bad

structure MK where
  K : PySem.W.Frag
  mg : Str → Option Value
abbrev mkM (X : Cx) : MK := ⟨X.K, X.mg⟩

/-- a caught exception's object -/
def xo (C : Addr) (d : Option Addr) (a : Addr) : HO := .ext fun h => ∃ (oe : Obj) (vs : Array Value), h.get? a = some oe ∧ Zc (.ref C) d oe ∧ oe.data = .fields vs

mutual
inductive Den (M : MK) (H : Hp) : V → D → Prop
  | non : Den M H .non .non
  | bl (b : Bool) : Den M H (.bl b) (.bl b)
  | int (i : Int) : Den M H (.int i) (.int i)
  | str (x : Str) : Den M H (.str x) (.str x)
  | lst {a : Addr} {vs : List V} {ds : List D} : Rd H a (.lst vs) → DenL M H vs ds → Den M H (.ref a) (.lst ds)
  | tup {a : Addr} {vs : List V} {ds : List D} : H a = some (.tup vs) → DenL M H vs ds → Den M H (.ref a) (.tup ds)
  | kt {a : Addr} {vs : List V} {ds : List D} : SqT M.K H a vs → DenL M H vs ds → Den M H (.ref a) (.kt ds)
  | kl {a : Addr} {vs : List V} {ds : List D} : SqL M.K H a vs → DenL M H vs ds → Den M H (.ref a) (.kl ds)
  | dk {a : Addr} {kvs : List (Key × V)} {ks : List Key} {ds : List D} : Rd H a (.dK kvs) → kvs.map (·.1) = ks → DenL M H (kvs.map (·.2)) ds → Den M H (.ref a) (.dk (ks.zip ds))
  | dt {a : Addr} {kvs : List (List Key × V)} {ks : List (List Key)} {ds : List D} : Rd H a (.dT kvs) → kvs.map (·.1) = ks → DenL M H (kvs.map (·.2)) ds → Den M H (.ref a) (.dt (ks.zip ds))
  | obj {a dx C : Addr} {c : Str} {fvs : List (Str × V)} {ks : List Str} {ds : List D} : M.mg c = some (.ref C) → H a = some (.ins C dx fvs) → fvs.map (·.1) = ks → DenL M H (fvs.map (·.2)) ds → Den M H (.ref a) (.obj c (ks.zip ds))
  | exc0 {a C : Addr} {c : Str} : M.mg c = some (.ref C) → H a = some (xo C none a) → Den M H (.ref a) (.exc c [])
  | exc1 {a dd C : Addr} {c : Str} {f : Str} {v : V} {d : D} : M.mg c = some (.ref C) → H a = some (xo C (some dd) a) → H dd = some (.xd [(f, v)]) → Den M H v d → Den M H (.ref a) (.exc c [(f, d)])
inductive DenL (M : MK) (H : Hp) : List V → List D → Prop
  | nil : DenL M H [] []
  | cons {v : V} {vs : List V} {d : D} {ds : List D} : Den M H v d → DenL M H vs ds → DenL M H (v :: vs) (d :: ds)
end

theorem Same.seqT {K : PySem.W.Frag} {H H' : Hp} {a : Addr} {xs : List V} (e : Same H H') (h : SqT K H a xs) : SqT K H' a xs := by
  rcases h with (h | ⟨o, h⟩) | h
  · exact .inl (.inl (e _ _ h))
  · exact .inl (.inr ⟨o, e _ _ h⟩)
  · exact .inr h
theorem Same.rd {H H' : Hp} {a : Addr} {u : HO} (e : Same H H') (h : Rd H a u) : Rd H' a u := by
  rcases h with h | ⟨o, h⟩
  · exact .inl (e _ _ h)
  · exact .inr ⟨o, e _ _ h⟩
mutual
theorem Den.mono {M : MK} {H H' : Hp} (e : Same H H') : ∀ {v : V} {d : D}, Den M H v d → Den M H' v d
  | _, _, .non => .non
  | _, _, .bl b => .bl b
  | _, _, .int i => .int i
  | _, _, .str x => .str x
  | _, _, .lst h l => .lst (Same.rd e h) (DenL.mono e l)
  | _, _, .tup h l => .tup (e _ _ h) (DenL.mono e l)
  | _, _, .kt h l => .kt (Same.seqT e h) (DenL.mono e l)
  | _, _, .kl h l => .kl (Same.seq e h) (DenL.mono e l)
  | _, _, .dk h k l => .dk (Same.rd e h) k (DenL.mono e l)
  | _, _, .dt h k l => .dt (Same.rd e h) k (DenL.mono e l)
  | _, _, .obj m h k l => .obj m (e _ _ h) k (DenL.mono e l)
  | _, _, .exc0 m h => .exc0 m (e _ _ h)
  | _, _, .exc1 m h x l => .exc1 m (e _ _ h) (e _ _ x) (Den.mono e l)
theorem DenL.mono {M : MK} {H H' : Hp} (e : Same H H') : ∀ {vs : List V} {ds : List D}, DenL M H vs ds → DenL M H' vs ds
  | _, _, .nil => .nil
  | _, _, .cons h l => .cons (Den.mono e h) (DenL.mono e l)
end

/-! ### lists of trees -/
section
variable {M : MK} {H : Hp}
theorem DenL.length : ∀ {vs : List V} {ds : List D}, DenL M H vs ds → vs.length = ds.length
  | _, _, .nil => rfl
  | _, _, .cons _ l => by simp [DenL.length l]
theorem DenL.get : ∀ {vs : List V} {ds : List D} {i : Nat} {d : D}, DenL M H vs ds → ds[i]? = some d → ∃ v, vs[i]? = some v ∧ Den M H v d
  | _, _, i, d, .nil, e => by simp at e
  | _, _, 0, d, .cons h l, e => by simp at e; subst e; exact ⟨_, rfl, h⟩
  | _, _, i + 1, d, .cons h l, e => by
    obtain ⟨v, h1, h2⟩ := DenL.get (i := i) (d := d) l (by simpa using e)
    exact ⟨v, by simpa using h1, h2⟩
theorem DenL.getV : ∀ {vs : List V} {ds : List D} {i : Nat} {v : V}, DenL M H vs ds → vs[i]? = some v → ∃ d, ds[i]? = some d ∧ Den M H v d
  | _, _, i, d, .nil, e => by simp at e
  | _, _, 0, d, .cons h l, e => by simp at e; subst e; exact ⟨_, rfl, h⟩
  | _, _, i + 1, d, .cons h l, e => by
    obtain ⟨v, h1, h2⟩ := DenL.getV (i := i) (v := d) l (by simpa using e)
    exact ⟨v, by simpa using h1, h2⟩
theorem DenL.append : ∀ {vs ws : List V} {ds es : List D}, DenL M H vs ds → DenL M H ws es → DenL M H (vs ++ ws) (ds ++ es)
  | _, _, _, _, .nil, s => s
  | _, _, _, _, .cons h t, s => .cons h (DenL.append t s)
theorem DenL.take : ∀ {vs : List V} {ds : List D} (n : Nat), DenL M H vs ds → DenL M H (vs.take n) (ds.take n)
  | _, _, 0, _ => by simp; exact .nil
  | _, _, _ + 1, .nil => by simp; exact .nil
  | _, _, n + 1, .cons r t => by simp only [List.take_succ_cons]; exact .cons r (DenL.take n t)
theorem DenL.drop : ∀ {vs : List V} {ds : List D} (n : Nat), DenL M H vs ds → DenL M H (vs.drop n) (ds.drop n)
  | _, _, 0, r => r
  | _, _, _ + 1, .nil => by simp; exact .nil
  | _, _, n + 1, .cons _ t => by simp only [List.drop_succ_cons]; exact DenL.drop n t
theorem DenL.set {v : V} {d : D} (r : Den M H v d) : ∀ {vs : List V} {ds : List D} (i : Nat), DenL M H vs ds → DenL M H (vs.set i v) (ds.set i d)
  | _, _, _, .nil => by simp; exact .nil
  | _, _, 0, .cons _ t => .cons r t
  | _, _, i + 1, .cons q t => by simp only [List.set_cons_succ]; exact .cons q (DenL.set r i t)
theorem DenL.reverse {vs : List V} {ds : List D} (h : DenL M H vs ds) : DenL M H vs.reverse ds.reverse := by
  induction vs generalizing ds with
  | nil => cases h; exact .nil
  | cons v vs ih =>
    cases h with
    | cons h l => simp only [List.reverse_cons]; exact (ih l).append (.cons h .nil)
theorem DenL.eraseIdx : ∀ {vs : List V} {ds : List D} (i : Nat), DenL M H vs ds → DenL M H (vs.eraseIdx i) (ds.eraseIdx i)
  | _, _, _, .nil => by simp; exact .nil
  | _, _, 0, .cons _ t => by simpa using t
  | _, _, i + 1, .cons q t => by simp only [List.eraseIdx_cons_succ]; exact .cons q (DenL.eraseIdx i t)
theorem DenL.dropLast : ∀ {vs : List V} {ds : List D}, DenL M H vs ds → DenL M H vs.dropLast ds.dropLast
  | _, _, .nil => .nil
  | _, _, .cons _ .nil => .nil
  | _, _, .cons q (.cons r t) => by simp only [List.dropLast_cons₂]; exact .cons q (DenL.dropLast (.cons r t))
theorem DenL.ints : ∀ {vs : List V} {ns : List Int}, DenL M H vs (ns.map D.int) → vs = ns.map V.int
  | _, [], .nil => rfl
  | _, n :: ns, .cons h l => by
    cases h
    simp only [List.map_cons]
    rw [DenL.ints l]
theorem DenL.of_ints (ns : List Int) : DenL M H (ns.map V.int) (ns.map D.int) := by
  induction ns with
  | nil => exact .nil
  | cons n ns ih => exact .cons (.int n) ih
theorem DenL.strs : ∀ {vs : List V} {ns : List Str}, DenL M H vs (ns.map D.str) → vs = ns.map V.str
  | _, [], .nil => rfl
  | _, n :: ns, .cons h l => by
    cases h
    simp only [List.map_cons]
    rw [DenL.strs l]
theorem DenL.of_strs (ns : List Str) : DenL M H (ns.map V.str) (ns.map D.str) := by
  induction ns with
  | nil => exact .nil
  | cons n ns ih => exact .cons (.str n) ih
theorem DenL.bls : ∀ {vs : List V} {ns : List Bool}, DenL M H vs (ns.map D.bl) → vs = ns.map V.bl
  | _, [], .nil => rfl
  | _, n :: ns, .cons h l => by
    cases h
    simp only [List.map_cons]
    rw [DenL.bls l]
end

/-! ### the shared part Hs of the heap H -/
/-- a tuple of numbers and texts alone, as keys are -/
def KT (o : HO) : Prop := ∃ ks : List Key, o = .tup (ks.map kV)
theorem KT.lst {vs : List V} : ¬ KT (.lst vs) := fun ⟨_, e⟩ => by cases e
theorem KT.dK {vs : List (Key × V)} : ¬ KT (.dK vs) := fun ⟨_, e⟩ => by cases e
theorem KT.dT {vs : List (List Key × V)} : ¬ KT (.dT vs) := fun ⟨_, e⟩ => by cases e
theorem KT.ins {C dx : Addr} {vs : List (Str × V)} : ¬ KT (.ins C dx vs) := fun ⟨_, e⟩ => by cases e
structure Ext (Hs H Hs' H' : Hp) : Prop where
  s1 : Same Hs Hs'
  s2 : Same Hs' H'
  s3 : Same H H'
  s4 : ∀ a o, H a = some o → ¬ KT o → Hs a = none → Hs' a = none
theorem Ext.refl {Hs H : Hp} (h : Same Hs H) : Ext Hs H Hs H := ⟨Same.refl _, h, Same.refl _, fun _ _ _ _ h => h⟩
theorem Ext.trans {Hs H Hs1 H1 Hs2 H2 : Hp} (a : Ext Hs H Hs1 H1) (b : Ext Hs1 H1 Hs2 H2) : Ext Hs H Hs2 H2 :=
  ⟨a.s1.trans b.s1, b.s2, a.s3.trans b.s3, fun x o h1 k h2 => b.s4 x o (a.s3 _ _ h1) k (a.s4 x o h1 k h2)⟩
theorem same_upd {H : Hp} {p : Addr} {o : HO} (h : H p = none) : Same H (upd H p o) := fun b u q => by rw [upd_ne (ne_of_none q h)]; exact q
/-- a new shared object -/
theorem Ext.new {Hs H : Hp} {p : Addr} {o : HO} (s : Same Hs H) (h : H p = none) : Ext Hs H (upd Hs p o) (upd H p o) where
  s1 := same_upd (s.free h)
  s2 := fun b u q => by
    by_cases e : b = p
    · subst e; rw [upd_same] at q ⊢; exact q
    · rw [upd_ne e] at q ⊢; exact s _ _ q
  s3 := same_upd h
  s4 := fun a o' h1 _ h2 => by
    rw [upd_ne (fun e => by rw [e, h] at h1; cases h1)]
    exact h2
/-- a new object that is not shared -/
theorem Ext.newO {Hs H : Hp} {p : Addr} {o : HO} (s : Same Hs H) (h : H p = none) : Ext Hs H Hs (upd H p o) where
  s1 := Same.refl _
  s2 := s.trans (same_upd h)
  s3 := same_upd h
  s4 := fun _ _ _ _ h => h

/-- how a value is held: S: shared; O m: a list, a dict of this frame alone, its items held by m; T ms: a tuple, its items held by ms -/
inductive Mode where
  | S | O (m : Mode) | T (ms : List Mode) | N (p : Addr) (ms : List Mode)
  deriving Inhabited
abbrev Modes := List Mode
def md (ms : Modes) (i : Nat) : Mode := ms.getD i .S
/-- one that is no object -/
def D.flat : D → Bool
  | .non | .bl _ | .int _ | .str _ => true
  | _ => false
theorem Den.flat {M : MK} {H H' : Hp} {v : V} {d : D} (h : Den M H v d) (f : d.flat = true) : Den M H' v d := by
  cases h <;> first | exact .non | exact .bl _ | exact .int _ | exact .str _ | cases f
mutual
inductive Own (M : MK) (Hs H : Hp) : Mode → V → D → List Addr → Prop
  | sh {v : V} {d : D} : Den M Hs v d → Own M Hs H .S v d []
  | flat {m : Mode} {v : V} {d : D} : d.flat = true → Den M Hs v d → Own M Hs H m v d []
  | shT {m : Mode} {v : V} {ds : List D} : Den M Hs v (.tup ds) → Own M Hs H (.O m) v (.tup ds) []
  | lst {m : Mode} {a : Addr} {vs : List V} {ds : List D} {F : List Addr} : Hs a = none → H a = some (.lst vs) → OwnL M Hs H m vs ds F → Own M Hs H (.O m) (.ref a) (.lst ds) (a :: F)
  | dk {m : Mode} {a : Addr} {kvs : List (Key × V)} {ks : List Key} {ds : List D} {F : List Addr} : Hs a = none → H a = some (.dK kvs) → kvs.map (·.1) = ks → OwnL M Hs H m (kvs.map (·.2)) ds F → Own M Hs H (.O m) (.ref a) (.dk (ks.zip ds)) (a :: F)
  | dt {m : Mode} {a : Addr} {kvs : List (List Key × V)} {ks : List (List Key)} {ds : List D} {F : List Addr} : Hs a = none → H a = some (.dT kvs) → kvs.map (·.1) = ks → OwnL M Hs H m (kvs.map (·.2)) ds F → Own M Hs H (.O m) (.ref a) (.dt (ks.zip ds)) (a :: F)
  | fT {ms : List Mode} {v : V} {ds : List D} : Den M Hs v (.tup ds) → (∀ d ∈ ds, d.flat = true) → Own M Hs H (.T ms) v (.tup ds) []
  | tup {ms : List Mode} {a : Addr} {vs : List V} {ds : List D} {F : List Addr} : (Hs a = none ∧ ∀ ks : List Key, vs ≠ ks.map kV) → H a = some (.tup vs) → OwnT M Hs H ms vs ds F → Own M Hs H (.T ms) (.ref a) (.tup ds) (a :: F)
  | obj {ms : List Mode} {a dx C : Addr} {c : Str} {fvs : List (Str × V)} {ks : List Str} {ds : List D} {F : List Addr} : Hs a = none → M.mg c = some (.ref C) → H a = some (.ins C dx fvs) → fvs.map (·.1) = ks → OwnT M Hs H ms (fvs.map (·.2)) ds F → Own M Hs H (.N a ms) (.ref a) (.obj c (ks.zip ds)) (a :: F)
inductive OwnL (M : MK) (Hs H : Hp) : Mode → List V → List D → List Addr → Prop
  | nil {m : Mode} : OwnL M Hs H m [] [] []
  | cons {m : Mode} {v : V} {vs : List V} {d : D} {ds : List D} {F G : List Addr} : Own M Hs H m v d F → OwnL M Hs H m vs ds G → OwnL M Hs H m (v :: vs) (d :: ds) (F ++ G)
inductive OwnT (M : MK) (Hs H : Hp) : List Mode → List V → List D → List Addr → Prop
  | nil : OwnT M Hs H [] [] [] []
  | cons {m : Mode} {ms : List Mode} {v : V} {vs : List V} {d : D} {ds : List D} {F G : List Addr} : Own M Hs H m v d F → OwnT M Hs H ms vs ds G → OwnT M Hs H (m :: ms) (v :: vs) (d :: ds) (F ++ G)
end
section
variable {M : MK} {Hs H Hs' H' : Hp}
/-! the heap without what F holds may change, the shared part may grow elsewhere -/
mutual
theorem Own.move (s : Same Hs Hs') :
    ∀ {m : Mode} {v : V} {d : D} {F : List Addr}, Own M Hs H m v d F → (∀ a ∈ F, Hs' a = none) → (∀ a o, H a = some o → a ∈ F → H' a = some o) → Own M Hs' H' m v d F
  | _, _, _, _, .sh h, _, _ => .sh (h.mono s)
  | _, _, _, _, .flat f h, _, _ => .flat f (h.mono s)
  | _, _, _, _, .shT h, _, _ => .shT (h.mono s)
  | _, _, _, _, .fT h f, _, _ => .fT (h.mono s) f
  | _, _, _, _, .lst _ h l, hn, hk => .lst (hn _ List.mem_cons_self) (hk _ _ h List.mem_cons_self) (OwnL.move s l (fun b hb => hn b (List.mem_cons_of_mem _ hb)) fun b o e q => hk b o e (List.mem_cons_of_mem _ q))
  | _, _, _, _, .dk _ h k l, hn, hk => .dk (hn _ List.mem_cons_self) (hk _ _ h List.mem_cons_self) k (OwnL.move s l (fun b hb => hn b (List.mem_cons_of_mem _ hb)) fun b o e q => hk b o e (List.mem_cons_of_mem _ q))
  | _, _, _, _, .dt _ h k l, hn, hk => .dt (hn _ List.mem_cons_self) (hk _ _ h List.mem_cons_self) k (OwnL.move s l (fun b hb => hn b (List.mem_cons_of_mem _ hb)) fun b o e q => hk b o e (List.mem_cons_of_mem _ q))
  | _, _, _, _, .tup n h l, hn, hk => .tup ⟨hn _ List.mem_cons_self, n.2⟩ (hk _ _ h List.mem_cons_self) (OwnT.move s l (fun b hb => hn b (List.mem_cons_of_mem _ hb)) fun b o e q => hk b o e (List.mem_cons_of_mem _ q))
  | _, _, _, _, .obj _ m h k l, hn, hk => .obj (hn _ List.mem_cons_self) m (hk _ _ h List.mem_cons_self) k (OwnT.move s l (fun b hb => hn b (List.mem_cons_of_mem _ hb)) fun b o e q => hk b o e (List.mem_cons_of_mem _ q))
theorem OwnL.move (s : Same Hs Hs') :
    ∀ {m : Mode} {vs : List V} {ds : List D} {F : List Addr}, OwnL M Hs H m vs ds F → (∀ a ∈ F, Hs' a = none) → (∀ a o, H a = some o → a ∈ F → H' a = some o) → OwnL M Hs' H' m vs ds F
  | _, _, _, _, .nil, _, _ => .nil
  | _, _, _, _, .cons h l, hn, hk => .cons (Own.move s h (fun b hb => hn b (List.mem_append_left _ hb)) fun b o e q => hk b o e (List.mem_append_left _ q))
      (OwnL.move s l (fun b hb => hn b (List.mem_append_right _ hb)) fun b o e q => hk b o e (List.mem_append_right _ q))
theorem OwnT.move (s : Same Hs Hs') :
    ∀ {ms : List Mode} {vs : List V} {ds : List D} {F : List Addr}, OwnT M Hs H ms vs ds F → (∀ a ∈ F, Hs' a = none) → (∀ a o, H a = some o → a ∈ F → H' a = some o) → OwnT M Hs' H' ms vs ds F
  | _, _, _, _, .nil, _, _ => .nil
  | _, _, _, _, .cons h l, hn, hk => .cons (Own.move s h (fun b hb => hn b (List.mem_append_left _ hb)) fun b o e q => hk b o e (List.mem_append_left _ q))
      (OwnT.move s l (fun b hb => hn b (List.mem_append_right _ hb)) fun b o e q => hk b o e (List.mem_append_right _ q))
end
mutual
theorem Own.none : ∀ {m : Mode} {v : V} {d : D} {F : List Addr}, Own M Hs H m v d F → ∀ a ∈ F, Hs a = Option.none ∧ ∃ o, H a = some o ∧ ¬ KT o
  | _, _, _, _, .sh _, _, h => by cases h
  | _, _, _, _, .flat _ _, _, h => by cases h
  | _, _, _, _, .shT _, _, h => by cases h
  | _, _, _, _, .fT _ _, _, h => by cases h
  | _, _, _, _, .lst n h l, b, hb => by
    rcases List.mem_cons.mp hb with e | hb
    · subst e; exact ⟨n, _, h, KT.lst⟩
    · exact OwnL.none l b hb
  | _, _, _, _, .dk n h _ l, b, hb => by
    rcases List.mem_cons.mp hb with e | hb
    · subst e; exact ⟨n, _, h, KT.dK⟩
    · exact OwnL.none l b hb
  | _, _, _, _, .dt n h _ l, b, hb => by
    rcases List.mem_cons.mp hb with e | hb
    · subst e; exact ⟨n, _, h, KT.dT⟩
    · exact OwnL.none l b hb
  | _, _, _, _, .tup n h l, b, hb => by
    rcases List.mem_cons.mp hb with e | hb
    · subst e; exact ⟨n.1, _, h, fun ⟨ks, z⟩ => n.2 ks (by injection z)⟩
    · exact OwnT.none l b hb
  | _, _, _, _, .obj n _ h _ l, b, hb => by
    rcases List.mem_cons.mp hb with e | hb
    · subst e; exact ⟨n, _, h, KT.ins⟩
    · exact OwnT.none l b hb
theorem OwnL.none : ∀ {m : Mode} {v : List V} {d : List D} {F : List Addr}, OwnL M Hs H m v d F → ∀ a ∈ F, Hs a = Option.none ∧ ∃ o, H a = some o ∧ ¬ KT o
  | _, _, _, _, .nil, _, h => by cases h
  | _, _, _, _, .cons h l, b, hb => by
    rcases List.mem_append.mp hb with hb | hb
    · exact Own.none h b hb
    · exact OwnL.none l b hb
theorem OwnT.none : ∀ {m : List Mode} {v : List V} {d : List D} {F : List Addr}, OwnT M Hs H m v d F → ∀ a ∈ F, Hs a = Option.none ∧ ∃ o, H a = some o ∧ ¬ KT o
  | _, _, _, _, .nil, _, h => by cases h
  | _, _, _, _, .cons h l, b, hb => by
    rcases List.mem_append.mp hb with hb | hb
    · exact Own.none h b hb
    · exact OwnT.none l b hb
end
theorem Own.ext {m : Mode} {v : V} {d : D} {F : List Addr} (h : Own M Hs H m v d F) (e : Ext Hs H Hs' H') : Own M Hs' H' m v d F :=
  h.move e.s1 (fun a ha => by
    obtain ⟨n, o, q, k⟩ := h.none a ha
    exact e.s4 a o q k n) fun a o q _ => e.s3 a o q
theorem OwnL.ext {m : Mode} {v : List V} {d : List D} {F : List Addr} (h : OwnL M Hs H m v d F) (e : Ext Hs H Hs' H') : OwnL M Hs' H' m v d F :=
  h.move e.s1 (fun a ha => by
    obtain ⟨n, o, q, k⟩ := h.none a ha
    exact e.s4 a o q k n) fun a o q _ => e.s3 a o q
/-- what F holds is shared from now on -/
def give (Hs H : Hp) (F : List Addr) : Hp := fun b => if b ∈ F then H b else Hs b
theorem give_in {F : List Addr} {a : Addr} (h : a ∈ F) : give Hs H F a = H a := if_pos h
theorem give_out {F : List Addr} {a : Addr} (h : a ∉ F) : give Hs H F a = Hs a := if_neg h
theorem give_s1 {F : List Addr} (h : ∀ a ∈ F, Hs a = none) : Same Hs (give Hs H F) := fun b o e => by
  rw [give_out fun z => by rw [h b z] at e; cases e]; exact e
theorem give_s2 {F : List Addr} (s : Same Hs H) : Same (give Hs H F) H := fun b o e => by
  by_cases z : b ∈ F
  · rw [give_in z] at e; exact e
  · rw [give_out z] at e; exact s _ _ e
mutual
theorem Own.den (s : Same Hs H) (k : Same Hs H') : ∀ {m : Mode} {v : V} {d : D} {F : List Addr}, Own M Hs H m v d F → (∀ a o, H a = some o → a ∈ F → H' a = some o) → Den M H' v d
  | _, _, _, _, .sh h, _ => h.mono k
  | _, _, _, _, .flat f h, _ => h.mono k
  | _, _, _, _, .shT h, _ => h.mono k
  | _, _, _, _, .fT h _, _ => h.mono k
  | _, _, _, _, .lst _ h l, hk => .lst (.inl (hk _ _ h List.mem_cons_self)) (OwnL.den s k l fun b o e q => hk b o e (List.mem_cons_of_mem _ q))
  | _, _, _, _, .dk _ h e l, hk => .dk (.inl (hk _ _ h List.mem_cons_self)) e (OwnL.den s k l fun b o e q => hk b o e (List.mem_cons_of_mem _ q))
  | _, _, _, _, .dt _ h e l, hk => .dt (.inl (hk _ _ h List.mem_cons_self)) e (OwnL.den s k l fun b o e q => hk b o e (List.mem_cons_of_mem _ q))
  | _, _, _, _, .tup _ h l, hk => .tup (hk _ _ h List.mem_cons_self) (OwnT.den s k l fun b o e q => hk b o e (List.mem_cons_of_mem _ q))
  | _, _, _, _, .obj _ m h e l, hk => .obj m (hk _ _ h List.mem_cons_self) e (OwnT.den s k l fun b o e q => hk b o e (List.mem_cons_of_mem _ q))
theorem OwnL.den (s : Same Hs H) (k : Same Hs H') : ∀ {m : Mode} {v : List V} {d : List D} {F : List Addr}, OwnL M Hs H m v d F → (∀ a o, H a = some o → a ∈ F → H' a = some o) → DenL M H' v d
  | _, _, _, _, .nil, _ => .nil
  | _, _, _, _, .cons h l, hk => .cons (Own.den s k h fun b o e q => hk b o e (List.mem_append_left _ q)) (OwnL.den s k l fun b o e q => hk b o e (List.mem_append_right _ q))
theorem OwnT.den (s : Same Hs H) (k : Same Hs H') : ∀ {m : List Mode} {v : List V} {d : List D} {F : List Addr}, OwnT M Hs H m v d F → (∀ a o, H a = some o → a ∈ F → H' a = some o) → DenL M H' v d
  | _, _, _, _, .nil, _ => .nil
  | _, _, _, _, .cons h l, hk => .cons (Own.den s k h fun b o e q => hk b o e (List.mem_append_left _ q)) (OwnT.den s k l fun b o e q => hk b o e (List.mem_append_right _ q))
end
/-- given away -/
theorem Own.give {m : Mode} {v : V} {d : D} {F : List Addr} (h : Own M Hs H m v d F) (s : Same Hs H) : Den M (give Hs H F) v d :=
  h.den s (give_s1 fun a ha => (h.none a ha).1) fun a o e ha => by rw [give_in ha]; exact e
theorem Own.S {v : V} {d : D} {F : List Addr} (h : Own M Hs H .S v d F) : Den M Hs v d ∧ F = [] := by
  cases h with
  | sh h => exact ⟨h, rfl⟩
  | flat f h => exact ⟨h, rfl⟩
theorem Own.denH {m : Mode} {v : V} {d : D} {F : List Addr} (h : Own M Hs H m v d F) (s : Same Hs H) : Den M H v d := h.den s s fun _ _ e _ => e
/-- what is behind when F of a fresh value is given away -/
theorem Ext.give {H0 Hs0 : Hp} {F : List Addr} (e : Ext Hs0 H0 Hs H) (n : ∀ a ∈ F, Hs a = none) (f : ∀ a ∈ F, H0 a = none) : Ext Hs0 H0 (G.give Hs H F) H where
  s1 := e.s1.trans (give_s1 n)
  s2 := give_s2 e.s2
  s3 := e.s3
  s4 := fun a o h1 k h2 => by
    rw [give_out fun z => by rw [f a z] at h1; cases h1]
    exact e.s4 a o h1 k h2

/-- what is a key's tuple may be shared at any time -/
def keysIn (Hs H : Hp) (L : List Addr) : Hp := fun b => if b ∈ L then H b else Hs b
theorem Ext.keys {Hs H : Hp} {L : List Addr} (s : Same Hs H) (k : ∀ a ∈ L, ∃ ks : List Key, H a = some (.tup (ks.map kV))) : Ext Hs H (keysIn Hs H L) H where
  s1 := fun b o e => by
    unfold keysIn
    split
    · exact s _ _ e
    · exact e
  s2 := fun b o e => by
    unfold keysIn at e
    split at e
    · exact e
    · exact s _ _ e
  s3 := Same.refl _
  s4 := fun a o h1 nk h2 => by
    unfold keysIn
    split
    · rename_i h
      obtain ⟨ks, e⟩ := k a h
      rw [e] at h1
      exact absurd ⟨ks, (Option.some.inj h1).symm⟩ nk
    · exact h2
theorem keysIn_in {Hs H : Hp} {L : List Addr} {a : Addr} (h : a ∈ L) : keysIn Hs H L a = H a := if_pos h

/-- own m: this frame's alone, by m, what it holds being new (not in H0); t m: held by m elsewhere; b: perhaps nothing of it is shared -/
inductive Lv where
  | own (m : Mode) | t (m : Mode) | b
def RDen (l : Lv) (M : MK) (H0 Hs H : Hp) (v : V) (d : D) : Prop := match l with
  | .own m => ∃ F, Own M Hs H m v d F ∧ F.Nodup ∧ ∀ a ∈ F, H0 a = none
  | .t m => ∃ F, Own M Hs H m v d F
  | .b => Den M H v d
abbrev Lv.s : Lv := .own .S
abbrev Lv.f : Lv := .own (.O .S)
theorem RDen.of {H0 : Hp} {v : V} {d : D} (h : Den M Hs v d) : RDen .s M H0 Hs H v d := ⟨[], .sh h, .nil, fun _ z => by cases z⟩
theorem RDen.s {H0 : Hp} {v : V} {d : D} (h : RDen .s M H0 Hs H v d) : Den M Hs v d := by
  obtain ⟨F, h, _⟩ := h
  exact h.S.1
theorem RDen.tS {H0 : Hp} {v : V} {d : D} (h : RDen (.t .S) M H0 Hs H v d) : Den M Hs v d := by
  obtain ⟨F, h⟩ := h
  exact h.S.1
theorem RDen.b {l : Lv} {H0 : Hp} {v : V} {d : D} (h : RDen l M H0 Hs H v d) (s : Same Hs H) : Den M H v d := by
  cases l with
  | own m =>
    obtain ⟨F, h, _⟩ := h
    exact h.denH s
  | t m =>
    obtain ⟨F, h⟩ := h
    exact h.denH s
  | b => exact h
theorem RDen.ext {l : Lv} {H0 : Hp} {v : V} {d : D} (h : RDen l M H0 Hs H v d) (e : Ext Hs H Hs' H') : RDen l M H0 Hs' H' v d := by
  cases l with
  | own m =>
    obtain ⟨F, h, r⟩ := h
    exact ⟨F, h.ext e, r⟩
  | t m =>
    obtain ⟨F, h⟩ := h
    exact ⟨F, h.ext e⟩
  | b => exact Den.mono e.s3 h
theorem RDen.back {l : Lv} {H0 H1 : Hp} {v : V} {d : D} (e : Same H0 H1) (h : RDen l M H1 Hs H v d) : RDen l M H0 Hs H v d := by
  cases l with
  | own m =>
    obtain ⟨F, h, n, r⟩ := h
    exact ⟨F, h, n, fun a ha => e.free (r a ha)⟩
  | t m => exact h
  | b => exact h
/-- where a value may be handed on whatever was ahead -/
def Lv.any : Lv → Bool
  | .own .S | .t _ | .b => true
  | _ => false
theorem RDen.any {l : Lv} (hl : l.any = true) {H0 H1 : Hp} {v : V} {d : D} (h : RDen l M H1 Hs H v d) : RDen l M H0 Hs H v d := by
  cases l with
  | own m =>
    cases m with
    | S => exact .of h.s
    | _ => cases hl
  | t m => exact h
  | b => exact h
end

/-! ### frames -/
structure Rel (M : MK) (B : Hp × Hp) (ms : Modes) (Hs H : Hp) (σ : St) (ρ : Env) (Fp : Nat → List Addr) : Prop where
  ext : Ext B.1 B.2 Hs H
  len : σ.length = ρ.length
  lm : ms.length = ρ.length
  val : ∀ (i : Nat) (d : D), ρ[i]? = some (some d) → ∃ v, σ[i]? = some (some v) ∧ Own M Hs H (md ms i) v d (Fp i)
  off : ∀ i : Nat, (∀ d, ρ[i]? ≠ some (some d)) → Fp i = []
  nd : ∀ i : Nat, (Fp i).Nodup
  fr : ∀ i : Nat, ∀ a ∈ Fp i, B.2 a = none
  dj : ∀ i j : Nat, i ≠ j → ∀ a ∈ Fp i, a ∉ Fp j
section
variable {M : MK} {B : Hp × Hp} {ms : Modes} {Hs H Hs' H' : Hp} {σ : St} {ρ : Env} {Fp : Nat → List Addr}
theorem Rel.sub (R : Rel M B ms Hs H σ ρ Fp) : Same Hs H := R.ext.s2
theorem Rel.step (R : Rel M B ms Hs H σ ρ Fp) (e : Ext Hs H Hs' H') : Rel M B ms Hs' H' σ ρ Fp := by
  refine ⟨R.ext.trans e, R.len, R.lm, fun i d h => ?_, R.off, R.nd, R.fr, R.dj⟩
  obtain ⟨v, h1, h2⟩ := R.val i d h
  exact ⟨v, h1, h2.ext e⟩
theorem Rel.has (R : Rel M B ms Hs H σ ρ Fp) {i : Nat} {a : Addr} (h : a ∈ Fp i) : Hs a = none ∧ ∃ o, H a = some o ∧ ¬ KT o := by
  by_cases z : ∃ d, ρ[i]? = some (some d)
  · obtain ⟨d, z⟩ := z
    obtain ⟨v, _, o⟩ := R.val i d z
    exact o.none a h
  · rw [R.off i fun d q => z ⟨d, q⟩] at h
    cases h
theorem md_set_self {i : Nat} {m : Mode} (h : i < ms.length) : md (ms.set i m) i = m := by
  unfold md
  rw [List.getD_eq_getElem?_getD, List.getElem?_set_self h]
  rfl
theorem md_set_ne {i j : Nat} {m : Mode} (h : i ≠ j) : md (ms.set i m) j = md ms j := by
  unfold md
  rw [List.getD_eq_getElem?_getD, List.getD_eq_getElem?_getD, List.getElem?_set_ne h]
/-- a value is laid into a slot: it is held by m, what it holds is F -/
theorem Rel.put {i : Nat} {v : V} {d : D} {m : Mode} {F : List Addr} (R : Rel M B ms Hs H σ ρ Fp) (hi : i < ms.length) (h : Own M Hs H m v d F) (hn : F.Nodup) (hf : ∀ a ∈ F, B.2 a = none) (hd : ∀ j, j ≠ i → ∀ a ∈ F, a ∉ Fp j) :
    Rel M B (ms.set i m) Hs H (σ.set i (some v)) (ρ.set i (some d)) (fun j => if j = i then F else Fp j) := by
  have hρ : i < ρ.length := by rw [← R.lm]; exact hi
  refine ⟨R.ext, by simpa using R.len, by simpa using R.lm, fun j x q => ?_, fun j q => ?_, fun j => ?_, fun j a ha => ?_, fun j k hjk a ha => ?_⟩
  · by_cases e : j = i
    · subst e
      rw [List.getElem?_set_self hρ] at q
      cases q
      refine ⟨v, List.getElem?_set_self (by rw [R.len]; exact hρ), ?_⟩
      rw [md_set_self hi, if_pos rfl]
      exact h
    · rw [List.getElem?_set_ne (Ne.symm e)] at q
      obtain ⟨w, h1, h2⟩ := R.val j x q
      refine ⟨w, by rw [List.getElem?_set_ne (Ne.symm e)]; exact h1, ?_⟩
      rw [md_set_ne (Ne.symm e), if_neg e]
      exact h2
  · by_cases e : j = i
    · subst e
      exact absurd (List.getElem?_set_self hρ) (q d)
    · simp only [if_neg e]
      exact R.off j fun d z => q d (by rw [List.getElem?_set_ne (Ne.symm e)]; exact z)
  · by_cases e : j = i
    · simp only [if_pos e]; exact hn
    · simp only [if_neg e]; exact R.nd j
  · by_cases e : j = i
    · simp only [if_pos e] at ha; exact hf a ha
    · simp only [if_neg e] at ha; exact R.fr j a ha
  · by_cases e : j = i
    · simp only [if_pos e] at ha
      by_cases e2 : k = i
      · exact absurd (e.trans e2.symm) hjk
      · simp only [if_neg e2]; exact hd k e2 a ha
    · simp only [if_neg e] at ha
      by_cases e2 : k = i
      · simp only [if_pos e2]; exact fun z => hd j e a z ha
      · simp only [if_neg e2]; exact R.dj j k hjk a ha
/-- a slot is given away: it is shared from now on -/
theorem Rel.freeze {i : Nat} (R : Rel M B ms Hs H σ ρ Fp) (hi : i < ms.length) : ∃ Hs', Ext Hs' H Hs' H ∧ Same Hs Hs' ∧ Rel M B (ms.set i .S) Hs' H σ ρ (fun j => if j = i then [] else Fp j) := by
  have n : ∀ a ∈ Fp i, Hs a = none := fun a ha => (R.has ha).1
  have e : Ext B.1 B.2 (give Hs H (Fp i)) H := R.ext.give n (R.fr i)
  refine ⟨give Hs H (Fp i), Ext.refl e.s2, give_s1 n, e, R.len, by simpa using R.lm, fun j x q => ?_, fun j q => ?_, fun j => ?_, fun j a ha => ?_, fun j k hjk a ha => ?_⟩
  · obtain ⟨w, h1, h2⟩ := R.val j x q
    refine ⟨w, h1, ?_⟩
    by_cases z : j = i
    · subst z
      rw [md_set_self hi, if_pos rfl]
      exact .sh (h2.give R.sub)
    · rw [md_set_ne (Ne.symm z), if_neg z]
      refine h2.move (give_s1 n) (fun a ha => ?_) fun a o q _ => q
      rw [give_out fun y => R.dj j i z a ha y]
      exact (R.has ha).1
  · by_cases z : j = i
    · rw [if_pos z]
    · rw [if_neg z]; exact R.off j q
  · by_cases z : j = i
    · simp only [if_pos z]; exact .nil
    · simp only [if_neg z]; exact R.nd j
  · by_cases z : j = i
    · simp only [if_pos z] at ha; cases ha
    · simp only [if_neg z] at ha; exact R.fr j a ha
  · by_cases z : j = i
    · simp only [if_pos z] at ha; cases ha
    · simp only [if_neg z] at ha
      by_cases z2 : k = i
      · simp only [if_pos z2]; exact fun y => by cases y
      · simp only [if_neg z2]; exact R.dj j k hjk a ha
end
end G
/-! G: what an expression makes of the trees -/
namespace G
open PySem PySem.Spec L2
open PyProof.Rows hiding St

/-- an exception in the air: its class, its fields -/
def ExcAt (M : MK) (Hs : Hp) (c : Str) (fs : List (Str × D)) (cls : Value) (dd : Option Addr) : Prop :=
  ∃ C, M.mg c = some (.ref C) ∧ cls = .ref C ∧ ((fs = [] ∧ dd = none) ∨ ∃ f v d dx, fs = [(f, d)] ∧ dd = some dx ∧ Hs dx = some (.xd [(f, v)]) ∧ Den M Hs v d)
theorem ExcAt.mono {M : MK} {Hs Hs' : Hp} {c : Str} {fs : List (Str × D)} {cls : Value} {dd : Option Addr} (h : ExcAt M Hs c fs cls dd) (e : Same Hs Hs') : ExcAt M Hs' c fs cls dd := by
  obtain ⟨C, h1, h2, h3⟩ := h
  refine ⟨C, h1, h2, ?_⟩
  rcases h3 with h3 | ⟨f, v, d, dx, a, b, x, y⟩
  · exact .inl h3
  · exact .inr ⟨f, v, d, dx, a, b, e _ _ x, y.mono e⟩

/-- what is asked behind something that gives r: P tells how a value stands for a tree (the heap ahead, the shared part behind, the heap behind) -/
class PMono {α β : Type} (P : Hp → Hp → Hp → β → α → Prop) : Prop where
  back : ∀ {H0 H1 Hs H : Hp} {b : β} {a : α}, Same H0 H1 → P H1 Hs H b a → P H0 Hs H b a
def Post {α β : Type} (X : Cx) (W : WX) (P : Hp → Hp → Hp → β → α → Prop) (Hs H : Hp) (σ : St) (Q : β → Hp → Prop) : Rs α → Prop
  | .ok a => ∀ b Hs' H', Ext Hs H Hs' H' → P H Hs' H' b a → Q b H'
  | .exc c fs => ∀ Hs' H' cls dd, Ext Hs H Hs' H' → ExcAt (mkM X) Hs' c fs cls dd → W cls dd σ H'
  | .bad => False
theorem Post.step {α β : Type} {X : Cx} {W : WX} {P : Hp → Hp → Hp → β → α → Prop} [PMono P] {Hs H Hs1 H1 : Hp} {σ : St} {Q : β → Hp → Prop} {r : Rs α} (h : Post X W P Hs H σ Q r) (e : Ext Hs H Hs1 H1) : Post X W P Hs1 H1 σ Q r := by
  cases r with
  | ok a => exact fun b Hs' H' e' p => h b Hs' H' (e.trans e') (PMono.back e.s3 p)
  | exc c fs => exact fun Hs' H' cls dd e' p => h Hs' H' cls dd (e.trans e') p
  | bad => exact h
theorem Post.seq {α β γ δ : Type} {X : Cx} {W : WX} {P : Hp → Hp → Hp → β → α → Prop} [PMono P] {P' : Hp → Hp → Hp → δ → γ → Prop} {Hs H : Hp} {σ : St} {Q : β → Hp → Prop} {r : Rs γ} {f : γ → Rs α} {K : δ → Hp → Prop}
    (h : Post X W P Hs H σ Q (r.bind f)) (k : ∀ d v Hs1 H1, r = .ok d → Ext Hs H Hs1 H1 → P' H Hs1 H1 v d → Post X W P Hs1 H1 σ Q (f d) → K v H1) : Post X W P' Hs H σ K r := by
  cases r with
  | ok a => exact fun b Hs' H' e' p => k a b Hs' H' rfl e' p (h.step e')
  | exc c fs => exact h
  | bad => exact h
theorem Post.imp {α β : Type} {X : Cx} {W : WX} {P P' : Hp → Hp → Hp → β → α → Prop} {Hs H : Hp} {σ : St} {Q : β → Hp → Prop} {r : Rs α} (h : Post X W P Hs H σ Q r) (k : ∀ Hs' H' b a, Same Hs' H' → P' H Hs' H' b a → P H Hs' H' b a) : Post X W P' Hs H σ Q r := by
  cases r with
  | ok a => exact fun b Hs' H' e' p => h b Hs' H' e' (k _ _ _ _ e'.s2 p)
  | exc c fs => exact h
  | bad => exact h

abbrev PV (X : Cx) (l : Lv) : Hp → Hp → Hp → V → D → Prop := RDen l (mkM X)
instance {X : Cx} {l : Lv} : PMono (PV X l) := ⟨fun e h => RDen.back e h⟩
def JG (X : Cx) (W : WX) (l : Lv) (ms : Modes) (e : Expr) (ev : Env → Rs D) : Prop :=
  ∃ t, PE X e t ∧ ∀ B Hs H σ ρ Fp Q, Rel (mkM X) B ms Hs H σ ρ Fp → Post X W (PV X l) Hs H σ Q (ev ρ) → t σ H Q
abbrev PB : Hp → Hp → Hp → Bool → Bool → Prop := fun _ _ _ b a => b = a
instance : PMono PB := ⟨fun _ h => h⟩
def JT (X : Cx) (W : WX) (ms : Modes) (e : Expr) (ev : Env → Rs Bool) : Prop :=
  ∃ t, PT X e t ∧ ∀ B Hs H σ ρ Fp Q, Rel (mkM X) B ms Hs H σ ρ Fp → Post X W PB Hs H σ Q (ev ρ) → t σ H Q
def JW (X : Cx) (W : WX) (ms : Modes) (e : Expr) (ev : Env → Rs Bool) : Prop :=
  ∃ t, PW X e t ∧ ∀ B Hs H σ ρ Fp Q, Rel (mkM X) B ms Hs H σ ρ Fp → Post X W PB Hs H σ Q (ev ρ) → t σ H Q
def RDenL (l : Lv) (M : MK) (H0 Hs H : Hp) : List V → List D → Prop
  | [], [] => True
  | v :: vs, d :: ds => RDen l M H0 Hs H v d ∧ RDenL l M H0 Hs H vs ds
  | _, _ => False
theorem RDenL.back {l : Lv} {M : MK} {H0 H1 Hs H : Hp} (e : Same H0 H1) : ∀ {vs : List V} {ds : List D}, RDenL l M H1 Hs H vs ds → RDenL l M H0 Hs H vs ds
  | [], [], _ => trivial
  | _ :: _, _ :: _, h => ⟨h.1.back e, RDenL.back e h.2⟩
theorem RDenL.any {l : Lv} (hl : l.any = true) {M : MK} {H0 H1 Hs H : Hp} : ∀ {vs : List V} {ds : List D}, RDenL l M H1 Hs H vs ds → RDenL l M H0 Hs H vs ds
  | [], [], _ => trivial
  | _ :: _, _ :: _, h => ⟨RDen.any hl h.1, RDenL.any hl h.2⟩
instance {l : Lv} {M : MK} : PMono (RDenL l M) := ⟨fun e h => RDenL.back e h⟩
def JA (X : Cx) (W : WX) (l : Lv) (ms : Modes) (es : List Expr) (ev : Env → Rs (List D)) : Prop :=
  ∃ t, PA X es t ∧ ∀ B Hs H σ ρ Fp Q, Rel (mkM X) B ms Hs H σ ρ Fp → Post X W (RDenL l (mkM X)) Hs H σ Q (ev ρ) → t σ H Q

theorem RDenL.s {M : MK} {H0 Hs H : Hp} : ∀ {vs : List V} {ds : List D}, RDenL .s M H0 Hs H vs ds → DenL M Hs vs ds
  | [], [], _ => .nil
  | _ :: _, _ :: _, h => .cons h.1.s (RDenL.s h.2)
theorem RDenL.b {l : Lv} {M : MK} {H0 Hs H : Hp} (s : Same Hs H) : ∀ {vs : List V} {ds : List D}, RDenL l M H0 Hs H vs ds → DenL M H vs ds
  | [], [], _ => .nil
  | _ :: _, _ :: _, h => .cons (h.1.b s) (RDenL.b s h.2)
theorem RDenL.of_s {M : MK} {H0 Hs H : Hp} : ∀ {vs : List V} {ds : List D}, DenL M Hs vs ds → RDenL .s M H0 Hs H vs ds
  | _, _, .nil => trivial
  | _, _, .cons h l => ⟨.of h, RDenL.of_s l⟩

section
variable {X : Cx} {W : WX} {ms : Modes} {e : Expr} {ev : Env → Rs D}
theorem JG.ot {m : Mode} (h : JG X W (.own m) ms e ev) : JG X W (.t m) ms e ev := by
  obtain ⟨t, h1, h2⟩ := h
  exact ⟨t, h1, fun B Hs H σ ρ Fp Q R p => h2 B Hs H σ ρ Fp Q R (p.imp fun _ _ _ _ _ ⟨F, z, _⟩ => ⟨F, z⟩)⟩
theorem JG.ts (h : JG X W (.t .S) ms e ev) : JG X W .s ms e ev := by
  obtain ⟨t, h1, h2⟩ := h
  exact ⟨t, h1, fun B Hs H σ ρ Fp Q R p => h2 B Hs H σ ρ Fp Q R (p.imp fun _ _ _ _ _ z => .of z.tS)⟩
/-- what is new is given away -/
theorem JG.os {m : Mode} (h : JG X W (.own m) ms e ev) : JG X W .s ms e ev := by
  obtain ⟨t, h1, h2⟩ := h
  refine ⟨t, h1, fun B Hs H σ ρ Fp Q R p => h2 B Hs H σ ρ Fp Q R ?_⟩
  cases z : ev ρ with
  | ok d =>
    rw [z] at p
    rintro v Hs' H' e ⟨F, o, n, f⟩
    exact p v _ H' (e.give (fun a ha => (o.none a ha).1) f) (.of (o.give e.s2))
  | exc c fs => rw [z] at p; exact p
  | bad => rw [z] at p; exact p
theorem JG.tb {l : Lv} (h : JG X W l ms e ev) : JG X W .b ms e ev := by
  obtain ⟨t, h1, h2⟩ := h
  exact ⟨t, h1, fun B Hs H σ ρ Fp Q R p => h2 B Hs H σ ρ Fp Q R (p.imp fun _ _ _ _ s z => z.b s)⟩
/-- a value that is no object is shared in any case -/
def fl (ev : Env → Rs D) : Env → Rs D := fun ρ => (ev ρ).bind fun d => if d.flat then .ok d else .bad
theorem je_flat {l : Lv} (h : JG X W l ms e ev) : JG X W .s ms e (fl ev) := by
  obtain ⟨t, h1, h2⟩ := h
  refine ⟨t, h1, fun B Hs H σ ρ Fp Q R p => h2 B Hs H σ ρ Fp Q R (p.seq fun d v Hs1 H1 _ e1 r q => ?_)⟩
  by_cases f : d.flat = true
  · rw [if_pos f] at q
    exact q v Hs1 H1 (Ext.refl e1.s2) (.of ((r.b e1.s2).flat f))
  · rw [if_neg f] at q
    exact q.elim

/-! ### names, constants -/
def eVar (i : Nat) : Env → Rs D := fun ρ => match ρ[i]? with
  | some (some d) => .ok d
  | _ => .bad
def eC (d : D) : Env → Rs D := fun _ => .ok d
theorem je_var (i : Nat) {m : Mode} {x : Str} {pos : Pos} (hm : md ms i = m := by rfl) (hN : X.N[i]? = some x := by rfl) (hv : Vis X.env.scope x := by first | exact Or.inl rfl | exact Or.inr (Or.inl rfl) | exact Or.inr (Or.inr rfl)) (hd : (x == ("__debug__" : Str)) = false := by decide)
    (hcd : (x == ("__classdict__" : Str)) = false := by decide) : JG X W (.t m) ms (.Name x pos) (eVar i) := by
  refine ⟨_, pe_var hN hv hd hcd, fun B Hs H σ ρ Fp Q R p => ?_⟩
  unfold eVar at p
  split at p
  · rename_i d hd
    obtain ⟨v, h1, h2⟩ := R.val i d hd
    rw [hm] at h2
    exact ⟨v, h1, p v Hs H (Ext.refl R.sub) ⟨_, h2⟩⟩
  · exact p.elim
/-- a name that is shared -/
theorem je_varS (i : Nat) {x : Str} {pos : Pos} (hm : md ms i = .S := by rfl) (hN : X.N[i]? = some x := by rfl) (hv : Vis X.env.scope x := by first | exact Or.inl rfl | exact Or.inr (Or.inl rfl) | exact Or.inr (Or.inr rfl)) (hd : (x == ("__debug__" : Str)) = false := by decide)
    (hcd : (x == ("__classdict__" : Str)) = false := by decide) : JG X W .s ms (.Name x pos) (eVar i) := (je_var i hm hN hv hd hcd).ts
theorem je_c {v : V} {d : D} (h : PE X e (tC v)) (r : ∀ Hs, Den (mkM X) Hs v d) : JG X W .s ms e (eC d) :=
  ⟨_, h, fun B Hs H σ ρ Fp Q R p => p v Hs H (Ext.refl R.sub) (.of (r Hs))⟩
theorem je_int {i j pos} : JG X W .s ms (.Constant (.int i) j pos) (eC (.int i)) := je_c pe_int fun _ => .int _
theorem je_bl {i j pos} : JG X W .s ms (.Constant (.bool i) j pos) (eC (.bl i)) := je_c pe_bl fun _ => .bl _
theorem je_non {j pos} : JG X W .s ms (.Constant .none j pos) (eC .non) := je_c pe_non fun _ => .non
theorem je_str {i j pos} : JG X W .s ms (.Constant (.str i) j pos) (eC (.str i)) := je_c pe_str fun _ => .str _

/-! ### by values -/
def v1 (f : D → Rs D) (ea : Env → Rs D) : Env → Rs D := fun ρ => (ea ρ).bind f
def v2 (f : D → D → Rs D) (ea eb : Env → Rs D) : Env → Rs D := fun ρ => (ea ρ).bind fun d => (eb ρ).bind fun e => f d e
/-- r serves f -/
def O1 (X : Cx) (W : WX) (la lo : Lv) (r : V → Hp → VK → Prop) (f : D → Rs D) : Prop :=
  ∀ H0 Hs H σ x d Q, Same Hs H → RDen la (mkM X) H0 Hs H x d → Post X W (PV X lo) Hs H σ Q (f d) → r x H Q
def O2 (X : Cx) (W : WX) (la lb lo : Lv) (r : R2) (f : D → D → Rs D) : Prop :=
  ∀ H0 H00 Hs H σ x y d e Q, Same Hs H → RDen la (mkM X) H0 Hs H x d → RDen lb (mkM X) H00 Hs H y e → Post X W (PV X lo) Hs H σ Q (f d e) → r x y H Q
variable {a b : Expr} {ea eb : Env → Rs D} {pos : Pos} {la lb lo : Lv} {f : D → Rs D} {g : D → D → Rs D}
theorem two {ta tb : TE} {r : R2} (o : O2 X W la lb lo r g) {B : Hp × Hp} {Hs H : Hp} {σ : St} {ρ : Env} {Q : VK} {Fp : Nat → List Addr} (R : Rel (mkM X) B ms Hs H σ ρ Fp)
    (h2 : ∀ B Hs H σ ρ Fp Q, Rel (mkM X) B ms Hs H σ ρ Fp → Post X W (PV X la) Hs H σ Q (ea ρ) → ta σ H Q) (k2 : ∀ B Hs H σ ρ Fp Q, Rel (mkM X) B ms Hs H σ ρ Fp → Post X W (PV X lb) Hs H σ Q (eb ρ) → tb σ H Q)
    (p : Post X W (PV X lo) Hs H σ Q (v2 g ea eb ρ)) : ta σ H fun x H1 => tb σ H1 fun y H2 => r x y H2 Q := by
  refine h2 B Hs H σ ρ Fp _ R (p.seq fun d x Hs1 H1 _ e1 r1 q1 => ?_)
  refine k2 B Hs1 H1 σ ρ Fp _ (R.step e1) (q1.seq fun e y Hs2 H2 _ e2 r2 q2 => ?_)
  exact o _ _ Hs2 H2 σ x y d e Q e2.s2 (r1.ext e2) r2 q2
theorem je_op {op : Operator} {r : R2} (ho : OpR X (binaryOp op) r) (o : O2 X W la lb lo r g) (ha : JG X W la ms a ea) (hb : JG X W lb ms b eb) : JG X W lo ms (.BinOp a op b pos) (v2 g ea eb) := by
  obtain ⟨ta, h1, h2⟩ := ha
  obtain ⟨tb, k1, k2⟩ := hb
  exact ⟨_, pe_op ho h1 k1, fun B Hs H σ ρ Fp Q R p => two o R h2 k2 p⟩
theorem je_cmp {op : CmpOp} {r : R2} (ho : OpR X (compareOp op) r) (o : O2 X W la lb lo r g) (hm : behindInMarks op b = false) (ha : JG X W la ms a ea) (hb : JG X W lb ms b eb) : JG X W lo ms (.Compare a [op] [b] pos) (v2 g ea eb) := by
  obtain ⟨ta, h1, h2⟩ := ha
  obtain ⟨tb, k1, k2⟩ := hb
  exact ⟨_, pe_cmpR ho h1 k1 hm, fun B Hs H σ ρ Fp Q R p => two o R h2 k2 p⟩
def tB (d : D) : Rs Bool := match d with
  | .bl b => .ok b
  | _ => .bad
def evB (ev : Env → Rs D) : Env → Rs Bool := fun ρ => (ev ρ).bind tB
theorem post_tB {l : Lv} {Hs H : Hp} {σ : St} {ρ : Env} {Q : Bool → Hp → Prop} (p : Post X W PB Hs H σ Q (evB ev ρ)) : Post X W (PV X l) Hs H σ (fun x H' => ∃ k, x = .bl k ∧ Q k H') (ev ρ) := by
  refine Post.seq p fun d v Hs1 H1 _ e1 r q => ?_
  cases d with
  | bl k =>
    have z := r.b e1.s2
    cases z
    exact ⟨k, rfl, q k Hs1 H1 (Ext.refl e1.s2) rfl⟩
  | _ => exact q.elim
theorem jt_cmp {op : CmpOp} {r : R2} (ho : OpR X (compareOp op) r) (o : O2 X W la lb .s r g) (hm : behindInMarks op b = false) (ha : JG X W la ms a ea) (hb : JG X W lb ms b eb) : JT X W ms (.Compare a [op] [b] pos) (evB (v2 g ea eb)) := by
  obtain ⟨ta, h1, h2⟩ := ha
  obtain ⟨tb, k1, k2⟩ := hb
  exact ⟨_, pt_cmpR ho h1 k1 hm, fun B Hs H σ ρ Fp Q R p => two o R h2 k2 (post_tB p)⟩
/-- an expression that gives a bool, as a test -/
theorem jt_val {l : Lv} (h : JG X W l ms e ev) (he : ∀ whole, isTrue e X.env whole = (do let v ← whole; standAt e.pos; holding [v] (truthy v)) := by intro _; rfl) : JT X W ms e (evB ev) := by
  obtain ⟨t, h1, h2⟩ := h
  exact ⟨_, pt_val h1 he, fun B Hs H σ ρ Fp Q R p => h2 B Hs H σ ρ Fp _ R (post_tB p)⟩
/-- truth of any value -/
def dTru : D → Rs Bool
  | .bl b => .ok b
  | .non => .ok false
  | .int i => .ok (i != 0)
  | .str x => if x.length ≤ sizeLine then .ok ((x.length : Int) != 0) else .bad
  | .lst xs => .ok (!xs.isEmpty)
  | .tup xs => .ok (!xs.isEmpty)
  | _ => .bad
def evT (ev : Env → Rs D) : Env → Rs Bool := fun ρ => (ev ρ).bind dTru
theorem DenL.empty {M : MK} {H : Hp} {vs : List V} {ds : List D} (h : DenL M H vs ds) : (!vs.isEmpty) = !ds.isEmpty := by cases h <;> rfl
theorem tru_den {H : Hp} {x : V} {d : D} {b : Bool} (h : Den (mkM X) H x d) (e : dTru d = .ok b) : TruV X.K x H b := by
  cases h with
  | non => injection e with e; exact e.symm
  | bl k => injection e with e; exact e.symm
  | int i => injection e with e; exact e.symm
  | str z =>
    have e' : (if z.length ≤ sizeLine then Rs.ok ((z.length : Int) != 0) else Rs.bad) = Rs.ok b := e
    by_cases h : z.length ≤ sizeLine
    · rw [if_pos h] at e'; injection e' with e'; exact ⟨h, e'.symm⟩
    · rw [if_neg h] at e'; cases e'
  | lst h l => injection e with e; exact .inl ⟨_, .inl h, by rw [← e]; exact l.empty.symm⟩
  | tup h l => injection e with e; exact .inr (.inl ⟨_, SqT.of h, by rw [← e]; exact l.empty.symm⟩)
  | _ => cases e
theorem dTru_exc {d : D} {c : Str} {fs : List (Str × D)} : dTru d ≠ .exc c fs := by
  intro h
  cases d with
  | str z =>
    have e' : (if z.length ≤ sizeLine then Rs.ok ((z.length : Int) != 0) else Rs.bad) = Rs.exc c fs := h
    split at e' <;> cases e'
  | _ => cases h
theorem post_tru {l : Lv} {Hs H : Hp} {σ : St} {ρ : Env} {Q : Bool → Hp → Prop} (p : Post X W PB Hs H σ Q (evT ev ρ)) : Post X W (PV X l) Hs H σ (fun x H' => ∃ k, TruV X.K x H' k ∧ Q k H') (ev ρ) := by
  refine Post.seq p fun d v Hs1 H1 _ e1 r q => ?_
  cases z : dTru d with
  | ok b => rw [z] at q; exact ⟨b, tru_den (r.b e1.s2) z, q b Hs1 H1 (Ext.refl e1.s2) rfl⟩
  | exc c fs => exact (dTru_exc z).elim
  | bad => rw [z] at q; exact q.elim
theorem jt_tru {l : Lv} (h : JG X W l ms e ev) (he : ∀ whole, isTrue e X.env whole = (do let v ← whole; standAt e.pos; holding [v] (truthy v)) := by intro _; rfl) : JT X W ms e (evT ev) := by
  obtain ⟨t, h1, h2⟩ := h
  exact ⟨_, pt_truth h1 he, fun B Hs H σ ρ Fp Q R p => h2 B Hs H σ ρ Fp _ R (post_tru p)⟩

/-! ### and, or, not, if -/
def bAnd (ta tb : Env → Rs Bool) : Env → Rs Bool := fun ρ => (ta ρ).bind fun c => if c then tb ρ else .ok false
def bOr (ta tb : Env → Rs Bool) : Env → Rs Bool := fun ρ => (ta ρ).bind fun c => if c then .ok true else tb ρ
def bNot (ta : Env → Rs Bool) : Env → Rs Bool := fun ρ => (ta ρ).bind fun c => .ok (!c)
variable {t u : Env → Rs Bool} {rest : List Expr}
theorem jw_pt (h : JW X W ms e t) : JT X W ms e t := by
  obtain ⟨t, h1, h2⟩ := h
  exact ⟨_, h1.pt, h2⟩
theorem jw_and1 (h : JT X W ms a t) : JW X W ms (.BoolOp .And [a] pos) t := by
  obtain ⟨t, h1, h2⟩ := h
  exact ⟨_, pw_and1 h1, h2⟩
theorem jw_or1 (h : JT X W ms a t) : JW X W ms (.BoolOp .Or [a] pos) t := by
  obtain ⟨t, h1, h2⟩ := h
  exact ⟨_, pw_or1 h1, h2⟩
theorem jw_and (h : JT X W ms a t) (k : JW X W ms (.BoolOp .And (b :: rest) pos) u) : JW X W ms (.BoolOp .And (a :: b :: rest) pos) (bAnd t u) := by
  obtain ⟨ta, h1, h2⟩ := h
  obtain ⟨tb, k1, k2⟩ := k
  refine ⟨_, pw_and h1 k1, fun B Hs H σ ρ Fp Q R p => h2 B Hs H σ ρ Fp _ R (p.seq fun c v Hs1 H1 _ e1 r q => ?_)⟩
  subst r
  cases v with
  | true => exact k2 B Hs1 H1 σ ρ Fp Q (R.step e1) q
  | false => exact q false Hs1 H1 (Ext.refl e1.s2) rfl
theorem jw_or (h : JT X W ms a t) (k : JW X W ms (.BoolOp .Or (b :: rest) pos) u) : JW X W ms (.BoolOp .Or (a :: b :: rest) pos) (bOr t u) := by
  obtain ⟨ta, h1, h2⟩ := h
  obtain ⟨tb, k1, k2⟩ := k
  refine ⟨_, pw_or h1 k1, fun B Hs H σ ρ Fp Q R p => h2 B Hs H σ ρ Fp _ R (p.seq fun c v Hs1 H1 _ e1 r q => ?_)⟩
  subst r
  cases v with
  | false => exact k2 B Hs1 H1 σ ρ Fp Q (R.step e1) q
  | true => exact q true Hs1 H1 (Ext.refl e1.s2) rfl
theorem jt_not (h : JT X W ms a t) : JT X W ms (.UnaryOp .Not a pos) (bNot t) := by
  obtain ⟨ta, h1, h2⟩ := h
  refine ⟨_, pt_not h1, fun B Hs H σ ρ Fp Q R p => h2 B Hs H σ ρ Fp _ R (p.seq fun c v Hs1 H1 _ e1 r q => ?_)⟩
  subst r
  exact q (!v) Hs1 H1 (Ext.refl e1.s2) rfl
/-- a and b, a or b as values -/
def eAnd (ea eb : Env → Rs D) : Env → Rs D := fun ρ => (ea ρ).bind fun d => (dTru d).bind fun c => if c then eb ρ else .ok d
def eOr (ea eb : Env → Rs D) : Env → Rs D := fun ρ => (ea ρ).bind fun d => (dTru d).bind fun c => if c then .ok d else eb ρ
def eNot (ea : Env → Rs D) : Env → Rs D := fun ρ => (ea ρ).bind fun d => (dTru d).bind fun c => .ok (.bl (!c))
theorem je_one {op} {l : Lv} (h : JG X W l ms a ea) : JG X W l ms (.BoolOp op [a] pos) ea := by
  obtain ⟨t, h1, h2⟩ := h
  exact ⟨_, pe_one h1, h2⟩
theorem je_and {l : Lv} (hl : l.any = true) (h : JG X W l ms a ea) (k : JG X W l ms (.BoolOp .And (b :: rest) pos) eb) : JG X W l ms (.BoolOp .And (a :: b :: rest) pos) (eAnd ea eb) := by
  obtain ⟨ta, h1, h2⟩ := h
  obtain ⟨tb, k1, k2⟩ := k
  refine ⟨_, pe_andT h1 k1, fun B Hs H σ ρ Fp Q R p => h2 B Hs H σ ρ Fp _ R (p.seq fun d v Hs1 H1 _ e1 r q => ?_)⟩
  cases z : dTru d with
  | ok c =>
    rw [z] at q
    refine ⟨c, tru_den (r.b e1.s2) z, ?_⟩
    cases c with
    | true => exact k2 B Hs1 H1 σ ρ Fp Q (R.step e1) q
    | false => exact q v Hs1 H1 (Ext.refl e1.s2) (RDen.any hl r)
  | exc c fs => exact (dTru_exc z).elim
  | bad => rw [z] at q; exact q.elim
theorem je_or {l : Lv} (hl : l.any = true) (h : JG X W l ms a ea) (k : JG X W l ms (.BoolOp .Or (b :: rest) pos) eb) : JG X W l ms (.BoolOp .Or (a :: b :: rest) pos) (eOr ea eb) := by
  obtain ⟨ta, h1, h2⟩ := h
  obtain ⟨tb, k1, k2⟩ := k
  refine ⟨_, pe_orT h1 k1, fun B Hs H σ ρ Fp Q R p => h2 B Hs H σ ρ Fp _ R (p.seq fun d v Hs1 H1 _ e1 r q => ?_)⟩
  cases z : dTru d with
  | ok c =>
    rw [z] at q
    refine ⟨c, tru_den (r.b e1.s2) z, ?_⟩
    cases c with
    | false => exact k2 B Hs1 H1 σ ρ Fp Q (R.step e1) q
    | true => exact q v Hs1 H1 (Ext.refl e1.s2) (RDen.any hl r)
  | exc c fs => exact (dTru_exc z).elim
  | bad => rw [z] at q; exact q.elim
theorem je_not {l : Lv} (h : JG X W l ms a ea) : JG X W .s ms (.UnaryOp .Not a pos) (eNot ea) := by
  obtain ⟨ta, h1, h2⟩ := h
  refine ⟨_, pe_notT h1, fun B Hs H σ ρ Fp Q R p => h2 B Hs H σ ρ Fp _ R (p.seq fun d v Hs1 H1 _ e1 r q => ?_)⟩
  cases z : dTru d with
  | ok c => rw [z] at q; exact ⟨c, tru_den (r.b e1.s2) z, q _ Hs1 H1 (Ext.refl e1.s2) (.of (.bl _))⟩
  | exc c fs => exact (dTru_exc z).elim
  | bad => rw [z] at q; exact q.elim
def eIf (c : Env → Rs Bool) (ea eb : Env → Rs D) : Env → Rs D := fun ρ => (c ρ).bind fun k => if k then ea ρ else eb ρ
theorem je_if {c : Expr} {l : Lv} (hc : JT X W ms c t) (h : JG X W l ms a ea) (k : JG X W l ms b eb) : JG X W l ms (.IfExp c a b pos) (eIf t ea eb) := by
  obtain ⟨tc, c1, c2⟩ := hc
  obtain ⟨ta, h1, h2⟩ := h
  obtain ⟨tb, k1, k2⟩ := k
  refine ⟨_, pe_ifExp c1 h1 k1, fun B Hs H σ ρ Fp Q R p => c2 B Hs H σ ρ Fp _ R (p.seq fun c v Hs1 H1 _ e1 r q => ?_)⟩
  subst r
  cases v with
  | true => exact h2 B Hs1 H1 σ ρ Fp Q (R.step e1) q
  | false => exact k2 B Hs1 H1 σ ρ Fp Q (R.step e1) q

/-! ### argument lists, displays -/
def aNil : Env → Rs (List D) := fun _ => .ok []
def aCons (ea : Env → Rs D) (es : Env → Rs (List D)) : Env → Rs (List D) := fun ρ => (ea ρ).bind fun d => (es ρ).bind fun ds => .ok (d :: ds)
variable {es : List Expr} {evs : Env → Rs (List D)}
theorem ja_nil {l : Lv} : JA X W l ms [] aNil := ⟨_, pa_nil, fun B Hs H σ ρ Fp Q R p => p [] Hs H (Ext.refl R.sub) trivial⟩
theorem ja_cons {l : Lv} (hl : l.any = true) (h : JG X W l ms a ea) (k : JA X W l ms es evs) (hs : starEach (a :: es) X.env = (false, eval a X.env) :: starEach es X.env := by rfl) : JA X W l ms (a :: es) (aCons ea evs) := by
  obtain ⟨ta, h1, h2⟩ := h
  obtain ⟨tb, k1, k2⟩ := k
  refine ⟨_, pa_cons h1 k1 hs, fun B Hs H σ ρ Fp Q R p => h2 B Hs H σ ρ Fp _ R (p.seq fun d x Hs1 H1 _ e1 r1 q1 => ?_)⟩
  refine k2 B Hs1 H1 σ ρ Fp _ (R.step e1) (q1.seq fun ds xs Hs2 H2 _ e2 r2 q2 => ?_)
  exact q2 _ Hs2 H2 (Ext.refl e2.s2) ⟨RDen.any hl (r1.ext e2), RDenL.any hl r2⟩
def eLst (es : Env → Rs (List D)) : Env → Rs D := fun ρ => (es ρ).bind fun ds => if ds.length ≤ 1000 then .ok (.lst ds) else .bad
def eTup (es : Env → Rs (List D)) : Env → Rs D := fun ρ => (es ρ).bind fun ds => if ds.length ≤ 1000 then .ok (.tup ds) else .bad
theorem small_line {n : Nat} (h : n ≤ 1000) : n ≤ sizeLine := Nat.le_of_lt (small1000 h)
theorem OwnL.sh {M : MK} {Hs H : Hp} : ∀ {vs : List V} {ds : List D}, DenL M Hs vs ds → OwnL M Hs H .S vs ds []
  | _, _, .nil => .nil
  | _, _, .cons h l => .cons (F := []) (.sh h) (OwnL.sh l)
theorem OwnL.den_S {M : MK} {Hs H : Hp} : ∀ {vs : List V} {ds : List D} {F : List Addr}, OwnL M Hs H .S vs ds F → DenL M Hs vs ds ∧ F = []
  | _, _, _, .nil => ⟨.nil, rfl⟩
  | _, _, _, .cons h l => by
    obtain ⟨h1, rfl⟩ := h.S
    obtain ⟨h2, rfl⟩ := OwnL.den_S l
    exact ⟨.cons h1 h2, rfl⟩
/-- a new list -/
theorem new_lst {M : MK} {Hs H : Hp} {p : Addr} {vs : List V} {ds : List D} (s : Same Hs H) (np : H p = none) (l : DenL M Hs vs ds) : RDen .f M H Hs (upd H p (.lst vs)) (.ref p) (.lst ds) :=
  ⟨[p], .lst (s.free np) upd_same (OwnL.sh l), by simp, fun a ha => by rw [List.mem_singleton.mp ha]; exact np⟩
theorem je_lst (h : JA X W .s ms es evs) : JG X W .f ms (.List es pos) (eLst evs) := by
  obtain ⟨ta, h1, h2⟩ := h
  refine ⟨_, pe_lst h1, fun B Hs H σ ρ Fp Q R p => h2 B Hs H σ ρ Fp _ R (p.seq fun ds xs Hs1 H1 _ e1 r q => ?_)⟩
  by_cases f : ds.length ≤ 1000
  · rw [if_pos f] at q
    have l := r.s
    exact ⟨by rw [l.length]; exact small_line f, fun p np => q _ _ _ (Ext.newO e1.s2 np) (new_lst e1.s2 np l)⟩
  · rw [if_neg f] at q; exact q.elim
theorem je_tup {x1} (h : JA X W .s ms es evs) : JG X W .s ms (.Tuple es x1 pos) (eTup evs) := by
  obtain ⟨ta, h1, h2⟩ := h
  refine ⟨_, pe_tup h1, fun B Hs H σ ρ Fp Q R p => h2 B Hs H σ ρ Fp _ R (p.seq fun ds xs Hs1 H1 _ e1 r q => ?_)⟩
  by_cases f : ds.length ≤ 1000
  · rw [if_pos f] at q
    have l := r.s
    exact ⟨by rw [l.length]; exact small_line f, fun p np => q _ _ _ (Ext.new e1.s2 np) (.of (.tup upd_same (l.mono (same_upd (e1.s2.free np)))))⟩
  · rw [if_neg f] at q; exact q.elim
end
end G
/-! G: operators, comparisons, subscripts -/
namespace G
open PySem PySem.Spec L2
open PyProof.Rows hiding St

/-- the items of what is held so -/
def Lv.item : Lv → Lv
  | .own .S => .own .S
  | .own (.O m) => .t m
  | .t .S => .t .S
  | .t (.O m) => .t m
  | _ => .b
/-- the items are shared -/
def Lv.sh : Lv → Bool
  | .own .S | .own (.O .S) | .t .S | .t (.O .S) => true
  | _ => false
section
variable {M : MK} {H0 Hs H : Hp} {v : V}
theorem OwnL.get {M : MK} {Hs H : Hp} : ∀ {m : Mode} {vs : List V} {ds : List D} {F : List Addr} {i : Nat} {d : D}, OwnL M Hs H m vs ds F → ds[i]? = some d → ∃ v G, vs[i]? = some v ∧ Own M Hs H m v d G
  | _, _, _, _, i, d, .nil, e => by simp at e
  | _, _, _, _, 0, d, .cons h l, e => by simp at e; subst e; exact ⟨_, _, rfl, h⟩
  | _, _, _, _, i + 1, d, .cons h l, e => by
    obtain ⟨v, G, h1, h2⟩ := OwnL.get (i := i) (d := d) l (by simpa using e)
    exact ⟨v, G, by simpa using h1, h2⟩
theorem DenL.rl {l : Lv} (hl : l = .own .S ∨ l = .t .S) {vs : List V} {ds : List D} {i : Nat} {d : D} (h : DenL M Hs vs ds) (e : ds[i]? = some d) : ∃ w, vs[i]? = some w ∧ RDen l M H0 Hs H w d := by
  obtain ⟨w, h1, h2⟩ := h.get e
  refine ⟨w, h1, ?_⟩
  rcases hl with rfl | rfl
  · exact .of h2
  · exact ⟨[], .sh h2⟩
theorem RDen.lst {l : Lv} {ds : List D} (s : Same Hs H) (h : RDen l M H0 Hs H v (.lst ds)) : ∃ a vs, v = .ref a ∧ Rd H a (.lst vs) ∧ DenL M H vs ds ∧ (l.sh = true → DenL M Hs vs ds) ∧
    ∀ (i : Nat) (d : D), ds[i]? = some d → ∃ w, vs[i]? = some w ∧ RDen l.item M H0 Hs H w d := by
  have fromDen : ∀ {l : Lv}, Den M H v (.lst ds) → (l.sh = true → False) → (l.item = .b) → ∃ a vs, v = .ref a ∧ Rd H a (.lst vs) ∧ DenL M H vs ds ∧ (l.sh = true → DenL M Hs vs ds) ∧
      ∀ (i : Nat) (d : D), ds[i]? = some d → ∃ w, vs[i]? = some w ∧ RDen l.item M H0 Hs H w d := fun {l} h hf hi => by
    cases h with
    | lst h1 h2 =>
      refine ⟨_, _, rfl, h1, h2, fun z => (hf z).elim, fun i d e => ?_⟩
      obtain ⟨w, q1, q2⟩ := h2.get e
      exact ⟨w, q1, by rw [hi]; exact q2⟩
  have sharedC : ∀ {l : Lv}, Den M Hs v (.lst ds) → (l.item = .own .S ∨ l.item = .t .S) → ∃ a vs, v = .ref a ∧ Rd H a (.lst vs) ∧ DenL M H vs ds ∧ (l.sh = true → DenL M Hs vs ds) ∧
      ∀ (i : Nat) (d : D), ds[i]? = some d → ∃ w, vs[i]? = some w ∧ RDen l.item M H0 Hs H w d := fun {l} h hi => by
    cases h with
    | lst h1 h2 => exact ⟨_, _, rfl, Same.rd s h1, h2.mono s, fun _ => h2, fun i d e => h2.rl hi e⟩
  have ownC : ∀ {m : Mode} {F : List Addr}, Own M Hs H (.O m) v (.lst ds) F → ∃ a vs, v = .ref a ∧ Rd H a (.lst vs) ∧ DenL M H vs ds ∧ (m = .S → DenL M Hs vs ds) ∧
      ∀ (i : Nat) (d : D), ds[i]? = some d → ∃ w, vs[i]? = some w ∧ RDen (.t m) M H0 Hs H w d := fun {m F} h => by
    cases h with
    | flat f _ => cases f
    | lst n q l =>
      refine ⟨_, _, rfl, .inl q, l.den s s fun _ _ e _ => e, fun e => ?_, fun i d e => ?_⟩
      · subst e; exact l.den_S.1
      · obtain ⟨w, G, h1, h2⟩ := l.get e
        exact ⟨w, h1, G, h2⟩
  cases l with
  | b => exact fromDen h (fun z => by cases z) rfl
  | own m =>
    cases m with
    | S => exact sharedC h.s (.inl rfl)
    | O m =>
      obtain ⟨F, h, _⟩ := h
      obtain ⟨a, vs, h1, h2, h3, h4, h5⟩ := ownC h
      refine ⟨a, vs, h1, h2, h3, fun z => h4 ?_, h5⟩
      cases m with
      | S => rfl
      | _ => cases z
    | T ms =>
      obtain ⟨F, h, _⟩ := h
      exact fromDen (h.denH s) (fun z => by cases z) rfl
    | N _ ms =>
      obtain ⟨F, h, _⟩ := h
      exact fromDen (h.denH s) (fun z => by cases z) rfl
  | t m =>
    cases m with
    | S => exact sharedC h.tS (.inr rfl)
    | O m =>
      obtain ⟨F, h⟩ := h
      obtain ⟨a, vs, h1, h2, h3, h4, h5⟩ := ownC h
      refine ⟨a, vs, h1, h2, h3, fun z => h4 ?_, h5⟩
      cases m with
      | S => rfl
      | _ => cases z
    | T ms =>
      obtain ⟨F, h⟩ := h
      exact fromDen (h.denH s) (fun z => by cases z) rfl
    | N _ ms =>
      obtain ⟨F, h⟩ := h
      exact fromDen (h.denH s) (fun z => by cases z) rfl
end

section
variable {X : Cx} {W : WX} {ms : Modes}

/-! ### whole numbers -/
theorem o2_int {la lb : Lv} {C : Int → Int → Prop} [∀ i j, Decidable (C i j)] {k : Int → Int → V} {kd : Int → Int → D} (hk : ∀ i j Hs, Den (mkM X) Hs (k i j) (kd i j)) {g : D → D → Rs D}
    (hg : ∀ d e, g d e = match d, e with | .int i, .int j => (if C i j then .ok (kd i j) else .bad) | _, _ => .bad) : O2 X W la lb .s (rI C k) g := by
  intro H0 H00 Hs H σ x y d e Q s rx ry p
  rw [hg] at p
  have dx := rx.b s
  have dy := ry.b s
  cases d <;> cases e <;> first
    | exact p.elim
    | skip
  rename_i i j
  cases dx
  cases dy
  have p' : Post X W (PV X .s) Hs H σ Q (if C i j then Rs.ok (kd i j) else Rs.bad) := p
  by_cases c : C i j
  · rw [if_pos c] at p'
    exact ⟨i, j, rfl, rfl, c, p' _ Hs H (Ext.refl s) (.of (hk i j Hs))⟩
  · rw [if_neg c] at p'
    exact p'.elim
instance {i j : Int} : Decidable (CDivW i j) := by unfold CDivW; infer_instance
instance {i j : Int} : Decidable (CMulW i j) := by unfold CMulW; infer_instance
instance {i j : Int} : Decidable (CPow i j) := by unfold CPow; infer_instance
def CMod (i j : Int) : Prop := 0 < j
instance {i j : Int} : Decidable (CMod i j) := by unfold CMod; infer_instance
def CShr (i j : Int) : Prop := 0 ≤ j
instance {i j : Int} : Decidable (CShr i j) := by unfold CShr; infer_instance
def CYes (_ _ : Int) : Prop := True
instance {i j : Int} : Decidable (CYes i j) := by unfold CYes; infer_instance
def dSub : D → D → Rs D | .int i, .int j => .ok (.int (i - j)) | _, _ => .bad
def dFdiv : D → D → Rs D | .int i, .int j => if CDivW i j then .ok (.int (i / j)) else .bad | _, _ => .bad
def dMod : D → D → Rs D | .int i, .int j => if CMod i j then .ok (.int (i % j)) else .bad | _, _ => .bad
def dPow : D → D → Rs D | .int i, .int j => if CPow i j then .ok (.int (i ^ j.toNat)) else .bad | _, _ => .bad
def dShr : D → D → Rs D | .int i, .int j => if CShr i j then .ok (.int (i / 2 ^ j.toNat)) else .bad | _, _ => .bad
def dShl : D → D → Rs D | .int i, .int j => if CPow i j then .ok (.int (i * 2 ^ j.toNat)) else .bad | _, _ => .bad
def dBand : D → D → Rs D | .int i, .int j => .ok (.int (Builtin.bitAnd i j)) | _, _ => .bad
theorem rI0_of {k : Int → Int → V} {x y : V} {H : Hp} {Q : VK} (h : rI CYes k x y H Q) : rI0 k x y H Q := by
  obtain ⟨i, j, a, b, _, q⟩ := h
  exact ⟨i, j, a, b, q⟩
theorem O2.imp {la lb lo : Lv} {r r' : R2} {g : D → D → Rs D} (o : O2 X W la lb lo r g) (h : ∀ x y H Q, r x y H Q → r' x y H Q) : O2 X W la lb lo r' g :=
  fun H0 H00 Hs H σ x y d e Q s rx ry p => h _ _ _ _ (o H0 H00 Hs H σ x y d e Q s rx ry p)
theorem o_sub {la lb : Lv} : O2 X W la lb .s (rI0 fun i j => .int (i - j)) dSub := (o2_int (C := CYes) (kd := fun i j => .int (i - j)) (fun i j Hs => .int _) fun d e => by cases d <;> cases e <;> rfl).imp fun _ _ _ _ h => rI0_of h
theorem o_fdiv {la lb : Lv} : O2 X W la lb .s (rI CDivW fun i j => .int (i / j)) dFdiv := o2_int (kd := fun i j => .int (i / j)) (fun i j Hs => .int _) fun d e => by cases d <;> cases e <;> rfl
theorem o_mod {la lb : Lv} : O2 X W la lb .s (rI (fun _ j => 0 < j) fun i j => .int (i % j)) dMod := o2_int (C := CMod) (kd := fun i j => .int (i % j)) (fun i j Hs => .int _) fun d e => by cases d <;> cases e <;> rfl
theorem o_pow {la lb : Lv} : O2 X W la lb .s (rI CPow fun i j => .int (i ^ j.toNat)) dPow := o2_int (kd := fun i j => .int (i ^ j.toNat)) (fun i j Hs => .int _) fun d e => by cases d <;> cases e <;> rfl
theorem o_shl {la lb : Lv} : O2 X W la lb .s (rI CPow fun i j => .int (i * 2 ^ j.toNat)) dShl := o2_int (kd := fun i j => .int (i * 2 ^ j.toNat)) (fun i j Hs => .int _) fun d e => by cases d <;> cases e <;> rfl
theorem o_shr {la lb : Lv} : O2 X W la lb .s (rI (fun _ j => 0 ≤ j) fun i j => .int (i / 2 ^ j.toNat)) dShr := o2_int (C := CShr) (kd := fun i j => .int (i / 2 ^ j.toNat)) (fun i j Hs => .int _) fun d e => by cases d <;> cases e <;> rfl
theorem o_band {la lb : Lv} : O2 X W la lb .s (rI0 fun i j => .int (Builtin.bitAnd i j)) dBand := (o2_int (C := CYes) (kd := fun i j => .int (Builtin.bitAnd i j)) (fun i j Hs => .int _) fun d e => by cases d <;> cases e <;> rfl).imp fun _ _ _ _ h => rI0_of h
def dLt : D → D → Rs D | .int i, .int j => .ok (.bl (decide (i < j))) | .str i, .str j => .ok (.bl (decide (i.cps.toList < j.cps.toList))) | _, _ => .bad
def dLe : D → D → Rs D | .int i, .int j => .ok (.bl (decide (i ≤ j))) | .str i, .str j => .ok (.bl (!decide (j.cps.toList < i.cps.toList))) | _, _ => .bad
def dGt : D → D → Rs D | .int i, .int j => .ok (.bl (decide (j < i))) | _, _ => .bad
def dGe : D → D → Rs D | .int i, .int j => .ok (.bl (decide (j ≤ i))) | _, _ => .bad
theorem op_ltIS : OpR X (compareOp .Lt) (fun x y H Q => rI0 (fun i j => .bl (decide (i < j))) x y H Q ∨ (∃ i j, x = .str i ∧ y = .str j ∧ Q (.bl (decide (i.cps.toList < j.cps.toList))) H)) := op_lt.or op_lt_str
theorem op_leIS : OpR X (compareOp .LtE) (fun x y H Q => rI0 (fun i j => .bl (decide (i ≤ j))) x y H Q ∨ (∃ i j, x = .str i ∧ y = .str j ∧ Q (.bl (!decide (j.cps.toList < i.cps.toList))) H)) := op_le.or op_le_str
theorem o_lt {la lb : Lv} : O2 X W la lb .s (fun x y H Q => rI0 (fun i j => .bl (decide (i < j))) x y H Q ∨ (∃ i j, x = .str i ∧ y = .str j ∧ Q (.bl (decide (i.cps.toList < j.cps.toList))) H)) dLt := by
  intro H0 H00 Hs H σ x y d e Q s rx ry p
  have dx := rx.b s
  have dy := ry.b s
  cases d <;> cases e <;> first
    | exact p.elim
    | (cases dx; cases dy; exact .inl ⟨_, _, rfl, rfl, p _ Hs H (Ext.refl s) (.of (.bl _))⟩)
    | (cases dx; cases dy; exact .inr ⟨_, _, rfl, rfl, p _ Hs H (Ext.refl s) (.of (.bl _))⟩)
theorem o_le {la lb : Lv} : O2 X W la lb .s (fun x y H Q => rI0 (fun i j => .bl (decide (i ≤ j))) x y H Q ∨ (∃ i j, x = .str i ∧ y = .str j ∧ Q (.bl (!decide (j.cps.toList < i.cps.toList))) H)) dLe := by
  intro H0 H00 Hs H σ x y d e Q s rx ry p
  have dx := rx.b s
  have dy := ry.b s
  cases d <;> cases e <;> first
    | exact p.elim
    | (cases dx; cases dy; exact .inl ⟨_, _, rfl, rfl, p _ Hs H (Ext.refl s) (.of (.bl _))⟩)
    | (cases dx; cases dy; exact .inr ⟨_, _, rfl, rfl, p _ Hs H (Ext.refl s) (.of (.bl _))⟩)
theorem o_gt {la lb : Lv} : O2 X W la lb .s (rI0 fun i j => .bl (decide (j < i))) dGt := (o2_int (C := CYes) (kd := fun i j => .bl (decide (j < i))) (fun i j Hs => .bl _) fun d e => by cases d <;> cases e <;> rfl).imp fun _ _ _ _ h => rI0_of h
theorem o_ge {la lb : Lv} : O2 X W la lb .s (rI0 fun i j => .bl (decide (j ≤ i))) dGe := (o2_int (C := CYes) (kd := fun i j => .bl (decide (j ≤ i))) (fun i j Hs => .bl _) fun d e => by cases d <;> cases e <;> rfl).imp fun _ _ _ _ h => rI0_of h
/-- -n -/
def dNeg : D → Rs D | .int i => .ok (.int (-i)) | _ => .bad
theorem je_neg {l : Lv} {a : Expr} {ea : Env → Rs D} {pos : Pos} (h : JG X W l ms a ea) : JG X W .s ms (.UnaryOp .USub a pos) (v1 dNeg ea) := by
  obtain ⟨ta, h1, h2⟩ := h
  refine ⟨_, pe_un un_neg h1, fun B Hs H σ ρ Fp Q R p => h2 B Hs H σ ρ Fp _ R (p.seq fun d v Hs1 H1 _ e1 r q => ?_)⟩
  have dd := r.b e1.s2
  cases d with
  | int i => cases dd; exact ⟨i, rfl, q _ Hs1 H1 (Ext.refl e1.s2) (.of (.int _))⟩
  | _ => exact q.elim

/-! ### + -/
def rCat2 : R2 := fun x y H Q => ∃ l b xs zs, x = .ref l ∧ y = .ref b ∧ Rd H l (.lst xs) ∧ Rd H b (.lst zs) ∧ xs.length + zs.length ≤ sizeLine ∧ ∀ p, H p = none → Q (.ref p) (upd H p (.lst (xs ++ zs)))
theorem rd_lst {pins : List (Addr × Obj)} {σ : St} {H : Hp} {s : Shared} {l : Addr} {xs : List V} (I : Inv X pins σ H s) (h : Rd H l (.lst xs)) : xs.length ≤ sizeLine ∧ ∃ (its : List Value) (n : Nat), Vals xs its ∧ xs.length = its.length ∧ s.heap.get? l = some { cls := .type "list", data := .seq its.toArray n } := by
  obtain ⟨z, its, n, r, e⟩ := h.ok I.hok
  exact ⟨z, its, n, r, r.length, e⟩
theorem op_cat2 : OpR X (binaryOp .Add) rCat2 := by
  intro pins s σ H x y v u Q I rx ry h
  obtain ⟨l, b, xs, zs, rfl, rfl, hH, hB, hz, q⟩ := h
  cases rx
  cases ry
  obtain ⟨z, its, n, r, hl, e⟩ := rd_lst I hH
  obtain ⟨z2, its2, n2, r2, hl2, e2⟩ := rd_lst I hB
  refine PySem.P.add_list e e2 ?_ (by rw [List.size_toArray, List.size_toArray]; omega)
  have ea : its.toArray ++ its2.toArray = (its ++ its2).toArray := by simp
  rw [ea]
  exact ⟨.ref _, _, I.lnew (t' := s.toks) (r.append r2) (by rw [List.length_append]; omega), rfl, q _ I.fresh⟩
/-- the largest size that is asked for -/
abbrev cap : Nat := 1000000
theorem cap_line {n : Nat} (h : n ≤ cap) : n ≤ sizeLine := Nat.le_trans h (by decide)
theorem cap_lt {n : Nat} (h : n < cap) : n < sizeLine := Nat.lt_of_lt_of_le h (by decide)
/-- + by values, apart from lists -/
def dAdd : D → D → Rs D
  | .int i, .int j => .ok (.int (i + j))
  | .str x, .str y => if x.length + y.length ≤ cap then .ok (.str (x ++ y)) else .bad
  | .tup xs, .tup ys => if xs.length + ys.length ≤ cap then .ok (.tup (xs ++ ys)) else .bad
  | .kt xs, .kt ys => if xs.length + ys.length ≤ cap then .ok (.kt (xs ++ ys)) else .bad
  | _, _ => .bad
def rAdd3 (K : PySem.W.Frag) : R2 := fun x y H Q => rI0 (fun i j => .int (i + j)) x y H Q ∨ (∃ i j, x = .str i ∧ y = .str j ∧ i.length + j.length ≤ sizeLine ∧ Q (.str (i ++ j)) H) ∨ rCatA K x y H Q
theorem op_add3 : OpR X (binaryOp .Add) (rAdd3 X.K) := op_add.or (op_add_str.or op_catA)
theorem o_add {la lb : Lv} (ha : la = .s ∨ la = .t .S) (hb : lb = .s ∨ lb = .t .S) : O2 X W la lb .s (rAdd3 X.K) dAdd := by
  intro H0 H00 Hs H σ x y d e Q s rx ry p
  have dx : Den (mkM X) Hs x d := by rcases ha with rfl | rfl; exact rx.s; exact rx.tS
  have dy : Den (mkM X) Hs y e := by rcases hb with rfl | rfl; exact ry.s; exact ry.tS
  cases d with
  | int i => cases e with
    | int j => cases dx; cases dy; exact .inl ⟨_, _, rfl, rfl, p _ Hs H (Ext.refl s) (.of (.int _))⟩
    | _ => exact p.elim
  | str i => cases e with
    | str j =>
      cases dx; cases dy
      have p' : Post X W (PV X .s) Hs H σ Q (if i.length + j.length ≤ cap then Rs.ok (.str (i ++ j)) else Rs.bad) := p
      by_cases c : i.length + j.length ≤ cap
      · rw [if_pos c] at p'; exact .inr (.inl ⟨_, _, rfl, rfl, cap_line c, p' _ Hs H (Ext.refl s) (.of (.str _))⟩)
      · rw [if_neg c] at p'; exact p'.elim
    | _ => exact p.elim
  | tup xs => cases e with
    | tup ys =>
      have p' : Post X W (PV X .s) Hs H σ Q (if xs.length + ys.length ≤ cap then Rs.ok (.tup (xs ++ ys)) else Rs.bad) := p
      by_cases c : xs.length + ys.length ≤ cap
      · rw [if_pos c] at p'
        cases dx with
        | tup h1 l1 => cases dy with
          | tup h2 l2 =>
            refine .inr (.inr ⟨_, _, _, _, rfl, rfl, SqT.of (s _ _ h1), SqT.of (s _ _ h2), by rw [l1.length, l2.length]; exact cap_line c, fun e => ?_, fun e1 e2 => ?_, fun _ _ q np => ?_⟩)
            · subst e; cases l1; exact p' _ Hs H (Ext.refl s) (.of (.tup h2 l2))
            · subst e2; cases l2; rw [List.append_nil] at p'; exact p' _ Hs H (Ext.refl s) (.of (.tup h1 l1))
            · exact p' _ _ _ (Ext.new s np) (.of (.tup upd_same ((l1.append l2).mono (same_upd (s.free np)))))
      · rw [if_neg c] at p'; exact p'.elim
    | _ => exact p.elim
  | kt xs => cases e with
    | kt ys =>
      have p' : Post X W (PV X .s) Hs H σ Q (if xs.length + ys.length ≤ cap then Rs.ok (.kt (xs ++ ys)) else Rs.bad) := p
      by_cases c : xs.length + ys.length ≤ cap
      · rw [if_pos c] at p'
        cases dx with
        | kt h1 l1 => cases dy with
          | kt h2 l2 =>
            refine .inr (.inr ⟨_, _, _, _, rfl, rfl, Same.seqT s h1, Same.seqT s h2, by rw [l1.length, l2.length]; exact cap_line c, fun e => ?_, fun e1 e2 => ?_, fun _ _ q np => ?_⟩)
            · subst e; cases l1; exact p' _ Hs H (Ext.refl s) (.of (.kt h2 l2))
            · subst e2; cases l2; rw [List.append_nil] at p'; exact p' _ Hs H (Ext.refl s) (.of (.kt h1 l1))
            · exact p' _ _ _ (Ext.new s np) (.of (.kt (SqT.of upd_same) ((l1.append l2).mono (same_upd (s.free np)))))
      · rw [if_neg c] at p'; exact p'.elim
    | _ => exact p.elim
  | _ => exact p.elim
/-- + of lists -/
def dCat : D → D → Rs D
  | .lst xs, .lst ys => if xs.length + ys.length ≤ cap then .ok (.lst (xs ++ ys)) else .bad
  | _, _ => .bad
theorem o_cat {la lb : Lv} (ha : la.sh = true) (hb : lb.sh = true) : O2 X W la lb .f rCat2 dCat := by
  intro H0 H00 Hs H σ x y d e Q s rx ry p
  cases d with
  | lst xs => cases e with
    | lst ys =>
      have p' : Post X W (PV X .f) Hs H σ Q (if xs.length + ys.length ≤ cap then Rs.ok (.lst (xs ++ ys)) else Rs.bad) := p
      by_cases c : xs.length + ys.length ≤ cap
      · rw [if_pos c] at p'
        obtain ⟨a, vs, rfl, h1, l1, s1, _⟩ := rx.lst s
        obtain ⟨b, ws, rfl, h2, l2, s2, _⟩ := ry.lst s
        exact ⟨_, _, _, _, rfl, rfl, h1, h2, by rw [l1.length, l2.length]; exact cap_line c, fun q np => p' _ _ _ (Ext.newO s np) (new_lst s np ((s1 ha).append (s2 hb)))⟩
      · rw [if_neg c] at p'; exact p'.elim
    | _ => exact p.elim
  | _ => exact p.elim

/-! ### * -/
def dMul : D → D → Rs D
  | .int i, .int j => if CMulW i j then .ok (.int (i * j)) else .bad
  | _, _ => .bad
theorem o_mul {la lb : Lv} : O2 X W la lb .s (rI CMulW fun i j => .int (i * j)) dMul := o2_int (kd := fun i j => .int (i * j)) (fun i j Hs => .int _) fun d e => by cases d <;> cases e <;> rfl
def rRep2 : R2 := fun x y H Q => ∃ l k xs, x = .ref l ∧ y = .int k ∧ Rd H l (.lst xs) ∧ -(2 ^ 63) ≤ k ∧ k < 2 ^ 63 ∧ xs.length * k.toNat ≤ sizeLine ∧
  ∀ p, H p = none → Q (.ref p) (upd H p (.lst (List.replicate k.toNat xs).flatten))
theorem op_rep2 : OpR X (binaryOp .Mult) rRep2 := by
  intro pins s σ H x y v u Q I rx ry h
  obtain ⟨l, k, xs, rfl, rfl, hH, h1, h2, hz, q⟩ := h
  cases rx
  obtain ⟨t, rfl⟩ := ry
  obtain ⟨z, its, n, r, hl, e⟩ := rd_lst I hH
  have hlen : its.toArray.size * k.toNat ≤ sizeLine := by rw [List.size_toArray, ← hl]; exact hz
  have hcap : ¬ its.toArray.size * k.toNat > (2 ^ 63 - 1) / 8 := by
    have : (sizeLine : Nat) ≤ (2 ^ 63 - 1) / 8 := by decide
    omega
  have hfit : ¬ (!Builtin.List.listFitsIndex k) = true := by
    rw [fitsIndex_both h1 h2]
    exact Bool.false_ne_true
  have hlong : ¬ Builtin.List.listTooLong (its.toArray.size * k.toNat) = true := by
    rw [notLongL hlen]
    exact Bool.false_ne_true
  have hnew : List.foldl (fun x1 x2 => x1 ++ x2) #[] (List.replicate (if its.toArray.isEmpty = true then 0 else k.toNat) its.toArray) = (List.replicate k.toNat its).flatten.toArray := by
    have f0 : ∀ m : Nat, List.foldl (fun x1 x2 => x1 ++ x2) #[] (List.replicate m its.toArray) = (List.replicate m its).flatten.toArray := fun m => by
      have := foldl_rep its m []
      rw [List.nil_append] at this
      exact this
    rw [f0]
    cases its with
    | nil => simp
    | cons a r' => rw [if_neg (by simp)]
  refine wpAny_binaryOp_repeat_ref (T := "list") (U := "int") (by decide) ⟨_, e, rfl⟩ (fun s' => typeIs_int s' k t) noFill_list_mul F.fills_int_mul F.slot_int_rmul repeat_list F.slot_int_index.lookup
    (call_meets F.slot_int_rmul (typeIs_int s k t) F.entry_int_rmul (F.args_int_rmul_2 _ _) (int___rmul___int_list k t l its.toArray n)
      ⟨e, rfl, ⟨_, e, rfl⟩, call_meets F.slot_list_mul ⟨_, e, rfl⟩ F.entry_list_mul (F.args_list_mul_2 _ _) (AutoListH.list___mul___list_int_3 l its.toArray n k t hfit hcap hlong) ⟨e, ?_⟩⟩)
  rw [hnew]
  exact ⟨.ref _, _, I.lnew (t' := s.toks) (r.rep k.toNat) (by rw [PyProof.Rows.lm_len_rep_flat, Nat.mul_comm]; exact hz), rfl, q _ I.fresh⟩
def dRep : D → D → Rs D
  | .lst xs, .int k => if -1000000 ≤ k ∧ k ≤ 1000000 ∧ xs.length * k.toNat ≤ cap then .ok (.lst (List.replicate k.toNat xs).flatten) else .bad
  | _, _ => .bad
theorem DenL.rep {M : MK} {H : Hp} {vs : List V} {ds : List D} (h : DenL M H vs ds) : ∀ k : Nat, DenL M H (List.replicate k vs).flatten (List.replicate k ds).flatten
  | 0 => .nil
  | k + 1 => by rw [List.replicate_succ, List.replicate_succ, List.flatten_cons, List.flatten_cons]; exact h.append (DenL.rep h k)
theorem o_rep {la lb : Lv} (ha : la.sh = true) : O2 X W la lb .f rRep2 dRep := by
  intro H0 H00 Hs H σ x y d e Q s rx ry p
  have dy := ry.b s
  cases d with
  | lst xs => cases e with
    | int k =>
      cases dy
      have p' : Post X W (PV X .f) Hs H σ Q (if -1000000 ≤ k ∧ k ≤ 1000000 ∧ xs.length * k.toNat ≤ cap then Rs.ok (.lst (List.replicate k.toNat xs).flatten) else Rs.bad) := p
      by_cases c : -1000000 ≤ k ∧ k ≤ 1000000 ∧ xs.length * k.toNat ≤ cap
      · rw [if_pos c] at p'
        obtain ⟨a, vs, rfl, h1, l1, s1, _⟩ := rx.lst s
        exact ⟨_, _, _, rfl, rfl, h1, by omega, by omega, by rw [l1.length]; exact cap_line c.2.2, fun q np => p' _ _ _ (Ext.newO s np) (new_lst s np ((s1 ha).rep _))⟩
      · rw [if_neg c] at p'; exact p'.elim
    | _ => exact p.elim
  | _ => exact p.elim
end
end G
/-! G: ==, in, subscripts, slices -/
namespace G
open PySem PySem.Spec L2
open PyProof.Rows hiding St

/-! ### == -/
mutual
def toPy : D → Option PyData
  | .non => some .none
  | .bl b => some (.bool b)
  | .int i => some (.int i)
  | .str x => some (.str x)
  | .lst xs => (toPys xs).map .list
  | .tup xs => (toPys xs).map .tuple
  | .kt xs => (toPys xs).map .tuple
  | _ => none
def toPys : List D → Option (List PyData)
  | [] => some []
  | d :: ds => match toPy d, toPys ds with
    | some p, some ps => some (p :: ps)
    | _, _ => none
end
mutual
theorem den_dp {M : MK} {H : Hp} : ∀ {v : V} {d : D} {p : PyData}, Den M H v d → toPy d = some p → Dp M.K H v p
  | _, _, _, .non, e => by cases e; exact .non
  | _, _, _, .bl b, e => by cases e; exact .bl b
  | _, _, _, .int b, e => by cases e; exact .int b
  | _, _, _, .str b, e => by cases e; exact .str b
  | _, _, _, .lst h l, e => by
    obtain ⟨ps, h1, h2⟩ := Option.map_eq_some_iff.mp e
    subst h2
    exact .lst (.inl h) (denL_dp l h1)
  | _, _, _, .tup h l, e => by
    obtain ⟨ps, h1, h2⟩ := Option.map_eq_some_iff.mp e
    subst h2
    exact .tup (SqT.of h) (denL_dp l h1)
  | _, _, _, .kt h l, e => by
    obtain ⟨ps, h1, h2⟩ := Option.map_eq_some_iff.mp e
    subst h2
    exact .tup h (denL_dp l h1)
  | _, _, _, .kl _ _, e => by cases e
  | _, _, _, .dk _ _ _, e => by cases e
  | _, _, _, .dt _ _ _, e => by cases e
  | _, _, _, .obj _ _ _ _, e => by cases e
  | _, _, _, .exc0 _ _, e => by cases e
  | _, _, _, .exc1 _ _ _ _, e => by cases e
theorem denL_dp {M : MK} {H : Hp} : ∀ {vs : List V} {ds : List D} {ps : List PyData}, DenL M H vs ds → toPys ds = some ps → DpAll M.K H vs ps
  | _, _, _, .nil, e => by cases e; exact .nil
  | _, _, _, .cons (d := d) (ds := ds) h l, e => by
    unfold toPys at e
    cases h1 : toPy d with
    | none => rw [h1] at e; cases e
    | some p =>
      cases h2 : toPys ds with
      | none => rw [h1, h2] at e; cases e
      | some ps =>
        rw [h1, h2] at e
        cases e
        exact .cons (den_dp h h1) (denL_dp l h2)
end
/-- d == e -/
def eqB (d e : D) : Option Bool := match toPy d, toPy e with
  | some p, some q => if SeqAt.shaped p && SeqAt.shaped q then some (PyData.eqv p q) else none
  | _, _ => none
def dEq (d e : D) : Rs D := match d, e with
  | .str x, .str y => .ok (.bl (x == y))
  | d, e => match eqB d e with
    | some b => .ok (.bl b)
    | none => .bad
def dNe (d e : D) : Rs D := match d, e with
  | .str x, .str y => .ok (.bl (!(x == y)))
  | d, e => match eqB d e with
    | some b => .ok (.bl !b)
    | none => .bad
section
variable {X : Cx} {W : WX} {ms : Modes}
theorem eqB_some {d e : D} {b : Bool} (h : eqB d e = some b) : ∃ p q, toPy d = some p ∧ toPy e = some q ∧ SeqAt.shaped p = true ∧ SeqAt.shaped q = true ∧ b = PyData.eqv p q := by
  unfold eqB at h
  cases h1 : toPy d with
  | none => rw [h1] at h; cases h
  | some p =>
    cases h2 : toPy e with
    | none => rw [h1, h2] at h; cases h
    | some q =>
      rw [h1, h2] at h
      simp only at h
      split at h
      · rename_i c
        rw [Bool.and_eq_true] at c
        exact ⟨p, q, rfl, rfl, c.1, c.2, by cases h; rfl⟩
      · cases h
def rEq2 (K : PySem.W.Frag) : R2 := fun x y H Q => rEq x y H Q ∨ rEqD K x y H Q
def rNe2 (K : PySem.W.Frag) : R2 := fun x y H Q => rNe x y H Q ∨ rNeD K x y H Q
theorem op_eq2 (hu : X.A.units + 64 < cLine) : OpR X (compareOp .Eq) (rEq2 X.K) := op_eq.or (op_eqD hu)
theorem op_ne2 (hu : X.A.units + 64 < cLine) : OpR X (compareOp .NotEq) (rNe2 X.K) := op_ne.or (op_neD hu)
theorem o_eq {la lb : Lv} : O2 X W la lb .s (rEq2 X.K) dEq := by
  intro H0 H00 Hs H σ x y d e Q s rx ry p
  have dx := rx.b s
  have dy := ry.b s
  by_cases z : ∃ a b, d = .str a ∧ e = .str b
  · obtain ⟨a, b, rfl, rfl⟩ := z
    cases dx; cases dy
    refine .inl ⟨rfl, ?_⟩
    rw [dec_str]
    exact p _ Hs H (Ext.refl s) (.of (.bl _))
  · have p' : Post X W (PV X .s) Hs H σ Q (match eqB d e with | some b => Rs.ok (.bl b) | none => .bad) := by
      unfold dEq at p
      split at p
      · exact absurd ⟨_, _, rfl, rfl⟩ z
      · exact p
    cases h : eqB d e with
    | none => rw [h] at p'; exact p'.elim
    | some b =>
      rw [h] at p'
      obtain ⟨q1, q2, h1, h2, h3, h4, rfl⟩ := eqB_some h
      exact .inr ⟨q1, q2, den_dp dx h1, den_dp dy h2, h3, h4, p' _ Hs H (Ext.refl s) (.of (.bl _))⟩
theorem o_ne {la lb : Lv} : O2 X W la lb .s (rNe2 X.K) dNe := by
  intro H0 H00 Hs H σ x y d e Q s rx ry p
  have dx := rx.b s
  have dy := ry.b s
  by_cases z : ∃ a b, d = .str a ∧ e = .str b
  · obtain ⟨a, b, rfl, rfl⟩ := z
    cases dx; cases dy
    refine .inl ⟨rfl, ?_⟩
    rw [dec_str]
    exact p _ Hs H (Ext.refl s) (.of (.bl _))
  · have p' : Post X W (PV X .s) Hs H σ Q (match eqB d e with | some b => Rs.ok (.bl !b) | none => .bad) := by
      unfold dNe at p
      split at p
      · exact absurd ⟨_, _, rfl, rfl⟩ z
      · exact p
    cases h : eqB d e with
    | none => rw [h] at p'; exact p'.elim
    | some b =>
      rw [h] at p'
      obtain ⟨q1, q2, h1, h2, h3, h4, rfl⟩ := eqB_some h
      exact .inr ⟨q1, q2, den_dp dx h1, den_dp dy h2, h3, h4, p' _ Hs H (Ext.refl s) (.of (.bl _))⟩
/-- is None -/
def isNonD : D → Bool
  | .non => true
  | _ => false
def dIsN (d : D) : Rs D := .ok (.bl (isNonD d))
def dNotN (d : D) : Rs D := .ok (.bl (!isNonD d))
theorem den_non {M : MK} {H : Hp} {v : V} {d : D} (h : Den M H v d) : decide (v = .non) = isNonD d := by
  cases h <;> first | rfl | exact decide_eq_false (fun z => by cases z)
theorem je_isN {l : Lv} {a : Expr} {ea : Env → Rs D} {j pos pos'} (h : JG X W l ms a ea) : JG X W .s ms (.Compare a [.Is] [.Constant .none j pos'] pos) (v1 dIsN ea) := by
  obtain ⟨ta, h1, h2⟩ := h
  refine ⟨_, pe_cmpR op_isN h1 pe_non (nomark _), fun B Hs H σ ρ Fp Q R p => h2 B Hs H σ ρ Fp _ R (p.seq fun d v Hs1 H1 _ e1 r q => ?_)⟩
  exact ⟨rfl, q _ Hs1 H1 (Ext.refl e1.s2) (.of (by rw [den_non (r.b e1.s2)]; exact .bl _))⟩
theorem je_notN {l : Lv} {a : Expr} {ea : Env → Rs D} {j pos pos'} (h : JG X W l ms a ea) : JG X W .s ms (.Compare a [.IsNot] [.Constant .none j pos'] pos) (v1 dNotN ea) := by
  obtain ⟨ta, h1, h2⟩ := h
  refine ⟨_, pe_cmpR op_notN h1 pe_non (nomark _), fun B Hs H σ ρ Fp Q R p => h2 B Hs H σ ρ Fp _ R (p.seq fun d v Hs1 H1 _ e1 r q => ?_)⟩
  exact ⟨rfl, q _ Hs1 H1 (Ext.refl e1.s2) (.of (by rw [den_non (r.b e1.s2)]; exact .bl _))⟩
theorem jt_isN {l : Lv} {a : Expr} {ea : Env → Rs D} {j pos pos'} (h : JG X W l ms a ea) : JT X W ms (.Compare a [.Is] [.Constant .none j pos'] pos) (evB (v1 dIsN ea)) := by
  obtain ⟨ta, h1, h2⟩ := h
  refine ⟨_, pt_cmpR op_isN h1 pe_non (nomark _), fun B Hs H σ ρ Fp Q R p => h2 B Hs H σ ρ Fp _ R ((post_tB (l := .s) p).seq fun d v Hs1 H1 _ e1 r q => ?_)⟩
  exact ⟨rfl, q _ Hs1 H1 (Ext.refl e1.s2) (.of (by rw [den_non (r.b e1.s2)]; exact .bl _))⟩
theorem jt_notN {l : Lv} {a : Expr} {ea : Env → Rs D} {j pos pos'} (h : JG X W l ms a ea) : JT X W ms (.Compare a [.IsNot] [.Constant .none j pos'] pos) (evB (v1 dNotN ea)) := by
  obtain ⟨ta, h1, h2⟩ := h
  refine ⟨_, pt_cmpR op_notN h1 pe_non (nomark _), fun B Hs H σ ρ Fp Q R p => h2 B Hs H σ ρ Fp _ R ((post_tB (l := .s) p).seq fun d v Hs1 H1 _ e1 r q => ?_)⟩
  exact ⟨rfl, q _ Hs1 H1 (Ext.refl e1.s2) (.of (by rw [den_non (r.b e1.s2)]; exact .bl _))⟩

/-! ### a key -/
def keyOf : D → Option Key
  | .int i => some (.inl i)
  | .str x => some (.inr x)
  | _ => none
def keysOf : List D → Option (List Key)
  | [] => some []
  | d :: ds => match keyOf d, keysOf ds with
    | some k, some ks => some (k :: ks)
    | _, _ => none
theorem keyOf_den {M : MK} {H : Hp} {v : V} {d : D} {k : Key} (h : Den M H v d) (e : keyOf d = some k) : v = kV k := by
  cases h <;> first | (cases e; rfl) | cases e
theorem keysOf_den {M : MK} {H : Hp} : ∀ {vs : List V} {ds : List D} {ks : List Key}, DenL M H vs ds → keysOf ds = some ks → vs = ks.map kV
  | _, _, _, .nil, e => by cases e; rfl
  | _, _, _, .cons (d := d) (ds := ds) h l, e => by
    unfold keysOf at e
    cases h1 : keyOf d with
    | none => rw [h1] at e; cases e
    | some k =>
      cases h2 : keysOf ds with
      | none => rw [h1, h2] at e; cases e
      | some ks =>
        rw [h1, h2] at e
        cases e
        rw [keyOf_den h h1, keysOf_den l h2]
        rfl
section
variable {κ : Type} [DecidableEq κ]
def look (kvs : List (κ × D)) (k : κ) : Option D := (kvs.find? fun kv => decide (kv.1 = k)).map (·.2)
def put (kvs : List (κ × D)) (k : κ) (d : D) : List (κ × D) :=
  if (kvs.any fun kv => decide (kv.1 = k)) then kvs.map (fun kv => if kv.1 = k then (kv.1, d) else kv) else kvs ++ [(k, d)]
def dropD (kvs : List (κ × D)) (k : κ) : List (κ × D) := kvs.filter fun kv => decide (kv.1 ≠ k)
theorem look_den {M : MK} {H : Hp} {k : κ} : ∀ {kvs : List (κ × V)} {ds : List D}, DenL M H (kvs.map (·.2)) ds →
    (∀ d, look ((kvs.map (·.1)).zip ds) k = some d → ∃ v, valV kvs k = some v ∧ Den M H v d) ∧ (look ((kvs.map (·.1)).zip ds) k = none → valV kvs k = none)
  | [], _, h => by
    cases h
    exact ⟨fun d e => by simp [look] at e, fun _ => rfl⟩
  | (j, v) :: kvs, _, h => by
    simp only [List.map_cons] at h
    cases h with
    | @cons _ _ d0 ds0 h l =>
      obtain ⟨i1, i2⟩ := look_den (k := k) l
      simp only [List.map_cons, List.zip_cons_cons]
      by_cases e : j = k
      · have e' : look ((j, d0) :: (kvs.map (·.1)).zip ds0) k = some d0 := by simp [look, List.find?_cons, e]
        refine ⟨fun d q => ⟨v, valV_pos e, ?_⟩, fun q => ?_⟩
        · rw [e'] at q; cases q; exact h
        · rw [e'] at q; cases q
      · have e' : look ((j, d0) :: (kvs.map (·.1)).zip ds0) k = look ((kvs.map (·.1)).zip ds0) k := by simp [look, List.find?_cons, e]
        refine ⟨fun d q => ?_, fun q => ?_⟩
        · rw [e'] at q
          obtain ⟨w, h1, h2⟩ := i1 d q
          exact ⟨w, by rw [valV_neg e]; exact h1, h2⟩
        · rw [e'] at q
          rw [valV_neg e]; exact i2 q
end
/-- d[k]: what a dict has by a key -/
def dLook : D → D → Option (Option D)
  | .dk kvs, k => (keyOf k).map (look kvs)
  | .dt kvs, .tup ks => (keysOf ks).map (look kvs)
  | _, _ => none
theorem dget_den {M : MK} {H : Hp} {x y : V} {d e : D} {o : Option D} (hx : Den M H x d) (hy : Den M H y e) (h : dLook d e = some o) : ∃ a r, x = .ref a ∧ DGet H a y r ∧ (o = none → r = none) ∧ ∀ z, o = some z → ∃ v, r = some v ∧ Den M H v z := by
  cases hx with
  | dk h1 h2 h3 =>
    obtain ⟨k, hk, rfl⟩ := Option.map_eq_some_iff.mp h
    have ey := keyOf_den hy hk
    subst ey h2
    obtain ⟨i1, i2⟩ := look_den (k := k) h3
    exact ⟨_, _, rfl, .inl ⟨_, k, h1, rfl, rfl⟩, i2, i1⟩
  | dt h1 h2 h3 =>
    cases hy with
    | tup t l =>
      obtain ⟨ks, hk, rfl⟩ := Option.map_eq_some_iff.mp h
      have ey := keysOf_den l hk
      subst ey h2
      obtain ⟨i1, i2⟩ := look_den (k := ks) h3
      exact ⟨_, _, rfl, .inr ⟨_, ks, _, h1, rfl, t, rfl⟩, i2, i1⟩
    | _ => cases h
  | _ => cases h

/-! ### in -/
def eqF : D → D → Bool
  | .non, .non => true
  | .bl a, .bl b => a == b
  | .bl a, .int b => (if a then 1 else 0) == b
  | .int a, .bl b => a == (if b then 1 else 0)
  | .int a, .int b => a == b
  | .str a, .str b => a == b
  | _, _ => false
theorem den_flatV {M : MK} {H : Hp} {v : V} {d : D} (h : Den M H v d) : flatV v = d.flat := by cases h <;> rfl
theorem denL_flatV {M : MK} {H : Hp} : ∀ {vs : List V} {ds : List D}, DenL M H vs ds → vs.all flatV = ds.all D.flat
  | _, _, .nil => rfl
  | _, _, .cons h l => by rw [List.all_cons, List.all_cons, den_flatV h, denL_flatV l]
theorem eqF_den {M : MK} {H : Hp} {x y : V} {d e : D} (h : Den M H x d) (k : Den M H y e) : eqV x y = eqF d e := by
  cases h <;> cases k <;> rfl
theorem inV_den {M : MK} {H : Hp} {x : V} {d : D} (h : Den M H x d) : ∀ {vs : List V} {ds : List D}, DenL M H vs ds → inV x vs = ds.any fun e => eqF e d
  | _, _, .nil => rfl
  | _, _, .cons k l => by
    have i := inV_den h l
    unfold inV at i ⊢
    rw [List.any_cons, List.any_cons, eqF_den k h, i]
/-- the one sign of a text -/
def sgn (x : Str) : Option Nat := match x.cps.toList with
  | [c] => some c
  | _ => none
theorem sgn_of {x : Str} {c : Nat} (h : sgn x = some c) : x = ⟨#[c]⟩ := by
  obtain ⟨cps⟩ := x
  unfold sgn at h
  split at h
  · rename_i c' e
    cases h
    have e' : cps.toList = [c] := e
    have : cps = #[c] := Array.toList_inj.mp e'
    rw [this]
  · cases h
/-- d in e -/
def inB : D → D → Option Bool
  | d, .lst es => if d.flat && es.all D.flat then some (es.any fun e => eqF e d) else match toPy d, toPys es with
    | some p, some ps => if SeqAt.shaped p && SeqAt.shaped (.list ps) then some (ps.any fun z => PyData.eqv z p) else none
    | _, _ => none
  | d, .tup es => if d.flat && es.all D.flat then some (es.any fun e => eqF e d) else none
  | d, .kt es => if d.flat && es.all D.flat then some (es.any fun e => eqF e d) else none
  | .str x, .str z => (sgn x).map fun c => decide (c ∈ z.cps.toList)
  | d, e => (dLook e d).map Option.isSome
def dIn (d e : D) : Rs D := match inB d e with
  | some b => .ok (.bl b)
  | none => .bad
def dNotIn (d e : D) : Rs D := match inB d e with
  | some b => .ok (.bl !b)
  | none => .bad
def rIn5 (K : PySem.W.Frag) (n : Bool) : R2 := fun x y H Q => rIn K n x y H Q ∨ (∃ d ds, Dp K H x d ∧ Dp K H y (.list ds) ∧ SeqAt.shaped d = true ∧ SeqAt.shaped (.list ds) = true ∧ Q (.bl (if n then !(ds.any fun z => PyData.eqv z d) else ds.any fun z => PyData.eqv z d)) H) ∨
  (∃ (c : Nat) (z : Str), x = .str ⟨#[c]⟩ ∧ y = .str z ∧ Q (.bl (if n then !decide (c ∈ z.cps.toList) else decide (c ∈ z.cps.toList))) H) ∨ ∃ a o, y = .ref a ∧ DGet H a x o ∧ Q (.bl (if n then !o.isSome else o.isSome)) H
theorem op_in5 (hu : X.A.units + 65 < cLine) : OpR X (compareOp .In) (rIn5 X.K false) := by
  refine op_in_seq.or ((op_inD hu).or (op_in_sign.or ?_))
  intro pins s σ H x y v u Q I rx ry h
  obtain ⟨a, o, rfl, g, q⟩ := h
  cases ry
  exact d_in (by omega) I g rx fun s3 I3 => ⟨.bl o.isSome, H, I3, rfl, q⟩
theorem op_notIn5 (hu : X.A.units + 65 < cLine) : OpR X (compareOp .NotIn) (rIn5 X.K true) := by
  refine op_notIn_seq.or ((op_notInD hu).or (op_notIn_sign.or ?_))
  intro pins s σ H x y v u Q I rx ry h
  obtain ⟨a, o, rfl, g, q⟩ := h
  cases ry
  exact d_notIn (by omega) I g rx fun s3 I3 => ⟨.bl (!o.isSome), H, I3, rfl, q⟩
theorem in_den {n : Bool} {H : Hp} {x y : V} {d e : D} {b : Bool} {Q : VK} (dx : Den (mkM X) H x d) (dy : Den (mkM X) H y e) (h : inB d e = some b) (q : Q (.bl (if n then !b else b)) H) : rIn5 X.K n x y H Q := by
  have seq : ∀ {a : Addr} {vs : List V} {es : List D}, y = .ref a → (SqL X.K H a vs ∨ SqT X.K H a vs) → DenL (mkM X) H vs es → (d.flat && es.all D.flat) = true → (es.any fun e => eqF e d) = b → rIn5 X.K n x y H Q := fun {a vs es} ey hs l f eb => by
    rw [Bool.and_eq_true] at f
    refine .inl ⟨a, vs, ey, hs, by rw [den_flatV dx]; exact f.1, by rw [denL_flatV l]; exact f.2, ?_⟩
    rw [inV_den dx l, eb]
    exact q
  have dct : ∀ {o : Option D}, dLook e d = some o → o.isSome = b → rIn5 X.K n x y H Q := fun {o} ho eb => by
    obtain ⟨a, r, e1, g, q1, q2⟩ := dget_den dy dx ho
    refine .inr (.inr (.inr ⟨a, r, e1, g, ?_⟩))
    have er : r.isSome = b := by
      cases o with
      | none => rw [q1 rfl]; exact eb
      | some z =>
        obtain ⟨v, e2, _⟩ := q2 z rfl
        rw [e2]; exact eb
    rw [er]; exact q
  unfold inB at h
  split at h
  · rename_i es
    split at h
    · rename_i f
      cases dy with
      | lst h1 l => exact seq rfl (.inl (.inl h1)) l f (Option.some.inj h)
    · cases h1 : toPy d with
      | none => rw [h1] at h; cases h
      | some p =>
        cases h2 : toPys es with
        | none => rw [h1, h2] at h; cases h
        | some ps =>
          rw [h1, h2] at h
          simp only at h
          split at h
          · rename_i c
            rw [Bool.and_eq_true] at c
            have h3 : toPy (.lst es) = some (.list ps) := by show (toPys es).map PyData.list = _; rw [h2]; rfl
            refine .inr (.inl ⟨p, ps, den_dp dx h1, den_dp dy h3, c.1, c.2, ?_⟩)
            rw [Option.some.inj h]; exact q
          · cases h
  · split at h
    · rename_i f
      cases dy with
      | tup h1 l => exact seq rfl (.inr (SqT.of h1)) l f (Option.some.inj h)
    · cases h
  · split at h
    · rename_i f
      cases dy with
      | kt h1 l => exact seq rfl (.inr h1) l f (Option.some.inj h)
    · cases h
  · obtain ⟨c, hc, eb⟩ := Option.map_eq_some_iff.mp h
    have ex := sgn_of hc
    subst ex
    cases dx; cases dy
    refine .inr (.inr (.inl ⟨_, _, rfl, rfl, ?_⟩))
    rw [eb]; exact q
  · obtain ⟨o, ho, eb⟩ := Option.map_eq_some_iff.mp h
    exact dct ho eb
theorem o_in {la lb : Lv} : O2 X W la lb .s (rIn5 X.K false) dIn := by
  intro H0 H00 Hs H σ x y d e Q s rx ry p
  unfold dIn at p
  cases h : inB d e with
  | none => rw [h] at p; exact p.elim
  | some b => rw [h] at p; exact in_den (n := false) (rx.b s) (ry.b s) h (p _ Hs H (Ext.refl s) (.of (.bl _)))
theorem o_notIn {la lb : Lv} : O2 X W la lb .s (rIn5 X.K true) dNotIn := by
  intro H0 H00 Hs H σ x y d e Q s rx ry p
  unfold dNotIn at p
  cases h : inB d e with
  | none => rw [h] at p; exact p.elim
  | some b => rw [h] at p; exact in_den (n := true) (rx.b s) (ry.b s) h (p _ Hs H (Ext.refl s) (.of (.bl _)))
end
end G
/-! G: subscripts, slices, built-ins -/
namespace G
open PySem PySem.Spec L2
open PyProof.Rows hiding St
section
variable {X : Cx} {W : WX} {ms : Modes}

/-! ### subscripts -/
def dIx : D → D → Rs D
  | .lst xs, .int i => match atI xs i with
    | some d => .ok d
    | none => .bad
  | .tup xs, .int i => match atI xs i with
    | some d => .ok d
    | none => .bad
  | .kt xs, .int i => match atI xs i with
    | some d => .ok d
    | none => .bad
  | .kl xs, .int i => match atI xs i with
    | some d => .ok d
    | none => .bad
  | .str z, .int i => if z.length ≤ cap then (match atI z.cps.toList i with
    | some c => .ok (.str ⟨#[c]⟩)
    | none => .bad) else .bad
  | d, k => match dLook d k with
    | some (some x) => .ok x
    | _ => .bad
def rIx5 (K : PySem.W.Frag) : R2 := fun x y H Q => rIx K x y H Q ∨ ∃ a v, x = .ref a ∧ DGet H a y (some v) ∧ Q v H
theorem ix5 (hu : X.A.units + 64 < cLine) : IxR X (rIx5 X.K) := by
  refine ix_seq.or ?_
  intro value slice pins s σ H x y v u Q I rx ry h hs
  obtain ⟨a, w, rfl, g, q⟩ := h
  cases rx
  exact tail_any (dict_typeIs I g) PySem.F.slot_dict_getitem.lookup (d_getItem (by omega) I g ry fun w' s3 I3 rw' => ⟨w, H, I3, rw', q⟩) hs
theorem atI_len {α β : Type} {xs : List α} {ys : List β} (h : xs.length = ys.length) {i : Int} {y : β} (e : atI ys i = some y) : ∃ j, ixN xs.length i = some j ∧ ys[j]? = some y ∧ ∀ x, xs[j]? = some x → atI xs i = some x := by
  unfold atI at e
  cases k : ixN ys.length i with
  | none => rw [k] at e; cases e
  | some j =>
    rw [k] at e
    refine ⟨j, by rw [h]; exact k, e, fun x hx => ?_⟩
    unfold atI
    rw [h, k]
    exact hx
theorem RDen.tupS {M : MK} {Hs H : Hp} {a : Addr} {vs : List V} {ds : List D} (l : DenL M Hs vs ds) {i : Int} {d : D} (e : atI ds i = some d) : ∃ w, atI vs i = some w ∧ Den M Hs w d := by
  obtain ⟨j, _, h2, h3⟩ := atI_len l.length e
  obtain ⟨w, h4, h5⟩ := l.get h2
  exact ⟨w, h3 w h4, h5⟩
section
variable {H0 H00 Hs H G : Hp} {σ : St} {x y : V} {d e : D} {Q : VK} {lo : Lv}
theorem ix_seqL {xs : List D} {vs : List V} {a : Addr} (s : Same Hs H) (h1 : SqL X.K H a vs) (l : DenL (mkM X) G vs xs) (dy : Den (mkM X) H y e) (up : ∀ {v d}, Den (mkM X) G v d → RDen lo (mkM X) H Hs H v d) (hx : d = .lst xs ∨ d = .kl xs) (p : Post X W (PV X lo) Hs H σ Q (dIx d e)) : rIx5 X.K (.ref a) y H Q := by
  cases dy with
  | int i =>
    have p' : Post X W (PV X lo) Hs H σ Q (match atI xs i with | some d => Rs.ok d | none => .bad) := by rcases hx with rfl | rfl <;> exact p
    cases q : atI xs i with
    | none => rw [q] at p'; exact p'.elim
    | some z =>
      rw [q] at p'
      obtain ⟨w, h2, h3⟩ := RDen.tupS (a := 0) (H := H) l q
      exact .inl (.inl ⟨_, _, i, w, rfl, rfl, h1, h2, p' w Hs H (Ext.refl s) (up h3)⟩)
  | _ => rcases hx with rfl | rfl <;> exact p.elim
theorem ix_seqT {xs : List D} {vs : List V} {a : Addr} (s : Same Hs H) (h1 : SqT X.K H a vs) (l : DenL (mkM X) G vs xs) (dy : Den (mkM X) H y e) (up : ∀ {v d}, Den (mkM X) G v d → RDen lo (mkM X) H Hs H v d) (hx : d = .tup xs ∨ d = .kt xs) (p : Post X W (PV X lo) Hs H σ Q (dIx d e)) : rIx5 X.K (.ref a) y H Q := by
  cases dy with
  | int i =>
    have p' : Post X W (PV X lo) Hs H σ Q (match atI xs i with | some d => Rs.ok d | none => .bad) := by rcases hx with rfl | rfl <;> exact p
    cases q : atI xs i with
    | none => rw [q] at p'; exact p'.elim
    | some z =>
      rw [q] at p'
      obtain ⟨w, h2, h3⟩ := RDen.tupS (a := 0) (H := H) l q
      exact .inl (.inr (.inl ⟨_, _, i, w, rfl, rfl, h1, h2, p' w Hs H (Ext.refl s) (up h3)⟩))
  | _ => rcases hx with rfl | rfl <;> exact p.elim
theorem ix_str5 {z : Str} (s : Same Hs H) (dy : Den (mkM X) H y e) (up : ∀ {c : Str}, RDen lo (mkM X) H Hs H (.str c) (.str c)) (p : Post X W (PV X lo) Hs H σ Q (dIx (.str z) e)) : rIx5 X.K (.str z) y H Q := by
  cases dy with
  | int i =>
    have p' : Post X W (PV X lo) Hs H σ Q (if z.length ≤ cap then (match atI z.cps.toList i with | some c => Rs.ok (.str ⟨#[c]⟩) | none => .bad) else .bad) := p
    by_cases c : z.length ≤ cap
    · rw [if_pos c] at p'
      cases q : atI z.cps.toList i with
      | none => rw [q] at p'; exact p'.elim
      | some k =>
        rw [q] at p'
        exact .inl (.inr (.inr ⟨z, i, k, rfl, rfl, cap_line c, q, p' _ Hs H (Ext.refl s) up⟩))
    · rw [if_neg c] at p'; exact p'.elim
  | _ => exact p.elim
theorem ix_dk {kvs : List (Key × V)} {ds : List D} {a : Addr} (s : Same Hs H) (h1 : Rd H a (.dK kvs)) (l : DenL (mkM X) G (kvs.map (·.2)) ds) (dy : Den (mkM X) H y e) (up : ∀ {v d}, Den (mkM X) G v d → RDen lo (mkM X) H Hs H v d) (p : Post X W (PV X lo) Hs H σ Q (dIx (.dk ((kvs.map (·.1)).zip ds)) e)) : rIx5 X.K (.ref a) y H Q := by
  have p' : Post X W (PV X lo) Hs H σ Q (match dLook (.dk ((kvs.map (·.1)).zip ds)) e with | some (some x) => Rs.ok x | _ => .bad) := p
  split at p'
  · rename_i z hz
    obtain ⟨k, hk, e2⟩ := Option.map_eq_some_iff.mp hz
    have ey := keyOf_den dy hk
    subst ey
    obtain ⟨v, i1, i2⟩ := (look_den (k := k) l).1 z e2
    exact .inr ⟨_, v, rfl, .inl ⟨_, k, h1, rfl, i1.symm⟩, p' v Hs H (Ext.refl s) (up i2)⟩
  · exact p'.elim
theorem ix_dt {kvs : List (List Key × V)} {ds : List D} {a : Addr} (s : Same Hs H) (h1 : Rd H a (.dT kvs)) (l : DenL (mkM X) G (kvs.map (·.2)) ds) (dy : Den (mkM X) H y e) (up : ∀ {v d}, Den (mkM X) G v d → RDen lo (mkM X) H Hs H v d) (p : Post X W (PV X lo) Hs H σ Q (dIx (.dt ((kvs.map (·.1)).zip ds)) e)) : rIx5 X.K (.ref a) y H Q := by
  have p' : Post X W (PV X lo) Hs H σ Q (match dLook (.dt ((kvs.map (·.1)).zip ds)) e with | some (some x) => Rs.ok x | _ => .bad) := p
  split at p'
  · rename_i z hz
    cases dy with
    | tup t lk =>
      obtain ⟨ks, hk, e2⟩ := Option.map_eq_some_iff.mp hz
      have ey := keysOf_den lk hk
      subst ey
      obtain ⟨v, i1, i2⟩ := (look_den (k := ks) l).1 z e2
      exact .inr ⟨_, v, rfl, .inr ⟨_, ks, _, h1, rfl, t, i1.symm⟩, p' v Hs H (Ext.refl s) (up i2)⟩
    | _ => cases hz
  · exact p'.elim
theorem ix_den (sG : Same G H) (s : Same Hs H) (dx : Den (mkM X) G x d) (dy : Den (mkM X) H y e) (up : ∀ {v d}, Den (mkM X) G v d → RDen lo (mkM X) H Hs H v d) (p : Post X W (PV X lo) Hs H σ Q (dIx d e)) : rIx5 X.K x y H Q := by
  cases dx with
  | lst h1 l => exact ix_seqL s (.inl (Same.rd sG h1)) l dy up (.inl rfl) p
  | kl h1 l => exact ix_seqL s (Same.seq sG h1) l dy up (.inr rfl) p
  | tup h1 l => exact ix_seqT s (SqT.of (sG _ _ h1)) l dy up (.inl rfl) p
  | kt h1 l => exact ix_seqT s (Same.seqT sG h1) l dy up (.inr rfl) p
  | str z => exact ix_str5 s dy (up (.str _)) p
  | dk h1 h2 h3 => subst h2; exact ix_dk s (Same.rd sG h1) h3 dy up p
  | dt h1 h2 h3 => subst h2; exact ix_dt s (Same.rd sG h1) h3 dy up p
  | non => cases dy <;> exact p.elim
  | bl _ => cases dy <;> exact p.elim
  | int _ => cases dy <;> exact p.elim
  | obj _ _ _ _ => cases dy <;> exact p.elim
  | exc0 _ _ => cases dy <;> exact p.elim
  | exc1 _ _ _ _ => cases dy <;> exact p.elim
end
/-- what is shared, or is a list or a dict of this frame with shared items, at an index -/
theorem o_ix {la lb : Lv} (h : la.sh = true) : O2 X W la lb .s (rIx5 X.K) dIx := by
  intro H0 H00 Hs H σ x y d e Q s rx ry p
  have dy := ry.b s
  have own : ∀ {F : List Addr}, Own (mkM X) Hs H (.O .S) x d F → rIx5 X.K x y H Q := by
    intro F o
    cases o with
    | flat f h => exact ix_den s s h dy (fun r => .of r) p
    | shT h => exact ix_den s s h dy (fun r => .of r) p
    | lst n h l => exact ix_seqL s (.inl (.inl h)) l.den_S.1 dy (fun r => .of r) (.inl rfl) p
    | dk n h k l => subst k; exact ix_dk s (.inl h) l.den_S.1 dy (fun r => .of r) p
    | dt n h k l => subst k; exact ix_dt s (.inl h) l.den_S.1 dy (fun r => .of r) p
  cases la with
  | b => cases h
  | own m => cases m with
    | S => exact ix_den s s rx.s dy (fun r => .of r) p
    | T _ => cases h
    | N _ _ => cases h
    | O m => cases m with
      | S => obtain ⟨F, o, _⟩ := rx; exact own o
      | _ => cases h
  | t m => cases m with
    | S => exact ix_den s s rx.tS dy (fun r => .of r) p
    | T _ => cases h
    | N _ _ => cases h
    | O m => cases m with
      | S => obtain ⟨F, o⟩ := rx; exact own o
      | _ => cases h
theorem o_ixB {lb : Lv} : O2 X W .b lb .b (rIx5 X.K) dIx := by
  intro H0 H00 Hs H σ x y d e Q s rx ry p
  exact ix_den (lo := .b) (Same.refl _) s rx (ry.b s) (fun {v d} r => (show RDen .b (mkM X) H Hs H v d from r)) p
/-- a list of lists: the item is still held by the list -/
def dIxL : D → D → Rs D
  | .lst xs, .int i => match atI xs i with
    | some d => .ok d
    | none => .bad
  | _, _ => .bad
theorem o_ixO {m : Mode} {lb : Lv} : O2 X W (.t (.O m)) lb (.t m) (rIx5 X.K) dIxL := by
  intro H0 H00 Hs H σ x y d e Q s rx ry p
  have dy := ry.b s
  obtain ⟨F, o⟩ := rx
  cases o with
  | flat f h => cases h <;> first | exact p.elim | cases f
  | shT h => exact p.elim
  | lst n h l =>
    cases dy with
    | int i =>
      have p' : Post X W (PV X (.t m)) Hs H σ Q (match atI _ i with | some d => Rs.ok d | none => .bad) := p
      cases q : atI _ i with
      | none => rw [q] at p'; exact p'.elim
      | some z =>
        rw [q] at p'
        have hl : DenL (mkM X) H _ _ := l.den s s fun _ _ e _ => e
        obtain ⟨j, _, h2, h3⟩ := atI_len hl.length q
        obtain ⟨w, G, h4, h5⟩ := l.get h2
        exact .inl (.inl ⟨_, _, i, w, rfl, rfl, SqL.of h, h3 w h4, p' w Hs H (Ext.refl s) ⟨G, h5⟩⟩)
    | _ => exact p.elim
  | dk _ _ _ _ => exact p.elim
  | dt _ _ _ _ => exact p.elim
/-- a tuple of held things at a written place -/
theorem OwnT.get {M : MK} {Hs H : Hp} : ∀ {ms : List Mode} {vs : List V} {ds : List D} {F : List Addr} {i : Nat} {d : D}, OwnT M Hs H ms vs ds F → ds[i]? = some d → ∃ v G, vs[i]? = some v ∧ Own M Hs H (ms.getD i .S) v d G
  | _, _, _, _, i, d, .nil, e => by simp at e
  | _, _, _, _, 0, d, .cons h l, e => by simp at e; subst e; exact ⟨_, _, rfl, h⟩
  | _, _, _, _, i + 1, d, .cons h l, e => by
    obtain ⟨v, G, h1, h2⟩ := OwnT.get (i := i) (d := d) l (by simpa using e)
    exact ⟨v, G, by simpa using h1, by simpa using h2⟩
def dIxT (n : Nat) : D → Rs D
  | .tup xs => match xs[n]? with
    | some d => .ok d
    | none => .bad
  | _ => .bad
theorem je_ixT {mt : List Mode} (n : Nat) {a : Expr} {ea : Env → Rs D} {j pos pos'} (hu : X.A.units + 64 < cLine) (ha : JG X W (.t (.T mt)) ms a ea) (hs : PlainIx (.Constant (.int (n : Nat)) j pos') := by exact fun _ _ => rfl) :
    JG X W (.t (mt.getD n .S)) ms (.Subscript a (.Constant (.int (n : Nat)) j pos') pos) (v1 (dIxT n) ea) := by
  obtain ⟨ta, h1, h2⟩ := ha
  refine ⟨_, pe_ix (ix5 hu) h1 pe_int hs, fun B Hs H σ ρ Fp Q R p => h2 B Hs H σ ρ Fp _ R (p.seq fun d v Hs1 H1 _ e1 r q => ?_)⟩
  obtain ⟨F, o⟩ := r
  cases o with
  | flat f h => cases h <;> first | exact q.elim | cases f
  | @fT _ v ds h f =>
    cases h with
    | @tup a vs ds h l =>
      have q' : Post X W (PV X (.t (mt.getD n .S))) Hs1 H1 σ Q (match ds[n]? with | some d => Rs.ok d | none => .bad) := q
      cases z : ds[n]? with
      | none => rw [z] at q'; exact q'.elim
      | some w =>
        rw [z] at q'
        obtain ⟨u, g1, g2⟩ := l.get z
        exact .inl (.inr (.inl ⟨_, _, _, u, rfl, rfl, SqT.of (e1.s2 _ _ h), atI_nat g1, q' u Hs1 H1 (Ext.refl e1.s2) ⟨[], .flat (f _ (List.mem_of_getElem? z)) g2⟩⟩))
  | @tup _ a vs ds F nn h l =>
    have q' : Post X W (PV X (.t (mt.getD n .S))) Hs1 H1 σ Q (match ds[n]? with | some d => Rs.ok d | none => .bad) := q
    cases z : ds[n]? with
    | none => rw [z] at q'; exact q'.elim
    | some w =>
      rw [z] at q'
      obtain ⟨u, G, g1, g2⟩ := l.get z
      exact .inl (.inr (.inl ⟨_, _, _, u, rfl, rfl, SqT.of h, atI_nat g1, q' u Hs1 H1 (Ext.refl e1.s2) ⟨G, g2⟩⟩))
variable {a b : Expr} {ea eb : Env → Rs D} {pos : Pos} {la lb lo : Lv} {g : D → D → Rs D} {r : R2}
theorem je_ixG (hr : IxR X r) (o : O2 X W la lb lo r g) (ha : JG X W la ms a ea) (hb : JG X W lb ms b eb) (hs : PlainIx b) : JG X W lo ms (.Subscript a b pos) (v2 g ea eb) := by
  obtain ⟨ta, h1, h2⟩ := ha
  obtain ⟨tb, k1, k2⟩ := hb
  exact ⟨_, pe_ix hr h1 k1 hs, fun B Hs H σ ρ Fp Q R p => two o R h2 k2 p⟩

/-! ### slices -/
def oNone : Env → Rs (Option Int) := fun _ => .ok none
def dOInt : D → Rs (Option Int)
  | .int i => .ok (some i)
  | _ => .bad
def oSome (ea : Env → Rs D) : Env → Rs (Option Int) := fun ρ => (ea ρ).bind dOInt
abbrev PO' : Hp → Hp → Hp → Option Int → Option Int → Prop := fun _ _ _ b a => b = a
instance : PMono PO' := ⟨fun _ h => h⟩
def JP (X : Cx) (W : WX) (ms : Modes) (e : Option Expr) (ev : Env → Rs (Option Int)) : Prop :=
  ∃ t, PO X e t ∧ ∀ B Hs H σ ρ Fp Q, Rel (mkM X) B ms Hs H σ ρ Fp → Post X W PO' Hs H σ Q (ev ρ) → t σ H Q
theorem jp_none : JP X W ms none oNone := ⟨_, po_none, fun B Hs H σ ρ Fp Q R p => p none Hs H (Ext.refl R.sub) rfl⟩
theorem jp_some {l : Lv} (h : JG X W l ms a ea) : JP X W ms (some a) (oSome ea) := by
  obtain ⟨ta, h1, h2⟩ := h
  refine ⟨_, po_some h1, fun B Hs H σ ρ Fp Q R p => h2 B Hs H σ ρ Fp _ R (p.seq fun d v Hs1 H1 _ e1 r q => ?_)⟩
  have dd := r.b e1.s2
  cases dd with
  | int i => exact ⟨i, rfl, q _ Hs1 H1 (Ext.refl e1.s2) rfl⟩
  | _ => exact q.elim
def cutD (xs : List D) (lo hi : Option Int) : List D := (xs.drop (HT.sIx xs.length 0 lo)).take (HT.sIx xs.length xs.length hi - HT.sIx xs.length 0 lo)
theorem DenL.cut {M : MK} {H : Hp} {vs : List V} {ds : List D} (h : DenL M H vs ds) (lo hi : Option Int) : DenL M H (cutV vs lo hi) (cutD ds lo hi) := by
  unfold cutV cutD
  rw [h.length]
  exact (h.drop _).take _
def eSl (f : D → Option Int → Option Int → Rs D) (ea : Env → Rs D) (el eh : Env → Rs (Option Int)) : Env → Rs D := fun ρ => (ea ρ).bind fun d => (el ρ).bind fun lo => (eh ρ).bind fun hi => f d lo hi
/-- a list's part: a new list -/
def dCutL : D → Option Int → Option Int → Rs D
  | .lst xs, lo, hi => .ok (.lst (cutD xs lo hi))
  | .kl xs, lo, hi => .ok (.lst (cutD xs lo hi))
  | _, _, _ => .bad
/-- a tuple's, a text's part -/
def dCutS : D → Option Int → Option Int → Rs D
  | .tup xs, lo, hi => .ok (.tup (cutD xs lo hi))
  | .str z, lo, hi => if z.length ≤ cap then .ok (.str (cutS z lo hi)) else .bad
  | _, _, _ => .bad
variable {el eh : Env → Rs (Option Int)} {p2 : Pos} {lo' hi' : Option Expr}
theorem sl_run {ta : TE} {tl th : TO} {f : D → Option Int → Option Int → Rs D} {rr : V → Option Int → Option Int → Hp → VK → Prop} {B : Hp × Hp} {Hs H : Hp} {σ : St} {ρ : Env} {Fp : Nat → List Addr} {Q : VK} (R : Rel (mkM X) B ms Hs H σ ρ Fp)
    (h2 : ∀ B Hs H σ ρ Fp Q, Rel (mkM X) B ms Hs H σ ρ Fp → Post X W (PV X la) Hs H σ Q (ea ρ) → ta σ H Q) (l2 : ∀ B Hs H σ ρ Fp Q, Rel (mkM X) B ms Hs H σ ρ Fp → Post X W PO' Hs H σ Q (el ρ) → tl σ H Q) (k2 : ∀ B Hs H σ ρ Fp Q, Rel (mkM X) B ms Hs H σ ρ Fp → Post X W PO' Hs H σ Q (eh ρ) → th σ H Q)
    (o : ∀ H0 Hs H σ x d l u Q, Same Hs H → RDen la (mkM X) H0 Hs H x d → Post X W (PV X lo) Hs H σ Q (f d l u) → rr x l u H Q) (p : Post X W (PV X lo) Hs H σ Q (eSl f ea el eh ρ)) : tSl rr ta tl th σ H Q := by
  refine h2 B Hs H σ ρ Fp _ R (p.seq fun d x Hs1 H1 _ e1 r1 q1 => ?_)
  refine l2 B Hs1 H1 σ ρ Fp _ (R.step e1) (q1.seq fun l l' Hs2 H2 _ e2 r2 q2 => ?_)
  refine k2 B Hs2 H2 σ ρ Fp _ (R.step (e1.trans e2)) (q2.seq fun u u' Hs3 H3 _ e3 r3 q3 => ?_)
  subst r2 r3
  exact o _ Hs3 H3 σ x d l' u' Q e3.s2 (r1.ext (e2.trans e3)) q3
theorem RDen.kl {M : MK} {H0 Hs H : Hp} {v : V} {ds : List D} (hl : la.sh = true) (s : Same Hs H) (h : RDen la M H0 Hs H v (.kl ds)) : ∃ a vs, v = .ref a ∧ SqL M.K H a vs ∧ DenL M Hs vs ds := by
  have sh : ∀ {v}, Den M Hs v (.kl ds) → ∃ a vs, v = .ref a ∧ SqL M.K H a vs ∧ DenL M Hs vs ds := fun h => by
    cases h with
    | kl g l => exact ⟨_, _, rfl, Same.seq s g, l⟩
  have own : ∀ {m : Mode} {F : List Addr}, Own M Hs H (.O m) v (.kl ds) F → ∃ a vs, v = .ref a ∧ SqL M.K H a vs ∧ DenL M Hs vs ds := fun h => by
    cases h with
    | flat f _ => cases f
  cases la with
  | b => cases hl
  | own m => cases m with
    | S => exact sh h.s
    | T _ => cases hl
    | N _ _ => cases hl
    | O m => obtain ⟨F, o, _⟩ := h; exact own o
  | t m => cases m with
    | S => exact sh h.tS
    | T _ => cases hl
    | N _ _ => cases hl
    | O m => obtain ⟨F, o⟩ := h; exact own o
theorem je_sl (hl : la.sh = true) (ha : JG X W la ms a ea) (h1 : JP X W ms lo' el) (h2 : JP X W ms hi' eh) : JG X W .f ms (.Subscript a (.Slice lo' hi' none p2) pos) (eSl dCutL ea el eh) := by
  obtain ⟨ta, a1, a2⟩ := ha
  obtain ⟨tl, l1, l2⟩ := h1
  obtain ⟨tu, k1, k2⟩ := h2
  refine ⟨_, pe_slice sl_list a1 l1 k1, fun B Hs H σ ρ Fp Q R p => sl_run R a2 l2 k2 (fun H0 Hs H σ x d l u Q s rx p => ?_) p⟩
  cases d with
  | lst xs =>
    obtain ⟨a, vs, rfl, h1, l1, s1, _⟩ := rx.lst s
    exact ⟨a, vs, rfl, .inl h1, fun q np => p _ _ _ (Ext.newO s np) (new_lst s np ((s1 hl).cut l u))⟩
  | kl xs =>
    obtain ⟨a, vs, rfl, h1, l1⟩ := rx.kl hl s
    exact ⟨a, vs, rfl, h1, fun q np => p _ _ _ (Ext.newO s np) (new_lst s np (l1.cut l u))⟩
  | _ => exact p.elim
theorem cutD_whole {xs : List D} {lo hi : Option Int} (h : HT.sIx xs.length 0 lo = 0 ∧ HT.sIx xs.length xs.length hi = xs.length) : cutD xs lo hi = xs := by
  unfold cutD
  rw [h.1, h.2]
  simp
theorem je_slS (ha : JG X W .s ms a ea) (h1 : JP X W ms lo' el) (h2 : JP X W ms hi' eh) : JG X W .s ms (.Subscript a (.Slice lo' hi' none p2) pos) (eSl dCutS ea el eh) := by
  obtain ⟨ta, a1, a2⟩ := ha
  obtain ⟨tl, l1, l2⟩ := h1
  obtain ⟨tu, k1, k2⟩ := h2
  refine ⟨_, pe_slice (sl_tupA.or sl_str) a1 l1 k1, fun B Hs H σ ρ Fp Q R p => sl_run R a2 l2 k2 (fun H0 Hs H σ x d l u Q s rx p => ?_) p⟩
  have dx := rx.s
  cases dx with
  | tup h1 ll =>
    refine .inl ⟨_, _, rfl, SqT.of (s _ _ h1), fun e => ?_, fun e q np => ?_⟩
    · rw [ll.length] at e
      refine p _ Hs H (Ext.refl s) (.of ?_)
      rw [cutD_whole e]
      exact .tup h1 ll
    · exact p _ _ _ (Ext.new s np) (.of (.tup upd_same ((ll.cut l u).mono (same_upd (s.free np)))))
  | str z =>
    have p' : Post X W (PV X .s) Hs H σ Q (if z.length ≤ cap then Rs.ok (.str (cutS z l u)) else .bad) := p
    by_cases c : z.length ≤ cap
    · rw [if_pos c] at p'
      exact .inr ⟨z, rfl, cap_line c, p' _ Hs H (Ext.refl s) (.of (.str _))⟩
    · rw [if_neg c] at p'; exact p'.elim
  | _ => exact p.elim
/-- xs[::-1] -/
def dRevL : D → Rs D
  | .lst xs => .ok (.lst xs.reverse)
  | _ => .bad
theorem je_rev {k : Nat} {p1 p2 p3 : Pos} (hl : la.sh = true) (ha : JG X W la ms a ea) : JG X W .f ms (.Subscript a (.Slice none none (some (.UnaryOp .USub (.Constant (.int 1) k p1) p2)) p3) pos) (v1 dRevL ea) := by
  obtain ⟨ta, a1, a2⟩ := ha
  refine ⟨_, pe_revL a1, fun B Hs H σ ρ Fp Q R p => a2 B Hs H σ ρ Fp _ R (p.seq fun d v Hs1 H1 _ e1 r q => ?_)⟩
  cases d with
  | lst xs =>
    obtain ⟨a, vs, rfl, h1, l1, s1, _⟩ := r.lst e1.s2
    exact ⟨a, vs, rfl, .inl h1, fun u np => q _ _ _ (Ext.newO e1.s2 np) (new_lst e1.s2 np (s1 hl).reverse)⟩
  | _ => exact q.elim
end
end G
/-! G: calls -/
namespace G
open PySem PySem.Spec L2
open PyProof.Rows hiding St
section
variable {X : Cx} {W : WX} {ms : Modes} {l lo la : Lv} {e a : Expr} {es : List Expr} {ev ea : Env → Rs D} {evs : Env → Rs (List D)} {f : List D → Rs D} {r : List V → Hp → VK → Prop} {x : Str} {p pos : Pos} {idn T : String}
/-- r serves f: arguments held as l, the answer as lo -/
def OC (X : Cx) (W : WX) (l lo : Lv) (r : List V → Hp → VK → Prop) (f : List D → Rs D) : Prop :=
  ∀ H0 Hs H σ xs ds Q, Same Hs H → RDenL l (mkM X) H0 Hs H xs ds → Post X W (PV X lo) Hs H σ Q (f ds) → r xs H Q
def eCall (f : List D → Rs D) (evs : Env → Rs (List D)) : Env → Rs D := fun ρ => (evs ρ).bind f
theorem je_callB (hc : CallR X (.builtin idn) r) (o : OC X W l lo r f) (hm : X.mg x = none) (hv : bootBuiltins x = some (.builtin idn)) (ha : JA X W l ms (e :: es) evs) (hg : Gl X x := by rfl) (hn : x ≠ "__name__" := by decide) (hdb : (x == ("__debug__" : Str)) = false := by decide)
    (he : starEach (e :: es) X.env = (false, eval e X.env) :: starEach es X.env := by rfl) (hpl : (backTo pos (starEach es X.env)).any (·.1) = false := by rfl) : JG X W lo ms (.Call (.Name x p) (e :: es) [] pos) (eCall f evs) := by
  obtain ⟨t, h1, h2⟩ := ha
  refine ⟨_, pe_callB hc hg hm hv h1 hn hdb he hpl, fun B Hs H σ ρ Fp Q R p => h2 B Hs H σ ρ Fp _ R (p.seq fun ds xs Hs1 H1 _ e1 r1 q1 => ?_)⟩
  exact o _ Hs1 H1 σ xs ds Q e1.s2 r1 q1
theorem je_callTy (hc : CallR X (.type T) r) (o : OC X W l lo r f) (hm : X.mg x = none) (hv : bootBuiltins x = some (.type T)) (ha : JA X W l ms (e :: es) evs) (hg : Gl X x := by rfl) (hn : x ≠ "__name__" := by decide) (hdb : (x == ("__debug__" : Str)) = false := by decide)
    (he : starEach (e :: es) X.env = (false, eval e X.env) :: starEach es X.env := by rfl) (hpl : (backTo pos (starEach es X.env)).any (·.1) = false := by rfl) : JG X W lo ms (.Call (.Name x p) (e :: es) [] pos) (eCall f evs) := by
  obtain ⟨t, h1, h2⟩ := ha
  refine ⟨_, pe_callTy hc hg hm hv h1 hn hdb he hpl, fun B Hs H σ ρ Fp Q R p => h2 B Hs H σ ρ Fp _ R (p.seq fun ds xs Hs1 H1 _ e1 r1 q1 => ?_)⟩
  exact o _ Hs1 H1 σ xs ds Q e1.s2 r1 q1
/-- one argument held as la -/
theorem ja_one (h : JG X W l ms a ea) (hl : l.any = true := by rfl) (hs : starEach (a :: []) X.env = (false, eval a X.env) :: starEach [] X.env := by rfl) : JA X W l ms [a] (aCons ea aNil) := ja_cons hl h ja_nil hs
theorem RDenL.one {M : MK} {H0 Hs H : Hp} {xs : List V} {d : D} (h : RDenL l M H0 Hs H xs [d]) : ∃ x, xs = [x] ∧ RDen l M H0 Hs H x d := by
  cases xs with
  | nil => exact h.elim
  | cons x xs =>
    cases xs with
    | nil => exact ⟨x, rfl, h.1⟩
    | cons y ys => exact h.2.elim
theorem RDenL.two {M : MK} {H0 Hs H : Hp} {xs : List V} {d e : D} (h : RDenL l M H0 Hs H xs [d, e]) : ∃ x y, xs = [x, y] ∧ RDen l M H0 Hs H x d ∧ RDen l M H0 Hs H y e := by
  cases xs with
  | nil => exact h.elim
  | cons x xs =>
    obtain ⟨y, rfl, h2⟩ := RDenL.one h.2
    exact ⟨x, y, rfl, h.1, h2⟩
theorem Den.seq {M : MK} {H : Hp} {v : V} {xs : List D} {d : D} (h : Den M H v d) (hd : d = .lst xs ∨ d = .tup xs ∨ d = .kt xs ∨ d = .kl xs) : ∃ a vs, v = .ref a ∧ (SqL M.K H a vs ∨ SqT M.K H a vs) ∧ DenL M H vs xs := by
  rcases hd with rfl | rfl | rfl | rfl
  · cases h with | lst h l => exact ⟨_, _, rfl, .inl (.inl h), l⟩
  · cases h with | tup h l => exact ⟨_, _, rfl, .inr (SqT.of h), l⟩
  · cases h with | kt h l => exact ⟨_, _, rfl, .inr h, l⟩
  · cases h with | kl h l => exact ⟨_, _, rfl, .inl h, l⟩

/-! ### len -/
def dLen : List D → Rs D
  | [.lst xs] | [.tup xs] | [.kt xs] | [.kl xs] => .ok (.int xs.length)
  | [.str z] => if z.length ≤ cap then .ok (.int z.length) else .bad
  | _ => .bad
theorem oc_len : OC X W l .s (fun xs H Q => ∃ x n, xs = [x] ∧ LenV X.K x H n ∧ Q (.int n) H) dLen := by
  intro H0 Hs H σ xs ds Q s rx p
  have sq : ∀ {v : V} {d : D} {ys : List D}, RDen l (mkM X) H0 Hs H v d → (d = .lst ys ∨ d = .tup ys ∨ d = .kt ys ∨ d = .kl ys) → Post X W (PV X .s) Hs H σ Q (Rs.ok (.int ys.length)) → ∃ x n, [v] = [x] ∧ LenV X.K x H n ∧ Q (.int n) H := fun {v d ys} r hd p => by
    obtain ⟨a, vs, rfl, hs, hl⟩ := (r.b s).seq hd
    refine ⟨_, ys.length, rfl, ?_, p _ Hs H (Ext.refl s) (.of (.int _))⟩
    rcases hs with hs | hs
    · exact .inl ⟨vs, hs, hl.length.symm⟩
    · exact .inr ⟨vs, hs, hl.length.symm⟩
  unfold dLen at p
  split at p
  · obtain ⟨v, rfl, r⟩ := rx.one; exact sq r (.inl rfl) p
  · obtain ⟨v, rfl, r⟩ := rx.one; exact sq r (.inr (.inl rfl)) p
  · obtain ⟨v, rfl, r⟩ := rx.one; exact sq r (.inr (.inr (.inl rfl))) p
  · obtain ⟨v, rfl, r⟩ := rx.one; exact sq r (.inr (.inr (.inr rfl))) p
  · rename_i z
    obtain ⟨v, rfl, r⟩ := rx.one
    have d := r.b s
    cases d
    split at p
    · rename_i c
      exact ⟨_, z.length, rfl, ⟨cap_line c, rfl⟩, p _ Hs H (Ext.refl s) (.of (.int _))⟩
    · exact p.elim
  · exact p.elim

/-! ### int, abs, max, min of two -/
def dInt : List D → Rs D
  | [.int i] => .ok (.int i)
  | [.bl b] => .ok (.int (if b then 1 else 0))
  | _ => .bad
theorem oc_int : OC X W l .s (fun xs H Q => (∃ i, xs = [.int i] ∧ Q (.int i) H) ∨ ∃ k, xs = [.bl k] ∧ Q (.int (if k then 1 else 0)) H) dInt := by
  intro H0 Hs H σ xs ds Q s rx p
  unfold dInt at p
  split at p
  · obtain ⟨v, rfl, r⟩ := rx.one
    have d := r.b s; cases d
    exact .inl ⟨_, rfl, p _ Hs H (Ext.refl s) (.of (.int _))⟩
  · obtain ⟨v, rfl, r⟩ := rx.one
    have d := r.b s; cases d
    exact .inr ⟨_, rfl, p _ Hs H (Ext.refl s) (.of (.int _))⟩
  · exact p.elim
def dMax2 : List D → Rs D
  | [.int i, .int j] => .ok (.int (if j > i then j else i))
  | _ => .bad
def dMin2 : List D → Rs D
  | [.int i, .int j] => .ok (.int (if j < i then j else i))
  | _ => .bad
theorem oc_max2 : OC X W l .s (fun xs H Q => ∃ i j, xs = [.int i, .int j] ∧ Q (.int (if j > i then j else i)) H) dMax2 := by
  intro H0 Hs H σ xs ds Q s rx p
  unfold dMax2 at p
  split at p
  · obtain ⟨v, w, rfl, r, r2⟩ := rx.two
    have d := r.b s; cases d
    have d := r2.b s; cases d
    exact ⟨_, _, rfl, p _ Hs H (Ext.refl s) (.of (.int _))⟩
  · exact p.elim
theorem oc_min2 : OC X W l .s (fun xs H Q => ∃ i j, xs = [.int i, .int j] ∧ Q (.int (if j < i then j else i)) H) dMin2 := by
  intro H0 Hs H σ xs ds Q s rx p
  unfold dMin2 at p
  split at p
  · obtain ⟨v, w, rfl, r, r2⟩ := rx.two
    have d := r.b s; cases d
    have d := r2.b s; cases d
    exact ⟨_, _, rfl, p _ Hs H (Ext.refl s) (.of (.int _))⟩
  · exact p.elim

/-! ### whole lists of numbers, of truths -/
def intsOf : List D → Option (List Int)
  | [] => some []
  | .int i :: ds => (intsOf ds).map (i :: ·)
  | _ => none
theorem intsOf_some : ∀ {ds : List D} {ns : List Int}, intsOf ds = some ns → ds = ns.map .int
  | [], _, h => by cases h; rfl
  | .int i :: ds, _, h => by
    obtain ⟨ms, h1, rfl⟩ := Option.map_eq_some_iff.mp h
    rw [intsOf_some h1]; rfl
  | .non :: _, _, h | .bl _ :: _, _, h | .str _ :: _, _, h | .lst _ :: _, _, h | .tup _ :: _, _, h | .dk _ :: _, _, h | .dt _ :: _, _, h | .obj _ _ :: _, _, h | .exc _ _ :: _, _, h | .kt _ :: _, _, h | .kl _ :: _, _, h => by cases h
@[simp] theorem intsOf_map (ns : List Int) : intsOf (ns.map .int) = some ns := by
  induction ns with
  | nil => rfl
  | cons n ns ih => simp [intsOf, ih]
def blsOf : List D → Option (List Bool)
  | [] => some []
  | .bl i :: ds => (blsOf ds).map (i :: ·)
  | _ => none
theorem blsOf_some : ∀ {ds : List D} {ns : List Bool}, blsOf ds = some ns → ds = ns.map .bl
  | [], _, h => by cases h; rfl
  | .bl i :: ds, _, h => by
    obtain ⟨ms, h1, rfl⟩ := Option.map_eq_some_iff.mp h
    rw [blsOf_some h1]; rfl
  | .non :: _, _, h | .int _ :: _, _, h | .str _ :: _, _, h | .lst _ :: _, _, h | .tup _ :: _, _, h | .dk _ :: _, _, h | .dt _ :: _, _, h | .obj _ _ :: _, _, h | .exc _ _ :: _, _, h | .kt _ :: _, _, h | .kl _ :: _, _, h => by cases h
@[simp] theorem blsOf_map (ns : List Bool) : blsOf (ns.map .bl) = some ns := by
  induction ns with
  | nil => rfl
  | cons n ns ih => simp [blsOf, ih]
theorem Den.intsL {M : MK} {H : Hp} {v : V} {ds : List D} {ns : List Int} (h : Den M H v (.lst ds)) (e : intsOf ds = some ns) : ∃ a, v = .ref a ∧ SqL M.K H a (ns.map V.int) := by
  rw [intsOf_some e] at h
  cases h with
  | lst h l => rw [l.ints] at h; exact ⟨_, rfl, .inl h⟩
theorem Den.blsL {M : MK} {H : Hp} {v : V} {ds : List D} {ns : List Bool} (h : Den M H v (.lst ds)) (e : blsOf ds = some ns) : ∃ a, v = .ref a ∧ SqL M.K H a (ns.map V.bl) := by
  rw [blsOf_some e] at h
  cases h with
  | lst h l => rw [l.bls] at h; exact ⟨_, rfl, .inl h⟩
/-- a function of a list of numbers -/
def dInts (g : List Int → Rs D) : List D → Rs D
  | [.lst ds] => match intsOf ds with
    | some ns => g ns
    | none => .bad
  | _ => .bad
def dBls (g : List Bool → Rs D) : List D → Rs D
  | [.lst ds] => match blsOf ds with
    | some ns => g ns
    | none => .bad
  | _ => .bad
theorem oc_ints {g : List Int → Rs D} {k : List V → Hp → VK → Prop} (h : ∀ (H0 Hs H : Hp) (σ : St) ns (a : Addr) (Q : VK), Same Hs H → SqL X.K H a (ns.map V.int) → Post X W (PV X lo) Hs H σ Q (g ns) → k [.ref a] H Q) : OC X W l lo k (dInts g) := by
  intro H0 Hs H σ xs ds Q s rx p
  unfold dInts at p
  split at p
  · obtain ⟨v, rfl, r⟩ := rx.one
    split at p
    · rename_i ns hn
      obtain ⟨a, rfl, q⟩ := (r.b s).intsL hn
      exact h H0 Hs H σ ns a Q s q p
    · exact p.elim
  · exact p.elim
theorem oc_bls {g : List Bool → Rs D} {k : List V → Hp → VK → Prop} (h : ∀ (H0 Hs H : Hp) (σ : St) ns (a : Addr) (Q : VK), Same Hs H → SqL X.K H a (ns.map V.bl) → Post X W (PV X lo) Hs H σ Q (g ns) → k [.ref a] H Q) : OC X W l lo k (dBls g) := by
  intro H0 Hs H σ xs ds Q s rx p
  unfold dBls at p
  split at p
  · obtain ⟨v, rfl, r⟩ := rx.one
    split at p
    · rename_i ns hn
      obtain ⟨a, rfl, q⟩ := (r.b s).blsL hn
      exact h H0 Hs H σ ns a Q s q p
    · exact p.elim
  · exact p.elim
def dSum : List D → Rs D := dInts fun ns => .ok (.int ns.sum)
theorem oc_sum : OC X W l .s (rSum X.K) dSum := oc_ints fun H0 Hs H σ ns a Q s hq p => ⟨a, ns, rfl, hq, p _ Hs H (Ext.refl s) (.of (.int _))⟩
def maxL : List Int → Int
  | [] => 0
  | n :: ns => ns.foldl max n
def minL : List Int → Int
  | [] => 0
  | n :: ns => ns.foldl min n
theorem foldl_max_ge (ns : List Int) : ∀ n : Int, n ≤ ns.foldl max n ∧ ∀ m ∈ ns, m ≤ ns.foldl max n := by
  induction ns with
  | nil => intro n; exact ⟨Int.le_refl _, fun m h => by cases h⟩
  | cons k ns ih =>
    intro n
    obtain ⟨h1, h2⟩ := ih (max n k)
    refine ⟨by simp only [List.foldl_cons]; omega, fun m h => ?_⟩
    simp only [List.foldl_cons]
    rcases List.mem_cons.mp h with rfl | h
    · omega
    · exact h2 m h
theorem foldl_max_mem (ns : List Int) : ∀ n : Int, ns.foldl max n = n ∨ ns.foldl max n ∈ ns := by
  induction ns with
  | nil => intro n; exact .inl rfl
  | cons k ns ih =>
    intro n
    simp only [List.foldl_cons]
    rcases ih (max n k) with h | h
    · rw [h]
      by_cases c : n ≤ k
      · exact .inr (by rw [Int.max_eq_right c]; exact List.mem_cons_self)
      · exact .inl (Int.max_eq_left (by omega))
    · exact .inr (List.mem_cons_of_mem _ h)
theorem maxL_is {ns : List Int} {m : Int} (h : m ∈ ns) (g : ∀ y ∈ ns, y ≤ m) : m = maxL ns := by
  cases ns with
  | nil => cases h
  | cons n ns =>
    obtain ⟨h1, h2⟩ := foldl_max_ge ns n
    have a : m ≤ ns.foldl max n := by
      rcases List.mem_cons.mp h with rfl | h
      · exact h1
      · exact h2 m h
    have b : ns.foldl max n ≤ m := by
      rcases foldl_max_mem ns n with q | q
      · rw [q]; exact g n List.mem_cons_self
      · exact g _ (List.mem_cons_of_mem _ q)
    show m = ns.foldl max n
    omega
theorem foldl_min_le (ns : List Int) : ∀ n : Int, ns.foldl min n ≤ n ∧ ∀ m ∈ ns, ns.foldl min n ≤ m := by
  induction ns with
  | nil => intro n; exact ⟨Int.le_refl _, fun m h => by cases h⟩
  | cons k ns ih =>
    intro n
    obtain ⟨h1, h2⟩ := ih (min n k)
    refine ⟨by simp only [List.foldl_cons]; omega, fun m h => ?_⟩
    simp only [List.foldl_cons]
    rcases List.mem_cons.mp h with rfl | h
    · omega
    · exact h2 m h
theorem foldl_min_mem (ns : List Int) : ∀ n : Int, ns.foldl min n = n ∨ ns.foldl min n ∈ ns := by
  induction ns with
  | nil => intro n; exact .inl rfl
  | cons k ns ih =>
    intro n
    simp only [List.foldl_cons]
    rcases ih (min n k) with h | h
    · rw [h]
      by_cases c : n ≤ k
      · exact .inl (Int.min_eq_left c)
      · exact .inr (by rw [Int.min_eq_right (by omega)]; exact List.mem_cons_self)
    · exact .inr (List.mem_cons_of_mem _ h)
theorem minL_is {ns : List Int} {m : Int} (h : m ∈ ns) (g : ∀ y ∈ ns, m ≤ y) : m = minL ns := by
  cases ns with
  | nil => cases h
  | cons n ns =>
    obtain ⟨h1, h2⟩ := foldl_min_le ns n
    have a : ns.foldl min n ≤ m := by
      rcases List.mem_cons.mp h with rfl | h
      · exact h1
      · exact h2 m h
    have b : m ≤ ns.foldl min n := by
      rcases foldl_min_mem ns n with q | q
      · rw [q]; exact g n List.mem_cons_self
      · exact g _ (List.mem_cons_of_mem _ q)
    show m = ns.foldl min n
    omega
def dMaxL : List D → Rs D := dInts fun ns => if ns.isEmpty then .bad else .ok (.int (maxL ns))
def dMinL : List D → Rs D := dInts fun ns => if ns.isEmpty then .bad else .ok (.int (minL ns))
theorem oc_maxL : OC X W l .s (rMax X.K) dMaxL := oc_ints fun H0 Hs H σ ns a Q s hq p => by
  cases ns with
  | nil => exact p.elim
  | cons n ns => exact ⟨a, n :: ns, rfl, hq, by simp, fun m h1 h2 => by rw [maxL_is h1 h2]; exact p _ Hs H (Ext.refl s) (.of (.int _))⟩
theorem oc_minL : OC X W l .s (rMin X.K) dMinL := oc_ints fun H0 Hs H σ ns a Q s hq p => by
  cases ns with
  | nil => exact p.elim
  | cons n ns => exact ⟨a, n :: ns, rfl, hq, by simp, fun m h1 h2 => by rw [minL_is h1 h2]; exact p _ Hs H (Ext.refl s) (.of (.int _))⟩
def dAll : List D → Rs D := dBls fun bs => .ok (.bl (bs.all id))
def dAny : List D → Rs D := dBls fun bs => .ok (.bl (bs.any id))
theorem oc_all : OC X W l .s (rAll X.K) dAll := oc_bls fun H0 Hs H σ ns a Q s hq p => ⟨a, ns, rfl, hq, p _ Hs H (Ext.refl s) (.of (.bl _))⟩
theorem oc_any : OC X W l .s (rAny X.K) dAny := oc_bls fun H0 Hs H σ ns a Q s hq p => ⟨a, ns, rfl, hq, p _ Hs H (Ext.refl s) (.of (.bl _))⟩
/-- sorted, whole numbers -/
def insI (n : Int) : List Int → List Int
  | [] => [n]
  | m :: ms => if n ≤ m then n :: m :: ms else m :: insI n ms
def sortI (ns : List Int) : List Int := ns.foldr insI []
theorem insI_perm (n : Int) : ∀ ms : List Int, (insI n ms).Perm (n :: ms)
  | [] => List.Perm.refl _
  | m :: ms => by
    unfold insI
    split
    · exact List.Perm.refl _
    · exact ((insI_perm n ms).cons m).trans (List.Perm.swap n m ms)
theorem sortI_perm : ∀ ns : List Int, (sortI ns).Perm ns
  | [] => List.Perm.refl _
  | n :: ns => (insI_perm n _).trans ((sortI_perm ns).cons n)
theorem insI_sorted (n : Int) : ∀ {ms : List Int}, ms.Pairwise (· ≤ ·) → (insI n ms).Pairwise (· ≤ ·)
  | [], _ => by simp [insI]
  | m :: ms, h => by
    obtain ⟨h1, h2⟩ := List.pairwise_cons.mp h
    unfold insI
    split
    · rename_i c
      refine List.pairwise_cons.mpr ⟨fun k hk => ?_, h⟩
      rcases List.mem_cons.mp hk with rfl | hk
      · exact c
      · exact Int.le_trans c (h1 k hk)
    · rename_i c
      refine List.pairwise_cons.mpr ⟨fun k hk => ?_, insI_sorted n h2⟩
      rcases List.mem_cons.mp ((insI_perm n ms).mem_iff.mp hk) with rfl | hk
      · omega
      · exact h1 k hk
theorem sortI_sorted : ∀ ns : List Int, (sortI ns).Pairwise (· ≤ ·)
  | [] => List.Pairwise.nil
  | n :: ns => insI_sorted n (sortI_sorted ns)
theorem sorted_same {as bs : List Int} (p : as.Perm bs) (h : as.Pairwise (· ≤ ·)) (k : bs.Pairwise (· ≤ ·)) : as = bs := by
  induction as generalizing bs with
  | nil => exact (List.Perm.nil_eq p)
  | cons a as ih =>
    cases bs with
    | nil => exact absurd p.length_eq (by simp)
    | cons b bs =>
      obtain ⟨h1, h2⟩ := List.pairwise_cons.mp h
      obtain ⟨k1, k2⟩ := List.pairwise_cons.mp k
      have e : a = b := by
        have x : a ≤ b := by
          rcases List.mem_cons.mp (p.mem_iff.mpr List.mem_cons_self) with e | e
          · omega
          · exact h1 _ e
        have y : b ≤ a := by
          rcases List.mem_cons.mp (p.mem_iff.mp List.mem_cons_self) with e | e
          · omega
          · exact k1 _ e
        omega
      subst e
      rw [ih (List.Perm.cons_inv p) h2 k2]
def dSortI : List D → Rs D := dInts fun ns => .ok (.lst ((sortI ns).map .int))
theorem oc_sortI : OC X W l .f (rSortedI X.K) dSortI := oc_ints fun H0 Hs H σ ns a Q s hq p => ⟨a, ns, rfl, hq, fun ns' q h1 h2 np => by
  have e : ns' = sortI ns := sorted_same (h1.trans (sortI_perm ns).symm) h2 (sortI_sorted ns)
  subst e
  exact p _ _ _ (Ext.newO s np) (new_lst s np (DenL.of_ints _))⟩

/-! ### list(x), tuple(x) -/
def dList : List D → Rs D
  | [.lst xs] | [.tup xs] => .ok (.lst xs)
  | _ => .bad
theorem oc_list (hl : l.sh = true) : OC X W l .f (fun xs H Q => ∃ p ys, xs = [.ref p] ∧ (SqL X.K H p ys ∨ SqT X.K H p ys) ∧ ∀ q, H q = none → Q (.ref q) (upd H q (.lst ys))) dList := by
  intro H0 Hs H σ xs ds Q s rx p
  unfold dList at p
  split at p
  · obtain ⟨v, rfl, r⟩ := rx.one
    obtain ⟨a, vs, rfl, h1, l1, s1, _⟩ := r.lst s
    exact ⟨a, vs, rfl, .inl (.inl h1), fun q np => p _ _ _ (Ext.newO s np) (new_lst s np (s1 hl))⟩
  · rename_i zs
    obtain ⟨v, rfl, r⟩ := rx.one
    have dn : Den (mkM X) Hs v (.tup zs) := by
      cases l with
      | b => cases hl
      | own m => cases m with
        | S => exact r.s
        | T _ => cases hl
        | N _ _ => cases hl
        | O m => obtain ⟨F, o, _⟩ := r; cases o with | flat f _ => cases f | shT h => exact h
      | t m => cases m with
        | S => exact r.tS
        | T _ => cases hl
        | N _ _ => cases hl
        | O m => obtain ⟨F, o⟩ := r; cases o with | flat f _ => cases f | shT h => exact h
    cases dn with
    | tup h1 l1 => exact ⟨_, _, rfl, .inr (SqT.of (s _ _ h1)), fun q np => p _ _ _ (Ext.newO s np) (new_lst s np l1)⟩
  · exact p.elim
def dTuple : List D → Rs D
  | [.lst xs] => .ok (.tup xs)
  | _ => .bad
theorem oc_tuple (hl : l.sh = true) : OC X W l .s (fun xs H Q => ∃ p ys, xs = [.ref p] ∧ ((SqL X.K H p ys ∧ ∀ l, H l = none → Q (.ref l) (upd H l (.tup ys))) ∨ (SqT X.K H p ys ∧ Q (.ref p) H))) dTuple := by
  intro H0 Hs H σ xs ds Q s rx p
  unfold dTuple at p
  split at p
  · obtain ⟨v, rfl, r⟩ := rx.one
    obtain ⟨a, vs, rfl, h1, l1, s1, _⟩ := r.lst s
    exact ⟨a, vs, rfl, .inl ⟨.inl h1, fun q np => p _ _ _ (Ext.new s np) (.of (.tup upd_same ((s1 hl).mono (same_upd (s.free np)))))⟩⟩
  · exact p.elim
/-- list(range(n)), list(range(a, b)) -/
def rgD (a b : Int) : List D := (List.range (b - a).toNat).map fun i => D.int (a + (i : Nat))
theorem rg_den {M : MK} {H : Hp} (a b : Int) : DenL M H (rgV a b) (rgD a b) := by
  unfold rgV rgD
  generalize List.range (b - a).toNat = l
  induction l with
  | nil => exact .nil
  | cons i l ih => exact .cons (.int _) ih
def dListR (d : D) : Rs D := match d with
  | .int n => if 0 ≤ n ∧ n ≤ 1000000 then .ok (.lst (rgD 0 n)) else .bad
  | _ => .bad
theorem je_listRg1 {p2 pos2 : Pos} (hc : X.calm = true) (hm : X.mg "list" = none) (hm2 : X.mg "range" = none) (ha : JG X W l ms a ea) (hg : Gl X "list" := by rfl) (hg2 : Gl X "range" := by rfl) (na : starEach [a] X.env = (false, eval a X.env) :: starEach [] X.env := by rfl)
    (na2 : starEach [Expr.Call (.Name "range" p2) [a] [] pos2] X.env = (false, eval (Expr.Call (.Name "range" p2) [a] [] pos2) X.env) :: starEach [] X.env := by rfl) : JG X W .f ms (.Call (.Name "list" p) [.Call (.Name "range" p2) [a] [] pos2] [] pos) (v1 dListR ea) := by
  obtain ⟨t, h1, h2⟩ := ha
  refine ⟨_, pe_listRg hc hg hm (prg_1 hg2 hm2 h1 na) na2, fun B Hs H σ ρ Fp Q R p => h2 B Hs H σ ρ Fp _ R (p.seq fun d v Hs1 H1 _ e1 r1 q1 => ?_)⟩
  have dd := r1.b e1.s2
  cases dd with
  | int n =>
    have q' : Post X W (PV X .f) Hs1 H1 σ Q (if 0 ≤ n ∧ n ≤ 1000000 then Rs.ok (.lst (rgD 0 n)) else .bad) := q1
    by_cases c : 0 ≤ n ∧ n ≤ 1000000
    · rw [if_pos c] at q'
      exact ⟨n, rfl, RgOk.of_le (by omega) (by omega) (by omega) (by omega), fun u np => q' _ _ _ (Ext.newO e1.s2 np) (new_lst e1.s2 np (rg_den 0 n))⟩
    · rw [if_neg c] at q'; exact q'.elim
  | _ => exact q1.elim
end
end G
/-! G: statements -/
namespace G
open PySem PySem.Spec L2
open PyProof.Rows hiding St

/-- what is asked behind a statement. mx: how the names are held where an exception rises (none: nothing is asked of them); ml: .. at a break, a continue; rm: how what is returned is held -/
def SPost (X : Cx) (W : WX) (mx : Option Modes) (ml : Modes) (rm : Mode) (B : Hp × Hp) (ms : Modes) (E : Ends) : Out → Prop
  | .nx ρ => ∀ Hs H σ Fp, Rel (mkM X) B ms Hs H σ ρ Fp → E.nx σ H
  | .bk ρ => ∀ Hs H σ Fp, Rel (mkM X) B ml Hs H σ ρ Fp → E.bk σ H
  | .ct ρ => ∀ Hs H σ Fp, Rel (mkM X) B ml Hs H σ ρ Fp → E.ct σ H
  | .rt d => ∀ Hs H v, Ext B.1 B.2 Hs H → RDen (.own rm) (mkM X) B.2 Hs H v d → E.rt v H
  | .exc c fs ρ => match mx with
    | none => ∀ Hs H σ cls dd, Ext B.1 B.2 Hs H → ExcAt (mkM X) Hs c fs cls dd → W cls dd σ H
    | some mx => ∀ Hs H σ Fp cls dd, Rel (mkM X) B mx Hs H σ ρ Fp → ExcAt (mkM X) Hs c fs cls dd → W cls dd σ H
  | .bad => False
def JS (X : Cx) (W : WX) (mx : Option Modes) (ml : Modes) (rm : Mode) (ms : Modes) (st : Stmt) (ms' : Modes) (ev : Env → Out) : Prop :=
  ∃ t, PS X st t ∧ ∀ B Hs H σ ρ Fp E, Rel (mkM X) B ms Hs H σ ρ Fp → SPost X W mx ml rm B ms' E (ev ρ) → t E σ H
def JSs (X : Cx) (W : WX) (mx : Option Modes) (ml : Modes) (rm : Mode) (ms : Modes) (st : List Stmt) (ms' : Modes) (ev : Env → Out) : Prop :=
  ∃ t, PSs X st t ∧ ∀ B Hs H σ ρ Fp E, Rel (mkM X) B ms Hs H σ ρ Fp → SPost X W mx ml rm B ms' E (ev ρ) → t E σ H
def sBind {α : Type} (r : Rs α) (ρ : Env) (k : α → Out) : Out := match r with
  | .ok a => k a
  | .exc c fs => .exc c fs ρ
  | .bad => .bad
@[simp] theorem sBind_ok {α : Type} (a : α) (ρ : Env) (k : α → Out) : sBind (.ok a) ρ k = k a := rfl
@[simp] theorem sBind_exc {α : Type} (c : Str) (fs : List (Str × D)) (ρ : Env) (k : α → Out) : sBind (.exc c fs) ρ k = .exc c fs ρ := rfl
@[simp] theorem sBind_bad {α : Type} (ρ : Env) (k : α → Out) : sBind .bad ρ k = .bad := rfl
abbrev XOk (mx : Option Modes) (ms : Modes) : Prop := mx = none ∨ mx = some ms
section
variable {X : Cx} {W : WX} {mx : Option Modes} {ml : Modes} {rm : Mode} {ms ms' ms'' : Modes} {B : Hp × Hp} {Hs H : Hp} {σ : St} {ρ : Env} {Fp : Nat → List Addr} {E : Ends}
/-- from a statement's end to an expression's -/
theorem SPost.bind {α β : Type} {P : Hp → Hp → Hp → β → α → Prop} {r : Rs α} {k : α → Out} {Q : β → Hp → Prop} (R : Rel (mkM X) B ms Hs H σ ρ Fp) (hx : XOk mx ms) (p : SPost X W mx ml rm B ms' E (sBind r ρ k))
    (h : ∀ a b Hs1 H1, Ext Hs H Hs1 H1 → Rel (mkM X) B ms Hs1 H1 σ ρ Fp → P H Hs1 H1 b a → SPost X W mx ml rm B ms' E (k a) → Q b H1) : Post X W P Hs H σ Q r := by
  cases r with
  | ok a => exact fun b Hs1 H1 e q => h a b Hs1 H1 e (R.step e) q p
  | exc c fs =>
    intro Hs1 H1 cls dd e q
    rcases hx with rfl | rfl
    · exact p Hs1 H1 σ cls dd (R.ext.trans e) q
    · exact p Hs1 H1 σ Fp cls dd (R.step e) q
  | bad => exact p.elim

/-! ### blocks -/
def sNext : Env → Out := fun ρ => .nx ρ
def sSeq (s t : Env → Out) : Env → Out := fun ρ => match s ρ with
  | .nx ρ' => t ρ'
  | o => o
variable {st : Stmt} {rest : List Stmt} {es et : Env → Out} {pos pos' : Pos}
theorem jss_nil : JSs X W mx ml rm ms [] ms sNext := ⟨_, pss_nil, fun B Hs H σ ρ Fp E R p => p Hs H σ Fp R⟩
theorem jss_cons (h : JS X W mx ml rm ms st ms' es) (k : JSs X W mx ml rm ms' rest ms'' et) : JSs X W mx ml rm ms (st :: rest) ms'' (sSeq es et) := by
  obtain ⟨t, h1, h2⟩ := h
  obtain ⟨u, k1, k2⟩ := k
  refine ⟨_, pss_cons h1 k1, fun B Hs H σ ρ Fp E R p => h2 B Hs H σ ρ Fp _ R ?_⟩
  unfold sSeq at p
  cases q : es ρ with
  | nx ρ' =>
    rw [q] at p
    exact fun Hs1 H1 σ1 Fp1 R1 => k2 B Hs1 H1 σ1 ρ' Fp1 E R1 p
  | bk ρ' => rw [q] at p; exact p
  | ct ρ' => rw [q] at p; exact p
  | rt d => rw [q] at p; exact p
  | exc c fs ρ' => rw [q] at p; exact p
  | bad => rw [q] at p; exact p
theorem jss_one (h : JS X W mx ml rm ms st ms' es) : JSs X W mx ml rm ms [st] ms' es := by
  obtain ⟨t, h1, h2⟩ := h
  exact ⟨_, pss_one h1, h2⟩
theorem js_pass : JS X W mx ml rm ms (.Pass pos) ms sNext := ⟨_, ps_pass, fun B Hs H σ ρ Fp E R p => p Hs H σ Fp R⟩
theorem js_doc {x j} : JS X W mx ml rm ms (.Expr (.Constant (.str x) j pos) pos') ms sNext := ⟨_, ps_doc, fun B Hs H σ ρ Fp E R p => p Hs H σ Fp R⟩
def sBreak : Env → Out := fun ρ => .bk ρ
def sCont : Env → Out := fun ρ => .ct ρ
theorem js_break : JS X W mx ml rm ml (.Break pos) ms' sBreak := ⟨_, ps_break, fun B Hs H σ ρ Fp E R p => p Hs H σ Fp R⟩
theorem js_cont : JS X W mx ml rm ml (.Continue pos) ms' sCont := ⟨_, ps_continue, fun B Hs H σ ρ Fp E R p => p Hs H σ Fp R⟩
/-- a name is shared ahead of a statement, a block -/
theorem jss_pre (i : Nat) (hi : i < ms.length) (h : JSs X W mx ml rm (ms.set i .S) rest ms' es) : JSs X W mx ml rm ms rest ms' es := by
  obtain ⟨t, h1, h2⟩ := h
  refine ⟨t, h1, fun B Hs H σ ρ Fp E R p => ?_⟩
  obtain ⟨Hs', _, _, R'⟩ := R.freeze hi
  exact h2 B Hs' H σ ρ _ E R' p
theorem js_pre (i : Nat) (hi : i < ms.length) (h : JS X W mx ml rm (ms.set i .S) st ms' es) : JS X W mx ml rm ms st ms' es := by
  obtain ⟨t, h1, h2⟩ := h
  refine ⟨t, h1, fun B Hs H σ ρ Fp E R p => ?_⟩
  obtain ⟨Hs', _, _, R'⟩ := R.freeze hi
  exact h2 B Hs' H σ ρ _ E R' p
theorem SPost.post {o : Out} (i : Nat) (hi : i < ms.length) (p : SPost X W mx ml rm B (ms.set i .S) E o) : SPost X W mx ml rm B ms E o := by
  cases o with
  | nx ρ =>
    intro Hs H σ Fp R
    obtain ⟨Hs', _, _, R'⟩ := R.freeze hi
    exact p Hs' H σ _ R'
  | _ => exact p
/-- .. behind it -/
theorem jss_post (i : Nat) (hi : i < ms'.length) (h : JSs X W mx ml rm ms rest ms' es) : JSs X W mx ml rm ms rest (ms'.set i .S) es := by
  obtain ⟨t, h1, h2⟩ := h
  exact ⟨t, h1, fun B Hs H σ ρ Fp E R p => h2 B Hs H σ ρ Fp E R (p.post i hi)⟩
/-- a block that is never left at its end -/
theorem jss_any (h : JSs X W mx ml rm ms rest ms' es) (hn : ∀ ρ ρ', es ρ ≠ .nx ρ') : JSs X W mx ml rm ms rest ms'' es := by
  obtain ⟨t, h1, h2⟩ := h
  refine ⟨t, h1, fun B Hs H σ ρ Fp E R p => h2 B Hs H σ ρ Fp E R ?_⟩
  cases q : es ρ with
  | nx ρ' => exact absurd q (hn ρ ρ')
  | _ => rw [q] at p; exact p

/-! ### if -/
def sIf (c : Env → Rs Bool) (s t : Env → Out) : Env → Out := fun ρ => sBind (c ρ) ρ fun k => if k then s ρ else t ρ
theorem js_if {c : Expr} {ec : Env → Rs Bool} {a b : List Stmt} (hx : XOk mx ms) (hc : JT X W ms c ec) (ha : JSs X W mx ml rm ms a ms' es) (hb : JSs X W mx ml rm ms b ms' et) : JS X W mx ml rm ms (.If c a b pos) ms' (sIf ec es et) := by
  obtain ⟨tc, c1, c2⟩ := hc
  obtain ⟨t, h1, h2⟩ := ha
  obtain ⟨u, k1, k2⟩ := hb
  refine ⟨_, ps_if c1 h1 k1, fun B Hs H σ ρ Fp E R p => c2 B Hs H σ ρ Fp _ R (SPost.bind R hx p fun k v Hs1 H1 e1 R1 r q => ?_)⟩
  subst r
  cases v with
  | true => exact h2 B Hs1 H1 σ ρ Fp E R1 q
  | false => exact k2 B Hs1 H1 σ ρ Fp E R1 q

/-! ### stores -/
def sSet (i : Nat) (ev : Env → Rs D) : Env → Out := fun ρ => sBind (ev ρ) ρ fun d => .nx (ρ.set i (some d))
theorem Rel.new {m : Mode} {i : Nat} {v : V} {d : D} {Hs1 H1 : Hp} (R : Rel (mkM X) B ms Hs H σ ρ Fp) (e : Ext Hs H Hs1 H1) (hi : i < ms.length) (r : RDen (.own m) (mkM X) H Hs1 H1 v d) : ∃ Fp', Rel (mkM X) B (ms.set i m) Hs1 H1 (σ.set i (some v)) (ρ.set i (some d)) Fp' := by
  obtain ⟨F, o, n, f⟩ := r
  exact ⟨_, (R.step e).put hi o n (fun a ha => R.ext.s3.free (f a ha)) fun j _ a ha hj => by
    obtain ⟨_, u, q, _⟩ := R.has hj
    rw [f a ha] at q; cases q⟩
variable {ex : Expr} {ev : Env → Rs D}
theorem js_set {m : Mode} (i : Nat) {x : Str} (hx : XOk mx ms) (hN : X.N.Nodup) (he : JG X W (.own m) ms ex ev) (hi : i < ms.length := by first | decide | simp) (hn : X.N[i]? = some x := by rfl) (hl : Loc X.env.scope x := by first | exact Or.inl rfl | exact Or.inr rfl)
    (hs : swapsWith ex (some (.Name x pos')) pos.line X.env = pure false := by rfl) (hf : X.fn x = true ∨ X.env.scope.names.lookup x = some .local := by first | exact .inl rfl | exact .inr rfl) : JS X W mx ml rm ms (.Assign [.Name x pos'] ex pos) (ms.set i m) (sSet i ev) := by
  obtain ⟨t, h1, h2⟩ := he
  refine ⟨_, ps_set hN hn hl h1 hs hf, fun B Hs H σ ρ Fp E R p => h2 B Hs H σ ρ Fp _ R (SPost.bind R hx p fun d v Hs1 H1 e1 R1 r q => ?_)⟩
  obtain ⟨Fp', R'⟩ := R.new e1 hi r
  exact q Hs1 H1 _ Fp' R'
def sDrop (ev : Env → Rs D) : Env → Out := fun ρ => sBind (ev ρ) ρ fun _ => .nx ρ
theorem js_drop {l : Lv} (hx : XOk mx ms) (he : JG X W l ms ex ev) (hs : swapsWith ex none pos.line X.env = pure false := by rfl) : JS X W mx ml rm ms (.Expr ex pos) ms (sDrop ev) := by
  obtain ⟨t, h1, h2⟩ := he
  exact ⟨_, ps_expr h1 hs, fun B Hs H σ ρ Fp E R p => h2 B Hs H σ ρ Fp _ R (SPost.bind R hx p fun d v Hs1 H1 e1 R1 r q => q Hs1 H1 σ Fp R1)⟩

/-! ### return -/
/-- what is returned: new, or what the names at U held -/
def PR (X : Cx) (Fp : Nat → List Addr) (U : List Nat) (m : Mode) : Hp → Hp → Hp → V → D → Prop := fun H0 Hs H v d => ∃ F, Own (mkM X) Hs H m v d F ∧ F.Nodup ∧ ∀ a ∈ F, H0 a = none ∨ ∃ i ∈ U, a ∈ Fp i
instance {Fp : Nat → List Addr} {U : List Nat} {m : Mode} : PMono (PR X Fp U m) := ⟨fun e ⟨F, o, n, f⟩ => ⟨F, o, n, fun a ha => (f a ha).imp (fun z => e.free z) id⟩⟩
def JR (X : Cx) (W : WX) (ms : Modes) (U : List Nat) (m : Mode) (e : Expr) (ev : Env → Rs D) : Prop :=
  ∃ t, PE X e t ∧ ∀ B Hs H σ ρ Fp Q, Rel (mkM X) B ms Hs H σ ρ Fp → Post X W (PR X Fp U m) Hs H σ Q (ev ρ) → t σ H Q
theorem jr_of {m : Mode} (h : JG X W (.own m) ms ex ev) : JR X W ms [] m ex ev := by
  obtain ⟨t, h1, h2⟩ := h
  exact ⟨t, h1, fun B Hs H σ ρ Fp Q R p => h2 B Hs H σ ρ Fp Q R (p.imp fun _ _ _ _ _ ⟨F, o, n, f⟩ => ⟨F, o, n, fun a ha => .inl (f a ha)⟩)⟩
/-- one that is no object may be held anyhow -/
theorem jr_flat {l : Lv} {m : Mode} (h : JG X W l ms ex ev) : JR X W ms [] m ex (fl ev) := by
  obtain ⟨t, h1, h2⟩ := h
  refine ⟨t, h1, fun B Hs H σ ρ Fp Q R p => h2 B Hs H σ ρ Fp Q R (p.seq fun d v Hs1 H1 _ e1 r q => ?_)⟩
  by_cases f : d.flat = true
  · rw [if_pos f] at q
    exact q v Hs1 H1 (Ext.refl e1.s2) ⟨[], .flat f ((r.b e1.s2).flat f), .nil, fun _ z => by cases z⟩
  · rw [if_neg f] at q
    exact q.elim
/-- a tuple stands where an own list may -/
def ftup (ev : Env → Rs D) : Env → Rs D := fun ρ => (ev ρ).bind fun d => match d with | .tup ds => .ok (.tup ds) | _ => .bad
theorem jr_tupO {m : Mode} (h : JG X W (.own .S) ms ex ev) : JR X W ms [] (.O m) ex (ftup ev) := by
  obtain ⟨t, h1, h2⟩ := h
  refine ⟨t, h1, fun B Hs H σ ρ Fp Q R p => h2 B Hs H σ ρ Fp Q R (p.seq fun d v Hs1 H1 _ e1 r q => ?_)⟩
  cases d with
  | tup ds => exact q v Hs1 H1 (Ext.refl e1.s2) ⟨[], .shT r.s, .nil, fun _ z => by cases z⟩
  | _ => exact q.elim
/-- a name's own is handed out -/
theorem jr_var (i : Nat) {m : Mode} {x : Str} {pos : Pos} (hm : md ms i = m := by rfl) (hN : X.N[i]? = some x := by rfl) (hv : Vis X.env.scope x := by first | exact Or.inl rfl | exact Or.inr (Or.inl rfl) | exact Or.inr (Or.inr rfl)) (hd : (x == ("__debug__" : Str)) = false := by decide)
    (hcd : (x == ("__classdict__" : Str)) = false := by decide) : JR X W ms [i] m (.Name x pos) (eVar i) := by
  refine ⟨_, pe_var hN hv hd hcd, fun B Hs H σ ρ Fp Q R p => ?_⟩
  unfold eVar at p
  split at p
  · rename_i d hd
    obtain ⟨v, h1, h2⟩ := R.val i d hd
    rw [hm] at h2
    exact ⟨v, h1, p v Hs H (Ext.refl R.sub) ⟨_, h2, R.nd i, fun a ha => .inr ⟨i, List.mem_singleton_self i, ha⟩⟩⟩
  · exact p.elim
def PRs (X : Cx) (Fp : Nat → List Addr) (U : List Nat) (mts : List Mode) : Hp → Hp → Hp → List V → List D → Prop := fun H0 Hs H vs ds => ∃ F, OwnT (mkM X) Hs H mts vs ds F ∧ F.Nodup ∧ ∀ a ∈ F, H0 a = none ∨ ∃ i ∈ U, a ∈ Fp i
instance {Fp : Nat → List Addr} {U : List Nat} {m : List Mode} : PMono (PRs X Fp U m) := ⟨fun e ⟨F, o, n, f⟩ => ⟨F, o, n, fun a ha => (f a ha).imp (fun z => e.free z) id⟩⟩
def JRs (X : Cx) (W : WX) (ms : Modes) (U : List Nat) (m : List Mode) (es : List Expr) (ev : Env → Rs (List D)) : Prop :=
  ∃ t, PA X es t ∧ ∀ B Hs H σ ρ Fp Q, Rel (mkM X) B ms Hs H σ ρ Fp → Post X W (PRs X Fp U m) Hs H σ Q (ev ρ) → t σ H Q
theorem jrs_nil : JRs X W ms [] [] [] aNil := ⟨_, pa_nil, fun B Hs H σ ρ Fp Q R p => p [] Hs H (Ext.refl R.sub) ⟨[], .nil, .nil, fun _ z => by cases z⟩⟩
theorem OwnT.ext {M : MK} {Hs H Hs' H' : Hp} {m : List Mode} {v : List V} {d : List D} {F : List Addr} (h : OwnT M Hs H m v d F) (e : Ext Hs H Hs' H') : OwnT M Hs' H' m v d F :=
  h.move e.s1 (fun a ha => by
    obtain ⟨n, o, q, k⟩ := h.none a ha
    exact e.s4 a o q k n) fun a o q _ => e.s3 a o q
theorem jrs_cons {U V : List Nat} {m : Mode} {mts : List Mode} {a : Expr} {ea : Env → Rs D} {es : List Expr} {evs : Env → Rs (List D)} (h : JR X W ms U m a ea) (k : JRs X W ms V mts es evs) (hd : ∀ i ∈ U, i ∉ V := by decide) (hs : starEach (a :: es) X.env = (false, eval a X.env) :: starEach es X.env := by rfl) :
    JRs X W ms (U ++ V) (m :: mts) (a :: es) (aCons ea evs) := by
  obtain ⟨ta, h1, h2⟩ := h
  obtain ⟨tb, k1, k2⟩ := k
  refine ⟨_, pa_cons h1 k1 hs, fun B Hs H σ ρ Fp Q R p => h2 B Hs H σ ρ Fp _ R (p.seq fun d x Hs1 H1 _ e1 r1 q1 => ?_)⟩
  have R1 := R.step e1
  have q1' : Post X W (PRs X Fp (U ++ V) (m :: mts)) Hs H σ Q ((evs ρ).bind fun ds => Rs.ok (d :: ds)) := by
    rename_i hd'
    have p2 : Post X W (PRs X Fp (U ++ V) (m :: mts)) Hs H σ Q ((ea ρ).bind fun d => (evs ρ).bind fun ds => Rs.ok (d :: ds)) := p
    rw [hd'] at p2
    exact p2
  refine k2 B Hs1 H1 σ ρ Fp _ R1 ?_
  cases z : evs ρ with
  | exc c fs => rw [z] at q1; exact q1
  | bad => rw [z] at q1; exact q1.elim
  | ok ds =>
    rw [z] at q1'
    intro xs Hs2 H2 e2 ⟨G, o2, n2, f2⟩
    obtain ⟨F, o1, n1, f1⟩ := r1
    refine q1' _ Hs2 H2 (e1.trans e2) ⟨F ++ G, .cons (o1.ext e2) o2, List.nodup_append.mpr ⟨n1, n2, fun a ha b hb e => ?_⟩, fun a ha => ?_⟩
    · subst e
      obtain ⟨_, u, hu, _⟩ := o1.none a ha
      rcases f2 a hb with g | ⟨j, hj, g⟩
      · rw [g] at hu; cases hu
      · rcases f1 a ha with y | ⟨i, hi, y⟩
        · obtain ⟨_, u2, hu2, _⟩ := R.has g
          rw [y] at hu2; cases hu2
        · exact R.dj i j (fun e => hd i hi (by rw [e]; exact hj)) a y g
    · rcases List.mem_append.mp ha with ha | ha
      · rcases f1 a ha with y | ⟨i, hi, y⟩
        · exact .inl y
        · exact .inr ⟨i, List.mem_append_left _ hi, y⟩
      · rcases f2 a ha with y | ⟨i, hi, y⟩
        · exact .inl (e1.s3.free y)
        · exact .inr ⟨i, List.mem_append_right _ hi, y⟩
theorem OwnT.length {M : MK} {Hs H : Hp} : ∀ {m : List Mode} {v : List V} {d : List D} {F : List Addr}, OwnT M Hs H m v d F → v.length = d.length
  | _, _, _, _, .nil => rfl
  | _, _, _, _, .cons _ l => by simp [OwnT.length l]
theorem Own.key {M : MK} {Hs H : Hp} {m : Mode} {k : Key} {d : D} {F : List Addr} (h : Own M Hs H m (kV k) d F) : Den M Hs (kV k) d ∧ d.flat = true := by
  cases k with
  | inl i =>
    have h' : Own M Hs H m (.int i) d F := h
    cases h' with
    | sh g => exact ⟨g, by cases g; rfl⟩
    | flat f g => exact ⟨g, f⟩
    | shT g => cases g
    | fT g _ => cases g
  | inr i =>
    have h' : Own M Hs H m (.str i) d F := h
    cases h' with
    | sh g => exact ⟨g, by cases g; rfl⟩
    | flat f g => exact ⟨g, f⟩
    | shT g => cases g
    | fT g _ => cases g
theorem OwnT.keys {M : MK} {Hs H : Hp} : ∀ {mts : List Mode} {ks : List Key} {vs : List V} {ds : List D} {F : List Addr}, vs = ks.map kV → OwnT M Hs H mts vs ds F → DenL M Hs vs ds ∧ ∀ d ∈ ds, d.flat = true
  | _, [], _, _, _, e, h => by
    subst e
    cases h
    exact ⟨.nil, fun _ z => by cases z⟩
  | _, k :: ks, _, _, _, e, h => by
    subst e
    simp only [List.map_cons] at h
    cases h with
    | cons o t =>
      obtain ⟨a, b⟩ := o.key
      obtain ⟨c, d⟩ := OwnT.keys (ks := ks) rfl t
      exact ⟨.cons a c, fun x hx => by
        rcases List.mem_cons.mp hx with rfl | hx
        · exact b
        · exact d x hx⟩
theorem jr_tup {U : List Nat} {mts : List Mode} {es : List Expr} {evs : Env → Rs (List D)} {x1} (h : JRs X W ms U mts es evs) : JR X W ms U (.T mts) (.Tuple es x1 pos) (eTup evs) := by
  obtain ⟨ta, h1, h2⟩ := h
  refine ⟨_, pe_tup h1, fun B Hs H σ ρ Fp Q R p => h2 B Hs H σ ρ Fp _ R ?_⟩
  cases z : evs ρ with
  | exc c fs => have p2 : Post X W (PR X Fp U (.T mts)) Hs H σ Q ((evs ρ).bind fun ds => if ds.length ≤ 1000 then .ok (.tup ds) else .bad) := p; rw [z] at p2; exact p2
  | bad => have p2 : Post X W (PR X Fp U (.T mts)) Hs H σ Q ((evs ρ).bind fun ds => if ds.length ≤ 1000 then .ok (.tup ds) else .bad) := p; rw [z] at p2; exact p2.elim
  | ok ds =>
    have p2 : Post X W (PR X Fp U (.T mts)) Hs H σ Q ((evs ρ).bind fun ds => if ds.length ≤ 1000 then .ok (.tup ds) else .bad) := p
    rw [z] at p2
    intro xs Hs1 H1 e1 ⟨F, o, n, f⟩
    by_cases c : ds.length ≤ 1000
    · rw [Rs.bind_ok, if_pos c] at p2
      by_cases kk : ∃ ks : List Key, xs = ks.map kV
      · obtain ⟨ks, ek⟩ := kk
        obtain ⟨dl, fl⟩ := o.keys ek
        exact ⟨by rw [o.length]; exact small_line c, fun q np => p2 _ _ _ (e1.trans (Ext.new e1.s2 np)) ⟨[], .fT (.tup upd_same (dl.mono (same_upd (e1.s2.free np)))) fl, .nil, fun _ z => by cases z⟩⟩
      refine ⟨by rw [o.length]; exact small_line c, fun q np => p2 _ _ _ (e1.trans (Ext.newO e1.s2 np)) ⟨q :: F, .tup ⟨e1.s2.free np, fun ks z => kk ⟨ks, z⟩⟩ upd_same (o.ext (Ext.newO e1.s2 np)), List.nodup_cons.mpr ⟨fun hq => ?_, n⟩, fun a ha => ?_⟩⟩
      · obtain ⟨_, u, hu, _⟩ := o.none q hq
        rw [np] at hu; cases hu
      · rcases List.mem_cons.mp ha with rfl | ha
        · exact .inl (e1.s3.free np)
        · exact f a ha
    · rw [Rs.bind_ok, if_neg c] at p2; exact p2.elim
def sRet (ev : Env → Rs D) : Env → Out := fun ρ => sBind (ev ρ) ρ fun d => .rt d
theorem js_ret {U : List Nat} (hx : XOk mx ms) (he : JR X W ms U rm ex ev) : JS X W mx ml rm ms (.Return (some ex) pos) ms' (sRet ev) := by
  obtain ⟨t, h1, h2⟩ := he
  refine ⟨_, ps_ret h1, fun B Hs H σ ρ Fp E R p => h2 B Hs H σ ρ Fp _ R (SPost.bind R hx p fun d v Hs1 H1 e1 R1 r q => ?_)⟩
  obtain ⟨F, o, n, f⟩ := r
  refine q Hs1 H1 v R1.ext ⟨F, o, n, fun a ha => ?_⟩
  rcases f a ha with y | ⟨i, hi, y⟩
  · exact R.ext.s3.free y
  · exact R.fr i a y
def sRetN : Env → Out := fun _ => .rt .non
theorem js_retN : JS X W mx ml rm ms (.Return none pos) ms' sRetN := ⟨_, ps_retN, fun B Hs H σ ρ Fp E R p => p Hs H .non R.ext ⟨[], .flat rfl .non, .nil, fun _ z => by cases z⟩⟩
end
end G
/-! G: statements that change what a name holds -/
namespace G
open PySem PySem.Spec L2
open PyProof.Rows hiding St
section
variable {X : Cx} {W : WX} {mx : Option Modes} {ml : Modes} {rm : Mode} {ms ms' : Modes} {B : Hp × Hp} {Hs H : Hp} {σ : St} {ρ : Env} {Fp : Nat → List Addr} {E : Ends} {M : MK}
/-- the thing at a, which slot i holds, is changed -/
theorem Rel.write {i : Nat} {a : Addr} {w : V} {o : HO} {F : List Addr} {d' : D} {m' : Mode} (R : Rel M B ms Hs H σ ρ Fp) (hi : i < ms.length) (ha : a ∈ Fp i) (hσ : σ[i]? = some (some w))
    (h : Own M Hs (upd H a o) m' w d' F) (hn : F.Nodup) (hF : ∀ b ∈ F, b ∈ Fp i ∨ (B.2 b = none ∧ ∀ j, b ∉ Fp j)) :
    ∃ Fp', Rel M B (ms.set i m') Hs (upd H a o) σ (ρ.set i (some d')) Fp' := by
  have na : Hs a = none := (R.has ha).1
  have nB : B.2 a = none := R.fr i a ha
  have sH : Same Hs (upd H a o) := fun b u q => by
    rw [upd_ne (fun z => by rw [z, na] at q; cases q)]
    exact R.sub _ _ q
  have e : Ext B.1 B.2 Hs (upd H a o) := ⟨R.ext.s1, sH, fun b u q => by
    rw [upd_ne (fun z => by rw [z, nB] at q; cases q)]
    exact R.ext.s3 _ _ q, R.ext.s4⟩
  have hρ : i < ρ.length := by rw [← R.lm]; exact hi
  refine ⟨fun j => if j = i then F else Fp j, e, by simpa using R.len, by simpa using R.lm, fun j x q => ?_, fun j q => ?_, fun j => ?_, fun j b hb => ?_, fun j k hjk b hb => ?_⟩
  · by_cases z : j = i
    · subst z
      rw [List.getElem?_set_self hρ] at q
      cases q
      refine ⟨_, hσ, ?_⟩
      rw [md_set_self hi, if_pos rfl]
      exact h
    · rw [List.getElem?_set_ne (Ne.symm z)] at q
      obtain ⟨w, h1, h2⟩ := R.val j x q
      refine ⟨w, h1, ?_⟩
      rw [md_set_ne (Ne.symm z), if_neg z]
      exact h2.move (Same.refl _) (fun b hb => (R.has hb).1) fun b u q hb => by rw [upd_ne (fun y => R.dj j i z b hb (by rw [y]; exact ha))]; exact q
  · by_cases z : j = i
    · subst z; exact absurd (List.getElem?_set_self hρ) (q d')
    · simp only [if_neg z]
      exact R.off j fun d y => q d (by rw [List.getElem?_set_ne (Ne.symm z)]; exact y)
  · by_cases z : j = i
    · simp only [if_pos z]; exact hn
    · simp only [if_neg z]; exact R.nd j
  · by_cases z : j = i
    · simp only [if_pos z] at hb
      rcases hF b hb with y | y
      · exact R.fr i b y
      · exact y.1
    · simp only [if_neg z] at hb; exact R.fr j b hb
  · by_cases z : j = i
    · simp only [if_pos z] at hb
      have z2 : k ≠ i := fun y => hjk (z.trans y.symm)
      simp only [if_neg z2]
      rcases hF b hb with y | y
      · exact R.dj i k (Ne.symm z2) b y
      · exact y.2 k
    · simp only [if_neg z] at hb
      by_cases z2 : k = i
      · simp only [if_pos z2]
        intro y
        rcases hF b y with w | w
        · exact R.dj j i z b hb w
        · exact w.2 j hb
      · simp only [if_neg z2]; exact R.dj j k hjk b hb
theorem md_same {i : Nat} (hi : i < ms.length) : ms.set i (md ms i) = ms := by
  apply List.ext_getElem?
  intro j
  by_cases e : i = j
  · subst e
    rw [List.getElem?_set_self hi]
    unfold md
    rw [List.getD_eq_getElem?_getD, List.getElem?_eq_getElem hi]
    rfl
  · rw [List.getElem?_set_ne e]
/-- .. a list's -/
theorem Rel.writeL {i : Nat} {m : Mode} {a : Addr} {ws : List V} {es : List D} {F G : List Addr} (R : Rel M B ms Hs H σ ρ Fp) (hi : i < ms.length) (hm : md ms i = .O m) (hσ : σ[i]? = some (some (.ref a))) (hF : Fp i = a :: F)
    (l : OwnL M Hs H m ws es G) (hn : G.Nodup) (hG : ∀ b ∈ G, b ∈ F ∨ (B.2 b = none ∧ ∀ j, b ∉ Fp j)) : ∃ Fp', Rel M B ms Hs (upd H a (.lst ws)) σ (ρ.set i (some (.lst es))) Fp' := by
  have ha : a ∈ Fp i := by rw [hF]; exact List.mem_cons_self
  have nd : a ∉ F := by have := R.nd i; rw [hF] at this; exact (List.nodup_cons.mp this).1
  have nG : a ∉ G := fun z => by
    rcases hG a z with y | y
    · exact nd y
    · exact y.2 i ha
  have e := R.write (m' := .O m) (F := a :: G) (o := .lst ws) (d' := .lst es) hi ha hσ (.lst (R.has ha).1 upd_same (l.move (Same.refl _) (fun b hb => (l.none b hb).1) fun b u q hb => by rw [upd_ne (fun z => nG (by rw [← z]; exact hb))]; exact q))
    (List.nodup_cons.mpr ⟨nG, hn⟩) fun b hb => by
      rcases List.mem_cons.mp hb with z | hb
      · exact .inl (by rw [z]; exact ha)
      · exact (hG b hb).imp (fun y => by rw [hF]; exact List.mem_cons_of_mem _ y) id
  rw [← hm, md_same hi] at e
  exact e
/-- a slot that holds a list -/
theorem Rel.lst {i : Nat} {m : Mode} {ds : List D} (R : Rel M B ms Hs H σ ρ Fp) (hm : md ms i = .O m) (h : ρ[i]? = some (some (.lst ds))) : ∃ a vs F, σ[i]? = some (some (.ref a)) ∧ H a = some (.lst vs) ∧ OwnL M Hs H m vs ds F ∧ Fp i = a :: F := by
  obtain ⟨v, h1, h2⟩ := R.val i _ h
  rw [hm] at h2
  generalize hq : Fp i = G at h2
  cases h2 with
  | flat f _ => cases f
  | lst n q l => exact ⟨_, _, _, h1, q, l, rfl⟩
theorem OwnL.length {M : MK} {Hs H : Hp} : ∀ {m : Mode} {v : List V} {d : List D} {F : List Addr}, OwnL M Hs H m v d F → v.length = d.length
  | _, _, _, _, .nil => rfl
  | _, _, _, _, .cons _ l => by simp [OwnL.length l]
theorem OwnL.app {M : MK} {Hs H : Hp} : ∀ {m : Mode} {v w : List V} {d e : List D} {F G : List Addr}, OwnL M Hs H m v d F → OwnL M Hs H m w e G → OwnL M Hs H m (v ++ w) (d ++ e) (F ++ G)
  | _, _, _, _, _, _, _, .nil, s => s
  | _, _, _, _, _, _, _, .cons h l, s => by
    rw [List.append_assoc]
    exact .cons h (OwnL.app l s)

/-! ### x.append(e) and its like -/
/-- slot i holds a list; what is handed in is e; the list becomes f ds e -/
def sLm {α : Type} (i : Nat) (ev : Env → Rs α) (f : List D → α → Option (List D)) : Env → Out := fun ρ => match ρ[i]? with
  | some (some (.lst ds)) => sBind (ev ρ) ρ fun e => match f ds e with
    | some ds' => .nx (ρ.set i (some (.lst ds')))
    | none => .bad
  | _ => .bad
/-- what is new is not held yet -/
theorem Rel.fresh {F : List Addr} (R : Rel M B ms Hs H σ ρ Fp) (hf : ∀ b ∈ F, H b = none) : ∀ b ∈ F, B.2 b = none ∧ ∀ j, b ∉ Fp j := fun b hb =>
  ⟨R.ext.s3.free (hf b hb), fun j hj => by obtain ⟨_, u, q, _⟩ := R.has hj; rw [hf b hb] at q; cases q⟩
variable {ox a ce : Expr} {st : Stmt} {ea : Env → Rs D}
/-- one argument: P tells how it stands. step: the list's heap behind -/
theorem js_lm {α : Type} {r : V → List V → Hp → VK → Prop} {args : List Expr} {ta : TA} {P : Hp → Hp → Hp → List V → α → Prop} {ev : Env → Rs α} {f : List D → α → Option (List D)} {m : Mode} (i : Nat) (hx : XOk mx ms) (hi : i < ms.length) (hm : md ms i = .O m)
    (hpe : ∀ tr, PE X ox tr → PE X ce (tBM X.K "list" r tr ta)) (hst : ∀ te, PE X ce te → PS X st (tDrop te)) (hv : PE X ox (tVar i))
    (ha : ∀ B Hs H σ ρ Fp Q, Rel (mkM X) B ms Hs H σ ρ Fp → Post X W P Hs H σ Q (ev ρ) → ta σ H Q)
    (step : ∀ (B : Hp × Hp) Hs0 H0 Hs H σ ρ Fp a vs ds F e xs ds' (Q : VK), Ext Hs0 H0 Hs H → Rel (mkM X) B ms Hs0 H0 σ ρ Fp → Rel (mkM X) B ms Hs H σ ρ Fp → σ[i]? = some (some (.ref a)) → H a = some (.lst vs) → OwnL (mkM X) Hs H m vs ds F → Fp i = a :: F → P H0 Hs H xs e → f ds e = some ds' →
      (∀ v ws G, OwnL (mkM X) Hs H m ws ds' G → G.Nodup → (∀ b ∈ G, b ∈ F ∨ (B.2 b = none ∧ ∀ j, b ∉ Fp j)) → Q v (upd H a (.lst ws))) → r (.ref a) xs H Q) :
    JS X W mx ml rm ms st ms (sLm i ev f) := by
  refine ⟨_, hst _ (hpe _ hv), fun B Hs H σ ρ Fp E R p => ?_⟩
  unfold sLm at p
  split at p
  · rename_i ds hρ
    obtain ⟨a, vs, F, h1, h2, h3, h4⟩ := R.lst hm hρ
    refine ⟨.ref a, h1, .inl ⟨rfl, vs, SqL.of h2⟩, ha B Hs H σ ρ Fp _ R (SPost.bind R hx p fun e xs Hs1 H1 e1 R1 q p1 => ?_)⟩
    split at p1
    · rename_i ds' hf
      refine step B Hs H Hs1 H1 σ ρ Fp a vs ds F e xs ds' _ e1 R R1 h1 (e1.s3 _ _ h2) (h3.ext e1) h4 q hf fun v ws G l n g => ?_
      obtain ⟨Fp', R'⟩ := R1.writeL hi hm h1 h4 l n g
      exact p1 Hs1 _ σ Fp' R'
    · exact p1.elim
  · exact p.elim
theorem nodF {i : Nat} {a : Addr} {F : List Addr} (R : Rel M B ms Hs H σ ρ Fp) (h : Fp i = a :: F) : F.Nodup := by
  have := R.nd i
  rw [h] at this
  exact (List.nodup_cons.mp this).2
def P1 (X : Cx) (l : Lv) : Hp → Hp → Hp → List V → D → Prop := fun H0 Hs H xs e => ∃ x, xs = [x] ∧ RDen l (mkM X) H0 Hs H x e
instance {l : Lv} : PMono (P1 X l) := ⟨fun e ⟨x, a, b⟩ => ⟨x, a, b.back e⟩⟩
theorem arg1 {l : Lv} {ta : TE} (h2 : ∀ B Hs H σ ρ Fp Q, Rel (mkM X) B ms Hs H σ ρ Fp → Post X W (PV X l) Hs H σ Q (ea ρ) → ta σ H Q) : ∀ B Hs H σ ρ Fp Q, Rel (mkM X) B ms Hs H σ ρ Fp → Post X W (P1 X l) Hs H σ Q (ea ρ) → tCons ta tNil σ H Q := by
  intro B Hs H σ ρ Fp Q R p
  refine h2 B Hs H σ ρ Fp _ R ?_
  cases z : ea ρ with
  | ok d => rw [z] at p; exact fun v Hs' H' e r => p [v] Hs' H' e ⟨v, rfl, r⟩
  | exc c fs => rw [z] at p; exact p
  | bad => rw [z] at p; exact p
def fAppend (ds : List D) (e : D) : Option (List D) := if ds.length < cap then some (ds ++ [e]) else none
theorem js_append {m : Mode} (i : Nat) (hx : XOk mx ms) (hpe : ∀ tr ta, PE X ox tr → PE X a ta → PE X ce (tBM X.K "list" rAppend tr (tCons ta tNil))) (hst : ∀ te, PE X ce te → PS X st (tDrop te)) (hv : PE X ox (tVar i)) (he : JG X W (.own m) ms a ea)
    (hm : md ms i = .O m := by rfl) (hi : i < ms.length := by first | decide | simp) : JS X W mx ml rm ms st ms (sLm i ea fAppend) := by
  obtain ⟨t, h1, h2⟩ := he
  refine js_lm (P := P1 X (.own m)) (args := []) i hx hi hm (fun tr h => hpe tr t h h1) hst hv (arg1 h2) ?_
  intro B Hs0 H0 Hs H σ ρ Fp a vs ds F e xs ds' Q ex R0 R hσ ha l hF hP hf k
  obtain ⟨x, rfl, G, o, n, f⟩ := hP
  unfold fAppend at hf
  split at hf
  · rename_i c
    cases hf
    refine ⟨a, vs, x, rfl, rfl, ha, by rw [l.length]; exact cap_lt c, k _ _ (F ++ (G ++ [])) (l.app (.cons o .nil)) ?_ ?_⟩
    · rw [List.append_nil]
      refine List.nodup_append.mpr ⟨nodF R hF, n, fun y hy z hz e => ?_⟩
      subst e
      exact (R0.fresh f y hz).2 i (by rw [hF]; exact List.mem_cons_of_mem _ hy)
    · intro y hy
      rw [List.append_nil] at hy
      rcases List.mem_append.mp hy with hy | hy
      · exact .inl hy
      · exact .inr (R0.fresh f y hy)
  · cases hf
/-- .extend of a list whose items are shared -/
def rExtend2 : V → List V → Hp → VK → Prop := fun x vs H Q => ∃ l b xs zs, x = .ref l ∧ vs = [.ref b] ∧ H l = some (.lst xs) ∧ Rd H b (.lst zs) ∧ xs.length + zs.length ≤ sizeLine ∧ Q .non (upd H l (.lst (xs ++ zs)))
theorem mt_extend2 : MtR X "list.extend" rExtend2 := by
  intro pins s σ H x vs v us Q I rx rv h
  obtain ⟨l, b, xs, zs, rfl, rfl, hH, hB, hz, q⟩ := h
  cases rx
  obtain ⟨u, rfl, ru⟩ := rv.one
  cases ru
  obtain ⟨z, its, n, r, hl, e⟩ := I.lstM hH
  obtain ⟨z2, its2, n2, r2, hl2, e2⟩ := rd_lst I hB
  have hsz : its.toArray.size + its2.toArray.size ≤ sizeLine := by rw [List.size_toArray, List.size_toArray]; omega
  have hlong : ¬ (!its.toArray.isEmpty && Builtin.List.listTooLong (its.toArray.size + its2.toArray.size)) = true := by
    rw [notLongL hsz, Bool.and_false]
    exact Bool.false_ne_true
  refine call_meets F.slot_list_extend ⟨_, e, rfl⟩ F.entry_list_extend (F.args_list_extend_2 _ _)
    (AutoSeq1.list_extend_list_list_0 l its.toArray n b its2.toArray n2 hlong (by rw [List.size_toArray]; omega) (by omega)) ⟨e, e2, ?_⟩
  refine ⟨.non, _, I.lset (its' := its ++ its2) hH e (by simp) (r.append r2) ?_, rfl, q⟩
  rw [List.length_append]
  omega
def fExtend (ds : List D) (e : D) : Option (List D) := match e with
  | .lst es => if ds.length + es.length ≤ cap then some (ds ++ es) else none
  | _ => none
theorem OwnL.shared {M : MK} {Hs H : Hp} {vs ws : List V} {ds es : List D} {F : List Addr} (l : OwnL M Hs H .S vs ds F) (k : DenL M Hs (vs ++ ws) (ds ++ es)) : OwnL M Hs H .S (vs ++ ws) (ds ++ es) [] := OwnL.sh k
theorem js_extend {l : Lv} (hl : l.sh = true) (i : Nat) (hx : XOk mx ms) (hpe : ∀ tr ta, PE X ox tr → PE X a ta → PE X ce (tBM X.K "list" rExtend2 tr (tCons ta tNil))) (hst : ∀ te, PE X ce te → PS X st (tDrop te)) (hv : PE X ox (tVar i)) (he : JG X W l ms a ea)
    (hm : md ms i = .O .S := by rfl) (hi : i < ms.length := by first | decide | simp) : JS X W mx ml rm ms st ms (sLm i ea fExtend) := by
  obtain ⟨t, h1, h2⟩ := he
  refine js_lm (P := P1 X l) (args := []) i hx hi hm (fun tr h => hpe tr t h h1) hst hv (arg1 h2) ?_
  intro B Hs0 H0 Hs H σ ρ Fp a vs ds F e xs ds' Q ex R0 R hσ ha ll hF hP hf k
  obtain ⟨x, rfl, r⟩ := hP
  unfold fExtend at hf
  split at hf
  · rename_i es
    split at hf
    · rename_i c
      cases hf
      obtain ⟨b, ws, rfl, g1, g2, g3, _⟩ := r.lst R.sub
      obtain ⟨dl, rfl⟩ := ll.den_S
      exact ⟨a, b, vs, ws, rfl, rfl, ha, g1, by rw [dl.length, g2.length]; exact cap_line c, k _ _ [] (OwnL.sh (dl.append (g3 hl))) .nil fun b hb => by cases hb⟩
    · cases hf
  · cases hf
/-- .insert(n, e) -/
def PI2 (X : Cx) : Hp → Hp → Hp → List V → (D × D) → Prop := fun H0 Hs H xs e => ∃ x y, xs = [x, y] ∧ Den (mkM X) H x e.1 ∧ Den (mkM X) Hs y e.2
instance : PMono (PI2 X) := ⟨fun _ h => h⟩
def fInsert (ds : List D) (e : D × D) : Option (List D) := match e.1 with
  | .int n => if ds.length < cap ∧ 0 ≤ n ∧ n ≤ 1000000 then some (ds.take n.toNat ++ [e.2] ++ ds.drop n.toNat) else none
  | _ => none
def ePair (ea eb : Env → Rs D) : Env → Rs (D × D) := fun ρ => (ea ρ).bind fun d => (eb ρ).bind fun e => .ok (d, e)
theorem js_insert {l : Lv} {b : Expr} {eb : Env → Rs D} (i : Nat) (hx : XOk mx ms) (hpe : ∀ tr ta tb, PE X ox tr → PE X a ta → PE X b tb → PE X ce (tBM X.K "list" (fun x vs H Q => ∃ (l : Addr) (xs : List V) (i : Int) (y : V), x = .ref l ∧ vs = [.int i, y] ∧ H l = some (.lst xs) ∧ xs.length < sizeLine ∧ 0 ≤ i ∧ i < 2 ^ 63 ∧
    Q .non (upd H l (.lst (xs.take i.toNat ++ [y] ++ xs.drop i.toNat)))) tr (tCons ta (tCons tb tNil)))) (hst : ∀ te, PE X ce te → PS X st (tDrop te)) (hv : PE X ox (tVar i)) (he : JG X W l ms a ea) (hb : JG X W .s ms b eb)
    (hm : md ms i = .O .S := by rfl) (hi : i < ms.length := by first | decide | simp) : JS X W mx ml rm ms st ms (sLm i (ePair ea eb) fInsert) := by
  obtain ⟨t, h1, h2⟩ := he
  obtain ⟨u, k1, k2⟩ := hb
  refine js_lm (P := PI2 X) (args := []) i hx hi hm (fun tr h => hpe tr t u h h1 k1) hst hv (fun B Hs H σ ρ Fp Q R p => ?_) ?_
  · refine h2 B Hs H σ ρ Fp _ R (p.seq fun d v Hs1 H1 _ e1 r q => ?_)
    refine k2 B Hs1 H1 σ ρ Fp _ (R.step e1) (q.seq fun d2 v2 Hs2 H2 _ e2 r2 q2 => ?_)
    exact q2 _ Hs2 H2 (Ext.refl e2.s2) ⟨v, v2, rfl, (r.b e1.s2).mono e2.s3, r2.s⟩
  intro B Hs0 H0 Hs H σ ρ Fp a vs ds F e xs ds' Q ex R0 R hσ ha ll hF hP hf k
  obtain ⟨x, y, rfl, r1, r2⟩ := hP
  obtain ⟨e1, e2⟩ := e
  cases e1 with
  | int n =>
    have hf' : (if ds.length < cap ∧ 0 ≤ n ∧ n ≤ 1000000 then some (ds.take n.toNat ++ [e2] ++ ds.drop n.toNat) else none) = some ds' := hf
    split at hf'
    · rename_i c
      cases hf'
      cases r1
      obtain ⟨dl, rfl⟩ := ll.den_S
      exact ⟨a, vs, n, y, rfl, rfl, ha, by rw [dl.length]; exact cap_lt c.1, c.2.1, by omega, k _ _ [] (OwnL.sh (((dl.take _).append (.cons r2 .nil)).append (dl.drop _))) .nil fun b hb => by cases hb⟩
    · cases hf'
  | _ => cases hf
/-! ### x.clear(), x.reverse(), x.pop() -/
def fClear (_ : List D) (_ : Unit) : Option (List D) := some []
def fReverse (ds : List D) (_ : Unit) : Option (List D) := some ds.reverse
def fPop (ds : List D) (_ : Unit) : Option (List D) := if ds.isEmpty then none else some ds.dropLast
def uOk : Env → Rs Unit := fun _ => .ok ()
theorem js_lm0 {r : V → List V → Hp → VK → Prop} {f : List D → Unit → Option (List D)} (i : Nat) (hi : i < ms.length) (hm : md ms i = .O .S)
    (hpe : ∀ tr, PE X ox tr → PE X ce (tBM0 X.K "list" r tr)) (hst : ∀ te, PE X ce te → PS X st (tDrop te)) (hv : PE X ox (tVar i))
    (step : ∀ Hs H a vs ds ds' (Q : VK), H a = some (.lst vs) → DenL (mkM X) Hs vs ds → f ds () = some ds' → (∀ v ws, DenL (mkM X) Hs ws ds' → Q v (upd H a (.lst ws))) → r (.ref a) [] H Q) :
    JS X W mx ml rm ms st ms (sLm i uOk f) := by
  refine ⟨_, hst _ (hpe _ hv), fun B Hs H σ ρ Fp E R p => ?_⟩
  unfold sLm at p
  split at p
  · rename_i ds hρ
    obtain ⟨a, vs, F, h1, h2, h3, h4⟩ := R.lst hm hρ
    obtain ⟨dl, rfl⟩ := h3.den_S
    have p' : SPost X W mx ml rm B ms E (match f ds () with | some ds' => Out.nx (ρ.set i (some (.lst ds'))) | none => .bad) := p
    split at p'
    · rename_i ds' hf
      refine ⟨.ref a, h1, .inl ⟨rfl, vs, SqL.of h2⟩, step Hs H a vs ds ds' _ h2 dl hf fun v ws l => ?_⟩
      obtain ⟨Fp', R'⟩ := R.writeL hi hm h1 h4 (OwnL.sh l) .nil fun b hb => by cases hb
      exact p' Hs _ σ Fp' R'
    · exact p'.elim
  · exact p.elim
theorem js_clear (i : Nat) (hpe : ∀ tr, PE X ox tr → PE X ce (tBM0 X.K "list" rClear tr)) (hst : ∀ te, PE X ce te → PS X st (tDrop te)) (hv : PE X ox (tVar i)) (hm : md ms i = .O .S := by rfl) (hi : i < ms.length := by first | decide | simp) :
    JS X W mx ml rm ms st ms (sLm i uOk fClear) := js_lm0 i hi hm hpe hst hv fun Hs H a vs ds ds' Q ha l hf k => by
  cases hf
  exact ⟨a, vs, rfl, rfl, ha, k _ _ .nil⟩
theorem js_reverse (i : Nat) (hpe : ∀ tr, PE X ox tr → PE X ce (tBM0 X.K "list" rReverse tr)) (hst : ∀ te, PE X ce te → PS X st (tDrop te)) (hv : PE X ox (tVar i)) (hm : md ms i = .O .S := by rfl) (hi : i < ms.length := by first | decide | simp) :
    JS X W mx ml rm ms st ms (sLm i uOk fReverse) := js_lm0 i hi hm hpe hst hv fun Hs H a vs ds ds' Q ha l hf k => by
  cases hf
  exact ⟨a, vs, rfl, rfl, ha, k _ _ l.reverse⟩
theorem js_pop (i : Nat) (hpe : ∀ tr, PE X ox tr → PE X ce (tBM0 X.K "list" rPop tr)) (hst : ∀ te, PE X ce te → PS X st (tDrop te)) (hv : PE X ox (tVar i)) (hm : md ms i = .O .S := by rfl) (hi : i < ms.length := by first | decide | simp) :
    JS X W mx ml rm ms st ms (sLm i uOk fPop) := js_lm0 i hi hm hpe hst hv fun Hs H a vs ds ds' Q ha l hf k => by
  unfold fPop at hf
  split at hf
  · cases hf
  · rename_i c
    cases hf
    have hne : vs.length - 1 < vs.length := by
      cases vs with
      | nil => cases l; exact absurd rfl c
      | cons v vs => simp
    exact ⟨a, vs, vs[vs.length - 1], rfl, rfl, ha, List.getElem?_eq_getElem hne, k _ _ l.dropLast⟩

/-! ### x[k] = e -/
theorem PSet.or {r r' : TSet} (h : PSet X r) (h' : PSet X r') : PSet X (fun o i v H Q => r o i v H Q ∨ r' o i v H Q) := by
  intro pins s σ H o i v ov iv u Q I ro ri rv q
  rcases q with q | q
  · exact h pins s σ H o i v ov iv u Q I ro ri rv q
  · exact h' pins s σ H o i v ov iv u Q I ro ri rv q
def rSet5 : TSet := fun o i v H Q => rSetL o i v H Q ∨ rSetD o i v H Q
theorem set5 (hu : X.A.units + 64 < cLine) : PSet X rSet5 := PSet.or set_list (set_dict (by omega))
def fSetIx (o k d : D) : Option D := match o with
  | .lst ds => match k with
    | .int n => (ixN ds.length n).map fun j => .lst (ds.set j d)
    | _ => none
  | .dk kvs => match keyOf k with
    | some q => if kvs.length < cap then some (.dk (put kvs q d)) else none
    | none => none
  | .dt kvs => match k with
    | .tup ks => match keysOf ks with
      | some q => if kvs.length < cap then some (.dt (put kvs q d)) else none
      | none => none
    | _ => none
  | _ => none
def sSetIx (i : Nat) (ek ev : Env → Rs D) : Env → Out := fun ρ => sBind (ev ρ) ρ fun d => match ρ[i]? with
  | some (some o) => sBind (ek ρ) ρ fun k => match fSetIx o k d with
    | some o' => .nx (ρ.set i (some o'))
    | none => .bad
  | _ => .bad
section
variable {κ : Type} [DecidableEq κ]
theorem put_den {M : MK} {G : Hp} {k : κ} {v : V} {d : D} (h : Den M G v d) {kvs : List (κ × V)} {ds : List D} (l : DenL M G (kvs.map (·.2)) ds) :
    ∃ es, put ((kvs.map (·.1)).zip ds) k d = ((putK kvs k v).map (·.1)).zip es ∧ DenL M G ((putK kvs k v).map (·.2)) es := by
  have hl : kvs.length = ds.length := by rw [← l.length, List.length_map]
  have eany : (((kvs.map (·.1)).zip ds).any fun kv => decide (kv.1 = k)) = kvs.any fun kv => decide (kv.1 = k) := by
    clear l
    induction kvs generalizing ds with
    | nil => rfl
    | cons p kvs ih =>
      cases ds with
      | nil => simp at hl
      | cons e ds => simp only [List.map_cons, List.zip_cons_cons, List.any_cons]; rw [ih (by simpa using hl)]
  unfold put putK
  rw [eany]
  split
  · rename_i hc
    clear eany hc
    induction kvs generalizing ds with
    | nil => exact ⟨[], rfl, .nil⟩
    | cons p kvs ih =>
      cases ds with
      | nil => simp at hl
      | cons e ds =>
        cases l with
        | cons l1 l2 =>
          obtain ⟨es, e1, e2⟩ := ih l2 (by simpa using hl)
          simp only [List.map_cons, List.zip_cons_cons]
          rw [e1]
          by_cases c : p.1 = k
          · exact ⟨d :: es, by rw [if_pos c, if_pos c]; rfl, by rw [if_pos c]; exact .cons h e2⟩
          · exact ⟨e :: es, by rw [if_neg c, if_neg c]; rfl, by rw [if_neg c]; exact .cons l1 e2⟩
  · refine ⟨ds ++ [d], ?_, ?_⟩
    · rw [List.map_append, List.zip_append (by rw [List.length_map]; exact hl)]
      rfl
    · rw [List.map_append]
      exact l.append (.cons h .nil)
end
theorem Rel.own1 {i : Nat} {d : D} (R : Rel M B ms Hs H σ ρ Fp) (h : ρ[i]? = some (some d)) : ∃ v, σ[i]? = some (some v) ∧ Own M Hs H (md ms i) v d (Fp i) := R.val i d h
theorem js_setIx {l : Lv} {k : Expr} {ek : Env → Rs D} (i : Nat) (hx : XOk mx ms) (hst : ∀ te to ti, PE X a te → PE X ox to → PE X k ti → PS X st (tAsg te (gSub to ti rSet5))) (hv : PE X ox (tVar i)) (hk : JG X W l ms k ek) (he : JG X W .s ms a ea)
    (hm : md ms i = .O .S := by rfl) (hi : i < ms.length := by first | decide | simp) : JS X W mx ml rm ms st ms (sSetIx i ek ea) := by
  obtain ⟨t, h1, h2⟩ := he
  obtain ⟨u, k1, k2⟩ := hk
  refine ⟨_, hst _ _ _ h1 hv k1, fun B Hs H σ ρ Fp E R p => h2 B Hs H σ ρ Fp _ R (SPost.bind R hx p fun d v Hs1 H1 e1 R1 r q => ?_)⟩
  split at q
  · rename_i o ho
    obtain ⟨w, hw, own⟩ := R1.own1 ho
    refine ⟨w, hw, k2 B Hs1 H1 σ ρ Fp _ R1 (SPost.bind R1 hx q fun kd kv Hs2 H2 e2 R2 r2 q2 => ?_)⟩
    have own2 := own.ext e2
    have dk := r2.b R2.sub
    have dv := r.s.mono e2.s1
    rw [hm] at own2
    generalize hq : Fp i = G at own2
    split at q2
    · rename_i o' hf
      cases own2 with
      | flat f hfl => cases hfl <;> first | cases hf | cases f
      | shT _ => cases hf
      | lst n g ll =>
        obtain ⟨dl, rfl⟩ := ll.den_S
        cases dk with
        | int z =>
          obtain ⟨j, hj, rfl⟩ := Option.map_eq_some_iff.mp (show (ixN _ z).map _ = some o' from hf)
          rw [← dl.length] at hj
          refine .inl ⟨_, _, z, j, rfl, rfl, g, hj, ?_⟩
          obtain ⟨Fp', R'⟩ := R2.writeL hi hm hw hq (OwnL.sh (dl.set dv j)) .nil fun b hb => by cases hb
          exact q2 Hs2 _ σ Fp' R'
        | _ => cases hf
      | @dk _ aa kvs ks ds F n g hks ll =>
        obtain ⟨dl, rfl⟩ := ll.den_S
        subst hks
        have hf' : (match keyOf kd with | some q => if ((kvs.map (·.1)).zip ds).length < cap then some (D.dk (put ((kvs.map (·.1)).zip ds) q d)) else none | none => none) = some o' := hf
        cases hkey : keyOf kd with
        | none => rw [hkey] at hf'; cases hf'
        | some kk =>
          rw [hkey] at hf'
          simp only at hf'
          split at hf'
          · rename_i c
            cases hf'
            have ey := keyOf_den dk hkey
            subst ey
            obtain ⟨es, e3, e4⟩ := put_den (k := kk) dv dl
            have hlen : kvs.length < sizeLine := by
              rw [List.length_zip, List.length_map, ← dl.length, List.length_map, Nat.min_self] at c
              exact cap_lt c
            refine .inr ⟨aa, _, rfl, DPut.k g hlen, ?_⟩
            obtain ⟨Fp', R'⟩ := R2.write (m' := .O .S) (F := [aa]) (o := .dK (putK kvs kk v)) (d' := .dk (put ((kvs.map (·.1)).zip ds) kk d)) hi (by rw [hq]; exact List.mem_cons_self) hw
              (by rw [e3]; exact .dk n upd_same rfl (OwnL.sh e4)) (by simp) fun b hb => .inl (by rw [hq, List.mem_singleton.mp hb]; exact List.mem_cons_self)
            rw [← hm, md_same hi] at R'
            exact q2 Hs2 _ σ Fp' R'
          · cases hf'
      | @dt _ aa kvs ks ds F n g hks ll =>
        obtain ⟨dl, rfl⟩ := ll.den_S
        subst hks
        cases dk with
        | @tup ka kvs2 kds ht hl2 =>
          have hf' : (match keysOf kds with | some q => if ((kvs.map (·.1)).zip ds).length < cap then some (D.dt (put ((kvs.map (·.1)).zip ds) q d)) else none | none => none) = some o' := hf
          cases hkey : keysOf kds with
          | none => rw [hkey] at hf'; cases hf'
          | some kk =>
            rw [hkey] at hf'
            simp only at hf'
            split at hf'
            · rename_i c
              cases hf'
              have ey := keysOf_den hl2 hkey
              subst ey
              obtain ⟨es, e3, e4⟩ := put_den (k := kk) dv dl
              have hlen : kvs.length < sizeLine := by
                rw [List.length_zip, List.length_map, ← dl.length, List.length_map, Nat.min_self] at c
                exact cap_lt c
              refine .inr ⟨aa, _, rfl, DPut.t g ht hlen, ?_⟩
              obtain ⟨Fp', R'⟩ := R2.write (m' := .O .S) (F := [aa]) (o := .dT (putK kvs kk v)) (d' := .dt (put ((kvs.map (·.1)).zip ds) kk d)) hi (by rw [hq]; exact List.mem_cons_self) hw
                (by rw [e3]; exact .dt n upd_same rfl (OwnL.sh e4)) (by simp) fun b hb => .inl (by rw [hq, List.mem_singleton.mp hb]; exact List.mem_cons_self)
              rw [← hm, md_same hi] at R'
              exact q2 Hs2 _ σ Fp' R'
            · cases hf'
        | _ => cases hf
    · exact q2.elim
  · exact q.elim
end
end G
/-! G: targets, loops, comprehensions -/
namespace G
open PySem PySem.Spec L2
open PyProof.Rows hiding St

/-! ### slots forgotten -/
theorem wipe_get {σ : St} {i : Nat} : ∀ {vs : List Nat}, i ∉ vs → (wipe σ vs)[i]? = σ[i]?
  | [], _ => rfl
  | v :: vs, h => by
    unfold wipe
    rw [List.getElem?_set_ne (fun e => h (by rw [e]; exact List.mem_cons_self))]
    exact wipe_get fun z => h (List.mem_cons_of_mem _ z)
theorem wipe_in {σ : St} {i : Nat} : ∀ {vs : List Nat}, i ∈ vs → i < σ.length → (wipe σ vs)[i]? = some none
  | [], h, _ => by cases h
  | v :: vs, h, hl => by
    unfold wipe
    by_cases e : v = i
    · subst e
      exact List.getElem?_set_self (by rw [wipe_length]; exact hl)
    · rw [List.getElem?_set_ne e]
      rcases List.mem_cons.mp h with z | z
      · exact absurd z.symm e
      · exact wipe_in z hl
theorem wipe_ext {σ σ' : St} {vs : List Nat} (hl : σ'.length = σ.length) (h : ∀ i, i ∉ vs → σ'[i]? = σ[i]?) : wipe σ' vs = wipe σ vs := by
  apply List.ext_getElem?
  intro i
  by_cases hi : i ∈ vs
  · by_cases z : i < σ.length
    · rw [wipe_in hi z, wipe_in hi (by rw [hl]; exact z)]
    · rw [List.getElem?_eq_none (by rw [wipe_length]; omega), List.getElem?_eq_none (by rw [wipe_length]; omega)]
  · rw [wipe_get hi, wipe_get hi, h i hi]
def wipeE (ρ : Env) : List Nat → Env
  | [] => ρ
  | v :: vs => (wipeE ρ vs).set v none
theorem wipeE_length (ρ : Env) : ∀ vs : List Nat, (wipeE ρ vs).length = ρ.length
  | [] => rfl
  | v :: vs => by unfold wipeE; rw [List.length_set, wipeE_length ρ vs]
theorem Rel.wipe {M : MK} {B : Hp × Hp} {ms : Modes} {Hs H : Hp} {σ : St} {ρ : Env} {Fp : Nat → List Addr} (R : Rel M B ms Hs H σ ρ Fp) : ∀ vs : List Nat, ∃ Fp', Rel M B ms Hs H (wipe σ vs) (wipeE ρ vs) Fp'
  | [] => ⟨Fp, R⟩
  | v :: vs => by
    obtain ⟨Fp', R'⟩ := Rel.wipe R vs
    unfold L2.wipe wipeE
    refine ⟨fun j => if j = v then [] else Fp' j, R'.ext, by simpa using R'.len, by simpa using R'.lm, fun j x q => ?_, fun j q => ?_, fun j => ?_, fun j b hb => ?_, fun j k hjk b hb => ?_⟩
    · by_cases e : v = j
      · subst e
        by_cases z : v < (wipeE ρ vs).length
        · rw [List.getElem?_set_self z] at q; cases q
        · rw [List.getElem?_eq_none (by simpa using z)] at q; cases q
      · rw [List.getElem?_set_ne e] at q
        obtain ⟨w, h1, h2⟩ := R'.val j x q
        exact ⟨w, by rw [List.getElem?_set_ne e]; exact h1, by rw [if_neg (Ne.symm e)]; exact h2⟩
    · by_cases e : j = v
      · simp only [if_pos e]
      · simp only [if_neg e]
        exact R'.off j fun d y => q d (by rw [List.getElem?_set_ne (Ne.symm e)]; exact y)
    · by_cases e : j = v
      · simp only [if_pos e]; exact .nil
      · simp only [if_neg e]; exact R'.nd j
    · by_cases e : j = v
      · simp only [if_pos e] at hb; cases hb
      · simp only [if_neg e] at hb; exact R'.fr j b hb
    · by_cases e : j = v
      · simp only [if_pos e] at hb; cases hb
      · simp only [if_neg e] at hb
        by_cases e2 : k = v
        · simp only [if_pos e2]; intro y; cases y
        · simp only [if_neg e2]; exact R'.dj j k hjk b hb

section
variable {X : Cx} {W : WX} {mx : Option Modes} {ml mh : Modes} {rm : Mode} {ms ms' ms'' : Modes} {B : Hp × Hp} {Hs H : Hp} {σ : St} {ρ : Env} {Fp : Nat → List Addr} {E : Ends} {M : MK}

/-! ### targets -/
abbrev TgtD := D → Env → Option Env
def JGt (X : Cx) (ms : Modes) (tg : Expr) (is : List Nat) (ms' : Modes) (ev : TgtD) : Prop :=
  ∃ g, PG X tg g ∧ ∀ B Hs H σ ρ Fp v d ρ' Q, Rel (mkM X) B ms Hs H σ ρ Fp → Den (mkM X) Hs v d → ev d ρ = some ρ' → (∀ σ' Fp', Rel (mkM X) B ms' Hs H σ' ρ' Fp' → σ'.length = σ.length → (∀ i, i ∉ is → σ'[i]? = σ[i]?) → Q σ' H) → g v σ H Q
def JGts (X : Cx) (ms : Modes) (tg : List Expr) (is : List Nat) (ms' : Modes) (ev : List D → Env → Option Env) : Prop :=
  ∃ g, PGs X tg g ∧ ∀ B Hs H σ ρ Fp v d ρ' Q, Rel (mkM X) B ms Hs H σ ρ Fp → DenL (mkM X) Hs v d → ev d ρ = some ρ' → (∀ σ' Fp', Rel (mkM X) B ms' Hs H σ' ρ' Fp' → σ'.length = σ.length → (∀ i, i ∉ is → σ'[i]? = σ[i]?) → Q σ' H) → g v σ H Q
def tName (i : Nat) : TgtD := fun d ρ => some (ρ.set i (some d))
def tsNil : List D → Env → Option Env := fun ds ρ => match ds with
  | [] => some ρ
  | _ => none
def tsCons (t : TgtD) (u : List D → Env → Option Env) : List D → Env → Option Env := fun ds ρ => match ds with
  | d :: ds => (t d ρ).bind (u ds)
  | [] => none
def tTupN (n : Nat) (u : List D → Env → Option Env) : TgtD := fun d ρ => match d with
  | .tup ds => if ds.length = n then u ds ρ else none
  | .lst ds => if ds.length = n then u ds ρ else none
  | .kt ds => if ds.length = n then u ds ρ else none
  | _ => none
theorem jg_name (i : Nat) {x : Str} {pos : Pos} (hN : X.N.Nodup) (hi : i < ms.length := by first | decide | simp) (hn : X.N[i]? = some x := by rfl) (hl : Loc X.env.scope x := by first | exact Or.inl rfl | exact Or.inr rfl) (hf : X.fn x = true ∨ X.env.scope.names.lookup x = some .local := by first | exact .inl rfl | exact .inr rfl) :
    JGt X ms (.Name x pos) [i] (ms.set i .S) (tName i) := by
  refine ⟨_, pg_name hN hn hl hf, fun B Hs H σ ρ Fp v d ρ' Q R dn e k => ?_⟩
  cases e
  exact k _ _ (R.put hi (.sh dn) .nil (fun _ z => by cases z) fun _ _ _ z => by cases z) (by simp) fun j hj => List.getElem?_set_ne (fun e => hj (by rw [e]; exact List.mem_singleton_self _))
theorem jgs_nil : JGts X ms [] [] ms tsNil := by
  refine ⟨_, pgs_nil, fun B Hs H σ ρ Fp v d ρ' Q R dn e k => ?_⟩
  unfold tsNil at e
  split at e
  · cases e; cases dn; exact ⟨rfl, k σ Fp R rfl fun _ _ => rfl⟩
  · cases e
theorem jgs_cons {e : Expr} {es : List Expr} {t : TgtD} {u : List D → Env → Option Env} {is js : List Nat} (h : JGt X ms e is ms' t) (k : JGts X ms' es js ms'' u) (hs : (assignEach (e :: es) X.env).map (·.2) = assign e X.env :: (assignEach es X.env).map (·.2) := by rfl) :
    JGts X ms (e :: es) (is ++ js) ms'' (tsCons t u) := by
  obtain ⟨g1, h1, h2⟩ := h
  obtain ⟨g2, k1, k2⟩ := k
  refine ⟨_, pgs_cons h1 k1 hs, fun B Hs H σ ρ Fp v d ρ' Q R dn e kk => ?_⟩
  unfold tsCons at e
  split at e
  · cases dn with
    | cons d1 d2 =>
      obtain ⟨ρ1, e1, e2⟩ := Option.bind_eq_some_iff.mp e
      refine ⟨_, _, rfl, h2 B Hs H σ ρ Fp _ _ ρ1 _ R d1 e1 fun σ1 Fp1 R1 l1 n1 => ?_⟩
      exact k2 B Hs H σ1 ρ1 Fp1 _ _ ρ' _ R1 d2 e2 fun σ2 Fp2 R2 l2 n2 => kk σ2 Fp2 R2 (l2.trans l1) fun i hi => (n2 i fun z => hi (List.mem_append_right _ z)).trans (n1 i fun z => hi (List.mem_append_left _ z))
  · cases e
theorem PG.or {tg : Expr} {g g' : TG} (h : PG X tg g) (h' : PG X tg g') : PG X tg (fun v σ H Q => g v σ H Q ∨ g' v σ H Q) := ⟨fun pins s σ H v u Q I r q => by
  rcases q with q | q
  · exact h.run pins s σ H v u Q I r q
  · exact h'.run pins s σ H v u Q I r q⟩
theorem jg_tup {es : List Expr} {k : Nat} {u : List D → Env → Option Env} {n : Nat} {is : List Nat} {pos : Pos} (hc : X.calm = true) (h : JGts X ms es is ms' u) (hn : (assignEach es X.env).length = n := by rfl) (hst : (assignEach es X.env).findIdx? (·.1) = none := by rfl) : JGt X ms (.Tuple es k pos) is ms' (tTupN n u) := by
  obtain ⟨g, h1, h2⟩ := h
  refine ⟨_, PG.or (pg_tup hc h1 hn hst) (pg_unl hc h1 hn hst), fun B Hs H σ ρ Fp v d ρ' Q R dn e kk => ?_⟩
  unfold tTupN at e
  split at e
  · split at e
    · rename_i c
      cases dn with
      | tup t l => exact .inl ⟨_, _, rfl, SqT.of (R.sub _ _ t), by rw [l.length]; exact c, h2 B Hs H σ ρ Fp _ _ ρ' Q R l e kk⟩
    · cases e
  · split at e
    · rename_i c
      cases dn with
      | lst t l => exact .inr ⟨_, _, rfl, .inl (Same.rd R.sub t), by rw [l.length]; exact c, h2 B Hs H σ ρ Fp _ _ ρ' Q R l e kk⟩
    · cases e
  · split at e
    · rename_i c
      cases dn with
      | kt t l => exact .inl ⟨_, _, rfl, Same.seqT R.sub t, by rw [l.length]; exact c, h2 B Hs H σ ρ Fp _ _ ρ' Q R l e kk⟩
    · cases e
  · cases e
/-- target = value -/
def sAsg (t : TgtD) (ev : Env → Rs D) : Env → Out := fun ρ => sBind (ev ρ) ρ fun d => match t d ρ with
  | some ρ' => .nx ρ'
  | none => .bad
variable {tg ex : Expr} {ev : Env → Rs D} {pos : Pos}
theorem js_asg {is : List Nat} {t : TgtD} (hx : XOk mx ms) (he : JG X W .s ms ex ev) (hg : JGt X ms tg is ms' t) (hs : swapsWithSole [tg] ex pos.line X.env = pure false := by rfl) (hw : swappedStores [tg] ex X.env = pure none := by rfl)
    (h1 : (assignEach [tg] X.env).map (·.2) = [assign tg X.env] := by rfl) : JS X W mx ml rm ms (.Assign [tg] ex pos) ms' (sAsg t ev) := by
  obtain ⟨u, e1, e2⟩ := he
  obtain ⟨g, g1, g2⟩ := hg
  refine ⟨_, ps_asg e1 g1 hs hw h1, fun B Hs H σ ρ Fp E R p => e2 B Hs H σ ρ Fp _ R (SPost.bind R hx p fun d v Hs1 H1 e1 R1 r q => ?_)⟩
  split at q
  · rename_i ρ' ht
    exact g2 B Hs1 H1 σ ρ Fp v d ρ' _ R1 r.s ht fun σ' Fp' R' _ _ => q Hs1 H1 σ' Fp' R'
  · exact q.elim
/-- a, b = e, f of plain local names -/
def sPar (i j : Nat) (ea eb : Env → Rs D) : Env → Out := fun ρ => sBind (ea ρ) ρ fun d => sBind (eb ρ) ρ fun e => .nx ((ρ.set i (some d)).set j (some e))
/-- x += e -/
def sAug (i : Nat) (f : D → D → Rs D) (ev : Env → Rs D) : Env → Out := fun ρ => match ρ[i]? with
  | some (some d) => sBind (ev ρ) ρ fun e => sBind (f d e) ρ fun r => .nx (ρ.set i (some r))
  | _ => .bad

/-! ### while -/
def sWhile (c : Env → Rs Bool) (s : Env → Out) : Nat → Env → Out
  | 0, _ => .bad
  | n + 1, ρ => sBind (c ρ) ρ fun k => if k then (match s ρ with
    | .nx ρ' => sWhile c s n ρ'
    | .ct ρ' => sWhile c s n ρ'
    | .bk ρ' => .nx ρ'
    | o => o) else .nx ρ
theorem js_while {c : Expr} {body : List Stmt} {ec : Env → Rs Bool} {eb : Env → Out} (n : Nat) (hx : XOk mx mh) (hp : PassesOwn (model X.prog X.w) X.A X.env X.xe) (hc : JT X W mh c ec) (hb : JSs X W mx mh rm mh body mh eb) : JS X W mx ml rm mh (.While c body [] pos) mh (sWhile ec eb n) := by
  obtain ⟨tc, c1, c2⟩ := hc
  obtain ⟨tb, b1, b2⟩ := hb
  refine ⟨_, ps_while hp c1 b1, fun B Hs H σ ρ Fp E R p => ?_⟩
  refine ⟨fun m σ H => ∃ Hs ρ Fp, Rel (mkM X) B mh Hs H σ ρ Fp ∧ SPost X W mx ml rm B mh E (sWhile ec eb m ρ), ⟨n, Hs, ρ, Fp, R, p⟩, ?_⟩
  rintro m σ1 H1 ⟨Hs1, ρ1, Fp1, R1, p1⟩
  cases m with
  | zero => exact p1.elim
  | succ m =>
    refine c2 B Hs1 H1 σ1 ρ1 Fp1 _ R1 (SPost.bind R1 hx p1 fun k b Hs2 H2 e2 R2 r q => ?_)
    subst r
    cases b with
    | false => exact q Hs2 H2 σ1 Fp1 R2
    | true =>
      refine ⟨fun σ' H' => ∃ Hs ρ Fp, Rel (mkM X) B mh Hs H' σ' ρ Fp ∧ SPost X W mx ml rm B mh E (sWhile ec eb m ρ), fun σ' H' z => ⟨m, Nat.lt_succ_self m, z⟩, b2 B Hs2 H2 σ1 ρ1 Fp1 _ R2 ?_⟩
      have q' : SPost X W mx ml rm B mh E (match eb ρ1 with
        | .nx ρ' => sWhile ec eb m ρ'
        | .ct ρ' => sWhile ec eb m ρ'
        | .bk ρ' => .nx ρ'
        | o => o) := q
      cases z : eb ρ1 with
      | nx ρ' => rw [z] at q'; exact fun Hs3 H3 σ3 Fp3 R3 => ⟨Hs3, ρ', Fp3, R3, q'⟩
      | ct ρ' => rw [z] at q'; exact fun Hs3 H3 σ3 Fp3 R3 => ⟨Hs3, ρ', Fp3, R3, q'⟩
      | bk ρ' => rw [z] at q'; exact q'
      | rt d => rw [z] at q'; exact q'
      | exc c fs ρ' => rw [z] at q'; exact q'
      | bad => rw [z] at q'; exact q'

/-! ### what is walked -/
/-- from the heap on, J gives ds, one after another -/
def ItOk (M : MK) (J : It) (Hs : Hp) (ds : List D) : Prop := ∀ Hs' H', Same Hs Hs' → Same Hs' H' → ∀ i : Nat,
  (∀ d, ds[i]? = some d → J.go i H' ∧ ∀ x H'', J.yld i H' x H'' → ∃ Hs'', Ext Hs' H' Hs'' H'' ∧ Den M Hs'' x d) ∧ (ds.length ≤ i → J.stop i H')
def IPost (X : Cx) (W : WX) (Hs H : Hp) (σ : St) (R : It → Hp → Prop) : Rs (List D) → Prop
  | .ok ds => ∀ J Hs1 H1, Ext Hs H Hs1 H1 → ItOk (mkM X) J Hs1 ds → R J H1
  | .exc c fs => ∀ Hs' H' cls dd, Ext Hs H Hs' H' → ExcAt (mkM X) Hs' c fs cls dd → W cls dd σ H'
  | .bad => False
def JI (X : Cx) (W : WX) (ms : Modes) (tg it : Expr) (ev : Env → Rs (List D)) : Prop :=
  ∃ wi, PI X tg it wi ∧ ∀ B Hs H σ ρ Fp R, Rel (mkM X) B ms Hs H σ ρ Fp → IPost X W Hs H σ R (ev ρ) → wi σ H R
/-- a list's, a tuple's items -/
def dItems : D → Rs (List D)
  | .lst ds => .ok ds
  | .tup ds => .ok ds
  | .kt ds => .ok ds
  | .str x => .ok (x.cps.toList.map fun c => .str ⟨#[c]⟩)
  | _ => .bad
def iOf (f : D → Rs (List D)) (ev : Env → Rs D) : Env → Rs (List D) := fun ρ => (ev ρ).bind f
theorem IPost.seq {r : Rs D} {f : D → Rs (List D)} {l : Lv} {R : It → Hp → Prop} {Q : VK} (p : IPost X W Hs H σ R (r.bind f)) (k : ∀ d v Hs1 H1, Ext Hs H Hs1 H1 → RDen l (mkM X) H Hs1 H1 v d → IPost X W Hs1 H1 σ R (f d) → Q v H1) : Post X W (PV X l) Hs H σ Q r := by
  cases r with
  | ok d =>
    intro v Hs1 H1 e q
    refine k d v Hs1 H1 e q ?_
    have p' : IPost X W Hs H σ R (f d) := p
    cases z : f d with
    | ok ds => rw [z] at p'; exact fun J Hs2 H2 e2 h => p' J Hs2 H2 (e.trans e2) h
    | exc c fs => rw [z] at p'; exact fun Hs2 H2 cls dd e2 h => p' Hs2 H2 cls dd (e.trans e2) h
    | bad => rw [z] at p'; exact p'
  | exc c fs => exact p
  | bad => exact p
theorem itl_ok {a : Addr} {vs : List V} {ds : List D} (h : Rd Hs a (.lst vs)) (l : DenL M Hs vs ds) : ItOk M (Itl M.K a) Hs ds := by
  intro Hs' H' s1 s2 i
  have q : SqL M.K H' a vs := .inl (Same.rd s2 (Same.rd s1 h))
  refine ⟨fun d hd => ?_, fun hi => ⟨vs, q, by rw [l.length]; exact hi⟩⟩
  obtain ⟨v, h1, h2⟩ := l.get hd
  refine ⟨⟨vs, v, q, h1⟩, fun x H'' y => ?_⟩
  obtain ⟨rfl, y⟩ := y
  have := y vs q
  rw [h1] at this
  cases this
  exact ⟨Hs', Ext.refl s2, h2.mono s1⟩
theorem itt_ok {a : Addr} {vs : List V} {ds : List D} (h : SqT M.K Hs a vs) (l : DenL M Hs vs ds) : ItOk M (Itt M.K a) Hs ds := by
  intro Hs' H' s1 s2 i
  have q : SqT M.K H' a vs := Same.seqT s2 (Same.seqT s1 h)
  refine ⟨fun d hd => ?_, fun hi => ⟨vs, q, by rw [l.length]; exact hi⟩⟩
  obtain ⟨v, h1, h2⟩ := l.get hd
  refine ⟨⟨vs, v, q, h1⟩, fun x H'' y => ?_⟩
  obtain ⟨rfl, y⟩ := y
  have := y vs q
  rw [h1] at this
  cases this
  exact ⟨Hs', Ext.refl s2, h2.mono s1⟩
theorem its_ok (x : Str) : ItOk M (Its x) Hs (x.cps.toList.map fun c => D.str ⟨#[c]⟩) := by
  intro Hs' H' s1 s2 i
  refine ⟨fun d hd => ?_, fun hi => by show x.cps.size ≤ i; simpa using hi⟩
  rw [List.getElem?_map] at hd
  obtain ⟨c, h1, rfl⟩ := Option.map_eq_some_iff.mp hd
  have hi : i < x.cps.size := by
    have := (List.getElem?_eq_some_iff.mp h1).1
    simpa using this
  refine ⟨hi, fun y H'' z => ?_⟩
  obtain ⟨rfl, c', h2, rfl⟩ := z
  have : c' = c := by
    rw [Array.getElem?_toList] at h1
    rw [h1] at h2; cases h2; rfl
  subst this
  exact ⟨Hs', Ext.refl s2, .str _⟩
theorem PI.or {tg it : Expr} {w w' : TI} (h : PI X tg it w) (h' : PI X tg it w') : PI X tg it (fun σ H R => w σ H R ∨ w' σ H R) := ⟨fun pins s σ H R I q => by
  rcases q with q | q
  · exact h.run pins s σ H R I q
  · exact h'.run pins s σ H R I q⟩
/-- a list, a tuple or a text -/
theorem ji_seq {l : Lv} {it : Expr} {ei : Env → Rs D} (hl : l = .own .S ∨ l = .t .S) (h : JG X W l ms it ei) : JI X W ms tg it (iOf dItems ei) := by
  obtain ⟨t, h1, h2⟩ := h
  refine ⟨_, G.PI.or (pi_list h1) (G.PI.or (pi_tup h1) (pi_str h1)), fun B Hs H σ ρ Fp R RR p => ?_⟩
  have sh : ∀ {H0 Hs H : Hp} {v d}, RDen l (mkM X) H0 Hs H v d → Den (mkM X) Hs v d := fun {H0 Hs H v d} r => by
    rcases hl with rfl | rfl
    · exact r.s
    · exact r.tS
  have p' : IPost X W Hs H σ R ((ei ρ).bind dItems) := p
  cases z : ei ρ with
  | exc c fs =>
    refine .inl (h2 B Hs H σ ρ Fp _ RR ?_)
    rw [z] at p' ⊢
    exact p'
  | bad => rw [z] at p'; exact p'.elim
  | ok d =>
    rw [z] at p'
    have use : ∀ {Q : VK}, (∀ v Hs1 H1, Ext Hs H Hs1 H1 → Den (mkM X) Hs1 v d → Q v H1) → t σ H Q := fun {Q} k => h2 B Hs H σ ρ Fp Q RR (by rw [z]; exact fun v Hs1 H1 e r => k v Hs1 H1 e (sh r))
    cases d with
    | lst ds =>
      exact .inl (use fun v Hs1 H1 e r => by
        cases r with
        | lst g l => exact ⟨_, rfl, ⟨_, .inl (Same.rd e.s2 g)⟩, p' _ Hs1 H1 e (itl_ok (M := mkM X) g l)⟩)
    | tup ds =>
      exact .inr (.inl (use fun v Hs1 H1 e r => by
        cases r with
        | tup g l => exact ⟨_, rfl, ⟨_, SqT.of (e.s2 _ _ g)⟩, p' _ Hs1 H1 e (itt_ok (M := mkM X) (SqT.of g) l)⟩))
    | kt ds =>
      exact .inr (.inl (use fun v Hs1 H1 e r => by
        cases r with
        | kt g l => exact ⟨_, rfl, ⟨_, Same.seqT e.s2 g⟩, p' _ Hs1 H1 e (itt_ok (M := mkM X) g l)⟩))
    | str x =>
      exact .inr (.inr (use fun v Hs1 H1 e r => by
        cases r with
        | str z => exact ⟨_, rfl, p' _ Hs1 H1 e (its_ok x)⟩))
    | _ => exact p'.elim
def dRange1 : D → Rs (List D)
  | .int n => if -1000000 ≤ n ∧ n ≤ 1000000 then .ok (rgD 0 n) else .bad
  | _ => .bad
def dRange2 : D → D → Rs (List D)
  | .int m, .int n => if (-1000000 ≤ m ∧ m ≤ 1000000) ∧ -1000000 ≤ n ∧ n ≤ 1000000 then .ok (rgD m n) else .bad
  | _, _ => .bad
def iOf2 (f : D → D → Rs (List D)) (ea eb : Env → Rs D) : Env → Rs (List D) := fun ρ => (ea ρ).bind fun d => (eb ρ).bind fun e => f d e
theorem itr_ok (a b : Int) : ItOk M (Itr a (b - a).toNat) Hs (rgD a b) := by
  intro Hs' H' s1 s2 i
  unfold rgD
  refine ⟨fun d hd => ?_, fun hi => by show _ ≤ i; simpa using hi⟩
  rw [List.getElem?_map] at hd
  obtain ⟨k, h1, rfl⟩ := Option.map_eq_some_iff.mp hd
  obtain ⟨h3, h4⟩ := List.getElem?_eq_some_iff.mp h1
  rw [List.getElem_range] at h4
  subst h4
  rw [List.length_range] at h3
  refine ⟨h3, fun y H'' z => ?_⟩
  obtain ⟨rfl, rfl⟩ := z
  exact ⟨Hs', Ext.refl s2, .int _⟩
theorem IPost.seq2 {α β : Type} {P : Hp → Hp → Hp → β → α → Prop} {r : Rs α} {f : α → Rs (List D)} {R : It → Hp → Prop} {Q : β → Hp → Prop} (p : IPost X W Hs H σ R (r.bind f)) (k : ∀ d v Hs1 H1, Ext Hs H Hs1 H1 → P H Hs1 H1 v d → IPost X W Hs1 H1 σ R (f d) → Q v H1) : Post X W P Hs H σ Q r := by
  cases r with
  | ok d =>
    intro v Hs1 H1 e q
    refine k d v Hs1 H1 e q ?_
    have p' : IPost X W Hs H σ R (f d) := p
    cases z : f d with
    | ok ds => rw [z] at p'; exact fun J Hs2 H2 e2 h => p' J Hs2 H2 (e.trans e2) h
    | exc c fs => rw [z] at p'; exact fun Hs2 H2 cls dd e2 h => p' Hs2 H2 cls dd (e.trans e2) h
    | bad => rw [z] at p'; exact p'
  | exc c fs => exact p
  | bad => exact p
variable {a b : Expr} {ea eb : Env → Rs D} {l l2 : Lv} {p1 p2 tpos : Pos} {elts : List Expr} {kk : Nat}
theorem ji_range1 (hm : X.mg "range" = none) (ha : JG X W l ms a ea) (hg : Gl X "range" := by rfl) (hs : starEach [a] X.env = [(false, eval a X.env)] := by rfl) : JI X W ms tg (.Call (.Name "range" p1) [a] [] p2) (iOf dRange1 ea) := by
  obtain ⟨t, h1, h2⟩ := ha
  refine ⟨_, pi_range1 hg hm (pa_cons h1 pa_nil hs) hs, fun B Hs H σ ρ Fp R RR p => h2 B Hs H σ ρ Fp _ RR (IPost.seq2 p fun d v Hs1 H1 e r q => ?_)⟩
  have dd := r.b e.s2
  cases dd with
  | int n =>
    have q' : IPost X W Hs1 H1 σ R (if -1000000 ≤ n ∧ n ≤ 1000000 then .ok (rgD 0 n) else .bad) := q
    split at q'
    · rename_i c
      have it := itr_ok (M := mkM X) (Hs := Hs1) 0 n
      rw [Int.sub_zero] at it
      exact ⟨n, rfl, by omega, by omega, q' _ Hs1 H1 (Ext.refl e.s2) it⟩
    · exact q'.elim
  | _ => exact q.elim
theorem ji_range2 (hm : X.mg "range" = none) (ha : JG X W l ms a ea) (hb : JG X W l2 ms b eb) (hg : Gl X "range" := by rfl) (hs : starEach [a, b] X.env = [(false, eval a X.env), (false, eval b X.env)] := by rfl) (hs2 : starEach [b] X.env = [(false, eval b X.env)] := by rfl) :
    JI X W ms tg (.Call (.Name "range" p1) [a, b] [] p2) (iOf2 dRange2 ea eb) := by
  obtain ⟨t, h1, h2⟩ := ha
  obtain ⟨u, k1, k2⟩ := hb
  refine ⟨_, pi_range2 hg hm (pa_cons h1 (pa_cons k1 pa_nil hs2) (by rw [hs, hs2])) hs hs2, fun B Hs H σ ρ Fp R RR p => h2 B Hs H σ ρ Fp _ RR (IPost.seq2 p fun d v Hs1 H1 e r q => ?_)⟩
  refine k2 B Hs1 H1 σ ρ Fp _ (RR.step e) (IPost.seq2 q fun d2 v2 Hs2 H2 e2 r2 q2 => ?_)
  have d1 := (r.b e.s2).mono e2.s3
  have dd := r2.b e2.s2
  cases d1 with
  | int m =>
    cases dd with
    | int n =>
      have q' : IPost X W Hs2 H2 σ R (if (-1000000 ≤ m ∧ m ≤ 1000000) ∧ -1000000 ≤ n ∧ n ≤ 1000000 then .ok (rgD m n) else .bad) := q2
      split at q'
      · rename_i c
        exact ⟨m, n, rfl, ⟨by omega, by omega, by omega, by omega⟩, q' _ Hs2 H2 (Ext.refl e2.s2) (itr_ok (M := mkM X) m n)⟩
      · exact q'.elim
    | _ => exact q2.elim
  | _ => exact q2.elim
/-- enumerate(list) -/
def enumD (ds : List D) : List D := ds.zipIdx.map fun p => D.tup [.int (p.2 : Nat), p.1]
def dEnum : D → Rs (List D)
  | .lst ds => .ok (enumD ds)
  | _ => .bad
theorem ite_ok {a : Addr} {vs : List V} {ds : List D} (h : Rd Hs a (.lst vs)) (l : DenL M Hs vs ds) : ItOk M (Ite M.K a) Hs (enumD ds) := by
  intro Hs' H' s1 s2 i
  have q : SqL M.K H' a vs := .inl (Same.rd s2 (Same.rd s1 h))
  unfold enumD
  refine ⟨fun d hd => ?_, fun hi => ⟨vs, q, by rw [l.length]; simpa using hi⟩⟩
  rw [List.getElem?_map] at hd
  obtain ⟨k, h1, rfl⟩ := Option.map_eq_some_iff.mp hd
  rw [List.getElem?_zipIdx] at h1
  obtain ⟨d0, h2, rfl⟩ := Option.map_eq_some_iff.mp h1
  obtain ⟨v, h3, h4⟩ := l.get h2
  refine ⟨⟨vs, v, q, h3⟩, fun x H'' y => ?_⟩
  obtain ⟨T, w, rfl, np, rfl, y⟩ := y
  have := y vs q
  rw [h3] at this
  cases this
  refine ⟨_, Ext.new s2 np, .tup upd_same (.cons ?_ (.cons ((h4.mono s1).mono (same_upd (s2.free np))) .nil))⟩
  rw [Nat.zero_add]
  exact .int _
theorem ji_enum (hm : X.mg "enumerate" = none) (hl : l = .own .S ∨ l = .t .S) (ha : JG X W l ms a ea) (hg : Gl X "enumerate" := by rfl) (hs : starEach [a] X.env = [(false, eval a X.env)] := by rfl) : JI X W ms (.Tuple elts kk tpos) (.Call (.Name "enumerate" p1) [a] [] p2) (iOf dEnum ea) := by
  obtain ⟨t, h1, h2⟩ := ha
  refine ⟨_, pi_enum hg hm (pa_cons h1 pa_nil hs) hs, fun B Hs H σ ρ Fp R RR p => h2 B Hs H σ ρ Fp _ RR (IPost.seq2 p fun d v Hs1 H1 e r q => ?_)⟩
  have dd : Den (mkM X) Hs1 v d := by
    rcases hl with rfl | rfl
    · exact r.s
    · exact r.tS
  cases dd with
  | lst g l => exact ⟨_, _, rfl, .inl (Same.rd e.s2 g), q _ Hs1 H1 (Ext.refl e.s2) (ite_ok (M := mkM X) g l)⟩
  | _ => exact q.elim
/-- zip(list, list) -/
def zipD (ds es : List D) : List D := (ds.zip es).map fun p => D.tup [p.1, p.2]
def dZip : D → D → Rs (List D)
  | .lst ds, .lst es => .ok (zipD ds es)
  | _, _ => .bad
theorem itz_ok {a b : Addr} {vs ws : List V} {ds es : List D} (h : Rd Hs a (.lst vs)) (l : DenL M Hs vs ds) (h' : Rd Hs b (.lst ws)) (l' : DenL M Hs ws es) : ItOk M (Itz M.K a b) Hs (zipD ds es) := by
  intro Hs' H' s1 s2 i
  have q : SqL M.K H' a vs := .inl (Same.rd s2 (Same.rd s1 h))
  have q' : SqL M.K H' b ws := .inl (Same.rd s2 (Same.rd s1 h'))
  unfold zipD
  refine ⟨fun d hd => ?_, fun hi => ⟨vs, ws, q, q', by rw [l.length, l'.length]; simp at hi; omega⟩⟩
  rw [List.getElem?_map] at hd
  obtain ⟨k, h1, rfl⟩ := Option.map_eq_some_iff.mp hd
  rw [List.getElem?_zip_eq_some] at h1
  obtain ⟨v, h3, h4⟩ := l.get h1.1
  obtain ⟨w, h5, h6⟩ := l'.get h1.2
  refine ⟨⟨vs, ws, v, w, q, q', h3, h5⟩, fun x H'' y => ?_⟩
  obtain ⟨T, x1, y1, rfl, np, rfl, y, y'⟩ := y
  have e1 := y vs q
  have e2 := y' ws q'
  rw [h3] at e1
  rw [h5] at e2
  cases e1; cases e2
  have f : Same Hs' (upd Hs' T (.tup [v, w])) := same_upd (s2.free np)
  exact ⟨_, Ext.new s2 np, .tup upd_same (.cons ((h4.mono s1).mono f) (.cons ((h6.mono s1).mono f) .nil))⟩
theorem ji_zip (hm : X.mg "zip" = none) (ha : JG X W .s ms a ea) (hb : JG X W .s ms b eb) (hg : Gl X "zip" := by rfl) (hs : starEach [a, b] X.env = (false, eval a X.env) :: starEach [b] X.env := by rfl) (hs2 : starEach [b] X.env = (false, eval b X.env) :: starEach [] X.env := by rfl) (hpl : (backTo p2 (starEach [b] X.env)).any (·.1) = false := by rfl) :
    JI X W ms (.Tuple elts kk tpos) (.Call (.Name "zip" p1) [a, b] [] p2) (iOf2 dZip ea eb) := by
  obtain ⟨t, h1, h2⟩ := ha
  obtain ⟨u, k1, k2⟩ := hb
  refine ⟨_, pi_zip hg hm (pa_cons h1 (pa_cons k1 pa_nil hs2) hs) hs hpl, fun B Hs H σ ρ Fp R RR p => h2 B Hs H σ ρ Fp _ RR (IPost.seq2 p fun d v Hs1 H1 e r q => ?_)⟩
  refine k2 B Hs1 H1 σ ρ Fp _ (RR.step e) (IPost.seq2 q fun d2 v2 Hs2 H2 e2 r2 q2 => ?_)
  have d1 := r.s.mono e2.s1
  have dd := r2.s
  cases d1 with
  | lst g l => cases dd with
    | lst g' l' => exact ⟨_, _, _, _, rfl, .inl (Same.rd e2.s2 g), .inl (Same.rd e2.s2 g'), q2 _ Hs2 H2 (Ext.refl e2.s2) (itz_ok (M := mkM X) g l g' l')⟩
    | _ => exact q2.elim
  | _ => exact q2.elim
/-- reversed(list) -/
def dRevI : D → Rs (List D)
  | .lst ds => .ok ds.reverse
  | _ => .bad
theorem itv_ok {a : Addr} {vs : List V} {ds : List D} (h : Rd Hs a (.lst vs)) (l : DenL M Hs vs ds) : ItOk M (Itv M.K a vs.length) Hs ds.reverse := by
  intro Hs' H' s1 s2 i
  have q : SqL M.K H' a vs := .inl (Same.rd s2 (Same.rd s1 h))
  refine ⟨fun d hd => ?_, fun hi => by show vs.length ≤ i; rw [l.length]; simpa using hi⟩
  obtain ⟨v, h3, h4⟩ := l.reverse.get hd
  have hi : i < vs.length := by
    have := (List.getElem?_eq_some_iff.mp h3).1
    simpa using this
  rw [List.getElem?_reverse hi] at h3
  refine ⟨⟨hi, vs, v, q, h3⟩, fun x H'' y => ?_⟩
  obtain ⟨rfl, y⟩ := y
  have := y vs q
  rw [h3] at this
  cases this
  exact ⟨Hs', Ext.refl s2, h4.mono s1⟩
theorem ji_rev (hm : X.mg "reversed" = none) (hl : l = .own .S ∨ l = .t .S) (ha : JG X W l ms a ea) (hg : Gl X "reversed" := by rfl) (hs : starEach [a] X.env = [(false, eval a X.env)] := by rfl) : JI X W ms tg (.Call (.Name "reversed" p1) [a] [] p2) (iOf dRevI ea) := by
  obtain ⟨t, h1, h2⟩ := ha
  refine ⟨_, pi_reversed hg hm (pa_cons h1 pa_nil hs) hs, fun B Hs H σ ρ Fp R RR p => h2 B Hs H σ ρ Fp _ RR (IPost.seq2 p fun d v Hs1 H1 e r q => ?_)⟩
  have dd : Den (mkM X) Hs1 v d := by
    rcases hl with rfl | rfl
    · exact r.s
    · exact r.tS
  cases dd with
  | lst g l => exact ⟨_, _, rfl, .inl (Same.rd e.s2 g), q _ Hs1 H1 (Ext.refl e.s2) (itv_ok (M := mkM X) g l)⟩
  | _ => exact q.elim

/-! ### for -/
def sFor (t : TgtD) (s : Env → Out) : List D → Env → Out
  | [], ρ => .nx ρ
  | d :: ds, ρ => match t d ρ with
    | none => .bad
    | some ρ1 => match s ρ1 with
      | .nx ρ2 => sFor t s ds ρ2
      | .ct ρ2 => sFor t s ds ρ2
      | .bk ρ2 => .nx ρ2
      | o => o
def sForI (t : TgtD) (s : Env → Out) (it : Env → Rs (List D)) : Env → Out := fun ρ => sBind (it ρ) ρ fun ds => sFor t s ds ρ
/-- the shared part of now as the ground -/
theorem Rel.rebase {Hs1 H1 : Hp} (e : Ext B.1 B.2 Hs1 H1) (R : Rel M B ms Hs H σ ρ Fp) (s : Same Hs1 Hs) : Rel M (Hs1, B.2) ms Hs H σ ρ Fp :=
  ⟨⟨s, R.ext.s2, R.ext.s3, fun a o h1 k h2 => R.ext.s4 a o h1 k (e.s1.free h2)⟩, R.len, R.lm, R.val, R.off, R.nd, R.fr, R.dj⟩
theorem Ext.unbase {Hs1 H1 Hs2 H2 : Hp} (e : Ext B.1 B.2 Hs1 H1) (k : Ext Hs1 B.2 Hs2 H2) : Ext B.1 B.2 Hs2 H2 := ⟨e.s1.trans k.s1, k.s2, k.s3, fun a o h1 nk h2 => k.s4 a o h1 nk (e.s4 a o h1 nk h2)⟩
theorem Rel.unbase {Hs1 H1 : Hp} (e : Ext B.1 B.2 Hs1 H1) (R : Rel M (Hs1, B.2) ms Hs H σ ρ Fp) : Rel M B ms Hs H σ ρ Fp :=
  ⟨e.unbase R.ext, R.len, R.lm, R.val, R.off, R.nd, R.fr, R.dj⟩
theorem SPost.rebase {Hs1 H1 : Hp} (e : Ext B.1 B.2 Hs1 H1) {o : Out} (p : SPost X W mx ml rm B ms E o) : SPost X W mx ml rm (Hs1, B.2) ms E o := by
  cases o with
  | nx ρ => exact fun Hs H σ Fp R => p Hs H σ Fp (R.unbase e)
  | bk ρ => exact fun Hs H σ Fp R => p Hs H σ Fp (R.unbase e)
  | ct ρ => exact fun Hs H σ Fp R => p Hs H σ Fp (R.unbase e)
  | rt d => exact fun Hs H v k r => p Hs H v (e.unbase k) r
  | exc c fs ρ =>
    cases mx with
    | none => exact fun Hs H σ cls dd k q => p Hs H σ cls dd (e.unbase k) q
    | some m => exact fun Hs H σ Fp cls dd R q => p Hs H σ Fp cls dd (R.unbase e) q
  | bad => exact p
theorem js_for {it : Expr} {body : List Stmt} {is : List Nat} {t : TgtD} {ei : Env → Rs (List D)} {eb : Env → Out} {mt : Modes} (hx : XOk mx mh) (hp : PassesOwn (model X.prog X.w) X.A X.env X.xe) (hc : X.calm = true) (hi : JI X W mh tg it ei) (hg : JGt X mh tg is mt t) (hb : JSs X W mx mh rm mt body mh eb)
    (hs : ∀ x, foldedSetIterable it X.env x = pure x := by intro _; rfl) : JS X W mx ml rm mh (.For tg it body [] pos) mh (sForI t eb ei) := by
  obtain ⟨wi, i1, i2⟩ := hi
  obtain ⟨g, g1, g2⟩ := hg
  obtain ⟨tb, b1, b2⟩ := hb
  refine ⟨_, ps_for hp hc i1 g1 b1 hs, fun B Hs H σ ρ Fp E R p => i2 B Hs H σ ρ Fp _ R ?_⟩
  have p0 : SPost X W mx ml rm B mh E (sBind (ei ρ) ρ fun ds => sFor t eb ds ρ) := p
  cases z : ei ρ with
  | bad => rw [z] at p0; exact p0.elim
  | exc c fs =>
    rw [z] at p0
    intro Hs1 H1 cls dd e q
    rcases hx with rfl | rfl
    · exact p0 Hs1 H1 σ cls dd (R.ext.trans e) q
    · exact p0 Hs1 H1 σ Fp cls dd (R.step e) q
  | ok ds =>
    rw [z] at p0
    intro J Hs1 H1 e1 hJ
    have R1 := R.step e1
    have eB := R1.ext
    have p1 : SPost X W mx ml rm (Hs1, B.2) mh E (sFor t eb ds ρ) := SPost.rebase eB p0
    refine ⟨fun i m σ H => m = ds.length - i ∧ i ≤ ds.length ∧ ∃ Hs ρ Fp, Rel (mkM X) (Hs1, B.2) mh Hs H σ ρ Fp ∧ SPost X W mx ml rm (Hs1, B.2) mh E (sFor t eb (ds.drop i) ρ), ⟨ds.length, rfl, Nat.zero_le _, Hs1, ρ, Fp, R1.rebase eB (Same.refl _), p1⟩, ?_⟩
    rintro i m σ2 H2 ⟨rfl, hi, Hs2, ρ2, Fp2, R2, p2⟩
    obtain ⟨j1, j2⟩ := hJ Hs2 H2 R2.ext.s1 R2.sub i
    by_cases hlt : i < ds.length
    · obtain ⟨go, yl⟩ := j1 ds[i] (List.getElem?_eq_getElem hlt)
      rw [List.drop_eq_getElem_cons hlt] at p2
      refine .inr ⟨go, fun σ' H' => ∃ Hs ρ Fp, Rel (mkM X) (Hs1, B.2) mh Hs H' σ' ρ Fp ∧ SPost X W mx ml rm (Hs1, B.2) mh E (sFor t eb (ds.drop (i + 1)) ρ), fun σ' H' q => ⟨_, by omega, rfl, hlt, q⟩, fun x H3 hy => ?_⟩
      obtain ⟨Hs3, e3, dn⟩ := yl x H3 hy
      have R3 := R2.step e3
      have p3 : SPost X W mx ml rm (Hs1, B.2) mh E (match t ds[i] ρ2 with
        | none => .bad
        | some ρ1 => match eb ρ1 with
          | .nx ρ2 => sFor t eb (ds.drop (i + 1)) ρ2
          | .ct ρ2 => sFor t eb (ds.drop (i + 1)) ρ2
          | .bk ρ2 => .nx ρ2
          | o => o) := p2
      cases zt : t ds[i] ρ2 with
      | none => rw [zt] at p3; exact p3.elim
      | some ρ3 =>
        rw [zt] at p3
        simp only at p3
        refine g2 _ Hs3 H3 σ2 ρ2 Fp2 x _ ρ3 _ R3 dn zt fun σ4 Fp4 R4 _ _ => b2 _ Hs3 H3 σ4 ρ3 Fp4 _ R4 ?_
        cases zb : eb ρ3 with
        | nx ρ' => rw [zb] at p3; exact fun Hs5 H5 σ5 Fp5 R5 => ⟨Hs5, ρ', Fp5, R5, p3⟩
        | ct ρ' => rw [zb] at p3; exact fun Hs5 H5 σ5 Fp5 R5 => ⟨Hs5, ρ', Fp5, R5, p3⟩
        | bk ρ' => rw [zb] at p3; exact p3
        | rt d => rw [zb] at p3; exact p3
        | exc c fs ρ' => rw [zb] at p3; exact p3
        | bad => rw [zb] at p3; exact p3
    · have e : i = ds.length := by omega
      subst e
      rw [List.drop_length] at p2
      exact .inl ⟨j2 (Nat.le_refl _), p2 Hs2 H2 σ2 Fp2 R2⟩
end
end G
/-! G: comprehensions, defs, exceptions -/
namespace G
open PySem PySem.Spec L2
open PyProof.Rows hiding St
/-- an exception that must not be -/
def nox {α : Type} (r : Rs α) : Rs α := match r with
  | .exc _ _ => .bad
  | r => r
@[simp] theorem nox_ok {α : Type} (a : α) : nox (Rs.ok a) = .ok a := rfl
/-- the items that are kept -/
def lcGo (t : TgtD) (tt : Env → Rs Bool) (te : Env → Rs D) (ρ : Env) : List D → Rs (List D)
  | [] => .ok []
  | d :: ds => match t d ρ with
    | none => .bad
    | some ρ1 => (nox (tt ρ1)).bind fun b => if b then (nox (te ρ1)).bind fun x => (lcGo t tt te ρ ds).bind fun xs => .ok (x :: xs) else lcGo t tt te ρ ds
def eLc (it : Env → Rs (List D)) (t : TgtD) (tt : Env → Rs Bool) (te : Env → Rs D) (vs : List Nat) : Env → Rs D := fun ρ =>
  (it ρ).bind fun ds => if ds.length < cap then (lcGo t tt te (wipeE ρ vs) ds).bind fun xs => .ok (.lst xs) else .bad
def W0 : WX := fun _ _ _ _ => False
section
variable {X : Cx} {W : WX} {ms mt : Modes} {B : Hp × Hp} {Hs H : Hp} {σ : St} {ρ : Env} {Fp : Nat → List Addr} {M : MK}
def JTs (X : Cx) (ms : Modes) (ifs : List Expr) (ev : Env → Rs Bool) : Prop :=
  ∃ t, PTs X ifs t ∧ ∀ B Hs H σ ρ Fp Q, Rel (mkM X) B ms Hs H σ ρ Fp → Post X W0 PB Hs H σ Q (ev ρ) → t σ H Q
def bYes : Env → Rs Bool := fun _ => .ok true
theorem jts_nil : JTs X ms [] bYes := ⟨_, pts_nil, fun B Hs H σ ρ Fp Q R p => p true Hs H (Ext.refl R.sub) rfl⟩
theorem jts_one {c : Expr} {ec : Env → Rs Bool} (h : JT X W0 ms c ec) : JTs X ms [c] ec := by
  obtain ⟨t, h1, h2⟩ := h
  exact ⟨_, pts_one h1, h2⟩
theorem nox_post {α β : Type} {P : Hp → Hp → Hp → β → α → Prop} {r : Rs α} {Q : β → Hp → Prop} (hb : nox r ≠ .bad) (h : ∀ a b Hs' H', r = .ok a → Ext Hs H Hs' H' → P H Hs' H' b a → Q b H') : Post X W0 P Hs H σ Q r := by
  cases r with
  | ok a => exact fun b Hs' H' e p => h a b Hs' H' rfl e p
  | exc c fs => exact absurd rfl hb
  | bad => exact absurd rfl hb
theorem lcGo_len {t : TgtD} {tt : Env → Rs Bool} {te : Env → Rs D} : ∀ {ds xs : List D}, lcGo t tt te ρ ds = .ok xs → xs.length ≤ ds.length
  | [], _, h => by cases h; exact Nat.le_refl _
  | d :: ds, xs, h => by
    unfold lcGo at h
    split at h
    · cases h
    · rename_i ρ1 _
      cases z : nox (tt ρ1) with
      | ok b =>
        rw [z, Rs.bind_ok] at h
        cases b with
        | false => exact Nat.le_trans (lcGo_len h) (by simp)
        | true =>
          rw [if_pos rfl] at h
          cases z2 : nox (te ρ1) with
          | ok x =>
            rw [z2, Rs.bind_ok] at h
            cases z3 : lcGo t tt te ρ ds with
            | ok ys =>
              rw [z3] at h
              cases h
              simpa using lcGo_len z3
            | exc _ _ => rw [z3] at h; cases h
            | bad => rw [z3] at h; cases h
          | exc _ _ => rw [z2] at h; cases h
          | bad => rw [z2] at h; cases h
      | exc _ _ => rw [z] at h; cases h
      | bad => rw [z] at h; cases h
/-- [elt for tg in it if ..]: x: the def's context -/
theorem lc_main {it elt tg : Expr} {ifs : List Expr} {own : List (Str × Nat)} {wi : TI} {g : TG} {tt : TT} {te : TE} {ei : Env → Rs (List D)} {t : TgtD} {et : Env → Rs Bool} {ee : Env → Rs D} {is : List Nat} {Q : VK}
    (i2 : ∀ B Hs H σ ρ Fp R, Rel (mkM X) B ms Hs H σ ρ Fp → IPost X W Hs H σ R (ei ρ) → wi σ H R)
    (g2 : ∀ B Hs H σ ρ Fp v d ρ' Q, Rel (mkM X) B ms Hs H σ ρ Fp → Den (mkM X) Hs v d → t d ρ = some ρ' → (∀ σ' Fp', Rel (mkM X) B mt Hs H σ' ρ' Fp' → σ'.length = σ.length → (∀ i, i ∉ is → σ'[i]? = σ[i]?) → Q σ' H) → g v σ H Q)
    (t2 : ∀ B Hs H σ ρ Fp Q, Rel (mkM X) B mt Hs H σ ρ Fp → Post X W0 PB Hs H σ Q (et ρ) → tt σ H Q)
    (e2 : ∀ B Hs H σ ρ Fp Q, Rel (mkM X) B mt Hs H σ ρ Fp → Post X W0 (PV X .s) Hs H σ Q (ee ρ) → te σ H Q)
    (his : ∀ i ∈ is, i ∈ own.map (·.2)) (R : Rel (mkM X) B ms Hs H σ ρ Fp) (p : Post X W (PV X .f) Hs H σ Q (eLc ei t et ee (own.map (·.2)) ρ)) : tLc wi g tt te (own.map (·.2)) σ H Q := by
  refine i2 B Hs H σ ρ Fp _ R ?_
  have p0 : Post X W (PV X .f) Hs H σ Q ((ei ρ).bind fun ds => if ds.length < cap then (lcGo t et ee (wipeE ρ (own.map (·.2))) ds).bind fun xs => .ok (.lst xs) else .bad) := p
  cases z : ei ρ with
  | bad => rw [z] at p0; exact p0.elim
  | exc c fs => rw [z] at p0; exact p0
  | ok ds =>
    rw [z, Rs.bind_ok] at p0
    intro J Hs1 H1 e1 hJ Da hD
    by_cases hc : ds.length < cap
    · rw [if_pos hc] at p0
      generalize hvs : own.map (·.2) = vs at *
      have sD : Hs1 Da = none := e1.s2.free hD
      have Rw := (R.step e1).wipe vs
      obtain ⟨Fpw, Rw⟩ := Rw
      -- the whole result
      cases zr : lcGo t et ee (wipeE ρ vs) ds with
      | exc c fs =>
        -- lcGo never raises
        exfalso
        have noexc : ∀ ds : List G.D, ∀ c fs, lcGo t et ee (wipeE ρ vs) ds ≠ .exc c fs := by
          intro ds
          induction ds with
          | nil => intro c fs h; cases h
          | cons d ds ih =>
            intro c fs h
            unfold lcGo at h
            split at h
            · cases h
            · rename_i ρ1 _
              cases za : et ρ1 with
              | bad => rw [za] at h; cases h
              | exc _ _ => rw [za] at h; cases h
              | ok b =>
                rw [za, nox_ok, Rs.bind_ok] at h
                cases b with
                | false => exact ih c fs h
                | true =>
                  rw [if_pos rfl] at h
                  cases zb : ee ρ1 with
                  | bad => rw [zb] at h; cases h
                  | exc _ _ => rw [zb] at h; cases h
                  | ok x =>
                    rw [zb, nox_ok, Rs.bind_ok] at h
                    cases zc : lcGo t et ee (wipeE ρ vs) ds with
                    | ok ys => rw [zc] at h; cases h
                    | exc c' fs' => exact ih _ _ zc
                    | bad => rw [zc] at h; cases h
        exact noexc ds c fs zr
      | bad => rw [zr] at p0; exact p0.elim
      | ok all =>
        rw [zr, Rs.bind_ok] at p0
        have hlen := lcGo_len zr
        refine ⟨fun i m H' => m = ds.length - i ∧ i ≤ ds.length ∧ ∃ Hs' acc done todo, Ext Hs1 H1 Hs' H' ∧ Hs' Da = none ∧ H' Da = some (.lst acc) ∧ DenL (mkM X) Hs' acc done ∧ lcGo t et ee (wipeE ρ vs) (ds.drop i) = .ok todo ∧ all = done ++ todo,
          ⟨ds.length, rfl, Nat.zero_le _, Hs1, [], [], all, Ext.newO e1.s2 hD, sD, upd_same, .nil, zr, rfl⟩, ?_⟩
        rintro i m H2 ⟨rfl, hi, Hs2, acc, done, todo, x2, n2, a2, l2, g2', q2⟩
        obtain ⟨j1, j2⟩ := hJ Hs2 H2 x2.s1 x2.s2 i
        by_cases hlt : i < ds.length
        · obtain ⟨go, yl⟩ := j1 ds[i] (List.getElem?_eq_getElem hlt)
          rw [List.drop_eq_getElem_cons hlt] at g2'
          refine .inr ⟨go, fun H' => ∃ Hs' acc done todo, Ext Hs1 H1 Hs' H' ∧ Hs' Da = none ∧ H' Da = some (.lst acc) ∧ DenL (mkM X) Hs' acc done ∧ lcGo t et ee (wipeE ρ vs) (ds.drop (i + 1)) = .ok todo ∧ all = done ++ todo, fun H' q => ⟨_, by omega, rfl, hlt, q⟩, fun x H3 hy => ?_⟩
          obtain ⟨Hs3, x3, dn⟩ := yl x H3 hy
          have n3 : Hs3 Da = none := x3.s4 Da _ a2 KT.lst n2
          have a3 : H3 Da = some (.lst acc) := x3.s3 _ _ a2
          have l3 := l2.mono x3.s1
          unfold lcGo at g2'
          cases zt : t ds[i] (wipeE ρ vs) with
          | none => rw [zt] at g2'; cases g2'
          | some ρ1 =>
            rw [zt] at g2'
            simp only at g2'
            have R3 : Rel (mkM X) B ms Hs3 H3 (wipe σ vs) (wipeE ρ vs) Fpw := Rw.step (x2.trans x3)
            refine g2 B Hs3 H3 _ _ Fpw x _ ρ1 _ R3 dn zt fun σ4 Fp4 R4 l4 k4 => ?_
            refine ⟨?_, ?_⟩
            · apply wipe_ext
              · rw [l4, wipe_length]
              · intro k hk
                rw [k4 k fun w => hk (his k w), wipe_get hk]
            · cases zb : et ρ1 with
              | bad => rw [zb] at g2'; cases g2'
              | exc _ _ => rw [zb] at g2'; cases g2'
              | ok b =>
                rw [zb, nox_ok, Rs.bind_ok] at g2'
                refine t2 B Hs3 H3 σ4 ρ1 Fp4 _ R4 ?_
                rw [zb]
                intro b' Hs5 H5 x5 eb
                subst eb
                have n5 : Hs5 Da = none := x5.s4 Da _ a3 KT.lst n3
                have a5 : H5 Da = some (.lst acc) := x5.s3 _ _ a3
                have l5 := l3.mono x5.s1
                have x15 := (x2.trans x3).trans x5
                cases b' with
                | false =>
                  rw [if_neg (by decide)] at g2' ⊢
                  exact ⟨Hs5, acc, done, todo, x15, n5, a5, l5, g2', q2⟩
                | true =>
                  rw [if_pos rfl] at g2' ⊢
                  cases ze : ee ρ1 with
                  | bad => rw [ze] at g2'; cases g2'
                  | exc _ _ => rw [ze] at g2'; cases g2'
                  | ok y =>
                    rw [ze, nox_ok, Rs.bind_ok] at g2'
                    refine e2 B Hs5 H5 σ4 ρ1 Fp4 _ (R4.step x5) ?_
                    rw [ze]
                    intro v Hs6 H6 x6 dv
                    have n6 : Hs6 Da = none := x6.s4 Da _ a5 KT.lst n5
                    have a6 : H6 Da = some (.lst acc) := x6.s3 _ _ a5
                    have l6 := l5.mono x6.s1
                    have x16 := x15.trans x6
                    have hacc : acc.length < sizeLine := by
                      rw [l6.length]
                      have : done.length ≤ all.length := by rw [q2, List.length_append]; omega
                      exact cap_lt (by omega)
                    refine ⟨acc, a6, hacc, ?_⟩
                    cases zd : lcGo t et ee (wipeE ρ vs) (ds.drop (i + 1)) with
                    | bad => rw [zd] at g2'; cases g2'
                    | exc _ _ => rw [zd] at g2'; cases g2'
                    | ok rest =>
                      rw [zd, Rs.bind_ok] at g2'
                      cases g2'
                      refine ⟨Hs6, acc ++ [v], done ++ [y], rest, ⟨x16.s1, fun b u q => ?_, fun b u q => ?_, x16.s4⟩, n6, upd_same, l6.append (.cons dv.s .nil), rfl, by rw [q2, List.append_assoc]; rfl⟩
                      · rw [upd_ne (fun w => by rw [w, n6] at q; cases q)]; exact x16.s2 _ _ q
                      · rw [upd_ne (fun w => by rw [w, hD] at q; cases q)]; exact x16.s3 _ _ q
        · have e : i = ds.length := by omega
          subst e
          rw [List.drop_length] at g2'
          cases g2'
          rw [List.append_nil] at q2
          subst q2
          refine .inl ⟨j2 (Nat.le_refl _), p0 _ Hs2 H2 (e1.trans x2) ⟨[Da], .lst n2 a2 (OwnL.sh l2), by simp, fun a ha => by rw [List.mem_singleton.mp ha]; exact e1.s3.free hD⟩⟩
    · rw [if_neg hc] at p0; exact p0.elim
variable {elt tg it : Expr} {ifs : List Expr} {scope : Scope} {own : List (Str × Nat)} {pos : Pos} {is : List Nat} {t : TgtD} {ei : Env → Rs (List D)} {et : Env → Rs Bool} {ee : Env → Rs D}
theorem je_lc (hc : X.calm = true) (hN : X.N.Nodup) (hi : JI X W ms tg it ei) (ok : BlkOk X.N X.env.scope scope own)
    (hg : ∀ (s : Shared) (H : Hp) (C : Addr) (cl : List (Str × Addr)) (fp : List Addr), JGt (X.blk s H scope (compEnvC scope cl C X.env) fp) ms tg is mt t)
    (ht : ∀ (s : Shared) (H : Hp) (C : Addr) (cl : List (Str × Addr)) (fp : List Addr), JTs (X.blk s H scope (compEnvC scope cl C X.env) fp) mt ifs et)
    (he : ∀ (s : Shared) (H : Hp) (C : Addr) (cl : List (Str × Addr)) (fp : List Addr), JG (X.blk s H scope (compEnvC scope cl C X.env) fp) W0 .s mt elt ee)
    (his : ∀ i ∈ is, i ∈ own.map (·.2)) (hs : ∀ x, foldedSetIterable it X.env x = pure x := by intro _; rfl) : JG X W .f ms (.ListComp elt [⟨tg, it, ifs, 0⟩] scope pos) (eLc ei t et ee (own.map (·.2))) := by
  obtain ⟨wi, hi1, i2⟩ := hi
  -- one reading for all blocks: what all of them ask
  have hg' : ∃ g, (∀ (s : Shared) (H : Hp) (C : Addr) (cl : List (Str × Addr)) (fp : List Addr), PG (X.blk s H scope (compEnvC scope cl C X.env) fp) tg g) ∧ ∀ B Hs H σ ρ Fp v d ρ' Q, Rel (mkM X) B ms Hs H σ ρ Fp → Den (mkM X) Hs v d → t d ρ = some ρ' → (∀ σ' Fp', Rel (mkM X) B mt Hs H σ' ρ' Fp' → σ'.length = σ.length → (∀ i, i ∉ is → σ'[i]? = σ[i]?) → Q σ' H) → g v σ H Q := by
    refine ⟨fun v σ H Q => ∀ (s : Shared) (H1 : Hp) (C : Addr) (cl : List (Str × Addr)) (fp : List Addr), (Classical.choose (hg s H1 C cl fp)) v σ H Q, fun s H C cl fp => ⟨fun pins s' σ H' v u Q I r q => (Classical.choose_spec (hg s H C cl fp)).1.run pins s' σ H' v u Q I r (q s H C cl fp)⟩, fun B Hs H σ ρ Fp v d ρ' Q R dn e k s H1 C cl fp => (Classical.choose_spec (hg s H1 C cl fp)).2 B Hs H σ ρ Fp v d ρ' Q R dn e k⟩
  have ht' : ∃ tt, (∀ (s : Shared) (H : Hp) (C : Addr) (cl : List (Str × Addr)) (fp : List Addr), PTs (X.blk s H scope (compEnvC scope cl C X.env) fp) ifs tt) ∧ ∀ B Hs H σ ρ Fp Q, Rel (mkM X) B mt Hs H σ ρ Fp → Post X W0 PB Hs H σ Q (et ρ) → tt σ H Q := by
    refine ⟨fun σ H Q => ∀ (s : Shared) (H1 : Hp) (C : Addr) (cl : List (Str × Addr)) (fp : List Addr), (Classical.choose (ht s H1 C cl fp)) σ H Q, fun s H C cl fp => ⟨fun pins s' σ H' Q I q => (Classical.choose_spec (ht s H C cl fp)).1.run pins s' σ H' Q I (q s H C cl fp)⟩, fun B Hs H σ ρ Fp Q R p s H1 C cl fp => (Classical.choose_spec (ht s H1 C cl fp)).2 B Hs H σ ρ Fp Q R p⟩
  have he' : ∃ te, (∀ (s : Shared) (H : Hp) (C : Addr) (cl : List (Str × Addr)) (fp : List Addr), PE (X.blk s H scope (compEnvC scope cl C X.env) fp) elt te) ∧ ∀ B Hs H σ ρ Fp Q, Rel (mkM X) B mt Hs H σ ρ Fp → Post X W0 (PV X .s) Hs H σ Q (ee ρ) → te σ H Q := by
    refine ⟨fun σ H Q => ∀ (s : Shared) (H1 : Hp) (C : Addr) (cl : List (Str × Addr)) (fp : List Addr), (Classical.choose (he s H1 C cl fp)) σ H Q, fun s H C cl fp => ⟨fun pins s' σ H' Q I q => (Classical.choose_spec (he s H C cl fp)).1.run pins s' σ H' Q I (q s H C cl fp)⟩, fun B Hs H σ ρ Fp Q R p s H1 C cl fp => (Classical.choose_spec (he s H1 C cl fp)).2 B Hs H σ ρ Fp Q R p⟩
  obtain ⟨g, g1, g2⟩ := hg'
  obtain ⟨tt, t1, t2⟩ := ht'
  obtain ⟨te, e1, e2⟩ := he'
  exact ⟨_, pe_lc hc hN hi1 ok g1 t1 e1 hs, fun B Hs H σ ρ Fp Q R p => lc_main (it := it) (elt := elt) (tg := tg) (ifs := ifs) i2 g2 t2 e2 his R p⟩
end
end G
/-! G: x = [..], a, b = e, f; x += e; defs and their calls -/
namespace G
open PySem PySem.Spec L2
open PyProof.Rows hiding St
section
variable {X : Cx} {W : WX} {mx : Option Modes} {ml : Modes} {rm : Mode} {ms ms' mt : Modes} {B : Hp × Hp} {Hs H : Hp} {σ : St} {ρ : Env} {Fp : Nat → List Addr} {E : Ends}
variable {elt tg it : Expr} {ifs : List Expr} {scope : Scope} {own : List (Str × Nat)} {pos pos' spos : Pos} {is : List Nat} {t : TgtD} {ei : Env → Rs (List D)} {et : Env → Rs Bool} {ee : Env → Rs D} {st : Stmt}
/-- x = [.. for ..] on one line -/
theorem js_setLc (i : Nat) {y : Str} {py : Pos} (hx : XOk mx ms) (hc : X.calm = true) (hN : X.N.Nodup) (hi : JI X W ms tg it ei) (ok : BlkOk X.N X.env.scope scope own)
    (hg : ∀ (s : Shared) (H : Hp) (C : Addr) (cl : List (Str × Addr)) (fp : List Addr), JGt (X.blk s H scope (compEnvC scope cl C X.env) fp) ms tg is mt t)
    (ht : ∀ (s : Shared) (H : Hp) (C : Addr) (cl : List (Str × Addr)) (fp : List Addr), JTs (X.blk s H scope (compEnvC scope cl C X.env) fp) mt ifs et)
    (he : ∀ (s : Shared) (H : Hp) (C : Addr) (cl : List (Str × Addr)) (fp : List Addr), JG (X.blk s H scope (compEnvC scope cl C X.env) fp) W0 .s mt elt ee)
    (his : ∀ i ∈ is, i ∈ own.map (·.2)) (hsw : swapsWith (.ListComp elt [⟨tg, it, ifs, 0⟩] scope pos) (some (.Name y py)) spos.line X.env = pure true)
    (hlt : i < ms.length := by first | decide | simp) (hy : X.N[i]? = some y := by rfl) (hyl : X.env.scope.names.lookup y = some .local := by rfl)
    (hs : ∀ x, foldedSetIterable it X.env x = pure x := by intro _; rfl) : JS X W mx ml rm ms (.Assign [.Name y py] (.ListComp elt [⟨tg, it, ifs, 0⟩] scope pos) spos) (ms.set i (.O .S)) (sSet i (eLc ei t et ee (own.map (·.2)))) := by
  obtain ⟨wi, hi1, i2⟩ := hi
  have hg' : ∃ g, (∀ (s : Shared) (H : Hp) (C : Addr) (cl : List (Str × Addr)) (fp : List Addr), PG (X.blk s H scope (compEnvC scope cl C X.env) fp) tg g) ∧ ∀ B Hs H σ ρ Fp v d ρ' Q, Rel (mkM X) B ms Hs H σ ρ Fp → Den (mkM X) Hs v d → t d ρ = some ρ' → (∀ σ' Fp', Rel (mkM X) B mt Hs H σ' ρ' Fp' → σ'.length = σ.length → (∀ i, i ∉ is → σ'[i]? = σ[i]?) → Q σ' H) → g v σ H Q := by
    refine ⟨fun v σ H Q => ∀ (s : Shared) (H1 : Hp) (C : Addr) (cl : List (Str × Addr)) (fp : List Addr), (Classical.choose (hg s H1 C cl fp)) v σ H Q, fun s H C cl fp => ⟨fun pins s' σ H' v u Q I r q => (Classical.choose_spec (hg s H C cl fp)).1.run pins s' σ H' v u Q I r (q s H C cl fp)⟩, fun B Hs H σ ρ Fp v d ρ' Q R dn e k s H1 C cl fp => (Classical.choose_spec (hg s H1 C cl fp)).2 B Hs H σ ρ Fp v d ρ' Q R dn e k⟩
  have ht' : ∃ tt, (∀ (s : Shared) (H : Hp) (C : Addr) (cl : List (Str × Addr)) (fp : List Addr), PTs (X.blk s H scope (compEnvC scope cl C X.env) fp) ifs tt) ∧ ∀ B Hs H σ ρ Fp Q, Rel (mkM X) B mt Hs H σ ρ Fp → Post X W0 PB Hs H σ Q (et ρ) → tt σ H Q := by
    refine ⟨fun σ H Q => ∀ (s : Shared) (H1 : Hp) (C : Addr) (cl : List (Str × Addr)) (fp : List Addr), (Classical.choose (ht s H1 C cl fp)) σ H Q, fun s H C cl fp => ⟨fun pins s' σ H' Q I q => (Classical.choose_spec (ht s H C cl fp)).1.run pins s' σ H' Q I (q s H C cl fp)⟩, fun B Hs H σ ρ Fp Q R p s H1 C cl fp => (Classical.choose_spec (ht s H1 C cl fp)).2 B Hs H σ ρ Fp Q R p⟩
  have he' : ∃ te, (∀ (s : Shared) (H : Hp) (C : Addr) (cl : List (Str × Addr)) (fp : List Addr), PE (X.blk s H scope (compEnvC scope cl C X.env) fp) elt te) ∧ ∀ B Hs H σ ρ Fp Q, Rel (mkM X) B mt Hs H σ ρ Fp → Post X W0 (PV X .s) Hs H σ Q (ee ρ) → te σ H Q := by
    refine ⟨fun σ H Q => ∀ (s : Shared) (H1 : Hp) (C : Addr) (cl : List (Str × Addr)) (fp : List Addr), (Classical.choose (he s H1 C cl fp)) σ H Q, fun s H C cl fp => ⟨fun pins s' σ H' Q I q => (Classical.choose_spec (he s H C cl fp)).1.run pins s' σ H' Q I (q s H C cl fp)⟩, fun B Hs H σ ρ Fp Q R p s H1 C cl fp => (Classical.choose_spec (he s H1 C cl fp)).2 B Hs H σ ρ Fp Q R p⟩
  obtain ⟨g, g1, g2⟩ := hg'
  obtain ⟨tt, t1, t2⟩ := ht'
  obtain ⟨te, e1, e2⟩ := he'
  refine ⟨_, ps_setLc hc hN hy hyl hsw hi1 ok g1 t1 e1 hs, fun B Hs H σ ρ Fp E R p => ?_⟩
  refine lc_main (it := it) (elt := elt) (tg := tg) (ifs := ifs) i2 g2 t2 e2 his R (SPost.bind R hx p fun d v Hs1 H1 e1 R1 r q => ?_)
  obtain ⟨Fp', R'⟩ := R.new e1 hlt r
  exact q Hs1 H1 _ Fp' R'
/-- a name is shared behind a statement -/
theorem js_post (i : Nat) {es : Env → Out} (h : JS X W mx ml rm ms st ms' es) (hi : i < ms'.length := by first | decide | simp) : JS X W mx ml rm ms st (ms'.set i .S) es := by
  obtain ⟨t, h1, h2⟩ := h
  exact ⟨t, h1, fun B Hs H σ ρ Fp E R p => h2 B Hs H σ ρ Fp E R (p.post i hi)⟩
/-- a, b = e, f -/
theorem js_par {a b : Expr} {ea eb : Env → Rs D} {x y : Str} {px py pt : Pos} {kt k2 pt2} (i j : Nat) (hx : XOk mx ms) (hc : X.calm = true) (hN : X.N.Nodup) (ha : JG X W .s ms a ea) (hb : JG X W .s ms b eb)
    (hw : swappedStores [.Tuple [.Name x px, .Name y py] kt pt] (.Tuple [a, b] k2 pt2) X.env = pure (some [x, y])) (hij : i ≠ j := by decide)
    (hi : X.N[i]? = some x := by rfl) (hj : X.N[j]? = some y := by rfl) (hli : i < ms.length := by first | decide | simp) (hlj : j < ms.length := by first | decide | simp)
    (hlx : X.env.scope.names.lookup x = some .local := by rfl) (hly : X.env.scope.names.lookup y = some .local := by rfl)
    (hs : swapsWithSole [.Tuple [.Name x px, .Name y py] kt pt] (.Tuple [a, b] k2 pt2) pos.line X.env = pure false := by rfl)
    (he : starEach [a, b] X.env = (false, eval a X.env) :: starEach [b] X.env := by rfl) (he2 : starEach [b] X.env = (false, eval b X.env) :: starEach [] X.env := by rfl) :
    JS X W mx ml rm ms (.Assign [.Tuple [.Name x px, .Name y py] kt pt] (.Tuple [a, b] k2 pt2) pos) ((ms.set i .S).set j .S) (sPar i j ea eb) := by
  obtain ⟨ta, h1, h2⟩ := ha
  obtain ⟨tb, k1, k2⟩ := hb
  refine ⟨_, ps_par hc hN hi hj hij hlx hly (pa_cons h1 (pa_cons k1 pa_nil he2) he) hw hs, fun B Hs H σ ρ Fp E R p => ?_⟩
  refine h2 B Hs H σ ρ Fp _ R (SPost.bind R hx p fun d v Hs1 H1 e1 R1 r q => ?_)
  refine k2 B Hs1 H1 σ ρ Fp _ R1 (SPost.bind R1 hx q fun d2 v2 Hs2 H2 e2 R2 r2 q2 => ?_)
  refine ⟨v, v2, rfl, ?_⟩
  obtain ⟨Fp1, R3⟩ := R2.new (Ext.refl e2.s2) hli (RDen.of (H0 := H2) ((r.ext e2).s))
  obtain ⟨Fp2, R4⟩ := R3.new (Ext.refl e2.s2) (i := j) (by rw [List.length_set]; exact hlj) (RDen.of (H0 := H2) r2.s)
  exact q2 Hs2 H2 _ Fp2 R4
/-- x op= e -/
theorem js_aug {op : Operator} {ti : TIp} {f : D → D → Rs D} {e : Expr} {ev : Env → Rs D} {x : Str} {l : Lv} (i : Nat) (hx : XOk mx ms) (hN : X.N.Nodup) (he : JG X W l ms e ev) (ho : PIp X op ti)
    (o : ∀ Hs H σ v w d e Q, Same Hs H → Den (mkM X) Hs v d → Den (mkM X) H w e → Post X W (PV X .s) Hs H σ Q (f d e) → ti v w H Q)
    (hm : md ms i = .S := by rfl) (hlt : i < ms.length := by first | decide | simp) (hn : X.N[i]? = some x := by rfl) (hl : Loc X.env.scope x := by first | exact Or.inl rfl | exact Or.inr rfl) (hf : X.fn x = true ∨ X.env.scope.names.lookup x = some .local := by first | exact .inl rfl | exact .inr rfl) :
    JS X W mx ml rm ms (.AugAssign (.Name x pos') op e pos) ms (sAug i f ev) := by
  obtain ⟨t, h1, h2⟩ := he
  refine ⟨_, ps_aug hN hn hl h1 ho hf, fun B Hs H σ ρ Fp E R p => ?_⟩
  unfold sAug at p
  split at p
  · rename_i d hρ
    obtain ⟨v, g1, g2⟩ := R.val i _ hρ
    rw [hm] at g2
    refine ⟨v, g1, h2 B Hs H σ ρ Fp _ R (SPost.bind R hx p fun e w Hs1 H1 e1 R1 r q => ?_)⟩
    refine o Hs1 H1 σ v w d e _ e1.s2 (g2.S.1.mono e1.s1) (r.b e1.s2) (SPost.bind R1 hx q fun d2 v2 Hs2 H2 e2 R2 r2 q2 => ?_)
    obtain ⟨Fp1, R3⟩ := R2.new (Ext.refl e2.s2) hlt (RDen.of (H0 := H2) r2.s)
    rw [← hm, md_same hlt] at R3
    exact q2 Hs2 H2 _ Fp1 R3
  · exact p.elim

/-! ### defs -/
def outD : Out → Rs D
  | .nx _ => .ok .non
  | .rt d => .ok d
  | .exc c fs _ => .exc c fs
  | _ => .bad
/-- n parameters, N names -/
def runD (n N : Nat) (b : Env → Out) : List D → Rs D := fun ds => if ds.length = n then outD (b (ds.map some ++ List.replicate (N - n) none)) else .bad
/-- what a def promises -/
def spD (M : MK) (rm : Mode) (f : List D → Rs D) : Sp := fun vs H Q E => ∃ Hs ds, Same Hs H ∧ DenL M Hs vs ds ∧ match f ds with
  | .ok d => ∀ v Hs' H', Ext Hs H Hs' H' → RDen (.own rm) M H Hs' H' v d → Q v H'
  | .exc c fs => ∀ Hs' H' cls dd, Ext Hs H Hs' H' → ExcAt M Hs' c fs cls dd → E cls dd H'
  | .bad => False
end
section
variable {P : Program} {w : World} {K : PySem.W.Frag} {mg : Str → Option Value} {base : Heap}
/-- THE RULE of a def: all its parameters are shared -/
theorem fn_okD {x qual : Str} {st : Stmt} {f : Addr} {fd : FuncData} {N ps : List Str} {k : Nat} {rm : Mode} {ms' : Modes} {ev : Env → Out} (F : Fun K x qual st f fd) (S : FnScope N ps (defScope st)) (hpl : ps.length ≤ N.length)
    (hb : ∀ (cdv : Value) (A : Around) (outer : List PySem.Env) (s : Shared) (H : Hp) (E : XK), Room k (A.deeper (envOfC qual (defScope st) s.heap.objs.size f cdv)) →
      JSs (cxOf (L2.CX P w) P w K mg base N qual (defScope st) f cdv A outer s H E) (fun cls d _ H => E cls d H) none [] rm (List.replicate N.length .S) (defBody st) ms' ev) :
    FnOk P w K mg base (L2.CX P w) (k + 1) f fd ps (spD ⟨K, mg⟩ rm (runD ps.length N.length ev)) := by
  refine F.okX S (fun vs H Q E h => ?_) (fun cdv A outer s H vs Q E hr h => ?_)
  · obtain ⟨Hs, ds, s, l, h⟩ := h
    rw [l.length]
    by_cases z : ds.length = ps.length
    · exact z
    · have q : runD ps.length N.length ev ds = .bad := if_neg z
      rw [q] at h
      exact h.elim
  · obtain ⟨t, h1, h2⟩ := hb cdv A outer s H E hr
    refine ⟨t, h1, ?_⟩
    obtain ⟨Hs, ds, s, l, h⟩ := h
    have z : ds.length = ps.length := by
      by_cases z : ds.length = ps.length
      · exact z
      · have q : runD ps.length N.length ev ds = .bad := if_neg z
        rw [q] at h
        exact h.elim
    have q : runD ps.length N.length ev ds = outD (ev (ds.map some ++ List.replicate (N.length - ps.length) none)) := if_pos z
    rw [q] at h
    have hvl := l.length
    refine h2 (Hs, H) Hs H _ (ds.map some ++ List.replicate (N.length - ps.length) none) (fun _ => []) _ ⟨Ext.refl s, ?_, ?_, fun i d e => ?_, fun _ _ => rfl, fun _ => .nil, fun _ _ z => (nomatch z), fun _ _ _ _ z => (nomatch z)⟩ ?_
    · unfold L2.start
      simp [hvl, z]
    · simp [z]; omega
    · have hi : i < ds.length := by
        by_cases hi : i < ds.length
        · exact hi
        · rw [List.getElem?_append_right (by simp; omega), List.getElem?_replicate] at e
          split at e <;> cases e
      rw [List.getElem?_append_left (by simpa using hi), List.getElem?_map] at e
      obtain ⟨d', e1, e2⟩ := Option.map_eq_some_iff.mp e
      cases e2
      obtain ⟨v, h3, h4⟩ := l.get e1
      refine ⟨v, ?_, ?_⟩
      · unfold L2.start
        rw [List.getElem?_append_left (by simp; omega), List.getElem?_map, h3]
        rfl
      · have hm : md (List.replicate N.length Mode.S) i = .S := by
          unfold md
          rw [List.getD_eq_getElem?_getD, List.getElem?_replicate]
          split <;> rfl
        rw [hm]
        exact .sh h4
    · cases z2 : ev (ds.map some ++ List.replicate (N.length - ps.length) none) with
      | nx ρ =>
        rw [z2] at h
        exact fun Hs1 H1 σ1 Fp1 R1 => h .non Hs1 H1 R1.ext ⟨[], .flat rfl .non, .nil, fun _ z => by cases z⟩
      | rt d =>
        rw [z2] at h
        exact fun Hs1 H1 v e r => h v Hs1 H1 e r
      | exc c fs ρ =>
        rw [z2] at h
        exact fun Hs1 H1 σ1 cls dd e r => h Hs1 H1 cls dd e r
      | _ => rw [z2] at h; exact h.elim
section
variable {X : Cx} {W : WX} {ms : Modes} {k : Nat} {f : Addr} {fd : FuncData} {ps : List Str} {rm : Mode} {g : List D → Rs D} {x : Str} {p pos : Pos} {e : Expr} {es : List Expr} {ea : Env → Rs (List D)}
def eFn (g : List D → Rs D) (ea : Env → Rs (List D)) : Env → Rs D := fun ρ => (ea ρ).bind g
theorem je_fn (F : FnOk X.prog X.w X.K X.mg X.base (L2.CX X.prog X.w) k f fd ps (spD (mkM X) rm g)) (hr : Room k X.A) (hm : X.mg x = some (.ref f)) (hk : PySem.W.keepIn X.K (.ref f) = true) (hb : Binds X.K fd ps []) (tk : Takes X W) (ha : JA X W .s ms (e :: es) ea)
    (hg : Gl X x := by rfl) (hdb : (x == ("__debug__" : Str)) = false := by decide) (he : starEach (e :: es) X.env = (false, eval e X.env) :: starEach es X.env := by rfl) (hpl : (backTo pos (starEach es X.env)).any (·.1) = false := by rfl) :
    JG X W (.own rm) ms (.Call (.Name x p) (e :: es) [] pos) (eFn g ea) := by
  obtain ⟨t, h1, h2⟩ := ha
  refine ⟨_, pe_callS F hr hg hm hk hb (fun σ => passAt tk σ) h1 hdb he hpl, fun B Hs H σ ρ Fp Q R p => ?_⟩
  refine h2 B Hs H σ ρ Fp _ R (Post.seq p fun ds vs Hs1 H1 _ e1 r q => ?_)
  refine ⟨Hs1, ds, e1.s2, r.s, ?_⟩
  cases z : g ds with
  | ok d => rw [z] at q; exact fun v Hs' H' e r => q v Hs' H' e r
  | exc c fs => rw [z] at q; exact fun Hs' H' cls dd e r => q Hs' H' cls dd e r
  | bad => rw [z] at q; exact q
end
end
end G
/-! G: what is not reached; isinstance; len(set(..)); list.index -/
namespace G
open PySem PySem.Spec L2
open PyProof.Rows hiding St
section
variable {X : Cx} {W : WX} {mx : Option Modes} {ml : Modes} {rm : Mode} {ms ms' mt : Modes} {B : Hp × Hp} {Hs H : Hp} {σ : St} {ρ : Env} {Fp : Nat → List Addr} {E : Ends} {st : Stmt} {e a : Expr} {ev ea : Env → Rs D} {l la : Lv}
def sBad : Env → Out := fun _ => .bad
def eBad : Env → Rs D := fun _ => .bad
theorem js_bad : JS X W mx ml rm ms st ms' sBad := ⟨fun _ _ _ => False, ⟨fun _ _ _ _ _ _ h => h.elim⟩, fun _ _ _ _ _ _ _ _ p => p.elim⟩
theorem je_bad : JG X W l ms e eBad := ⟨fun _ _ _ => False, ⟨fun _ _ _ _ _ _ h => h.elim⟩, fun _ _ _ _ _ _ _ _ p => p.elim⟩

/-! ### isinstance -/
def tyD : D → Option String
  | .non => some "NoneType"
  | .bl _ => some "bool"
  | .int _ => some "int"
  | .str _ => some "str"
  | .lst _ => some "list"
  | .tup _ => some "tuple"
  | .kt _ => some "tuple"
  | .dk _ => some "dict"
  | _ => none
def isiF (p : String → Bool) : D → Rs D := fun d => match tyD d with
  | some a => .ok (.bl (p a))
  | none => .bad
def isList (a : String) : Bool := a == "list"
def isTuple (a : String) : Bool := a == "tuple"
def isBool (a : String) : Bool := a == "bool"
def isInt (a : String) : Bool := a == "int" || a == "bool"
def isStr (a : String) : Bool := a == "str"
def isDict (a : String) : Bool := a == "dict"
abbrev TyTab (T : String) (f : String → Bool) : Prop := ∀ a ∈ ["NoneType", "bool", "int", "str", "list", "tuple", "dict"], kitB a T = some (f a)
theorem tyD_mem {d : D} {a : String} (h : tyD d = some a) : a ∈ ["NoneType", "bool", "int", "str", "list", "tuple", "dict"] := by
  cases d <;> cases h <;> decide
theorem tt_list : TyTab "list" isList := by decide +kernel
theorem tt_tuple : TyTab "tuple" isTuple := by decide +kernel
theorem tt_bool : TyTab "bool" isBool := by decide +kernel
theorem tt_int : TyTab "int" isInt := by decide +kernel
theorem tt_str : TyTab "str" isStr := by decide +kernel
theorem tt_dict : TyTab "dict" isDict := by decide +kernel
theorem den_ty {v : V} {d : D} {a : String} (h : Den (mkM X) H v d) (e : tyD d = some a) : TyX X.K H v (.type a) := by
  cases h with
  | non => cases e; exact .base .non
  | bl b => cases e; exact .base (.bl b)
  | int i => cases e; exact .base (.int i)
  | str x => cases e; exact .base (.str x)
  | lst h l =>
    cases e
    rcases h with h | ⟨o, h⟩
    · exact .base (.lst h)
    · exact .base (.frz h)
  | tup h l => cases e; exact .base (.tup h)
  | kt h l =>
    cases e
    rcases h with (h | ⟨o, h⟩) | ⟨o, its, n, h1, h2, _⟩
    · exact .base (.tup h)
    · exact .fTuple h
    · exact .kTuple h1 h2
  | dk h k l =>
    cases e
    rcases h with h | ⟨o, h⟩
    · exact .base (.dK h)
    · exact .fDict h
  | _ => cases e
variable {p1 p2 pos : Pos}
theorem je_isi {T : String} {y : Str} {f : String → Bool} (hT : TyTab T f) (hm : X.mg "isinstance" = none) (hm2 : X.mg y = none) (hv : bootBuiltins y = some (.type T)) (ha : JG X W l ms a ea) (hg : Gl X "isinstance" := by rfl) (hg2 : Gl X y := by rfl) (hn : y ≠ "__name__" := by decide) (hd : (y == ("__debug__" : Str)) = false := by decide)
    (he : starEach (a :: [.Name y p2]) X.env = (false, eval a X.env) :: starEach [.Name y p2] X.env := by rfl) (he2 : starEach [.Name y p2] X.env = (false, eval (.Name y p2) X.env) :: starEach [] X.env := by rfl) (hpl : (backTo pos (starEach [.Name y p2] X.env)).any (·.1) = false := by rfl) :
    JG X W .s ms (.Call (.Name "isinstance" p1) [a, .Name y p2] [] pos) (v1 (isiF f) ea) := by
  obtain ⟨t, h1, h2⟩ := ha
  refine ⟨_, pe_callB call_isi hg hm (by decide +kernel) (pa_cons h1 (pa_cons (pe_bltn hg2 hm2 hv (v := .ty T) rfl hn hd) pa_nil he2) he) (by decide) (by decide) he hpl, fun B Hs H σ ρ Fp Q R p => h2 B Hs H σ ρ Fp _ R (p.seq fun d x Hs1 H1 _ e1 r1 q1 => ?_)⟩
  unfold isiF at q1
  split at q1
  · rename_i a he
    exact ⟨x, .ty T, .type a, .type T, f a, rfl, .ty T, den_ty (r1.b e1.s2) he, kit_ty (hT a (tyD_mem he)), q1 _ Hs1 H1 (Ext.refl e1.s2) (.of (.bl _))⟩
  · exact q1.elim

/-! ### len(set(list of numbers)) -/
def nub (ns : List Int) : Nat := (PyProof.Rows.firstMet (fun i => ns.getD i 0) ns.length).length
def tLenSetG (K : PySem.W.Frag) (ta : TE) : TE := fun σ H Q => ta σ H fun x H1 => ∃ (l : Addr) (ns : List Int), x = .ref l ∧ SqL K H1 l (ns.map V.int) ∧ ns.length ≤ 4000 ∧ Q (.int (nub ns : Nat)) H1
theorem firstMet_le (f : Nat → Int) : ∀ n, (PyProof.Rows.firstMet f n).length ≤ n
  | 0 => Nat.le_refl _
  | n + 1 => by
    rw [PyProof.Rows.firstMet_succ]
    have := firstMet_le f n
    show (if (PyProof.Rows.firstMet f n).any (· == f n) then PyProof.Rows.firstMet f n else PyProof.Rows.firstMet f n ++ [f n]).length ≤ n + 1
    split
    · omega
    · rw [List.length_append]
      show _ + 1 ≤ n + 1
      omega
theorem pe_lenSetG {a : Expr} {ta : TE} {p p2 q pos : Pos} (hg : Gl X "len") (hm : X.mg "len" = none) (hg2 : Gl X "set") (hm2 : X.mg "set" = none) (ha : PE X a ta) (hc : X.calm = true)
    (na : starEach [a] X.env = (false, eval a X.env) :: starEach [] X.env) : PE X (.Call (.Name "len" p) [.Call (.Name "set" p2) [a] [] q] [] pos) (tLenSetG X.K ta) := by
  refine ⟨fun pins s σ H Q I h => ?_⟩
  refine Call_ (ld_blt I hg hm boot_len ?_)
  refine PyProof.Rows.callWith_builtin1 (PyProof.Rows.args_cons ?_ rfl) rfl rfl
  refine Call_ (ld_blt I hg2 hm2 boot_set ?_)
  refine PyProof.Rows.callWith_type1 (PyProof.Rows.args_cons (thn (ha.run pins s σ H _ I h) fun v s1 ⟨x, H1, I1, r1, q1⟩ => PyProof.Rows.args_nil ?_) na) na rfl
  obtain ⟨l, ns, rfl, hq, hl, q1⟩ := q1
  cases r1
  obtain ⟨its, r, pl, hz⟩ := I1.list hq
  have hlen : its.toArray.size = ns.length := by rw [List.size_toArray, ← r.length, List.length_map]
  refine call_set_list (I1.ok.hd hc) pl.isList (by simpa using RZ.intsAre_vals r) (by rw [hlen]; unfold scanBound; omega) fun h' tk hS hk => ?_
  refine PyProof.Rows.args_nil ?_
  rw [hlen] at hS
  obtain ⟨o, es, ep, t, ho, hex, hd, _, _, _, hf, hn⟩ := hS
  have I2 : Inv X pins σ H1 { s1 with heap := h', toks := tk } := I1.kept fun b o e => hk b o (Heap.lt_size e) e
  have hnl : nub ns ≤ ns.length := firstMet_le _ _
  exact call_len_set ho hex hd hf (by rw [hn]; show ((nub ns : Nat) : Int) < _; omega) ⟨.int (nub ns), H1, I2.tok _, ⟨_, by rw [hn]; rfl⟩, q1⟩
def dLenSet : D → Rs D
  | .lst ds => match intsOf ds with
    | some ns => if ns.length ≤ 4000 then .ok (.int (nub ns : Nat)) else .bad
    | none => .bad
  | _ => .bad
theorem je_lenSet {p p2 q pos : Pos} (hc : X.calm = true) (hm : X.mg "len" = none) (hm2 : X.mg "set" = none) (ha : JG X W .s ms a ea) (hg : Gl X "len" := by rfl) (hg2 : Gl X "set" := by rfl) (na : starEach [a] X.env = (false, eval a X.env) :: starEach [] X.env := by rfl) :
    JG X W .s ms (.Call (.Name "len" p) [.Call (.Name "set" p2) [a] [] q] [] pos) (v1 dLenSet ea) := by
  obtain ⟨t, h1, h2⟩ := ha
  refine ⟨_, pe_lenSetG hg hm hg2 hm2 h1 hc na, fun B Hs H σ ρ Fp Q R p => h2 B Hs H σ ρ Fp _ R (p.seq fun d x Hs1 H1 _ e1 r1 q1 => ?_)⟩
  unfold dLenSet at q1
  split at q1
  · rename_i ds
    split at q1
    · rename_i ns hn
      split at q1
      · rename_i c
        have dd := r1.b e1.s2
        cases dd with
        | lst g l =>
          rw [intsOf_some hn] at l
          have e := l.ints
          subst e
          exact ⟨_, ns, rfl, .inl g, c, q1 _ Hs1 H1 (Ext.refl e1.s2) (.of (.int _))⟩
      · exact q1.elim
    · exact q1.elim
  · exact q1.elim

/-! ### x.index(y), numbers -/
def idxI : List Int → Int → Option Nat
  | [], _ => none
  | n :: ns, k => if n = k then some 0 else (idxI ns k).map (· + 1)
theorem idxI_spec : ∀ {ns : List Int} {k : Int} {j : Nat}, idxI ns k = some j → ns[j]? = some k ∧ ∀ m z, m < j → ns[m]? = some z → z ≠ k
  | [], _, _, h => by cases h
  | n :: ns, k, j, h => by
    unfold idxI at h
    by_cases e : n = k
    · rw [if_pos e] at h
      cases h
      exact ⟨by simp [e], fun m z hm => absurd hm (Nat.not_lt_zero _)⟩
    · rw [if_neg e] at h
      obtain ⟨i, h1, rfl⟩ := Option.map_eq_some_iff.mp h
      obtain ⟨h2, h3⟩ := idxI_spec h1
      refine ⟨by simpa using h2, fun m z hm hz => ?_⟩
      cases m with
      | zero => simp at hz; rw [← hz]; exact e
      | succ m => exact h3 m z (by omega) (by simpa using hz)
def dIndex (ds : List D) : D → Rs D
  | .int k => match intsOf ds with
    | some ns => match idxI ns k with
      | some j => .ok (.int (j : Nat))
      | none => .bad
    | none => .bad
  | _ => .bad
def eIndex (eo ea : Env → Rs D) : Env → Rs D := fun ρ => (eo ρ).bind fun d => match d with
  | .lst ds => (ea ρ).bind fun e => dIndex ds e
  | _ => .bad
theorem je_index {ox ce : Expr} {eo : Env → Rs D} (hpe : ∀ tr ta, PE X ox tr → PE X a ta → PE X ce (tBM X.K "list" (rIndex X.K) tr (tCons ta tNil))) (ho : JG X W l ms ox eo) (ha : JG X W la ms a ea) : JG X W .s ms ce (eIndex eo ea) := by
  obtain ⟨t, h1, h2⟩ := ho
  obtain ⟨u, k1, k2⟩ := ha
  refine ⟨_, hpe _ _ h1 k1, fun B Hs H σ ρ Fp Q R p => h2 B Hs H σ ρ Fp _ R (Post.seq p fun d x Hs1 H1 _ e1 r1 q1 => ?_)⟩
  have dx := r1.b e1.s2
  cases d with
  | lst ds =>
    cases dx with
    | lst g l =>
      rename_i a vs
      refine ⟨.inl ⟨rfl, vs, .inl g⟩, k2 B Hs1 H1 σ ρ Fp _ (R.step e1) (Post.seq q1 fun d2 y Hs2 H2 _ e2 r2 q2 => ?_)⟩
      unfold dIndex at q2
      split at q2
      · rename_i k _
        have dy := r2.b e2.s2
        cases dy
        split at q2
        · rename_i ns hn
          split at q2
          · rename_i j hj
            rw [intsOf_some hn] at l
            have e := l.ints
            subst e
            obtain ⟨j1, j2⟩ := idxI_spec hj
            refine ⟨a, ns.map V.int, .int k, j, .int k, rfl, rfl, .inl (Same.rd e2.s3 g), rfl, ?_, ?_, ?_, fun m z' hm hz => ?_, q2 _ Hs2 H2 (Ext.refl e2.s2) (.of (.int _))⟩
            · rw [List.all_eq_true]
              intro v hv
              obtain ⟨n, _, rfl⟩ := List.mem_map.mp hv
              rfl
            · rw [List.getElem?_map, j1]; rfl
            · simp [eqV]
            · rw [List.getElem?_map] at hz
              obtain ⟨n, h5, rfl⟩ := Option.map_eq_some_iff.mp hz
              have := j2 m n hm h5
              simp [eqV, this]
          · exact q2.elim
        · exact q2.elim
      · exact q2.elim
  | _ => exact q1.elim
end
end G
/-! G: lists of lists of this frame's own -/
namespace G
open PySem PySem.Spec L2
open PyProof.Rows hiding St
section
variable {X : Cx} {W : WX} {mx : Option Modes} {ml : Modes} {rm : Mode} {ms ms' mt : Modes} {B : Hp × Hp} {Hs H : Hp} {σ : St} {ρ : Env} {Fp : Nat → List Addr} {E : Ends} {st : Stmt} {e a ox ce : Expr} {ev ea : Env → Rs D} {l la : Lv} {pos : Pos} {M : MK}
/-- [], its items to be held by m -/
theorem je_nilL {m : Mode} : JG X W (.own (.O m)) ms (.List [] pos) (eC (.lst [])) := by
  refine ⟨_, pe_lst pa_nil, fun B Hs H σ ρ Fp Q R p => ?_⟩
  refine ⟨Nat.zero_le _, fun q nq => p (.ref q) Hs _ (Ext.newO R.sub nq) ⟨[q], .lst (R.sub.free nq) upd_same .nil, by simp, fun a ha => by rw [List.mem_singleton.mp ha]; exact nq⟩⟩
/-- what a slot holds is taken out -/
theorem Rel.takeOut (R : Rel M B ms Hs H σ ρ Fp) (j : Nat) : Rel M B ms Hs H σ (ρ.set j none) (fun k => if k = j then [] else Fp k) := by
  refine ⟨R.ext, by simpa using R.len, by simpa using R.lm, fun k d h => ?_, fun k h => ?_, fun k => ?_, fun k a ha => ?_, fun k k2 hk a ha => ?_⟩
  · by_cases z : k = j
    · subst z
      by_cases hl : k < ρ.length
      · rw [List.getElem?_set_self hl] at h; cases h
      · rw [List.getElem?_eq_none (by simpa using hl)] at h; cases h
    · rw [List.getElem?_set_ne (Ne.symm z)] at h
      simp only [if_neg z]
      exact R.val k d h
  · by_cases z : k = j
    · simp only [if_pos z]
    · simp only [if_neg z]
      refine R.off k fun d y => h d ?_
      rw [List.getElem?_set_ne (Ne.symm z)]; exact y
  · by_cases z : k = j
    · simp only [if_pos z]; exact .nil
    · simp only [if_neg z]; exact R.nd k
  · by_cases z : k = j
    · simp only [if_pos z] at ha; cases ha
    · simp only [if_neg z] at ha; exact R.fr k a ha
  · by_cases z : k = j
    · simp only [if_pos z] at ha; cases ha
    · simp only [if_neg z] at ha
      by_cases z2 : k2 = j
      · simp only [if_pos z2]; exact fun y => by cases y
      · simp only [if_neg z2]; exact R.dj k k2 hk a ha
/-- x.append(y), y given up -/
def sAppMv (i j : Nat) : Env → Out := fun ρ => match ρ[j]? with
  | some (some d) => match ρ[i]? with
    | some (some (.lst ds)) => if ds.length < cap then .nx ((ρ.set j none).set i (some (.lst (ds ++ [d])))) else .bad
    | _ => .bad
  | _ => .bad
theorem js_appMv (i j : Nat) {m : Mode} (hpe : ∀ tr ta, PE X ox tr → PE X a ta → PE X ce (tBM X.K "list" rAppend tr (tCons ta tNil))) (hst : ∀ te, PE X ce te → PS X st (tDrop te)) (hv : PE X ox (tVar i)) (hw : PE X a (tVar j))
    (hm : md ms i = .O m := by rfl) (hmj : md ms j = m := by rfl) (hij : i ≠ j := by decide) (hi : i < ms.length := by first | decide | simp) : JS X W mx ml rm ms st ms (sAppMv i j) := by
  refine ⟨_, hst _ (hpe _ _ hv hw), fun B Hs H σ ρ Fp E R p => ?_⟩
  unfold sAppMv at p
  split at p
  · rename_i d hj
    split at p
    · rename_i ds hi'
      split at p
      · rename_i c
        obtain ⟨q, vs, F, h1, h2, h3, h4⟩ := R.lst hm hi'
        obtain ⟨w, g1, g2⟩ := R.val j d hj
        rw [hmj] at g2
        have R2 := R.takeOut j
        have hF2 : (fun k => if k = j then [] else Fp k) i = q :: F := by simp only [if_neg hij]; exact h4
        obtain ⟨Fp', R'⟩ := R2.writeL (ws := vs ++ [w]) (es := ds ++ [d]) (G := F ++ (Fp j ++ [])) hi hm h1 hF2 (h3.app (.cons g2 .nil)) (by
          rw [List.append_nil]
          refine List.nodup_append.mpr ⟨nodF R h4, R.nd j, fun x hx y hy e => ?_⟩
          subst e
          exact R.dj i j hij x (by rw [h4]; exact List.mem_cons_of_mem _ hx) hy) fun b hb => by
            rw [List.append_nil] at hb
            rcases List.mem_append.mp hb with hb | hb
            · exact .inl hb
            · refine .inr ⟨R.fr j b hb, fun k hk => ?_⟩
              by_cases z : k = j
              · simp only [if_pos z] at hk; cases hk
              · simp only [if_neg z] at hk; exact R.dj k j z b hk hb
        exact ⟨.ref q, h1, .inl ⟨rfl, vs, SqL.of h2⟩, w, g1, q, vs, w, rfl, rfl, h2, by rw [h3.length]; exact cap_lt c, p Hs _ σ Fp' R'⟩
      · exact p.elim
    · exact p.elim
  · exact p.elim
/-- a list's item is put in another's place -/
theorem OwnL.set {m : Mode} {w : V} {d : D} {G : List Addr} (o : Own M Hs H m w d G) (ng : G.Nodup) : ∀ {vs : List V} {ds : List D} {F : List Addr} (j : Nat), OwnL M Hs H m vs ds F → F.Nodup → (∀ a ∈ G, a ∉ F) → ∃ F', OwnL M Hs H m (vs.set j w) (ds.set j d) F' ∧ F'.Nodup ∧ ∀ a ∈ F', a ∈ F ∨ a ∈ G
  | _, _, _, _, .nil, _, _ => ⟨[], .nil, .nil, fun _ h => by cases h⟩
  | _, _, _, 0, .cons (F := F1) (G := F2) h t, n, dj => by
    obtain ⟨n1, n2, n3⟩ := List.nodup_append.mp n
    refine ⟨G ++ F2, .cons o t, List.nodup_append.mpr ⟨ng, n2, fun x hx y hy e => ?_⟩, fun a ha => ?_⟩
    · subst e; exact dj x hx (List.mem_append_right _ hy)
    · rcases List.mem_append.mp ha with ha | ha
      · exact .inr ha
      · exact .inl (List.mem_append_right _ ha)
  | _, _, _, j + 1, .cons (F := F1) (G := F2) h t, n, dj => by
    obtain ⟨n1, n2, n3⟩ := List.nodup_append.mp n
    obtain ⟨F', t', n', s'⟩ := OwnL.set o ng j t n2 fun a ha z => dj a ha (List.mem_append_right _ z)
    refine ⟨F1 ++ F', .cons h t', List.nodup_append.mpr ⟨n1, n', fun x hx y hy e => ?_⟩, fun a ha => ?_⟩
    · subst e
      rcases s' x hy with z | z
      · exact n3 x hx x z rfl
      · exact dj x z (List.mem_append_left _ hx)
    · rcases List.mem_append.mp ha with ha | ha
      · exact .inl (List.mem_append_left _ ha)
      · rcases s' a ha with z | z
        · exact .inl (List.mem_append_right _ z)
        · exact .inr z
/-- x[k] = e, x a list of things of this frame's own -/
def sSetIxO (i : Nat) (ek ev : Env → Rs D) : Env → Out := fun ρ => sBind (ev ρ) ρ fun d => match ρ[i]? with
  | some (some (.lst ds)) => sBind (ek ρ) ρ fun k => match k with
    | .int n => match ixN ds.length n with
      | some j => .nx (ρ.set i (some (.lst (ds.set j d))))
      | none => .bad
    | _ => .bad
  | _ => .bad
theorem js_setIxO {m : Mode} {k : Expr} {ek : Env → Rs D} (i : Nat) (hx : XOk mx ms) (hst : ∀ te to ti, PE X a te → PE X ox to → PE X k ti → PS X st (tAsg te (gSub to ti rSet5))) (hv : PE X ox (tVar i)) (hk : JG X W l ms k ek) (he : JG X W (.own m) ms a ea)
    (hm : md ms i = .O m := by rfl) (hi : i < ms.length := by first | decide | simp) : JS X W mx ml rm ms st ms (sSetIxO i ek ea) := by
  obtain ⟨t, h1, h2⟩ := he
  obtain ⟨u, k1, k2⟩ := hk
  refine ⟨_, hst _ _ _ h1 hv k1, fun B Hs H σ ρ Fp E R p => h2 B Hs H σ ρ Fp _ R (SPost.bind R hx p fun d v Hs1 H1 e1 R1 r q => ?_)⟩
  split at q
  · rename_i ds ho
    obtain ⟨w, vs, F, g1, g2, g3, g4⟩ := R1.lst hm ho
    refine ⟨.ref w, g1, k2 B Hs1 H1 σ ρ Fp _ R1 (SPost.bind R1 hx q fun kd kv Hs2 H2 e2 R2 r2 q2 => ?_)⟩
    have dk := r2.b R2.sub
    obtain ⟨G, o, ng, fg⟩ := r
    split at q2
    · rename_i n
      cases dk
      split at q2
      · rename_i j hj
        have dl := g3.length
        rw [← dl] at hj
        have fr0 := R.fresh fg
        obtain ⟨F', l', n', s'⟩ := (g3.ext e2).set (o.ext e2) ng j (nodF R2 g4) fun x hx z => (fr0 x hx).2 i (by rw [g4]; exact List.mem_cons_of_mem _ z)
        refine .inl ⟨_, _, n, j, rfl, rfl, e2.s3 _ _ g2, hj, ?_⟩
        obtain ⟨Fp', R'⟩ := R2.writeL hi hm g1 g4 l' n' fun b hb => by
          rcases s' b hb with z | z
          · exact .inl z
          · exact .inr (fr0 b z)
        exact q2 Hs2 _ σ Fp' R'
      · exact q2.elim
    · exact q2.elim
  · exact q.elim
/-- one of a list's own lists is changed -/
theorem OwnL.inner : ∀ {vs : List V} {ds : List D} {F : List Addr} {j : Nat} {es : List D}, OwnL M Hs H (.O .S) vs ds F → F.Nodup → ds[j]? = some (.lst es) → ∃ q ws, vs[j]? = some (.ref q) ∧ H q = some (.lst ws) ∧ q ∈ F ∧ DenL M Hs ws es ∧
    ∀ ws' es', DenL M Hs ws' es' → OwnL M Hs (upd H q (.lst ws')) (.O .S) vs (ds.set j (.lst es')) F
  | _, _, _, j, _, .nil, _, e => by simp at e
  | _, _, _, 0, es, .cons (F := F1) (G := F2) h t, n, e => by
    obtain ⟨n1, n2, n3⟩ := List.nodup_append.mp n
    simp at e
    subst e
    cases h with
    | flat f _ => cases f
    | lst nn g ll =>
      obtain ⟨dl, rfl⟩ := ll.den_S
      refine ⟨_, _, rfl, g, by simp, dl, fun ws' es' d' => ?_⟩
      exact .cons (.lst nn upd_same (OwnL.sh d')) (t.move (Same.refl _) (fun b hb => (t.none b hb).1) fun b o hb z => by
        rw [upd_ne (fun y => n3 _ List.mem_cons_self b z y.symm)]; exact hb)
  | _, _, _, j + 1, es, .cons (F := F1) (G := F2) h t, n, e => by
    obtain ⟨n1, n2, n3⟩ := List.nodup_append.mp n
    obtain ⟨q, ws, g1, g2, g3, g4, k⟩ := OwnL.inner (j := j) t n2 (by simpa using e)
    refine ⟨q, ws, by simpa using g1, g2, List.mem_append_right _ g3, g4, fun ws' es' d' => ?_⟩
    exact .cons (h.move (Same.refl _) (fun b hb => (h.none b hb).1) fun b o hb z => by
      rw [upd_ne (fun y => n3 b z q g3 y)]; exact hb) (k ws' es' d')
/-- a slot that holds a list of lists -/
theorem Rel.inner {i : Nat} {ds : List D} (R : Rel M B ms Hs H σ ρ Fp) (hi : i < ms.length) (hm : md ms i = .O (.O .S)) (h : ρ[i]? = some (some (.lst ds))) : ∃ a vs, σ[i]? = some (some (.ref a)) ∧ H a = some (.lst vs) ∧ vs.length = ds.length ∧
    ∀ j es, ds[j]? = some (.lst es) → ∃ q ws, vs[j]? = some (.ref q) ∧ H q = some (.lst ws) ∧ DenL M Hs ws es ∧
      ∀ ws' es', DenL M Hs ws' es' → ∃ Fp', Rel M B ms Hs (upd H q (.lst ws')) σ (ρ.set i (some (.lst (ds.set j (.lst es'))))) Fp' := by
  obtain ⟨a, vs, F, g1, g2, g3, g4⟩ := R.lst hm h
  refine ⟨a, vs, g1, g2, g3.length, fun j es hj => ?_⟩
  have nd := R.nd i
  rw [g4] at nd
  obtain ⟨na, nF⟩ := List.nodup_cons.mp nd
  obtain ⟨q, ws, k1, k2, k3, k4, k⟩ := g3.inner nF hj
  refine ⟨q, ws, k1, k2, k4, fun ws' es' d' => ?_⟩
  have hqa : a ≠ q := fun e => na (by rw [e]; exact k3)
  have e := R.write (m' := .O (.O .S)) (F := a :: F) (o := .lst ws') (d' := .lst (ds.set j (.lst es'))) (a := q) hi (by rw [g4]; exact List.mem_cons_of_mem _ k3) g1
    (.lst (R.has (i := i) (by rw [g4]; exact List.mem_cons_self)).1 (by rw [upd_ne hqa]; exact g2) (k ws' es' d')) (by rw [← g4]; exact R.nd i) fun b hb => .inl (by rw [g4]; exact hb)
  rw [← hm, md_same hi] at e
  exact e
/-- x[j][k] = e -/
def sSetIx2 (i : Nat) (ej ek ev : Env → Rs D) : Env → Out := fun ρ => sBind (ev ρ) ρ fun d => match ρ[i]? with
  | some (some (.lst ds)) => sBind (ej ρ) ρ fun jd => match jd with
    | .int n => match ixN ds.length n with
      | some j => match ds[j]? with
        | some (.lst es) => sBind (ek ρ) ρ fun kd => match kd with
          | .int n2 => match ixN es.length n2 with
            | some j2 => .nx (ρ.set i (some (.lst (ds.set j (.lst (es.set j2 d))))))
            | none => .bad
          | _ => .bad
        | _ => .bad
      | none => .bad
    | _ => .bad
  | _ => .bad
theorem js_setIx2 {l2 : Lv} {j k : Expr} {ej ek : Env → Rs D} {p2 : Pos} (i : Nat) (hu : X.A.units + 64 < cLine) (hx : XOk mx ms) (hst : ∀ te to ti, PE X a te → PE X (.Subscript ox j p2) to → PE X k ti → PS X st (tAsg te (gSub to ti rSet5))) (hv : PE X ox (tVar i)) (hj : JG X W l2 ms j ej) (hk : JG X W l ms k ek) (he : JG X W .s ms a ea)
    (hs : PlainIx j) (hm : md ms i = .O (.O .S) := by rfl) (hi : i < ms.length := by first | decide | simp) : JS X W mx ml rm ms st ms (sSetIx2 i ej ek ea) := by
  obtain ⟨t, h1, h2⟩ := he
  obtain ⟨u, k1, k2⟩ := hk
  obtain ⟨v, j1, j2⟩ := hj
  refine ⟨_, hst _ _ _ h1 (pe_ix (ix5 hu) hv j1 hs) k1, fun B Hs H σ ρ Fp E R p => h2 B Hs H σ ρ Fp _ R (SPost.bind R hx p fun d vv Hs1 H1 e1 R1 r q => ?_)⟩
  split at q
  · rename_i ds ho
    have hσ : ∃ a, σ[i]? = some (some (.ref a)) := by
      obtain ⟨w, vs, F, g1, _⟩ := R1.lst hm ho
      exact ⟨w, g1⟩
    obtain ⟨w, hw⟩ := hσ
    refine ⟨.ref w, hw, j2 B Hs1 H1 σ ρ Fp _ R1 (SPost.bind R1 hx q fun jd jv Hs2 H2 e2 R2 r2 q2 => ?_)⟩
    have djv := r2.b R2.sub
    split at q2
    · rename_i n
      cases djv
      obtain ⟨w', vs, g1, g2, g3, g4⟩ := R2.inner hi hm ho
      rw [hw] at g1
      cases g1
      split at q2
      · rename_i jj hjj
        split at q2
        · rename_i es hes
          obtain ⟨qq, ws, f1, f2, f3, _⟩ := g4 jj es hes
          rw [← g3] at hjj
          refine .inl (.inl ⟨_, _, n, .ref qq, rfl, rfl, SqL.of g2, by unfold atI; rw [hjj]; exact f1, ?_⟩)
          refine k2 B Hs2 H2 σ ρ Fp _ R2 (SPost.bind R2 hx q2 fun kd kv Hs3 H3 e3 R3 r3 q3 => ?_)
          have dkv := r3.b R3.sub
          split at q3
          · rename_i n2
            cases dkv
            split at q3
            · rename_i jj2 hjj2
              obtain ⟨w3, vs3, b1, b2, b3, b4⟩ := R3.inner hi hm ho
              obtain ⟨q3', ws3, c1, c2, c3, c4⟩ := b4 jj es hes
              rw [hw] at b1
              cases b1
              have ev := e3.s3 _ _ g2
              rw [b2] at ev
              cases ev
              rw [f1] at c1
              cases c1
              have dv := r.s.mono (e2.s1.trans e3.s1)
              rw [← c3.length] at hjj2
              refine .inl ⟨_, _, n2, jj2, rfl, rfl, c2, hjj2, ?_⟩
              obtain ⟨Fp', R'⟩ := c4 _ _ (c3.set dv jj2)
              exact q3 Hs3 _ σ Fp' R'
            · exact q3.elim
          · exact q3.elim
        · exact q2.elim
      · exact q2.elim
    · exact q2.elim
  · exact q.elim
end
end G
/-! G: one rule for +, one for *, one for slices; {} -/
namespace G
open PySem PySem.Spec L2
open PyProof.Rows hiding St
section
variable {X : Cx} {W : WX} {ms : Modes} {la lb lo : Lv} {r r' : R2} {f g g' : D → D → Rs D} {a b : Expr} {ea eb : Env → Rs D} {pos : Pos}
theorem O2.os {m : Mode} (o : O2 X W la lb (.own m) r g) : O2 X W la lb .s r g := by
  intro H0 H00 Hs H σ x y d e Q s rx ry p
  refine o H0 H00 Hs H σ x y d e Q s rx ry ?_
  cases z : g d e with
  | ok d =>
    rw [z] at p
    rintro v Hs' H' e ⟨F, o, n, f⟩
    exact p v _ H' (e.give (fun a ha => (o.none a ha).1) f) (.of (o.give e.s2))
  | exc c fs => rw [z] at p; exact p
  | bad => rw [z] at p; exact p
theorem O2.alt (o : O2 X W la lb lo r g) (o' : O2 X W la lb lo r' g') (h : ∀ d e, f d e = g d e ∨ f d e = g' d e) : O2 X W la lb lo (fun x y H Q => r x y H Q ∨ r' x y H Q) f := by
  intro H0 H00 Hs H σ x y d e Q s rx ry p
  rcases h d e with z | z
  · rw [z] at p; exact .inl (o H0 H00 Hs H σ x y d e Q s rx ry p)
  · rw [z] at p; exact .inr (o' H0 H00 Hs H σ x y d e Q s rx ry p)
def dPlus : D → D → Rs D
  | .lst xs, .lst ys => if xs.length + ys.length ≤ cap then .ok (.lst (xs ++ ys)) else .bad
  | d, e => dAdd d e
theorem o_plus : O2 X W .s .s .s (fun x y H Q => rAdd3 X.K x y H Q ∨ rCat2 x y H Q) dPlus :=
  (o_add (.inl rfl) (.inl rfl)).alt (o_cat (la := .s) (lb := .s) rfl rfl).os fun d e => by
    cases d <;> cases e <;> first | exact .inl rfl | exact .inr rfl
theorem op_plus : OpR X (binaryOp .Add) (fun x y H Q => rAdd3 X.K x y H Q ∨ rCat2 x y H Q) := op_add3.or op_cat2
def dTimes : D → D → Rs D
  | .lst xs, .int k => if -1000000 ≤ k ∧ k ≤ 1000000 ∧ xs.length * k.toNat ≤ cap then .ok (.lst (List.replicate k.toNat xs).flatten) else .bad
  | d, e => dMul d e
theorem o_times : O2 X W .s .s .s (fun x y H Q => rI CMulW (fun i j => .int (i * j)) x y H Q ∨ rRep2 x y H Q) dTimes :=
  o_mul.alt (o_rep (la := .s) rfl).os fun d e => by
    cases d <;> cases e <;> first | exact .inl rfl | exact .inr rfl
theorem op_times : OpR X (binaryOp .Mult) (fun x y H Q => rI CMulW (fun i j => .int (i * j)) x y H Q ∨ rRep2 x y H Q) := op_mulW.or op_rep2
/-- a part of anything -/
def dCut : D → Option Int → Option Int → Rs D
  | .lst xs, lo, hi => .ok (.lst (cutD xs lo hi))
  | .kl xs, lo, hi => .ok (.lst (cutD xs lo hi))
  | d, lo, hi => dCutS d lo hi
variable {el eh : Env → Rs (Option Int)} {p2 : Pos} {lo' hi' : Option Expr}
theorem PE.or {e : Expr} {t t' : TE} (h : PE X e t) (h' : PE X e t') : PE X e (fun σ H Q => t σ H Q ∨ t' σ H Q) := ⟨fun pins s σ H Q I q => by
  rcases q with q | q
  · exact h.run pins s σ H Q I q
  · exact h'.run pins s σ H Q I q⟩
theorem je_cut (ha : JG X W .s ms a ea) (h1 : JP X W ms lo' el) (h2 : JP X W ms hi' eh) : JG X W .s ms (.Subscript a (.Slice lo' hi' none p2) pos) (eSl dCut ea el eh) := by
  obtain ⟨ta, a1, a2⟩ := ha
  obtain ⟨tl, l1, l2⟩ := h1
  obtain ⟨tu, k1, k2⟩ := h2
  refine ⟨_, pe_slice (sl_list.or (sl_tupA.or sl_str)) a1 l1 k1, fun B Hs H σ ρ Fp Q R p => sl_run R a2 l2 k2 (fun H0 Hs H σ x d l u Q s rx p => ?_) p⟩
  have dx := rx.s
  cases dx with
  | lst h1 ll => exact .inl ⟨_, _, rfl, .inl (Same.rd s h1), fun q np => p _ _ _ (Ext.new s np) (.of (.lst (.inl upd_same) ((ll.cut l u).mono (same_upd (s.free np)))))⟩
  | kl h1 ll => exact .inl ⟨_, _, rfl, Same.seq s h1, fun q np => p _ _ _ (Ext.new s np) (.of (.lst (.inl upd_same) ((ll.cut l u).mono (same_upd (s.free np)))))⟩
  | tup h1 ll =>
    refine .inr (.inl ⟨_, _, rfl, SqT.of (s _ _ h1), fun e => ?_, fun e q np => ?_⟩)
    · rw [ll.length] at e
      refine p _ Hs H (Ext.refl s) (.of ?_)
      rw [cutD_whole e]
      exact .tup h1 ll
    · exact p _ _ _ (Ext.new s np) (.of (.tup upd_same ((ll.cut l u).mono (same_upd (s.free np)))))
  | str z =>
    have p' : Post X W (PV X .s) Hs H σ Q (if z.length ≤ cap then Rs.ok (.str (cutS z l u)) else .bad) := p
    by_cases c : z.length ≤ cap
    · rw [if_pos c] at p'
      exact .inr (.inr ⟨z, rfl, cap_line c, p' _ Hs H (Ext.refl s) (.of (.str _))⟩)
    · rw [if_neg c] at p'; exact p'.elim
  | _ => exact p.elim
/-- {} -/
theorem je_dk0 {m : Mode} : JG X W (.own (.O m)) ms (.Dict [] [] pos) (eC (.dk [])) := by
  refine ⟨_, pe_dnewK, fun B Hs H σ ρ Fp Q R p => ?_⟩
  exact fun q nq => p (.ref q) Hs _ (Ext.newO R.sub nq) ⟨[q], .dk (kvs := []) (ks := []) (ds := []) (R.sub.free nq) upd_same rfl .nil, by simp, fun a ha => by rw [List.mem_singleton.mp ha]; exact nq⟩
theorem je_dt0 {m : Mode} : JG X W (.own (.O m)) ms (.Dict [] [] pos) (eC (.dt [])) := by
  refine ⟨_, pe_dnewT, fun B Hs H σ ρ Fp Q R p => ?_⟩
  exact fun q nq => p (.ref q) Hs _ (Ext.newO R.sub nq) ⟨[q], .dt (kvs := []) (ks := []) (ds := []) (R.sub.free nq) upd_same rfl .nil, by simp, fun a ha => by rw [List.mem_singleton.mp ha]; exact nq⟩
/-! ### blocks that never reach their end -/
def Never (s : Env → Out) : Prop := ∀ ρ ρ', s ρ ≠ .nx ρ'
theorem nv_ret {ev : Env → Rs D} : Never (sRet ev) := fun ρ ρ' h => by
  unfold sRet at h
  cases z : ev ρ <;> rw [z] at h <;> cases h
theorem nv_retN : Never sRetN := fun ρ ρ' h => by cases h
theorem nv_bad : Never sBad := fun ρ ρ' h => by cases h
theorem nv_break : Never sBreak := fun ρ ρ' h => by cases h
theorem nv_cont : Never sCont := fun ρ ρ' h => by cases h
theorem nv_seq {s t : Env → Out} (h : Never t) : Never (sSeq s t) := fun ρ ρ' e => by
  unfold sSeq at e
  cases z : s ρ <;> rw [z] at e
  · exact h _ _ e
  all_goals cases e
theorem nv_if {c : Env → Rs Bool} {s t : Env → Out} (h : Never s) (k : Never t) : Never (sIf c s t) := fun ρ ρ' e => by
  unfold sIf at e
  cases z : c ρ with
  | ok b =>
    rw [z, sBind_ok] at e
    cases b with
    | true => exact h _ _ e
    | false => exact k _ _ e
  | exc c fs => rw [z] at e; cases e
  | bad => rw [z] at e; cases e
end
end G
/-! G: the law's head -/
namespace G
open PySem PySem.Spec L2
open PyProof.Rows hiding St
theorem sqL_den {K : PySem.W.Frag} {mg : Str → Option Value} {H : Hp} {a : Addr} {ns : List Int} (h : SqL K H a (ns.map V.int)) : ∃ d : D, (d = .lst (ns.map .int) ∨ d = .kl (ns.map .int)) ∧ Den ⟨K, mg⟩ H (.ref a) d :=
  ⟨_, .inr rfl, .kl h (DenL.of_ints ns)⟩
theorem walk_ofD {l : PySem.W.OpenLaw} {n k : Nat} {q : Program} {loose : List Str} {XP : (Str → Option Value) → Heap → Prop} {YP : World → Heap → Prop} {d : DefRec} {K : Params → PySem.W.Frag} {x : Str} {f : List D → Rs D}
    (hn : l.most = some n) (hn2 : n ≤ sizeLine) (hdf : d.params.defaults = []) (hr : Room k callerA) (hY : ∀ (w : World) (h : Heap), YP w h → (K w.params).In h)
    (F : ∀ (w : World) (mg : Str → Option Value) (fa : Addr) (h : Heap), (K w.params).In h → h.Ns mainGlobals mg → mg d.name = some (.ref fa) →
      ∃ fd : FuncData, (∀ (s : Shared) (u : Value), BindsTo s fd ⟨[u], []⟩ [(x, u)]) ∧ ∀ base : Heap, (K w.params).In base → base.Ns mainGlobals mg → FnOk l.prog w (K w.params) mg base (L2.CX l.prog w) k fa fd [x] (spD ⟨K w.params, mg⟩ .S f))
    (hL : ∀ ns : List Int, ns.length ≤ n → f [.kl (ns.map .int)] = .ok (.bl true)) :
    PySem.W.WalkO q loose XP YP l.row.toRowW d [] (fun f vs => PySem.call f vs) := by
  refine Att.attach_call hn hdf fun w s₀ s₁ mg mb fa o pm cd doc a vs ns G Y ho hd hcd hmg hobj hints hlen hg => ?_
  have KX := hY w _ Y
  obtain ⟨fd, hb, hF⟩ := F w mg fa _ KX G.T.g hmg
  refine law_call KX G.T.g G.T.b G.T.builtins G.T.nolimit hg hobj hints (Nat.le_trans hlen hn2) hr hF hb (fun H hO hS => ?_) fun H e s' z => ?_
  · refine ⟨H, [.kl (ns.map .int)], Same.refl _, .cons (.kl hS (DenL.of_ints ns)) .nil, ?_⟩
    rw [hL ns hlen]
    intro v Hs' H' e r
    have := r.s
    cases this
    rfl
  · obtain ⟨_, _, _, _, _, _, _, _, _, _, _, _, z⟩ := z
    exact z.elim
end G
/-! G: how the evaluators are read -/
namespace G
open PySem PySem.Spec L2
open PyProof.Rows hiding St
def Out.seq (o : Out) (t : Env → Out) : Out := match o with
  | .nx ρ => t ρ
  | o => o
@[simp] theorem Out.seq_nx {ρ : Env} {t : Env → Out} : (Out.nx ρ).seq t = t ρ := rfl
@[simp] theorem Out.seq_rt {d : D} {t : Env → Out} : (Out.rt d).seq t = .rt d := rfl
@[simp] theorem Out.seq_bk {ρ : Env} {t : Env → Out} : (Out.bk ρ).seq t = .bk ρ := rfl
@[simp] theorem Out.seq_ct {ρ : Env} {t : Env → Out} : (Out.ct ρ).seq t = .ct ρ := rfl
@[simp] theorem Out.seq_exc {c : Str} {fs : List (Str × D)} {ρ : Env} {t : Env → Out} : (Out.exc c fs ρ).seq t = .exc c fs ρ := rfl
@[simp] theorem Out.seq_ite {c : Prop} [Decidable c] {a b : Out} {t : Env → Out} : (if c then a else b).seq t = if c then a.seq t else b.seq t := by split <;> rfl
@[simp] theorem sSeq_ap {s t : Env → Out} {ρ : Env} : sSeq s t ρ = (s ρ).seq t := by
  unfold sSeq Out.seq
  cases s ρ <;> rfl
section
variable {ρ : Env} {ev ea eb : Env → Rs D} {s t : Env → Out} {c tb tc : Env → Rs Bool} {i j n N : Nat} {d e : D} {f : D → Rs D} {g : D → D → Rs D} {es : Env → Rs (List D)} {ds : List D}
@[simp] theorem sNext_ap : sNext ρ = .nx ρ := rfl
@[simp] theorem sBad_ap : sBad ρ = .bad := rfl
@[simp] theorem sBreak_ap : sBreak ρ = .bk ρ := rfl
@[simp] theorem sCont_ap : sCont ρ = .ct ρ := rfl
@[simp] theorem sRet_ap : sRet ev ρ = sBind (ev ρ) ρ fun d => .rt d := rfl
@[simp] theorem sRetN_ap : sRetN ρ = .rt .non := rfl
@[simp] theorem sSet_ap : sSet i ev ρ = sBind (ev ρ) ρ fun d => .nx (ρ.set i (some d)) := rfl
@[simp] theorem sDrop_ap : sDrop ev ρ = sBind (ev ρ) ρ fun _ => .nx ρ := rfl
@[simp] theorem sIf_ap : sIf c s t ρ = sBind (c ρ) ρ fun k => if k then s ρ else t ρ := rfl
@[simp] theorem sPar_ap : sPar i j ea eb ρ = sBind (ea ρ) ρ fun d => sBind (eb ρ) ρ fun e => .nx ((ρ.set i (some d)).set j (some e)) := rfl
@[simp] theorem sAsg_ap {t : TgtD} : sAsg t ev ρ = sBind (ev ρ) ρ fun d => match t d ρ with | some ρ' => .nx ρ' | none => .bad := rfl
@[simp] theorem sForI_ap {t : TgtD} {it : Env → Rs (List D)} : sForI t s it ρ = sBind (it ρ) ρ fun ds => sFor t s ds ρ := rfl
@[simp] theorem sLm_ap {α : Type} {ea : Env → Rs α} {f : List D → α → Option (List D)} (h : ρ[i]? = some (some (.lst ds))) : sLm i ea f ρ = sBind (ea ρ) ρ fun e => match f ds e with | some ds' => .nx (ρ.set i (some (.lst ds'))) | none => .bad := by
  unfold sLm; rw [h] <;> rfl
@[simp] theorem eVar_ap : eVar i ρ = match ρ[i]? with | some (some d) => .ok d | _ => .bad := rfl
@[simp] theorem eC_ap : eC d ρ = .ok d := rfl
@[simp] theorem v1_ap : v1 f ea ρ = (ea ρ).bind f := rfl
@[simp] theorem v2_ap : v2 g ea eb ρ = (ea ρ).bind fun d => (eb ρ).bind fun e => g d e := rfl
@[simp] theorem evB_ap : evB ea ρ = (ea ρ).bind tB := rfl
@[simp] theorem evT_ap : evT ea ρ = (ea ρ).bind dTru := rfl
@[simp] theorem tB_ap {b : Bool} : tB (.bl b) = .ok b := rfl
@[simp] theorem dTru_bl {b : Bool} : dTru (.bl b) = .ok b := rfl
@[simp] theorem dTru_non : dTru .non = .ok false := rfl
@[simp] theorem dTru_int {i : Int} : dTru (.int i) = .ok (i != 0) := rfl
@[simp] theorem dTru_lst : dTru (.lst ds) = .ok (!ds.isEmpty) := rfl
@[simp] theorem bAnd_ap : bAnd tb tc ρ = (tb ρ).bind fun c => if c then tc ρ else .ok false := rfl
@[simp] theorem bOr_ap : bOr tb tc ρ = (tb ρ).bind fun c => if c then .ok true else tc ρ := rfl
@[simp] theorem bNot_ap : bNot tb ρ = (tb ρ).bind fun c => .ok (!c) := rfl
@[simp] theorem bYes_ap : bYes ρ = .ok true := rfl
@[simp] theorem eAnd_ap : eAnd ea eb ρ = (ea ρ).bind fun d => (dTru d).bind fun c => if c then eb ρ else .ok d := rfl
@[simp] theorem eOr_ap : eOr ea eb ρ = (ea ρ).bind fun d => (dTru d).bind fun c => if c then .ok d else eb ρ := rfl
@[simp] theorem eNot_ap : eNot ea ρ = (ea ρ).bind fun d => (dTru d).bind fun c => .ok (.bl (!c)) := rfl
@[simp] theorem eIf_ap : eIf c ea eb ρ = (c ρ).bind fun k => if k then ea ρ else eb ρ := rfl
@[simp] theorem aNil_ap : aNil ρ = .ok [] := rfl
@[simp] theorem aCons_ap : aCons ea es ρ = (ea ρ).bind fun d => (es ρ).bind fun ds => .ok (d :: ds) := rfl
@[simp] theorem eLst_ap : eLst es ρ = (es ρ).bind fun ds => if ds.length ≤ 1000 then .ok (.lst ds) else .bad := rfl
@[simp] theorem eTup_ap : eTup es ρ = (es ρ).bind fun ds => if ds.length ≤ 1000 then .ok (.tup ds) else .bad := rfl
@[simp] theorem eCall_ap {f : List D → Rs D} : eCall f es ρ = (es ρ).bind f := rfl
@[simp] theorem eFn_ap {f : List D → Rs D} : eFn f es ρ = (es ρ).bind f := rfl
@[simp] theorem iOf_ap {f : D → Rs (List D)} : iOf f ev ρ = (ev ρ).bind f := rfl
@[simp] theorem iOf2_ap {f : D → D → Rs (List D)} : iOf2 f ea eb ρ = (ea ρ).bind fun d => (eb ρ).bind fun e => f d e := rfl
@[simp] theorem fl_ap : fl ev ρ = (ev ρ).bind fun d => if d.flat then .ok d else .bad := rfl
@[simp] theorem oNone_ap : oNone ρ = .ok none := rfl
@[simp] theorem oSome_ap : oSome ea ρ = (ea ρ).bind dOInt := rfl
@[simp] theorem dOInt_int {i : Int} : dOInt (.int i) = .ok (some i) := rfl
@[simp] theorem eSl_ap {f : D → Option Int → Option Int → Rs D} {el eh : Env → Rs (Option Int)} : eSl f ea el eh ρ = (ea ρ).bind fun d => (el ρ).bind fun lo => (eh ρ).bind fun hi => f d lo hi := rfl
@[simp] theorem tName_ap : tName i d ρ = some (ρ.set i (some d)) := rfl
@[simp] theorem tsNil_ap : tsNil [] ρ = some ρ := rfl
@[simp] theorem tsCons_ap {t : TgtD} {u : List D → Env → Option Env} : tsCons t u (d :: ds) ρ = (t d ρ).bind (u ds) := rfl
@[simp] theorem tTupN_tup {u : List D → Env → Option Env} : tTupN n u (.tup ds) ρ = if ds.length = n then u ds ρ else none := rfl
@[simp] theorem tTupN_lst {u : List D → Env → Option Env} : tTupN n u (.lst ds) ρ = if ds.length = n then u ds ρ else none := rfl
@[simp] theorem outD_nx : outD (.nx ρ) = .ok .non := rfl
@[simp] theorem outD_rt : outD (.rt d) = .ok d := rfl
@[simp] theorem outD_exc {c : Str} {fs : List (Str × D)} : outD (.exc c fs ρ) = .exc c fs := rfl
theorem runD_ap {b : Env → Out} (h : ds.length = n) : runD n N b ds = outD (b (ds.map some ++ List.replicate (N - n) none)) := if_pos h

/-! what is computed -/
@[simp] theorem dPlus_int {i j : Int} : dPlus (.int i) (.int j) = .ok (.int (i + j)) := rfl
@[simp] theorem dSub_int {i j : Int} : dSub (.int i) (.int j) = .ok (.int (i - j)) := rfl
@[simp] theorem dTimes_int {i j : Int} : dTimes (.int i) (.int j) = if CMulW i j then .ok (.int (i * j)) else .bad := rfl
@[simp] theorem dFdiv_int {i j : Int} : dFdiv (.int i) (.int j) = if CDivW i j then .ok (.int (i / j)) else .bad := rfl
@[simp] theorem dMod_int {i j : Int} : dMod (.int i) (.int j) = if CMod i j then .ok (.int (i % j)) else .bad := rfl
@[simp] theorem dPow_int {i j : Int} : dPow (.int i) (.int j) = if CPow i j then .ok (.int (i ^ j.toNat)) else .bad := rfl
@[simp] theorem dNeg_int {i : Int} : dNeg (.int i) = .ok (.int (-i)) := rfl
@[simp] theorem dLt_int {i j : Int} : dLt (.int i) (.int j) = .ok (.bl (decide (i < j))) := rfl
@[simp] theorem dLe_int {i j : Int} : dLe (.int i) (.int j) = .ok (.bl (decide (i ≤ j))) := rfl
@[simp] theorem dGt_int {i j : Int} : dGt (.int i) (.int j) = .ok (.bl (decide (j < i))) := rfl
@[simp] theorem dGe_int {i j : Int} : dGe (.int i) (.int j) = .ok (.bl (decide (j ≤ i))) := rfl
@[simp] theorem dPlus_lst {xs ys : List D} : dPlus (.lst xs) (.lst ys) = if xs.length + ys.length ≤ cap then .ok (.lst (xs ++ ys)) else .bad := rfl
@[simp] theorem dCat_lst {xs ys : List D} : dCat (.lst xs) (.lst ys) = if xs.length + ys.length ≤ cap then .ok (.lst (xs ++ ys)) else .bad := rfl
@[simp] theorem dIsN_ap : dIsN d = .ok (.bl (isNonD d)) := rfl
@[simp] theorem dNotN_ap : dNotN d = .ok (.bl (!isNonD d)) := rfl
@[simp] theorem isNonD_non : isNonD .non = true := rfl
@[simp] theorem isNonD_int {i : Int} : isNonD (.int i) = false := rfl
@[simp] theorem isNonD_lst : isNonD (.lst ds) = false := rfl
@[simp] theorem isNonD_tup : isNonD (.tup ds) = false := rfl
@[simp] theorem isNonD_str {x : Str} : isNonD (.str x) = false := rfl
@[simp] theorem dLen_lst : dLen [.lst ds] = .ok (.int ds.length) := rfl
@[simp] theorem dLen_tup : dLen [.tup ds] = .ok (.int ds.length) := rfl
@[simp] theorem dLen_kl : dLen [.kl ds] = .ok (.int ds.length) := rfl
@[simp] theorem dLen_kt : dLen [.kt ds] = .ok (.int ds.length) := rfl
@[simp] theorem dIx_lst {k : Int} : dIx (.lst ds) (.int k) = match atI ds k with | some d => .ok d | none => .bad := rfl
@[simp] theorem dIx_kl {k : Int} : dIx (.kl ds) (.int k) = match atI ds k with | some d => .ok d | none => .bad := rfl
@[simp] theorem dIx_tup {k : Int} : dIx (.tup ds) (.int k) = match atI ds k with | some d => .ok d | none => .bad := rfl
@[simp] theorem dIxL_lst {k : Int} : dIxL (.lst ds) (.int k) = match atI ds k with | some d => .ok d | none => .bad := rfl
@[simp] theorem dItems_lst : dItems (.lst ds) = .ok ds := rfl
@[simp] theorem dItems_tup : dItems (.tup ds) = .ok ds := rfl
@[simp] theorem dItems_kt : dItems (.kt ds) = .ok ds := rfl
@[simp] theorem dRange1_int {k : Int} : dRange1 (.int k) = if -1000000 ≤ k ∧ k ≤ 1000000 then .ok (rgD 0 k) else .bad := rfl
@[simp] theorem dRange2_int {m k : Int} : dRange2 (.int m) (.int k) = if (-1000000 ≤ m ∧ m ≤ 1000000) ∧ -1000000 ≤ k ∧ k ≤ 1000000 then .ok (rgD m k) else .bad := rfl
@[simp] theorem dEnum_lst : dEnum (.lst ds) = .ok (enumD ds) := rfl
@[simp] theorem dZip_lst {es : List D} : dZip (.lst ds) (.lst es) = .ok (zipD ds es) := rfl
@[simp] theorem dRevI_lst : dRevI (.lst ds) = .ok ds.reverse := rfl
@[simp] theorem dRevL_lst : dRevL (.lst ds) = .ok (.lst ds.reverse) := rfl
@[simp] theorem dCut_lst {lo hi : Option Int} : dCut (.lst ds) lo hi = .ok (.lst (cutD ds lo hi)) := rfl
@[simp] theorem dCut_kl {lo hi : Option Int} : dCut (.kl ds) lo hi = .ok (.lst (cutD ds lo hi)) := rfl
@[simp] theorem dCutL_lst {lo hi : Option Int} : dCutL (.lst ds) lo hi = .ok (.lst (cutD ds lo hi)) := rfl
@[simp] theorem dCutL_kl {lo hi : Option Int} : dCutL (.kl ds) lo hi = .ok (.lst (cutD ds lo hi)) := rfl
@[simp] theorem dInt_int {k : Int} : dInt [.int k] = .ok (.int k) := rfl
@[simp] theorem dInt_bl {b : Bool} : dInt [.bl b] = .ok (.int (if b then 1 else 0)) := rfl
@[simp] theorem dMax2_int {i j : Int} : dMax2 [.int i, .int j] = .ok (.int (if j > i then j else i)) := rfl
@[simp] theorem dMin2_int {i j : Int} : dMin2 [.int i, .int j] = .ok (.int (if j < i then j else i)) := rfl
@[simp] theorem dList_lst : dList [.lst ds] = .ok (.lst ds) := rfl
@[simp] theorem fAppend_ap : fAppend ds d = if ds.length < cap then some (ds ++ [d]) else none := rfl
@[simp] theorem isiF_lst {p : String → Bool} : isiF p (.lst ds) = .ok (.bl (p "list")) := rfl
@[simp] theorem isiF_tup {p : String → Bool} : isiF p (.tup ds) = .ok (.bl (p "tuple")) := rfl
@[simp] theorem isiF_int {p : String → Bool} {k : Int} : isiF p (.int k) = .ok (.bl (p "int")) := rfl
@[simp] theorem isiF_bl {p : String → Bool} {k : Bool} : isiF p (.bl k) = .ok (.bl (p "bool")) := rfl
@[simp] theorem isiF_non {p : String → Bool} : isiF p .non = .ok (.bl (p "NoneType")) := rfl
@[simp] theorem isiF_str {p : String → Bool} {x : Str} : isiF p (.str x) = .ok (.bl (p "str")) := rfl
@[simp] theorem isList_list : isList "list" = true := rfl
@[simp] theorem isBool_bool : isBool "bool" = true := rfl
@[simp] theorem isBool_int : isBool "int" = false := by decide
@[simp] theorem isBool_list : isBool "list" = false := by decide
@[simp] theorem isInt_int : isInt "int" = true := by decide
@[simp] theorem isTuple_tuple : isTuple "tuple" = true := by decide
theorem Rs.bind_ite {α β : Type} {c : Prop} [Decidable c] {a b : Rs α} {f : α → Rs β} : (if c then a else b).bind f = if c then a.bind f else b.bind f := by split <;> rfl
end
/-! ### loops -/
inductive Lp (α : Type) where
  | nx (a : α) | bk (a : α) | rt (d : D)
def loopP {α β : Type} (step : β → α → Lp α) : List β → α → Lp α
  | [], a => .nx a
  | b :: bs, a => match step b a with
    | .nx a' => loopP step bs a'
    | .bk a' => .nx a'
    | .rt d => .rt d
def Lp.out {α : Type} (base : α → Env) : Lp α → Out
  | .nx a => .nx (base a)
  | .bk a => .bk (base a)
  | .rt d => .rt d
@[simp] theorem sFor_nil {t : TgtD} {s : Env → Out} {ρ : Env} : sFor t s [] ρ = .nx ρ := rfl
theorem sFor_cons {t : TgtD} {s : Env → Out} {ρ ρ1 : Env} {d : D} {ds : List D} (h : t d ρ = some ρ1) : sFor t s (d :: ds) ρ = match s ρ1 with
    | .nx ρ2 => sFor t s ds ρ2
    | .ct ρ2 => sFor t s ds ρ2
    | .bk ρ2 => .nx ρ2
    | o => o := by
  show (match t d ρ with | none => Out.bad | some ρ1 => _) = _
  rw [h] <;> rfl
/-- a for loop by a plain one. Inv: what holds ahead of what is left -/
theorem sFor_loop {α β : Type} {enc : β → D} {t : TgtD} {s : Env → Out} (base : α → Env) (step : β → α → Lp α) (Inv : List β → α → Prop)
    (h : ∀ b bs a, Inv (b :: bs) a → ∃ ρ1, t (enc b) (base a) = some ρ1 ∧ s ρ1 = (step b a).out base ∧ ∀ a', step b a = .nx a' → Inv bs a') :
    ∀ (bs : List β) (a : α), Inv bs a → sFor t s (bs.map enc) (base a) = (loopP step bs a).out base := by
  intro bs
  induction bs with
  | nil => intro a _; rfl
  | cons b bs ih =>
    intro a i
    obtain ⟨ρ1, h1, h2, h3⟩ := h b bs a i
    rw [List.map_cons, sFor_cons h1, h2]
    unfold loopP
    cases z : step b a with
    | nx a' => exact ih a' (h3 a' z)
    | bk a' => rfl
    | rt d => rfl
def whileP {α : Type} (c : α → Bool) (step : α → Lp α) : Nat → α → Option (Lp α)
  | 0, _ => none
  | n + 1, a => if c a then (match step a with
    | .nx a' => whileP c step n a'
    | .bk a' => some (.nx a')
    | .rt d => some (.rt d)) else some (.nx a)
theorem sWhile_loop {α : Type} {ec : Env → Rs Bool} {s : Env → Out} (base : α → Env) (c : α → Bool) (step : α → Lp α) (Inv : α → Prop)
    (hc : ∀ a, Inv a → ec (base a) = .ok (c a)) (h : ∀ a, Inv a → c a = true → s (base a) = (step a).out base ∧ ∀ a', step a = .nx a' → Inv a') :
    ∀ (n : Nat) (a : α) (r : Lp α), Inv a → whileP c step n a = some r → sWhile ec s n (base a) = r.out base := by
  intro n
  induction n with
  | zero => intro a r _ e; cases e
  | succ n ih =>
    intro a r i e
    unfold whileP at e
    show sBind (ec (base a)) (base a) (fun k => if k then (match s (base a) with | .nx ρ' => sWhile ec s n ρ' | .ct ρ' => sWhile ec s n ρ' | .bk ρ' => .nx ρ' | o => o) else .nx (base a)) = _
    rw [hc a i, sBind_ok]
    cases z : c a with
    | false =>
      rw [z] at e
      cases e
      rfl
    | true =>
      rw [z, if_pos rfl] at e
      obtain ⟨h1, h2⟩ := h a i z
      rw [if_pos rfl, h1]
      cases y : step a with
      | nx a' => rw [y] at e; exact ih a' r (h2 a' y) e
      | bk a' => rw [y] at e; cases e; rfl
      | rt d => rw [y] at e; cases e; rfl
/-- more fuel -/
theorem sWhile_more {ec : Env → Rs Bool} {s : Env → Out} : ∀ {n m : Nat} {ρ : Env}, n ≤ m → sWhile ec s n ρ ≠ .bad → sWhile ec s m ρ = sWhile ec s n ρ := by
  intro n
  induction n with
  | zero => intro m ρ _ h; exact absurd rfl h
  | succ n ih =>
    intro m ρ hm h
    obtain ⟨m, rfl⟩ : ∃ k, m = k + 1 := ⟨m - 1, by omega⟩
    have h' : sBind (ec ρ) ρ (fun k => if k then (match s ρ with | .nx ρ' => sWhile ec s n ρ' | .ct ρ' => sWhile ec s n ρ' | .bk ρ' => .nx ρ' | o => o) else .nx ρ) ≠ .bad := h
    show sBind (ec ρ) ρ (fun k => if k then (match s ρ with | .nx ρ' => sWhile ec s m ρ' | .ct ρ' => sWhile ec s m ρ' | .bk ρ' => .nx ρ' | o => o) else .nx ρ) = sBind (ec ρ) ρ (fun k => if k then (match s ρ with | .nx ρ' => sWhile ec s n ρ' | .ct ρ' => sWhile ec s n ρ' | .bk ρ' => .nx ρ' | o => o) else .nx ρ)
    cases z : ec ρ with
    | bad => rfl
    | exc c fs => rfl
    | ok b =>
      rw [z, sBind_ok] at h'
      rw [sBind_ok, sBind_ok]
      cases b with
      | false => rfl
      | true =>
        rw [if_pos rfl] at h' ⊢
        rw [if_pos rfl]
        cases y : s ρ with
        | nx ρ' => rw [y] at h'; exact ih (by omega) h'
        | ct ρ' => rw [y] at h'; exact ih (by omega) h'
        | _ => rfl
/-- a comprehension by filter and map -/
theorem lcGo_map {α β : Type} {enc : β → D} {t : TgtD} {tt : Env → Rs Bool} {te : Env → Rs D} {ρ : Env} (k : β → Bool) (f : β → D) : ∀ (bs : List β),
    (∀ b ∈ bs, ∃ ρ1, t (enc b) ρ = some ρ1 ∧ tt ρ1 = .ok (k b) ∧ (k b = true → te ρ1 = .ok (f b))) → lcGo t tt te ρ (bs.map enc) = .ok ((bs.filter k).map f)
  | [], _ => rfl
  | b :: bs, h => by
    obtain ⟨ρ1, h1, h2, h3⟩ := h b List.mem_cons_self
    have ih := lcGo_map (α := α) k f bs fun c hc => h c (List.mem_cons_of_mem _ hc)
    show (match t (enc b) ρ with | none => Rs.bad | some ρ1 => _) = _
    rw [h1]
    simp only [h2, nox_ok, Rs.bind_ok]
    cases z : k b with
    | false =>
      rw [if_neg (by decide), ih, List.filter_cons_of_neg (by rw [z]; decide)]
    | true =>
      rw [if_pos rfl, h3 z, nox_ok, Rs.bind_ok, ih, Rs.bind_ok, List.filter_cons_of_pos z, List.map_cons]
theorem eLc_ap {it : Env → Rs (List D)} {t : TgtD} {tt : Env → Rs Bool} {te : Env → Rs D} {vs : List Nat} {ρ : Env} : eLc it t tt te vs ρ = (it ρ).bind fun ds => if ds.length < cap then (lcGo t tt te (wipeE ρ vs) ds).bind fun xs => .ok (.lst xs) else .bad := rfl
/-! ### sizes -/
def Bd (i : Int) (a : Nat) : Prop := i.natAbs < 2 ^ a
theorem Bd.mono {i : Int} {a b : Nat} (h : Bd i a) (k : a ≤ b) : Bd i b := Nat.lt_of_lt_of_le h (Nat.pow_le_pow_right (by decide) k)
theorem Bd.mul {i j : Int} {a b : Nat} (h : Bd i a) (k : Bd j b) : Bd (i * j) (a + b) := by
  unfold Bd at *
  rw [Int.natAbs_mul, Nat.pow_add]
  exact Nat.mul_lt_mul'' h k
theorem Bd.add {i j : Int} {a b : Nat} (h : Bd i a) (k : Bd j b) : Bd (i + j) (max a b + 1) := by
  have h' := h.mono (Nat.le_max_left a b)
  have k' := k.mono (Nat.le_max_right a b)
  unfold Bd at *
  have := Int.natAbs_add_le i j
  rw [Nat.pow_succ]
  omega
theorem Bd.log {i : Int} {a : Nat} (h : Bd i a) : i.natAbs.log2 ≤ a := by
  by_cases z : i.natAbs = 0
  · rw [z]; exact Nat.zero_le _
  · exact Nat.le_of_lt ((Nat.log2_lt z).mpr h)
theorem Bd.mulOk {i j : Int} {a b : Nat} (h : Bd i a) (k : Bd j b) (hab : a + b < 1000000) : CMulW i j := by
  have h1 := h.log
  have h2 := k.log
  unfold CMulW
  omega
theorem Bd.divOk {i j : Int} {a : Nat} (h : Bd j a) (p : 0 < j) (ha : a < 9000) : CDivW i j := ⟨p, by have := h.log; omega⟩
@[simp] theorem CMod_eq {i j : Int} : CMod i j = (0 < j) := rfl
theorem CDivW_lt {i j : Int} (h : 0 < j) (k : j < 1000000000000000000000000000000000000000000000000) : CDivW i j := Bd.divOk (a := 160) (by unfold Bd; omega) h (by decide)
@[simp] theorem CDivW_lit {i j : Int} (h : 0 < j ∧ j < 1000000000000000000000000000000000000000000000000) : CDivW i j = True := eq_true (CDivW_lt h.1 h.2)
/-! ### loops by what holds at each turn -/
theorem sFor_idx {t : TgtD} {s : Env → Out} {ds : List D} (I : Nat → Env → Prop) (h : ∀ j d ρ, ds[j]? = some d → I j ρ → ∃ ρ1, t d ρ = some ρ1 ∧ ∃ ρ2, s ρ1 = .nx ρ2 ∧ I (j + 1) ρ2) {ρ : Env} (h0 : I 0 ρ) : ∃ ρ', sFor t s ds ρ = .nx ρ' ∧ I ds.length ρ' := by
  suffices H : ∀ (es : List D) (j : Nat) (ρ : Env), ds.drop j = es → j ≤ ds.length → I j ρ → ∃ ρ', sFor t s es ρ = .nx ρ' ∧ I ds.length ρ' from H ds 0 ρ (by simp) (Nat.zero_le _) h0
  intro es
  induction es with
  | nil =>
    intro j ρ e hj i
    have : j = ds.length := by
      have := congrArg List.length e
      simp at this
      omega
    subst this
    exact ⟨ρ, rfl, i⟩
  | cons d es ih =>
    intro j ρ e hj i
    have hlt : j < ds.length := by
      have := congrArg List.length e
      simp at this
      omega
    have hd : ds[j]? = some d := by
      rw [List.getElem?_eq_getElem hlt]
      rw [List.drop_eq_getElem_cons hlt] at e
      exact congrArg some (List.cons.inj e).1
    have he : ds.drop (j + 1) = es := by
      rw [List.drop_eq_getElem_cons hlt] at e
      exact (List.cons.inj e).2
    obtain ⟨ρ1, h1, ρ2, h2, h3⟩ := h j d ρ hd i
    obtain ⟨ρ', h4, h5⟩ := ih (j + 1) ρ2 he hlt h3
    exact ⟨ρ', by rw [sFor_cons h1, h2]; exact h4, h5⟩
theorem rgD_get {a b : Int} {j : Nat} {d : D} (h : (rgD a b)[j]? = some d) : d = .int (a + j) ∧ (j : Int) < b - a := by
  unfold rgD at h
  rw [List.getElem?_map] at h
  obtain ⟨k, h1, rfl⟩ := Option.map_eq_some_iff.mp h
  obtain ⟨h3, h4⟩ := List.getElem?_eq_some_iff.mp h1
  rw [List.getElem_range] at h4
  subst h4
  rw [List.length_range] at h3
  exact ⟨rfl, by omega⟩
@[simp] theorem rgD_length {a b : Int} : (rgD a b).length = (b - a).toNat := by simp [rgD]
theorem rgD_map {n : Nat} : rgD 0 n = (List.range n).map fun i => D.int (i : Nat) := by simp [rgD]
theorem atI_nat' {α : Type} {xs : List α} {k : Nat} : atI xs (k : Int) = xs[k]? := by
  unfold atI ixN
  rw [if_pos (by omega)]
  by_cases h : (k : Int) < xs.length
  · rw [if_pos h]; simp
  · rw [if_neg h]; simp; omega
theorem atI_pos {α : Type} {xs : List α} {i : Int} (h : 0 ≤ i) : atI xs i = xs[i.toNat]? := by
  obtain ⟨k, rfl⟩ := Int.eq_ofNat_of_zero_le h
  rw [atI_nat', Int.toNat_natCast]
@[simp] theorem atI_zero {α : Type} {xs : List α} : atI xs 0 = xs[0]? := atI_nat' (k := 0)
@[simp] theorem atI_one {α : Type} {xs : List α} : atI xs 1 = xs[1]? := atI_nat' (k := 1)
theorem atI_neg1 {α : Type} {xs : List α} : atI xs (-1) = xs.getLast? := by
  unfold atI ixN
  rw [if_neg (by decide)]
  cases xs with
  | nil => rfl
  | cons x xs =>
    rw [if_pos (by simp; omega), List.getLast?_eq_getElem?]
    have : (-1 + ((x :: xs).length : Int)).toNat = (x :: xs).length - 1 := by simp; omega
    show (x :: xs)[(-1 + ((x :: xs).length : Int)).toNat]? = _
    rw [this]
theorem dIn_flat {d : D} {es : List D} (h : d.flat = true) (k : es.all D.flat = true) : dIn d (.lst es) = .ok (.bl (es.any fun e => eqF e d)) := by
  have : inB d (.lst es) = some (es.any fun e => eqF e d) := by
    show (if (d.flat && es.all D.flat) = true then some (es.any fun e => eqF e d) else _) = _
    rw [h, k]; rfl
  unfold dIn
  rw [this]
theorem dNotIn_flat {d : D} {es : List D} (h : d.flat = true) (k : es.all D.flat = true) : dNotIn d (.lst es) = .ok (.bl (!es.any fun e => eqF e d)) := by
  have : inB d (.lst es) = some (es.any fun e => eqF e d) := by
    show (if (d.flat && es.all D.flat) = true then some (es.any fun e => eqF e d) else _) = _
    rw [h, k]; rfl
  unfold dNotIn
  rw [this]
@[simp] theorem eqF_int {i j : Int} : eqF (.int i) (.int j) = (i == j) := rfl
@[simp] theorem flat_int {i : Int} : (D.int i).flat = true := rfl
@[simp] theorem flat_non : D.non.flat = true := rfl
@[simp] theorem flat_ints {ns : List Int} : (ns.map D.int).all D.flat = true := by simp
theorem dIn_ints {k : Int} {ns : List Int} : dIn (.int k) (.lst (ns.map .int)) = .ok (.bl (decide (k ∈ ns))) := by
  rw [dIn_flat rfl flat_ints]
  congr 2
  rw [Bool.eq_iff_iff]
  simp
theorem dNotIn_ints {k : Int} {ns : List Int} : dNotIn (.int k) (.lst (ns.map .int)) = .ok (.bl (!decide (k ∈ ns))) := by
  rw [dNotIn_flat rfl flat_ints]
  congr 3
  rw [Bool.eq_iff_iff]
  simp
@[simp] theorem dEq_int {i j : Int} : dEq (.int i) (.int j) = .ok (.bl (decide (i = j))) := by
  show Rs.ok (D.bl (i == j)) = _
  congr 2
@[simp] theorem dNe_int {i j : Int} : dNe (.int i) (.int j) = .ok (.bl (!decide (i = j))) := by
  show Rs.ok (D.bl (!(i == j))) = _
  congr 2
theorem loopP_check {α β : Type} (bad : β → Bool) (r : D) (f : β → α → α) : ∀ (bs : List β) (a : α), ∃ a', loopP (fun b a => if bad b then .rt r else .nx (f b a)) bs a = if bs.any bad then .rt r else .nx a'
  | [], a => ⟨a, rfl⟩
  | b :: bs, a => by
    unfold loopP
    cases z : bad b with
    | true => exact ⟨a, by simp [z]⟩
    | false =>
      obtain ⟨a', h⟩ := loopP_check bad r f bs (f b a)
      exact ⟨a', by simp [z, h]⟩
theorem enumD_map {α : Type} {f : α → D} {xs : List α} : enumD (xs.map f) = xs.zipIdx.map fun p => D.tup [.int (p.2 : Nat), f p.1] := by
  unfold enumD
  rw [List.zipIdx_map, List.map_map]
  rfl
theorem zipD_map {α β : Type} {f : α → D} {g : β → D} {xs : List α} {ys : List β} : zipD (xs.map f) (ys.map g) = (xs.zip ys).map fun p => D.tup [f p.1, g p.2] := by
  unfold zipD
  rw [List.zip_map, List.map_map]
  rfl
theorem dAll_bls {bs : List Bool} : dAll [.lst (bs.map .bl)] = .ok (.bl (bs.all id)) := by
  show (match blsOf (bs.map .bl) with | some ns => _ | none => Rs.bad) = _
  rw [blsOf_map]
theorem dLenSet_ints {ns : List Int} (h : ns.length ≤ 4000) : dLenSet (.lst (ns.map .int)) = .ok (.int (nub ns : Nat)) := by
  show (match intsOf (ns.map .int) with | some ns => if ns.length ≤ 4000 then Rs.ok (D.int (nub ns : Nat)) else .bad | none => .bad) = _
  rw [intsOf_map]
  exact if_pos h
theorem nub_nodup {ns : List Int} (h : ns.Nodup) : nub ns = ns.length := by
  unfold nub
  rw [RZ.firstMet_nodup h ns.length (Nat.le_refl _), List.take_length]
theorem firstMet_dup {f : Nat → Int} {i j n : Nat} (hij : i < j) (hj : j < n) (e : f i = f j) : (PyProof.Rows.firstMet f n).length < n := by
  have mem : ∀ m, i < m → f i ∈ PyProof.Rows.firstMet f m := by
    intro m hm
    induction m with
    | zero => omega
    | succ m ih =>
      rw [PyProof.Rows.firstMet_succ]
      show f i ∈ (if (PyProof.Rows.firstMet f m).any (· == f m) then PyProof.Rows.firstMet f m else PyProof.Rows.firstMet f m ++ [f m])
      by_cases z : i < m
      · split
        · exact ih z
        · exact List.mem_append_left _ (ih z)
      · have : i = m := by omega
        subst this
        split
        · rename_i c
          obtain ⟨y, hy, ey⟩ := List.any_eq_true.mp c
          have : y = f i := eq_of_beq ey
          rw [← this]; exact hy
        · exact List.mem_append_right _ (List.mem_singleton_self _)
  induction n with
  | zero => omega
  | succ n ih =>
    rw [PyProof.Rows.firstMet_succ]
    have hle := firstMet_le f n
    by_cases z : j < n
    · have := ih z
      show (if (PyProof.Rows.firstMet f n).any (· == f n) then PyProof.Rows.firstMet f n else PyProof.Rows.firstMet f n ++ [f n]).length < n + 1
      split
      · omega
      · rw [List.length_append]; show _ + 1 < n + 1; omega
    · have : j = n := by omega
      subst this
      show (if (PyProof.Rows.firstMet f j).any (· == f j) then PyProof.Rows.firstMet f j else PyProof.Rows.firstMet f j ++ [f j]).length < j + 1
      rw [if_pos (List.any_eq_true.mpr ⟨f i, mem j hij, by rw [e]; exact beq_self_eq_true _⟩)]
      omega
theorem nub_dup {ns : List Int} (h : ¬ ns.Nodup) : nub ns < ns.length := by
  have : ∃ i j, i < j ∧ ∃ (hj : j < ns.length) (hi : i < ns.length), ns[i] = ns[j] := by
    apply Classical.byContradiction
    intro c
    apply h
    unfold List.Nodup
    rw [List.pairwise_iff_getElem]
    intro i j hi hj hij e
    exact c ⟨i, j, hij, hj, hi, e⟩
  obtain ⟨i, j, hij, hj, hi, e⟩ := this
  refine firstMet_dup hij hj ?_
  simp [hi, hj, e]
end G
/-! G: ==, of data -/
namespace G
open PySem PySem.Spec L2
open PyProof.Rows hiding St
/-- data that == may be asked of -/
def okD : Nat → D → Bool
  | _, .non => true
  | _, .bl _ => true
  | _, .int _ => true
  | _, .str x => PyData.strOk x
  | n + 1, .lst xs => xs.all (okD n)
  | n + 1, .tup xs => xs.all (okD n)
  | n + 1, .kt xs => xs.all (okD n)
  | _, _ => false
def toP : Nat → D → PyData
  | _, .bl b => .bool b
  | _, .int i => .int i
  | _, .str x => .str x
  | n + 1, .lst xs => .list (xs.map (toP n))
  | n + 1, .tup xs => .tuple (xs.map (toP n))
  | n + 1, .kt xs => .tuple (xs.map (toP n))
  | _, _ => .none
theorem toPys_of {f : D → PyData} : ∀ {xs : List D}, (∀ d ∈ xs, toPy d = some (f d)) → toPys xs = some (xs.map f)
  | [], _ => rfl
  | d :: ds, h => by
    unfold toPys
    rw [h d List.mem_cons_self, toPys_of fun e he => h e (List.mem_cons_of_mem _ he)]
    rfl
theorem canLayAll_of : ∀ {ps : List PyData}, (∀ p ∈ ps, PyData.canLay0 p = true) → PyData.canLayAll0 ps = true
  | [], _ => rfl
  | p :: ps, h => by
    show (PyData.canLay0 p && PyData.canLayAll0 ps) = true
    rw [h p List.mem_cons_self, canLayAll_of fun q hq => h q (List.mem_cons_of_mem _ hq)]
    rfl
theorem depthAll_of {n : Nat} : ∀ {ps : List PyData}, (∀ p ∈ ps, PyData.depth p ≤ n) → PyData.depthAll ps ≤ n
  | [], _ => Nat.zero_le _
  | p :: ps, h => Nat.max_le.mpr ⟨h p List.mem_cons_self, depthAll_of fun q hq => h q (List.mem_cons_of_mem _ hq)⟩
theorem okD_py : ∀ {n : Nat} {d : D}, okD n d = true → toPy d = some (toP n d) ∧ PyData.canLay0 (toP n d) = true ∧ PyData.depth (toP n d) ≤ n := by
  intro n
  induction n with
  | zero =>
    intro d h
    cases d <;> first | exact ⟨rfl, rfl, Nat.le_refl _⟩ | exact ⟨rfl, h, Nat.le_refl _⟩ | cases h
  | succ n ih =>
    intro d h
    have all : ∀ {xs : List D}, xs.all (okD n) = true → toPys xs = some (xs.map (toP n)) ∧ PyData.canLayAll0 (xs.map (toP n)) = true ∧ PyData.depthAll (xs.map (toP n)) ≤ n := fun {xs} h => by
      have h := List.all_eq_true.mp h
      refine ⟨toPys_of fun d hd => (ih (h d hd)).1, canLayAll_of fun p hp => ?_, depthAll_of fun p hp => ?_⟩
      · obtain ⟨d, hd, rfl⟩ := List.mem_map.mp hp
        exact (ih (h d hd)).2.1
      · obtain ⟨d, hd, rfl⟩ := List.mem_map.mp hp
        exact (ih (h d hd)).2.2
    cases d with
    | lst xs =>
      obtain ⟨h1, h2, h3⟩ := all h
      exact ⟨by show (toPys xs).map PyData.list = _; rw [h1]; rfl, h2, Nat.succ_le_succ h3⟩
    | tup xs =>
      obtain ⟨h1, h2, h3⟩ := all h
      exact ⟨by show (toPys xs).map PyData.tuple = _; rw [h1]; rfl, h2, Nat.succ_le_succ h3⟩
    | kt xs =>
      obtain ⟨h1, h2, h3⟩ := all h
      exact ⟨by show (toPys xs).map PyData.tuple = _; rw [h1]; rfl, h2, Nat.succ_le_succ h3⟩
    | str x => exact ⟨rfl, h, Nat.zero_le _⟩
    | non => exact ⟨rfl, rfl, Nat.zero_le _⟩
    | bl b => exact ⟨rfl, rfl, Nat.zero_le _⟩
    | int i => exact ⟨rfl, rfl, Nat.zero_le _⟩
    | _ => cases h
mutual
theorem eqv_refl : ∀ p : PyData, PyData.canLay0 p = true → PyData.eqv p p = true
  | .none, _ => rfl
  | .bool b, _ => by show (b == b) = true; exact beq_self_eq_true b
  | .int i, _ => by show (i == i) = true; exact beq_self_eq_true i
  | .str x, _ => by show (x == x) = true; exact beq_self_eq_true x
  | .list xs, h => eqvAll_refl xs h
  | .tuple xs, h => eqvAll_refl xs h
  | .dict _, h => by cases h
theorem eqvAll_refl : ∀ ps : List PyData, PyData.canLayAll0 ps = true → PyData.eqvAll ps ps = true
  | [], _ => rfl
  | p :: ps, h => by
    have h' : (PyData.canLay0 p && PyData.canLayAll0 ps) = true := h
    rw [Bool.and_eq_true] at h'
    show (PyData.eqv p p && PyData.eqvAll ps ps) = true
    rw [eqv_refl p h'.1, eqvAll_refl ps h'.2]
    rfl
end
theorem okD_shaped {n : Nat} {d : D} (hn : n ≤ 64) (h : okD n d = true) : SeqAt.shaped (toP n d) = true := by
  obtain ⟨_, h2, h3⟩ := okD_py h
  unfold SeqAt.shaped
  rw [h2, decide_eq_true (Nat.le_trans h3 hn)]
  rfl
theorem eqB_of {n m : Nat} {d e : D} (hn : n ≤ 64) (hm : m ≤ 64) (h : okD n d = true) (k : okD m e = true) : eqB d e = some (PyData.eqv (toP n d) (toP m e)) := by
  unfold eqB
  rw [(okD_py h).1, (okD_py k).1]
  show (if (SeqAt.shaped (toP n d) && SeqAt.shaped (toP m e)) = true then _ else _) = _
  rw [okD_shaped hn h, okD_shaped hm k]
  rfl
theorem eqB_self {n : Nat} {d : D} (hn : n ≤ 64) (h : okD n d = true) : eqB d d = some true := by
  rw [eqB_of hn hn h h, eqv_refl _ (okD_py h).2.1]
theorem dEq_self {n : Nat} {d : D} (hn : n ≤ 64) (h : okD n d = true) : dEq d d = .ok (.bl true) := by
  have e := eqB_self hn h
  cases d with
  | str x => show Rs.ok (D.bl (x == x)) = _; rw [beq_self_eq_true]
  | _ => unfold dEq; simp only [e]
theorem dNe_self {n : Nat} {d : D} (hn : n ≤ 64) (h : okD n d = true) : dNe d d = .ok (.bl false) := by
  have e := eqB_self hn h
  cases d with
  | str x => show Rs.ok (D.bl (!(x == x))) = _; rw [beq_self_eq_true]; rfl
  | _ => unfold dNe; simp only [e, Bool.not_true]
@[simp] theorem dNe_bl {a b : Bool} : dNe (.bl a) (.bl b) = .ok (.bl (!(a == b))) := rfl
@[simp] theorem dEq_bl {a b : Bool} : dEq (.bl a) (.bl b) = .ok (.bl (a == b)) := rfl
theorem nodup_len : ∀ (n : Nat) (hs : List Int), hs.Nodup → (∀ x ∈ hs, 0 ≤ x ∧ x < n) → hs.length ≤ n
  | 0, hs, _, h => by
    cases hs with
    | nil => exact Nat.le_refl _
    | cons x xs => have := h x List.mem_cons_self; omega
  | n + 1, hs, nd, h => by
    by_cases c : (n : Int) ∈ hs
    · have h1 := nodup_len n (hs.erase (n : Int)) (nd.erase _) fun x hx => by
        rw [nd.mem_erase_iff] at hx
        have := h x hx.2
        have := hx.1
        omega
      have h2 := List.length_erase_of_mem c
      have h3 := List.length_pos_of_mem c
      omega
    · have := nodup_len n hs nd fun x hx => by
        have h1 := h x hx
        have h2 : x ≠ n := fun e => c (by rw [← e]; exact hx)
        omega
      omega
theorem idxI_mem : ∀ {ns : List Int} {k : Int}, k ∈ ns → ∃ j, idxI ns k = some j ∧ j < ns.length
  | n :: ns, k, h => by
    unfold idxI
    by_cases e : n = k
    · exact ⟨0, if_pos e, by simp⟩
    · rcases List.mem_cons.mp h with z | z
      · exact absurd z.symm e
      · obtain ⟨j, h1, h2⟩ := idxI_mem z
        exact ⟨j + 1, by rw [if_neg e, h1]; rfl, by simpa using h2⟩
theorem dIndex_ints {ns : List Int} {k : Int} {j : Nat} (h : idxI ns k = some j) : dIndex (ns.map .int) (.int k) = .ok (.int (j : Nat)) := by
  show (match intsOf (ns.map .int) with | some ns => (match idxI ns k with | some j => Rs.ok (D.int (j : Nat)) | none => .bad) | none => .bad) = _
  rw [intsOf_map]
  show (match idxI ns k with | some j => Rs.ok (D.int (j : Nat)) | none => .bad) = _
  rw [h]
@[simp] theorem eIndex_ap {eo ea : Env → Rs D} {ρ : Env} : eIndex eo ea ρ = (eo ρ).bind fun d => match d with | .lst ds => (ea ρ).bind fun e => dIndex ds e | _ => .bad := rfl
@[simp] theorem atI_2 {α : Type} {xs : List α} : atI xs 2 = xs[2]? := atI_nat' (k := 2)
@[simp] theorem atI_3 {α : Type} {xs : List α} : atI xs 3 = xs[3]? := atI_nat' (k := 3)
@[simp] theorem atI_4 {α : Type} {xs : List α} : atI xs 4 = xs[4]? := atI_nat' (k := 4)
@[simp] theorem atI_5 {α : Type} {xs : List α} : atI xs 5 = xs[5]? := atI_nat' (k := 5)
@[simp] theorem atI_6 {α : Type} {xs : List α} : atI xs 6 = xs[6]? := atI_nat' (k := 6)
@[simp] theorem atI_7 {α : Type} {xs : List α} : atI xs 7 = xs[7]? := atI_nat' (k := 7)
@[simp] theorem atI_8 {α : Type} {xs : List α} : atI xs 8 = xs[8]? := atI_nat' (k := 8)
@[simp] theorem atI_9 {α : Type} {xs : List α} : atI xs 9 = xs[9]? := atI_nat' (k := 9)
@[simp] theorem atI_10 {α : Type} {xs : List α} : atI xs 10 = xs[10]? := atI_nat' (k := 10)
@[simp] theorem atI_11 {α : Type} {xs : List α} : atI xs 11 = xs[11]? := atI_nat' (k := 11)
@[simp] theorem atI_12 {α : Type} {xs : List α} : atI xs 12 = xs[12]? := atI_nat' (k := 12)
/-! ### dicts of numbers by numbers -/
def di (l : List (Int × Int)) : D := .dk (l.map fun p => (.inl p.1, .int p.2))
def gt (l : List (Int × Int)) (h : Int) : Option Int := (l.find? fun p => decide (p.1 = h)).map (·.2)
theorem look_di {h : Int} : ∀ {l : List (Int × Int)}, look (l.map fun p => ((.inl p.1 : Key), D.int p.2)) (.inl h) = (gt l h).map .int
  | [] => rfl
  | (k, v) :: l => by
    have ih := look_di (h := h) (l := l)
    unfold look gt at *
    rw [List.map_cons, List.find?_cons, List.find?_cons]
    by_cases e : k = h
    · subst e
      simp
    · have e2 : ¬ (Sum.inl k : Key) = Sum.inl h := fun z => e (Sum.inl.inj z)
      simp only [e, e2, decide_false]
      exact ih
theorem dIn_di {l : List (Int × Int)} {h : Int} : dIn (.int h) (di l) = .ok (.bl (gt l h).isSome) := by
  have : inB (.int h) (di l) = some (gt l h).isSome := by
    show (((keyOf (.int h)).map (look _)).map Option.isSome) = _
    show some (look (l.map fun p => ((.inl p.1 : Key), D.int p.2)) (.inl h)).isSome = _
    rw [look_di]
    cases gt l h <;> rfl
  unfold dIn
  rw [this]
theorem dNotIn_di {l : List (Int × Int)} {h : Int} : dNotIn (.int h) (di l) = .ok (.bl (!(gt l h).isSome)) := by
  have : inB (.int h) (di l) = some (gt l h).isSome := by
    show some (look (l.map fun p => ((.inl p.1 : Key), D.int p.2)) (.inl h)).isSome = _
    rw [look_di]
    cases gt l h <;> rfl
  unfold dNotIn
  rw [this]
theorem dIx_di {l : List (Int × Int)} {h v : Int} (e : gt l h = some v) : dIx (di l) (.int h) = .ok (.int v) := by
  show (match dLook (di l) (.int h) with | some (some x) => Rs.ok x | _ => .bad) = _
  have : dLook (di l) (.int h) = some (some (.int v)) := by
    show some (look (l.map fun p => ((.inl p.1 : Key), D.int p.2)) (.inl h)) = _
    rw [look_di, e]; rfl
  rw [this]
theorem gt_none {l : List (Int × Int)} {h : Int} : gt l h = none ↔ ∀ p ∈ l, p.1 ≠ h := by
  unfold gt
  rw [Option.map_eq_none_iff, List.find?_eq_none]
  simp
theorem gt_app {l : List (Int × Int)} {h v k : Int} : gt (l ++ [(h, v)]) k = match gt l k with | some w => some w | none => if h = k then some v else none := by
  unfold gt
  rw [List.find?_append]
  cases l.find? fun p => decide (p.1 = k) with
  | some p => rfl
  | none =>
    by_cases e : h = k
    · simp [e]
    · simp [e]
theorem set_di {l : List (Int × Int)} {h v : Int} (e : gt l h = none) (c : l.length < cap) : fSetIx (di l) (.int h) (.int v) = some (di (l ++ [(h, v)])) := by
  show (if (l.map fun p => ((.inl p.1 : Key), D.int p.2)).length < cap then some (D.dk (put (l.map fun p => ((.inl p.1 : Key), D.int p.2)) (.inl h) (.int v))) else none) = _
  rw [List.length_map, if_pos c]
  unfold put
  have : ((l.map fun p => ((.inl p.1 : Key), D.int p.2)).any fun kv => decide (kv.1 = (.inl h : Key))) = false := by
    rw [List.any_eq_false]
    intro kv hkv
    obtain ⟨p, hp, rfl⟩ := List.mem_map.mp hkv
    have := gt_none.mp e p hp
    simp only [decide_eq_true_eq]
    exact fun z => this (Sum.inl.inj z)
  rw [this, if_neg (by decide)]
  unfold di
  rw [List.map_append]
  rfl
@[simp] theorem sSetIx_ap {i : Nat} {ek ev : Env → Rs D} {ρ : Env} : sSetIx i ek ev ρ = sBind (ev ρ) ρ fun d => match ρ[i]? with
  | some (some o) => sBind (ek ρ) ρ fun k => match fSetIx o k d with
    | some o' => .nx (ρ.set i (some o'))
    | none => .bad
  | _ => .bad := rfl
@[simp] theorem dEq_str {x y : Str} : dEq (.str x) (.str y) = .ok (.bl (x == y)) := rfl
@[simp] theorem dNe_str {x y : Str} : dNe (.str x) (.str y) = .ok (.bl (!(x == y))) := rfl
theorem dMaxL_ints {ns : List Int} (h : ns ≠ []) : dMaxL [.lst (ns.map .int)] = .ok (.int (maxL ns)) := by
  show (match intsOf (ns.map D.int) with | some ns => (if ns.isEmpty then Rs.bad else Rs.ok (D.int (maxL ns))) | none => .bad) = _
  rw [intsOf_map]
  cases ns with
  | nil => exact absurd rfl h
  | cons => rfl
theorem maxL_ge {ns : List Int} {m : Int} (h : m ∈ ns) : m ≤ maxL ns := by
  cases ns with
  | nil => cases h
  | cons n ns =>
    show m ≤ ns.foldl max n
    rcases List.mem_cons.mp h with rfl | h
    · exact (foldl_max_ge ns m).1
    · exact (foldl_max_ge ns n).2 m h
theorem dNe_lst {xs ys : List D} {b : Bool} (h : dEq (.lst xs) (.lst ys) = .ok (.bl b)) : dNe (.lst xs) (.lst ys) = .ok (.bl (!b)) := by
  have h' : (match eqB (.lst xs) (.lst ys) with | some b => Rs.ok (D.bl b) | none => .bad) = .ok (.bl b) := h
  show (match eqB (.lst xs) (.lst ys) with | some b => Rs.ok (D.bl !b) | none => .bad) = _
  cases z : eqB (.lst xs) (.lst ys) with
  | none => rw [z] at h'; cases h'
  | some c => rw [z] at h'; cases h'; rfl
/-- a loop that looks at each item, and leaves at the first that is bad -/
theorem sFor_chk {α β : Type} {enc : β → D} {t : TgtD} {s : Env → Out} (base : α → Env) (bad : β → Bool) (r : D) : ∀ (bs : List β) (a : α),
    (∀ b ∈ bs, ∀ a, ∃ ρ1, t (enc b) (base a) = some ρ1 ∧ (bad b = true → s ρ1 = .rt r) ∧ (bad b = false → ∃ a', s ρ1 = .nx (base a'))) →
    (bs.any bad = true → sFor t s (bs.map enc) (base a) = .rt r) ∧ (bs.any bad = false → ∃ a', sFor t s (bs.map enc) (base a) = .nx (base a'))
  | [], a, _ => ⟨fun h => (nomatch h), fun _ => ⟨a, rfl⟩⟩
  | b :: bs, a, h => by
    obtain ⟨ρ1, h1, h2, h3⟩ := h b List.mem_cons_self a
    cases z : bad b with
    | true =>
      refine ⟨fun _ => ?_, fun e => ?_⟩
      · rw [List.map_cons, sFor_cons h1, h2 z]
      · rw [List.any_cons, z] at e; cases e
    | false =>
      obtain ⟨a', h4⟩ := h3 z
      obtain ⟨i1, i2⟩ := sFor_chk base bad r bs a' fun c hc => h c (List.mem_cons_of_mem _ hc)
      have e : (b :: bs).any bad = bs.any bad := by rw [List.any_cons, z]; rfl
      rw [e, List.map_cons, sFor_cons h1, h4]
      exact ⟨i1, i2⟩
end G
/-! G: calls that only look at what this frame owns; what stands in a tuple is changed -/
namespace G
open PySem PySem.Spec L2
open PyProof.Rows hiding St
section
variable {X : Cx} {W : WX} {ms : Modes} {k : Nat} {f : Addr} {fd : FuncData} {ps : List Str} {rm : Mode} {g : List D → Rs D} {x : Str} {p pos : Pos} {e : Expr} {es : List Expr} {ea : Env → Rs (List D)}
/-- all of the heap is shared with the callee -/
theorem je_fnB (F : FnOk X.prog X.w X.K X.mg X.base (L2.CX X.prog X.w) k f fd ps (spD (mkM X) rm g)) (hr : Room k X.A) (hm : X.mg x = some (.ref f)) (hk : PySem.W.keepIn X.K (.ref f) = true) (hb : Binds X.K fd ps []) (tk : Takes X W) (ha : JA X W .b ms (e :: es) ea)
    (hg : Gl X x := by rfl) (hdb : (x == ("__debug__" : Str)) = false := by decide) (he : starEach (e :: es) X.env = (false, eval e X.env) :: starEach es X.env := by rfl) (hpl : (backTo pos (starEach es X.env)).any (·.1) = false := by rfl) :
    JG X W .b ms (.Call (.Name x p) (e :: es) [] pos) (eFn (fun ds => nox (g ds)) ea) := by
  obtain ⟨t, h1, h2⟩ := ha
  refine ⟨_, pe_callS F hr hg hm hk hb (fun σ => passAt tk σ) h1 hdb he hpl, fun B Hs H σ ρ Fp Q R p => ?_⟩
  refine h2 B Hs H σ ρ Fp _ R (Post.seq p fun ds vs Hs1 H1 _ e1 r q => ?_)
  refine ⟨H1, ds, Same.refl _, r.b e1.s2, ?_⟩
  cases z : g ds with
  | ok d =>
    rw [z] at q
    intro v Hs' H' e r
    exact q v Hs1 H' ⟨Same.refl _, e1.s2.trans e.s3, e.s3, fun _ _ _ _ h => h⟩ (r.b e.s2)
  | exc c fs => rw [z] at q; exact q.elim
  | bad => rw [z] at q; exact q.elim
end
section
variable {M : MK} {Hs H : Hp} {B : Hp × Hp} {ms : Modes} {σ : St} {ρ : Env} {Fp : Nat → List Addr}
theorem OwnT.inner : ∀ {mts : List Mode} {vs : List V} {ds : List D} {F : List Addr} {j : Nat} {es : List D}, OwnT M Hs H mts vs ds F → F.Nodup → mts.getD j .S = .O .S → ds[j]? = some (.lst es) → ∃ q ws, vs[j]? = some (.ref q) ∧ H q = some (.lst ws) ∧ q ∈ F ∧ DenL M Hs ws es ∧
    ∀ ws' es', DenL M Hs ws' es' → OwnT M Hs (upd H q (.lst ws')) mts vs (ds.set j (.lst es')) F
  | _, _, _, _, j, _, .nil, _, _, e => by simp at e
  | _, _, _, _, 0, es, .cons (F := F1) (G := F2) h t, n, m, e => by
    obtain ⟨n1, n2, n3⟩ := List.nodup_append.mp n
    simp at e m
    subst e
    subst m
    cases h with
    | flat f _ => cases f
    | lst nn g ll =>
      obtain ⟨dl, rfl⟩ := ll.den_S
      refine ⟨_, _, rfl, g, by simp, dl, fun ws' es' d' => ?_⟩
      exact .cons (.lst nn upd_same (OwnL.sh d')) (t.move (Same.refl _) (fun b hb => (t.none b hb).1) fun b o hb z => by
        rw [upd_ne (fun y => n3 _ List.mem_cons_self b z y.symm)]; exact hb)
  | _, _, _, _, j + 1, es, .cons (F := F1) (G := F2) h t, n, m, e => by
    obtain ⟨n1, n2, n3⟩ := List.nodup_append.mp n
    obtain ⟨q, ws, g1, g2, g3, g4, k⟩ := OwnT.inner (j := j) t n2 (by simpa using m) (by simpa using e)
    refine ⟨q, ws, by simpa using g1, g2, List.mem_append_right _ g3, g4, fun ws' es' d' => ?_⟩
    exact .cons (h.move (Same.refl _) (fun b hb => (h.none b hb).1) fun b o hb z => by
      rw [upd_ne (fun y => n3 b z q g3 y)]; exact hb) (k ws' es' d')
/-- a slot that holds a tuple of held things -/
theorem Rel.innerT {i : Nat} {mts : List Mode} {ds : List D} (R : Rel M B ms Hs H σ ρ Fp) (hi : i < ms.length) (hm : md ms i = .T mts) (h : ρ[i]? = some (some (.tup ds))) : ∃ a vs, σ[i]? = some (some (.ref a)) ∧ H a = some (.tup vs) ∧
    ∀ j es, mts.getD j .S = .O .S → ds[j]? = some (.lst es) → ∃ q ws, vs[j]? = some (.ref q) ∧ H q = some (.lst ws) ∧ DenL M Hs ws es ∧
      ∀ ws' es', DenL M Hs ws' es' → ∃ Fp', Rel M B ms Hs (upd H q (.lst ws')) σ (ρ.set i (some (.tup (ds.set j (.lst es'))))) Fp' := by
  obtain ⟨v, g1, g2⟩ := R.val i _ h
  rw [hm] at g2
  generalize hq : Fp i = G at g2
  cases g2 with
  | flat f _ => cases f
  | @fT _ v ds h f =>
    cases h with
    | @tup a vs ds h l =>
      exact ⟨a, vs, g1, R.sub _ _ h, fun j es mj hj => by have := f _ (List.mem_of_getElem? hj); cases this⟩
  | @tup _ a vs ds F n g3 g4 =>
    refine ⟨a, vs, g1, g3, fun j es mj hj => ?_⟩
    have nd := R.nd i
    rw [hq] at nd
    obtain ⟨na, nF⟩ := List.nodup_cons.mp nd
    obtain ⟨q, ws, k1, k2, k3, k4, k⟩ := g4.inner nF mj hj
    refine ⟨q, ws, k1, k2, k4, fun ws' es' d' => ?_⟩
    have hqa : a ≠ q := fun e => na (by rw [e]; exact k3)
    have e := R.write (m' := .T mts) (F := a :: F) (o := .lst ws') (d' := .tup (ds.set j (.lst es'))) (a := q) hi (by rw [hq]; exact List.mem_cons_of_mem _ k3) g1
      (.tup ⟨(R.has (i := i) (by rw [hq]; exact List.mem_cons_self)).1, n.2⟩ (by rw [upd_ne hqa]; exact g3) (k ws' es' d')) (by rw [← hq]; exact R.nd i) fun b hb => .inl (by rw [hq]; exact hb)
    rw [← hm, md_same hi] at e
    exact e
end
section
variable {X : Cx} {W : WX} {mx : Option Modes} {ml : Modes} {rm : Mode} {ms : Modes} {ox ce : Expr} {st : Stmt}
/-- x[n].clear(), .reverse(), .pop(): x a tuple -/
def sLmT (i n : Nat) (f : List D → Unit → Option (List D)) : Env → Out := fun ρ => match ρ[i]? with
  | some (some (.tup ds)) => match ds[n]? with
    | some (.lst es) => match f es () with
      | some es' => .nx (ρ.set i (some (.tup (ds.set n (.lst es')))))
      | none => .bad
    | _ => .bad
  | _ => .bad
theorem js_lmT0 {r : V → List V → Hp → VK → Prop} {f : List D → Unit → Option (List D)} {mts : List Mode} {j p2 p3} (i n : Nat) (hu : X.A.units + 64 < cLine) (hm : md ms i = .T mts) (hn : mts.getD n .S = .O .S)
    (hpe : ∀ tr, PE X (.Subscript ox (.Constant (.int (n : Nat)) j p2) p3) tr → PE X ce (tBM0 X.K "list" r tr)) (hst : ∀ te, PE X ce te → PS X st (tDrop te)) (hv : PE X ox (tVar i))
    (step : ∀ Hs H a vs ds ds' (Q : VK), H a = some (.lst vs) → DenL (mkM X) Hs vs ds → f ds () = some ds' → (∀ v ws, DenL (mkM X) Hs ws ds' → Q v (upd H a (.lst ws))) → r (.ref a) [] H Q)
    (hi : i < ms.length) (hs : PlainIx (.Constant (.int (n : Nat)) j p2)) : JS X W mx ml rm ms st ms (sLmT i n f) := by
  refine ⟨_, hst _ (hpe _ (pe_ix (ix5 hu) hv pe_int hs)), fun B Hs H σ ρ Fp E R p => ?_⟩
  unfold sLmT at p
  split at p
  · rename_i ds hρ
    obtain ⟨a, vs, h1, h2, h3⟩ := R.innerT hi hm hρ
    split at p
    · rename_i es hes
      split at p
      · rename_i es' hf
        obtain ⟨q, ws, k1, k2, k3, k4⟩ := h3 n es hn hes
        refine ⟨.ref a, h1, .inl (.inr (.inl ⟨_, _, _, .ref q, rfl, rfl, SqT.of h2, atI_nat k1, ?_⟩))⟩
        refine ⟨.inl ⟨rfl, ws, SqL.of k2⟩, step Hs H q ws es es' _ k2 k3 hf fun v ws' d' => ?_⟩
        obtain ⟨Fp', R'⟩ := k4 ws' es' d'
        exact p Hs _ σ Fp' R'
      · exact p.elim
    · exact p.elim
  · exact p.elim
theorem js_clearT {mts : List Mode} {j p2 p3} (i n : Nat) (hu : X.A.units + 64 < cLine) (hm : md ms i = .T mts) (hn : mts.getD n .S = .O .S)
    (hpe : ∀ tr, PE X (.Subscript ox (.Constant (.int (n : Nat)) j p2) p3) tr → PE X ce (tBM0 X.K "list" rClear tr)) (hst : ∀ te, PE X ce te → PS X st (tDrop te)) (hv : PE X ox (tVar i))
    (hi : i < ms.length := by first | decide | simp) (hs : PlainIx (.Constant (.int (n : Nat)) j p2) := by exact fun _ _ => rfl) : JS X W mx ml rm ms st ms (sLmT i n fClear) :=
  js_lmT0 i n hu hm hn hpe hst hv (fun Hs H a vs ds ds' Q ha l e k => by cases e; exact ⟨a, vs, rfl, rfl, ha, k _ _ .nil⟩) hi hs
end
end G
/-! G: objects: fields, methods, __init__ -/
namespace G
open PySem PySem.Spec L2
open PyProof.Rows hiding St
section
variable {M : MK} {Hs H : Hp}
theorem zip_lookup {f : Str} : ∀ {fvs : List (Str × V)} {ds : List D}, DenL M H (fvs.map (·.2)) ds →
    (∀ d, ((fvs.map (·.1)).zip ds).lookup f = some d → ∃ v, fvs.lookup f = some v ∧ Den M H v d) ∧ (((fvs.map (·.1)).zip ds).lookup f = none → fvs.lookup f = none)
  | [], _, h => by cases h; exact ⟨fun d e => (by cases e), fun _ => rfl⟩
  | (g, v) :: fvs, _, h => by
    simp only [List.map_cons] at h
    cases h with
    | @cons _ _ d0 ds0 h l =>
      obtain ⟨i1, i2⟩ := zip_lookup (f := f) l
      simp only [List.map_cons, List.zip_cons_cons, List.lookup_cons]
      cases f == g with
      | true => exact ⟨fun d e => by cases e; exact ⟨v, rfl, h⟩, fun e => by cases e⟩
      | false => exact ⟨i1, i2⟩
end
section
variable {X : Cx} {W : WX} {ms : Modes} {e o : Expr} {ev eo : Env → Rs D} {f m c : Str} {pos apos : Pos} {C : Addr}
/-- x.f -/
def dFld (c f : Str) : D → Rs D
  | .obj c' fs => if c' = c then (match fs.lookup f with
    | some d => .ok d
    | none => .bad) else .bad
  | _ => .bad
theorem je_fld (hC : X.mg c = some (.ref C)) (cl : Cls X.K C) (na : NoAttr X.K C f) (ha : JG X W .s ms e ev) (hb : attributeBase e f X.env (eval e X.env) = eval e X.env := by rfl) : JG X W .s ms (.Attribute e f pos) (v1 (dFld c f) ev) := by
  obtain ⟨t, h1, h2⟩ := ha
  refine ⟨_, pe_fld h1 hb, fun B Hs H σ ρ Fp Q R p => h2 B Hs H σ ρ Fp _ R (p.seq fun d x Hs1 H1 _ e1 r q => ?_)⟩
  have dx := r.s
  cases dx with
  | @obj a dx C' c' fvs ks ds hm hH hk l =>
    subst hk
    have q' : Post X W (PV X .s) Hs1 H1 σ Q (if c' = c then (match ((fvs.map (·.1)).zip ds).lookup f with | some d => Rs.ok d | none => .bad) else .bad) := q
    by_cases hc : c' = c
    · rw [if_pos hc] at q'
      subst hc
      rw [show (mkM X).mg c' = X.mg c' from rfl, hC] at hm
      cases hm
      cases z : ((fvs.map (·.1)).zip ds).lookup f with
      | none => rw [z] at q'; exact q'.elim
      | some d =>
        rw [z] at q'
        obtain ⟨v, v1, v2⟩ := (zip_lookup (f := f) l).1 d z
        exact ⟨a, C, dx, fvs, v, rfl, e1.s2 _ _ hH, cl, na, v1, q' v Hs1 H1 (Ext.refl e1.s2) (.of v2)⟩
    · rw [if_neg hc] at q'; exact q'.elim
  | _ => exact q.elim
/-! ### methods -/
variable {CX : CXT} {k : Nat} {fa : Addr} {fd : FuncData} {ps : List Str} {sp : Sp} {E : St → XK} {e1 : Expr} {es : List Expr} {ta : TE} {t : TA}
def tMethS (C : Addr) (m : Str) (sp : Sp) (E : St → XK) (ta : TE) (t : TA) : TE := fun σ H Q => ta σ H fun x H1 => ∃ a dx fs, x = .ref a ∧ H1 a = some (.ins C dx fs) ∧ fs.lookup m = none ∧ t σ H1 fun vs H2 => sp (x :: vs) H2 Q (E σ)
theorem pe_methS {pl : Sem Bool} (he : PE X o ta) (c : Cls X.K C) (hm : Meth X.K C m fa) (F : FnOk X.prog X.w X.K X.mg X.base CX k fa fd ps sp) (hr : Room k X.A) (hb : Binds X.K fd ps []) (hx : ∀ σ, PassesAt CX X σ (E σ)) (ha : PA X (e1 :: es) t)
    (hst : starEach (e1 :: es) X.env = (false, eval e1 X.env) :: starEach es X.env) (hpl : (backTo pos (starEach es X.env)).any (·.1) = false)
    (ht : eval (.Call (.Attribute o m apos) (e1 :: es) [] pos) X.env = (do
      let ov ← eval o X.env
      standAt apos.atName
      let (f, first) ← holding [ov] (getMethod ov m pl)
      callWith pos f first (backTo pos (starEach (e1 :: es) X.env)) (backToKw pos (keywordEach [] X.env)))) :
    PE X (.Call (.Attribute o m apos) (e1 :: es) [] pos) (tMethS C m sp E ta t) := by
  refine ⟨fun pins s σ H Q I h => PySem.W.methodCall_KW (pl := pl) (thn (he.run pins s σ H _ I h) fun u s1 w => ?_) ht⟩
  obtain ⟨x, H1, I1, rx, a, dx, fs, ex, ea, l, q⟩ := w
  subst ex
  cases rx
  refine getmeth_ok I1 ea c hm l (PySem.W.callWith_K (first := [.ref a]) (h₀ := X.base) I.ok.mod.kin hm.kp (thn (ha.run pos pins s1 σ H1 _ I1 q) fun us s2 w => ?_) hst hpl)
  obtain ⟨vs, H2, I2, r, q2⟩ := w
  exact ⟨I2.kIn, run_fnS (us := .ref a :: us) (vs := .ref a :: vs) F hr hb (hx σ) I2 (.cons rfl r) q2⟩
def tMethS0 (C : Addr) (m : Str) (sp : Sp) (E : St → XK) (ta : TE) : TE := fun σ H Q => ta σ H fun x H1 => ∃ a dx fs, x = .ref a ∧ H1 a = some (.ins C dx fs) ∧ fs.lookup m = none ∧ sp [x] H1 Q (E σ)
theorem pe_methS0 {pl : Sem Bool} (he : PE X o ta) (c : Cls X.K C) (hm : Meth X.K C m fa) (F : FnOk X.prog X.w X.K X.mg X.base CX k fa fd ps sp) (hr : Room k X.A) (hb : Binds X.K fd ps []) (hx : ∀ σ, PassesAt CX X σ (E σ))
    (ht : eval (.Call (.Attribute o m apos) [] [] pos) X.env = (do
      let ov ← eval o X.env
      standAt apos.atName
      let (f, first) ← holding [ov] (getMethod ov m pl)
      callWith pos f first (backTo pos (starEach [] X.env)) (backToKw pos (keywordEach [] X.env)))) :
    PE X (.Call (.Attribute o m apos) [] [] pos) (tMethS0 C m sp E ta) := by
  refine ⟨fun pins s σ H Q I h => PySem.W.methodCall_KW (pl := pl) (thn (he.run pins s σ H _ I h) fun u s1 w => ?_) ht⟩
  obtain ⟨x, H1, I1, rx, a, dx, fs, ex, ea, l, q⟩ := w
  subst ex
  cases rx
  exact getmeth_ok I1 ea c hm l (PySem.W.callWith_K0 (first := [.ref a]) I1.kIn hm.kp (run_fnS (us := [.ref a]) (vs := [.ref a]) F hr hb (hx σ) I1 (.cons rfl .nil) q))
/-- x.m(..) -/
def eMeth (c m : Str) (g : List D → Rs D) (eo : Env → Rs D) (ea : Env → Rs (List D)) : Env → Rs D := fun ρ => (eo ρ).bind fun d => match d with
  | .obj c' fs => if c' = c ∧ fs.lookup m = none then (ea ρ).bind fun ds => g (.obj c' fs :: ds) else .bad
  | _ => .bad
theorem je_meth {rm : Mode} {g : List D → Rs D} {ea : Env → Rs (List D)} {pl : Sem Bool} (hC : X.mg c = some (.ref C)) (cl : Cls X.K C) (hm : Meth X.K C m fa) (F : FnOk X.prog X.w X.K X.mg X.base (L2.CX X.prog X.w) k fa fd ps (spD (mkM X) rm g)) (hr : Room k X.A) (hb : Binds X.K fd ps []) (tk : Takes X W)
    (ho : JG X W .s ms o eo) (ha : JA X W .s ms (e1 :: es) ea) (hst : starEach (e1 :: es) X.env = (false, eval e1 X.env) :: starEach es X.env := by rfl) (hpl : (backTo pos (starEach es X.env)).any (·.1) = false := by rfl)
    (ht : eval (.Call (.Attribute o m apos) (e1 :: es) [] pos) X.env = (do
      let ov ← eval o X.env
      standAt apos.atName
      let (f, first) ← holding [ov] (getMethod ov m pl)
      callWith pos f first (backTo pos (starEach (e1 :: es) X.env)) (backToKw pos (keywordEach [] X.env))) := by rfl) :
    JG X W (.own rm) ms (.Call (.Attribute o m apos) (e1 :: es) [] pos) (eMeth c m g eo ea) := by
  obtain ⟨to, o1, o2⟩ := ho
  obtain ⟨t, h1, h2⟩ := ha
  refine ⟨_, pe_methS o1 cl hm F hr hb (fun σ => passAt tk σ) h1 hst hpl ht, fun B Hs H σ ρ Fp Q R p => o2 B Hs H σ ρ Fp _ R (Post.seq p fun d x Hs1 H1 _ e1 r q => ?_)⟩
  have dx := r.s
  cases dx with
  | @obj a dx C' c' fvs ks ds hmm hH hk l =>
    have q0 : Post X W (PV X (.own rm)) Hs1 H1 σ Q (if c' = c ∧ (ks.zip ds).lookup m = none then (ea ρ).bind fun es => g (.obj c' (ks.zip ds) :: es) else .bad) := q
    by_cases hc : c' = c ∧ (ks.zip ds).lookup m = none
    · rw [if_pos hc] at q0
      have R1 := R.step e1
      obtain ⟨hc1, hc2⟩ := hc
      subst hc1 hk
      have hm' := hmm
      rw [show (mkM X).mg c' = X.mg c' from rfl, hC] at hm'
      cases hm'
      refine ⟨a, dx, fvs, rfl, e1.s2 _ _ hH, (zip_lookup (f := m) l).2 hc2, h2 B Hs1 H1 σ ρ Fp _ R1 (Post.seq q0 fun ds2 vs Hs2 H2 _ e2 r2 q2 => ?_)⟩
      refine ⟨Hs2, _ :: ds2, e2.s2, .cons (.obj hmm (e2.s1 _ _ hH) rfl (l.mono e2.s1)) r2.s, ?_⟩
      cases z : g (.obj c' ((fvs.map (·.1)).zip ds) :: ds2) with
      | ok d => rw [z] at q2; exact fun v Hs' H' e r => q2 v Hs' H' e r
      | exc cc fs => rw [z] at q2; exact fun Hs' H' cls dd e r => q2 Hs' H' cls dd e r
      | bad => rw [z] at q2; exact q2.elim
    · rw [if_neg hc] at q0; exact q0.elim
  | _ => exact q.elim
def eMeth0 (c m : Str) (g : List D → Rs D) (eo : Env → Rs D) : Env → Rs D := fun ρ => (eo ρ).bind fun d => match d with
  | .obj c' fs => if c' = c ∧ fs.lookup m = none then g [.obj c' fs] else .bad
  | _ => .bad
theorem je_meth0 {rm : Mode} {g : List D → Rs D} {pl : Sem Bool} (hC : X.mg c = some (.ref C)) (cl : Cls X.K C) (hm : Meth X.K C m fa) (F : FnOk X.prog X.w X.K X.mg X.base (L2.CX X.prog X.w) k fa fd ps (spD (mkM X) rm g)) (hr : Room k X.A) (hb : Binds X.K fd ps []) (tk : Takes X W)
    (ho : JG X W .s ms o eo)
    (ht : eval (.Call (.Attribute o m apos) [] [] pos) X.env = (do
      let ov ← eval o X.env
      standAt apos.atName
      let (f, first) ← holding [ov] (getMethod ov m pl)
      callWith pos f first (backTo pos (starEach [] X.env)) (backToKw pos (keywordEach [] X.env))) := by rfl) :
    JG X W (.own rm) ms (.Call (.Attribute o m apos) [] [] pos) (eMeth0 c m g eo) := by
  obtain ⟨to, o1, o2⟩ := ho
  refine ⟨_, pe_methS0 o1 cl hm F hr hb (fun σ => passAt tk σ) ht, fun B Hs H σ ρ Fp Q R p => o2 B Hs H σ ρ Fp _ R (Post.seq p fun d x Hs1 H1 _ e1 r q => ?_)⟩
  have dx := r.s
  cases dx with
  | @obj a dx C' c' fvs ks ds hmm hH hk l =>
    have q0 : Post X W (PV X (.own rm)) Hs1 H1 σ Q (if c' = c ∧ (ks.zip ds).lookup m = none then g [.obj c' (ks.zip ds)] else .bad) := q
    by_cases hc : c' = c ∧ (ks.zip ds).lookup m = none
    · rw [if_pos hc] at q0
      obtain ⟨hc1, hc2⟩ := hc
      subst hc1 hk
      have hm' := hmm
      rw [show (mkM X).mg c' = X.mg c' from rfl, hC] at hm'
      cases hm'
      refine ⟨a, dx, fvs, rfl, e1.s2 _ _ hH, (zip_lookup (f := m) l).2 hc2, Hs1, _, e1.s2, .cons (.obj hmm hH rfl l) .nil, ?_⟩
      cases z : g [.obj c' ((fvs.map (·.1)).zip ds)] with
      | ok d => rw [z] at q0; exact fun v Hs' H' e r => q0 v Hs' H' e r
      | exc cc fs => rw [z] at q0; exact fun Hs' H' cls dd e r => q0 Hs' H' cls dd e r
      | bad => rw [z] at q0; exact q0.elim
    · rw [if_neg hc] at q0; exact q0.elim
  | _ => exact q.elim
end
end G
/-! G: an object that is being made: its fields -/
namespace G
open PySem PySem.Spec L2
open PyProof.Rows hiding St
section
variable {M : MK} {Hs H : Hp} {B : Hp × Hp} {ms : Modes} {σ : St} {ρ : Env} {Fp : Nat → List Addr}
theorem OwnT.app {m : Mode} {v : V} {d : D} {G : List Addr} (o : Own M Hs H m v d G) : ∀ {mts : List Mode} {vs : List V} {ds : List D} {F : List Addr}, OwnT M Hs H mts vs ds F → OwnT M Hs H (mts ++ [m]) (vs ++ [v]) (ds ++ [d]) (F ++ G)
  | _, _, _, _, .nil => by
    have := OwnT.cons o OwnT.nil
    rw [List.append_nil] at this
    exact this
  | _, _, _, _, .cons h t => by
    rw [List.append_assoc]
    exact .cons h (OwnT.app o t)
/-- one of a row of held things is changed in place -/
theorem OwnT.innerG : ∀ {mts : List Mode} {vs : List V} {ds : List D} {F : List Addr} {j : Nat} {d : D}, OwnT M Hs H mts vs ds F → F.Nodup → ds[j]? = some d → ∃ v G, vs[j]? = some v ∧ Own M Hs H (mts.getD j .S) v d G ∧ (∀ a ∈ G, a ∈ F) ∧
    ∀ H' d', (∀ b o, H b = some o → b ∉ G → H' b = some o) → Own M Hs H' (mts.getD j .S) v d' G → OwnT M Hs H' mts vs (ds.set j d') F
  | _, _, _, _, j, _, .nil, _, e => by simp at e
  | _, _, _, _, 0, d, .cons (F := F1) (G := F2) h t, n, e => by
    obtain ⟨n1, n2, n3⟩ := List.nodup_append.mp n
    simp at e
    subst e
    refine ⟨_, F1, rfl, h, fun a ha => List.mem_append_left _ ha, fun H' d' k o => ?_⟩
    exact .cons o (t.move (Same.refl _) (fun b hb => (t.none b hb).1) fun b u q z => k b u q fun y => n3 b y b z rfl)
  | _, _, _, _, j + 1, d, .cons (F := F1) (G := F2) h t, n, e => by
    obtain ⟨n1, n2, n3⟩ := List.nodup_append.mp n
    obtain ⟨v, G, g1, g2, g3, k⟩ := OwnT.innerG (j := j) t n2 (by simpa using e)
    refine ⟨v, G, by simpa using g1, by simpa using g2, fun a ha => List.mem_append_right _ (g3 a ha), fun H' d' kk o => ?_⟩
    exact .cons (h.move (Same.refl _) (fun b hb => (h.none b hb).1) fun b u q z => kk b u q fun y => n3 b z b (g3 b y) rfl) (k H' d' kk (by simpa using o))
/-- .. is given away -/
theorem OwnT.giveJ (s : Same Hs H) : ∀ {mts : List Mode} {vs : List V} {ds : List D} {F : List Addr} (j : Nat), OwnT M Hs H mts vs ds F → F.Nodup → ∃ G F', (∀ a ∈ G, a ∈ F) ∧ (∀ a ∈ F', a ∈ F) ∧ F'.Nodup ∧ (∀ a ∈ F', a ∉ G) ∧ OwnT M (give Hs H G) H (mts.set j .S) vs ds F'
  | _, _, _, _, j, .nil, _ => ⟨[], [], fun _ h => (nomatch h), fun _ h => (nomatch h), .nil, fun _ h => (nomatch h), by cases j <;> exact .nil⟩
  | _, _, _, _, 0, .cons (F := F1) (G := F2) h t, n => by
    obtain ⟨n1, n2, n3⟩ := List.nodup_append.mp n
    have hs1 : Same Hs (give Hs H F1) := give_s1 fun a ha => (h.none a ha).1
    refine ⟨F1, [] ++ F2, fun a ha => List.mem_append_left _ ha, fun a ha => List.mem_append_right _ ha, n2, fun a ha y => n3 a y a ha rfl, ?_⟩
    refine .cons (.sh (h.give s)) (t.move hs1 (fun b hb => ?_) fun b o q _ => q)
    rw [give_out fun y => n3 b y b hb rfl]
    exact (t.none b hb).1
  | _, _, _, _, j + 1, .cons (F := F1) (G := F2) h t, n => by
    obtain ⟨n1, n2, n3⟩ := List.nodup_append.mp n
    obtain ⟨G, F', g1, g2, g3, g4, g5⟩ := OwnT.giveJ s j t n2
    have hs1 : Same Hs (give Hs H G) := give_s1 fun a ha => (t.none a (g1 a ha)).1
    refine ⟨G, F1 ++ F', fun a ha => List.mem_append_right _ (g1 a ha), fun a ha => ?_, List.nodup_append.mpr ⟨n1, g3, fun a ha b hb => n3 a ha b (g2 b hb)⟩, fun a ha y => ?_, ?_⟩
    · rcases List.mem_append.mp ha with ha | ha
      · exact List.mem_append_left _ ha
      · exact List.mem_append_right _ (g2 a ha)
    · rcases List.mem_append.mp ha with ha | ha
      · exact n3 a ha a (g1 a y) rfl
      · exact g4 a ha y
    · refine .cons (h.move hs1 (fun b hb => ?_) fun b o q _ => q) g5
      rw [give_out fun y => n3 b hb b (g1 b y) rfl]
      exact (h.none b hb).1
/-- a slot that holds an object of this frame's own -/
theorem Rel.obj {i : Nat} {pp : Addr} {mts : List Mode} {c : Str} {fs : List (Str × D)} (R : Rel M B ms Hs H σ ρ Fp) (hm : md ms i = .N pp mts) (h : ρ[i]? = some (some (.obj c fs))) : ∃ a dx C fvs ds F, a = pp ∧ σ[i]? = some (some (.ref a)) ∧ M.mg c = some (.ref C) ∧ H a = some (.ins C dx fvs) ∧ fs = (fvs.map (·.1)).zip ds ∧ OwnT M Hs H mts (fvs.map (·.2)) ds F ∧ Fp i = a :: F := by
  obtain ⟨v, g1, g2⟩ := R.val i _ h
  rw [hm] at g2
  generalize hq : Fp i = G at g2
  cases g2 with
  | flat f _ => cases f
  | obj n g3 g4 g5 g6 => subst g5; exact ⟨_, _, _, _, _, _, rfl, g1, g3, g4, rfl, g6, rfl⟩
theorem OwnT.den0 (s : Same Hs H) : ∀ {mts : List Mode} {vs : List V} {ds : List D} {F : List Addr}, OwnT M Hs H mts vs ds F → DenL M H vs ds := fun h => h.den s s fun _ _ e _ => e
theorem putF_new {f : Str} {v : V} : ∀ {fvs : List (Str × V)}, fvs.lookup f = none → putF f v fvs = fvs ++ [(f, v)]
  | [], _ => rfl
  | (g, x) :: fvs, h => by
    rw [List.lookup_cons] at h
    cases z : f == g with
    | true => rw [z] at h; cases h
    | false =>
      rw [z] at h
      have ne : ¬ g = f := fun e => by rw [e, beq_self_eq_true] at z; cases z
      show (if g = f then (g, v) :: fvs else (g, x) :: putF f v fvs) = _
      rw [if_neg ne, putF_new h]
      rfl
/-- the field is in the j-th place -/
def lookJ (fs : List (Str × D)) (f : Str) (j : Nat) : Option D := if (fs.take j).lookup f = none then (match fs[j]? with
  | some (g, d) => if g = f then some d else none
  | none => none) else none
theorem lookJ_val {f : Str} : ∀ {fvs : List (Str × V)} {ds : List D} {j : Nat} {d : D}, fvs.length = ds.length → lookJ ((fvs.map (·.1)).zip ds) f j = some d → ds[j]? = some d ∧ ∃ v, (fvs.map (·.2))[j]? = some v ∧ fvs.lookup f = some v
  | [], ds, j, d, hl, h => by
    unfold lookJ at h
    simp at h
  | (g, v) :: fvs, [], j, d, hl, h => by simp at hl
  | (g, v) :: fvs, e :: ds, 0, d, hl, h => by
    unfold lookJ at h
    simp at h
    obtain ⟨h1, h2⟩ := h
    subst h1 h2
    exact ⟨rfl, v, rfl, by simp⟩
  | (g, v) :: fvs, e :: ds, j + 1, d, hl, h => by
    unfold lookJ at h
    simp only [List.map_cons, List.zip_cons_cons, List.take_succ_cons, List.lookup_cons, List.getElem?_cons_succ] at h
    cases z : f == g with
    | true => rw [z] at h; simp at h
    | false =>
      rw [z] at h
      have h' : lookJ ((fvs.map (·.1)).zip ds) f j = some d := h
      obtain ⟨a, w, b1, b2⟩ := lookJ_val (by simpa using hl) h'
      exact ⟨by simpa using a, w, by simpa using b1, by rw [List.lookup_cons, z]; exact b2⟩
end
section
variable {X : Cx} {W : WX} {mx : Option Modes} {ml : Modes} {rm : Mode} {ms ms' : Modes} {ox e key : Expr} {st : Stmt} {ev ek : Env → Rs D} {c f : Str} {C : Addr} {pos pos' tpos fpos : Pos} {l : Lv}
/-- self.f = e, f new -/
def sFldNew (i : Nat) (c f : Str) (ev : Env → Rs D) : Env → Out := fun ρ => sBind (ev ρ) ρ fun d => match ρ[i]? with
  | some (some (.obj c' fs)) => if c' = c ∧ fs.lookup f = none ∧ fs.length < 1000 then .nx (ρ.set i (some (.obj c' (fs ++ [(f, d)])))) else .bad
  | _ => .bad
theorem js_fldNew {m : Mode} {pp : Addr} {mts : List Mode} (i : Nat) (hx : XOk mx ms) (hC : X.mg c = some (.ref C)) (cl : Cls X.K C) (na : NoAttr X.K C f) (hv : PE X ox (tVar i)) (he : JG X W (.own m) ms e ev) (hm : md ms i = .N pp mts := by rfl) (hi : i < ms.length := by first | decide | simp)
    (hs : swapsWith e (some (.Attribute ox f pos')) pos.line X.env = pure false := by rfl) : JS X W mx ml rm ms (.Assign [.Attribute ox f pos'] e pos) (ms.set i (.N pp (mts ++ [m]))) (sFldNew i c f ev) := by
  obtain ⟨t, h1, h2⟩ := he
  refine ⟨_, ps_fld hv h1 hs, fun B Hs H σ ρ Fp E R p => h2 B Hs H σ ρ Fp _ R (SPost.bind R hx p fun d v Hs1 H1 e1 R1 r q => ?_)⟩
  split at q
  · rename_i c' fs hρ
    split at q
    · rename_i cond
      obtain ⟨hc, hn, hlen⟩ := cond
      subst hc
      obtain ⟨a, dx, C', fvs, ds, F, g0, g1, g2, g3, g4, g5, g6⟩ := R1.obj hm hρ
      subst g0
      rw [show (mkM X).mg c' = X.mg c' from rfl, hC] at g2
      cases g2
      subst g4
      have dl := g5.den0 R1.sub
      have hl : fvs.length = ds.length := by have := dl.length; rw [List.length_map] at this; exact this
      have hn' := (zip_lookup (f := f) dl).2 hn
      have hlen' : fvs.length < 1000 := by
        rw [List.length_zip, List.length_map, ← hl, Nat.min_self] at hlen; exact hlen
      obtain ⟨G, o, ng, fg⟩ := r
      have fr := R.fresh fg
      have nd := R1.nd i
      rw [g6] at nd
      obtain ⟨na', nF⟩ := List.nodup_cons.mp nd
      have aG : a ∉ G := fun z => (fr a z).2 i (by rw [g6]; exact List.mem_cons_self)
      refine ⟨.ref a, g1, a, C, dx, fvs, rfl, g3, cl, na, hlen', ?_⟩
      rw [putF_new hn']
      have nn : Hs1 a = none := (R1.has (i := i) (by rw [g6]; exact List.mem_cons_self)).1
      have mv : ∀ b u, H1 b = some u → b ∈ F ++ G → upd H1 a (.ins C dx (fvs ++ [(f, v)])) b = some u := fun b u hb z => by
        rw [upd_ne (fun y => ?_)]
        · exact hb
        · subst y
          rcases List.mem_append.mp z with z | z
          · exact na' z
          · exact aG z
      have ow : OwnT (mkM X) Hs1 (upd H1 a (.ins C dx (fvs ++ [(f, v)]))) (mts ++ [m]) ((fvs ++ [(f, v)]).map (·.2)) (ds ++ [d]) (F ++ G) := by
        rw [List.map_append]
        have := g5.app o
        exact this.move (Same.refl _) (fun b hb => (this.none b hb).1) mv
      obtain ⟨Fp', R'⟩ := R1.write (m' := .N a (mts ++ [m])) (F := a :: (F ++ G)) (o := .ins C dx (fvs ++ [(f, v)])) (d' := .obj c' ((fvs.map (·.1)).zip ds ++ [(f, d)])) hi (by rw [g6]; exact List.mem_cons_self) g1
        (by
          have e2 : (fvs.map (·.1)).zip ds ++ [(f, d)] = ((fvs ++ [(f, v)]).map (·.1)).zip (ds ++ [d]) := by
            rw [List.map_append, List.zip_append (by rw [List.length_map]; exact hl)]
            rfl
          rw [e2]
          exact .obj nn hC upd_same rfl ow)
        (List.nodup_cons.mpr ⟨fun z => by
          rcases List.mem_append.mp z with z | z
          · exact na' z
          · exact aG z, List.nodup_append.mpr ⟨nF, ng, fun x hx y hy e => by
            subst e
            exact (fr x hy).2 i (by rw [g6]; exact List.mem_cons_of_mem _ hx)⟩⟩) fun b hb => by
          rcases List.mem_cons.mp hb with z | hb
          · exact .inl (by rw [g6, z]; exact List.mem_cons_self)
          · rcases List.mem_append.mp hb with hb | hb
            · exact .inl (by rw [g6]; exact List.mem_cons_of_mem _ hb)
            · exact .inr (fr b hb)
      exact q Hs1 _ σ Fp' R'
    · exact q.elim
  · exact q.elim
/-- self.f, held -/
def eFldN (i : Nat) (c f : Str) (j : Nat) : Env → Rs D := fun ρ => match ρ[i]? with
  | some (some (.obj c' fs)) => if c' = c then (match lookJ fs f j with
    | some d => .ok d
    | none => .bad) else .bad
  | _ => .bad
theorem je_fldN {pp : Addr} {mts : List Mode} (i j : Nat) (hC : X.mg c = some (.ref C)) (cl : Cls X.K C) (na : NoAttr X.K C f) (hv : PE X ox (tVar i)) (hm : md ms i = .N pp mts := by rfl) (hb : attributeBase ox f X.env (eval ox X.env) = eval ox X.env := by rfl) : JG X W (.t (mts.getD j .S)) ms (.Attribute ox f pos) (eFldN i c f j) := by
  refine ⟨_, pe_fld hv hb, fun B Hs H σ ρ Fp Q R p => ?_⟩
  unfold eFldN at p
  split at p
  · rename_i c' fs hρ
    split at p
    · rename_i hc
      subst hc
      obtain ⟨a, dx, C', fvs, ds, F, g0, g1, g2, g3, g4, g5, g6⟩ := R.obj hm hρ
      subst g0
      rw [show (mkM X).mg c' = X.mg c' from rfl, hC] at g2
      cases g2
      subst g4
      have dl := g5.den0 R.sub
      have hl : fvs.length = ds.length := by have := dl.length; rw [List.length_map] at this; exact this
      split at p
      · rename_i d hd
        obtain ⟨d1, v, v1, v2⟩ := lookJ_val hl hd
        obtain ⟨w, G, w1, w2⟩ := g5.get d1
        rw [v1] at w1
        cases w1
        exact ⟨.ref a, g1, a, C, dx, fvs, v, rfl, g3, cl, na, v2, p v Hs H (Ext.refl R.sub) ⟨G, w2⟩⟩
      · exact p.elim
    · exact p.elim
  · exact p.elim
/-- a field is shared from now on -/
theorem Rel.freezeF {M : MK} {B : Hp × Hp} {Hs H : Hp} {σ : St} {ρ : Env} {Fp : Nat → List Addr} {i : Nat} {pp : Addr} {mts : List Mode} (R : Rel M B ms Hs H σ ρ Fp) (hi : i < ms.length) (hm : md ms i = .N pp mts) (j : Nat) : ∃ Hs' Fp', Rel M B (ms.set i (.N pp (mts.set j .S))) Hs' H σ ρ Fp' := by
  by_cases ho : ∃ d, ρ[i]? = some (some d)
  · obtain ⟨d, ho⟩ := ho
    obtain ⟨v, g1, g2⟩ := R.val i _ ho
    rw [hm] at g2
    generalize hq : Fp i = Q at g2
    have nd := R.nd i
    rw [hq] at nd
    have key : ∃ G F', (∀ a ∈ G, a ∈ Q) ∧ (∀ a ∈ F', a ∈ Q) ∧ F'.Nodup ∧ (∀ a ∈ F', a ∉ G) ∧ Own M (give Hs H G) H (.N pp (mts.set j .S)) v d F' := by
      cases g2 with
      | flat f h => exact ⟨[], [], fun _ h => (nomatch h), fun _ h => (nomatch h), .nil, fun _ h => (nomatch h), .flat f (h.flat f)⟩
      | obj n g3 g4 g5 g6 =>
        obtain ⟨na, nF⟩ := List.nodup_cons.mp nd
        obtain ⟨G, F', k1, k2, k3, k4, k5⟩ := g6.giveJ R.sub j nF
        refine ⟨G, pp :: F', fun b hb => List.mem_cons_of_mem _ (k1 b hb), fun b hb => ?_, List.nodup_cons.mpr ⟨fun z => na (k2 _ z), k3⟩, fun b hb z => ?_, .obj ?_ g3 g4 g5 k5⟩
        · rcases List.mem_cons.mp hb with z | hb
          · rw [z]; exact List.mem_cons_self
          · exact List.mem_cons_of_mem _ (k2 b hb)
        · rcases List.mem_cons.mp hb with y | hb
          · subst y; exact na (k1 _ z)
          · exact k4 b hb z
        · rw [give_out fun z => na (k1 _ z)]; exact n
    obtain ⟨G, F', k1, k2, k3, k4, k5⟩ := key
    have nG : ∀ a ∈ G, Hs a = none := fun a ha => (R.has (i := i) (by rw [hq]; exact k1 a ha)).1
    have e : Ext B.1 B.2 (give Hs H G) H := R.ext.give nG fun a ha => R.fr i a (by rw [hq]; exact k1 a ha)
    refine ⟨give Hs H G, fun n => if n = i then F' else Fp n, e, R.len, by simpa using R.lm, fun n x hx => ?_, fun n hn => ?_, fun n => ?_, fun n a ha => ?_, fun n n2 hnn a ha => ?_⟩
    · by_cases z : n = i
      · subst z
        rw [ho] at hx
        cases hx
        refine ⟨v, g1, ?_⟩
        rw [md_set_self hi, if_pos rfl]
        exact k5
      · obtain ⟨w, w1, w2⟩ := R.val n x hx
        refine ⟨w, w1, ?_⟩
        rw [md_set_ne (Ne.symm z), if_neg z]
        refine w2.move (give_s1 nG) (fun a ha => ?_) fun a o q _ => q
        rw [give_out fun y => R.dj n i z a ha (by rw [hq]; exact k1 a y)]
        exact (R.has ha).1
    · by_cases z : n = i
      · subst z; exact absurd ho (hn d)
      · simp only [if_neg z]; exact R.off n hn
    · by_cases z : n = i
      · simp only [if_pos z]; exact k3
      · simp only [if_neg z]; exact R.nd n
    · by_cases z : n = i
      · simp only [if_pos z] at ha; exact R.fr i a (by rw [hq]; exact k2 a ha)
      · simp only [if_neg z] at ha; exact R.fr n a ha
    · by_cases z : n = i
      · simp only [if_pos z] at ha
        by_cases z2 : n2 = i
        · exact absurd (z.trans z2.symm) hnn
        · simp only [if_neg z2]; exact R.dj i n2 (Ne.symm z2) a (by rw [hq]; exact k2 a ha)
      · simp only [if_neg z] at ha
        by_cases z2 : n2 = i
        · simp only [if_pos z2]; exact fun y => R.dj n i z a ha (by rw [hq]; exact k2 a y)
        · simp only [if_neg z2]; exact R.dj n n2 hnn a ha
  · have off : ∀ d, ρ[i]? ≠ some (some d) := fun d h => ho ⟨d, h⟩
    refine ⟨Hs, Fp, R.ext, R.len, by simpa using R.lm, fun n x hx => ?_, R.off, R.nd, R.fr, R.dj⟩
    have z : n ≠ i := fun e => by subst e; exact off x hx
    rw [md_set_ne (Ne.symm z)]
    exact R.val n x hx
theorem js_preF {pp : Addr} {mts : List Mode} (i j : Nat) {es : Env → Out} (h : JS X W mx ml rm (ms.set i (.N pp (mts.set j .S))) st ms' es) (hm : md ms i = .N pp mts := by rfl) (hi : i < ms.length := by first | decide | simp) : JS X W mx ml rm ms st ms' es := by
  obtain ⟨t, h1, h2⟩ := h
  refine ⟨t, h1, fun B Hs H σ ρ Fp E R p => ?_⟩
  obtain ⟨Hs', Fp', R'⟩ := R.freezeF hi hm j
  exact h2 B Hs' H σ ρ _ E R' p
end
end G
/-! G: self.f[k] = e; __init__ and its call -/
namespace G
open PySem PySem.Spec L2
open PyProof.Rows hiding St
section
variable {X : Cx} {W : WX} {mx : Option Modes} {ml : Modes} {rm : Mode} {ms ms' : Modes} {ox e key : Expr} {st : Stmt} {ev ek : Env → Rs D} {c f : Str} {C : Addr} {pos pos' fpos : Pos} {l : Lv}
theorem setJ {f : Str} {j : Nat} {d d' : D} : ∀ {fs : List (Str × D)}, lookJ fs f j = some d → (fs.set j (f, d')).map (·.1) = fs.map (·.1) ∧ (fs.set j (f, d')).map (·.2) = (fs.map (·.2)).set j d' := by
  intro fs h
  unfold lookJ at h
  split at h
  · split at h
    · rename_i g e he
      split at h
      · rename_i hg
        subst hg
        refine ⟨?_, by rw [List.map_set]⟩
        rw [List.map_set]
        obtain ⟨h1, h2⟩ := List.getElem?_eq_some_iff.mp he
        apply List.ext_getElem?
        intro n
        by_cases z : j = n
        · subst z
          rw [List.getElem?_set_self (by rw [List.length_map]; exact h1), List.getElem?_map, he]
          rfl
        · rw [List.getElem?_set_ne z]
      · cases h
    · cases h
  · cases h
/-- self.f[k] = e: the field in place j holds a dict by pairs, by numbers -/
def sFldIx (i : Nat) (c f : Str) (j : Nat) (ek ev : Env → Rs D) : Env → Out := fun ρ => sBind (ev ρ) ρ fun d => match ρ[i]? with
  | some (some (.obj c' fs)) => if c' = c then (match lookJ fs f j with
    | some o => sBind (ek ρ) ρ fun k => match fSetIx o k d with
      | some o' => .nx (ρ.set i (some (.obj c' (fs.set j (f, o')))))
      | none => .bad
    | none => .bad) else .bad
  | _ => .bad
theorem zipfs {α β : Type} : ∀ l : List (α × β), (l.map (·.1)).zip (l.map (·.2)) = l
  | [] => rfl
  | (a, b) :: l => by simp only [List.map_cons, List.zip_cons_cons, zipfs l]
theorem zip_setJ {fvs : List (Str × V)} {ds : List D} {j : Nat} {o o' : D} {f : Str} (hl : fvs.length = ds.length) (h : lookJ ((fvs.map (·.1)).zip ds) f j = some o) : ((fvs.map (·.1)).zip ds).set j (f, o') = (fvs.map (·.1)).zip (ds.set j o') := by
  obtain ⟨a, b⟩ := setJ (d' := o') h
  have e1 : ((fvs.map (·.1)).zip ds).map (·.1) = fvs.map (·.1) := List.map_fst_zip (by rw [List.length_map]; omega)
  have e2 : ((fvs.map (·.1)).zip ds).map (·.2) = ds := List.map_snd_zip (by rw [List.length_map]; omega)
  rw [e1] at a
  rw [e2] at b
  have e3 := zipfs (((fvs.map (·.1)).zip ds).set j (f, o'))
  rw [a, b] at e3
  exact e3.symm
theorem own_dict_set {M : MK} {Hs H : Hp} {v kv vd : V} {o kd d o' : D} {G : List Addr} (h : Own M Hs H (.O .S) v o G) (dk : Den M H kv kd) (dv : Den M Hs vd d) (e : fSetIx o kd d = some o') (hd : ∀ xs, o ≠ .lst xs) :
    ∃ q u, v = .ref q ∧ G = [q] ∧ DPut H q kv vd (upd H q u) ∧ Own M Hs (upd H q u) (.O .S) v o' G := by
  cases h with
  | flat f hfl => cases hfl <;> first | cases e | cases f
  | shT _ => cases e
  | lst n g ll => exact absurd rfl (hd _)
  | @dk _ aa kvs ks ds F n g hks ll =>
    obtain ⟨dl, rfl⟩ := ll.den_S
    subst hks
    have e' : (match keyOf kd with | some q => if ((kvs.map (·.1)).zip ds).length < cap then some (D.dk (put ((kvs.map (·.1)).zip ds) q d)) else none | none => none) = some o' := e
    cases hkey : keyOf kd with
    | none => rw [hkey] at e'; cases e'
    | some kk =>
      rw [hkey] at e'
      simp only at e'
      split at e'
      · rename_i cc
        cases e'
        have ey := keyOf_den dk hkey
        subst ey
        obtain ⟨es, e3, e4⟩ := put_den (k := kk) dv dl
        have hlen : kvs.length < sizeLine := by
          rw [List.length_zip, List.length_map, ← dl.length, List.length_map, Nat.min_self] at cc
          exact cap_lt cc
        refine ⟨aa, _, rfl, rfl, DPut.k g hlen, ?_⟩
        rw [e3]
        exact .dk n upd_same rfl (OwnL.sh e4)
      · cases e'
  | @dt _ aa kvs ks ds F n g hks ll =>
    obtain ⟨dl, rfl⟩ := ll.den_S
    subst hks
    cases dk with
    | @tup ka kvs2 kds ht hl2 =>
      have e' : (match keysOf kds with | some q => if ((kvs.map (·.1)).zip ds).length < cap then some (D.dt (put ((kvs.map (·.1)).zip ds) q d)) else none | none => none) = some o' := e
      cases hkey : keysOf kds with
      | none => rw [hkey] at e'; cases e'
      | some kk =>
        rw [hkey] at e'
        simp only at e'
        split at e'
        · rename_i cc
          cases e'
          have ey := keysOf_den hl2 hkey
          subst ey
          obtain ⟨es, e3, e4⟩ := put_den (k := kk) dv dl
          have hlen : kvs.length < sizeLine := by
            rw [List.length_zip, List.length_map, ← dl.length, List.length_map, Nat.min_self] at cc
            exact cap_lt cc
          refine ⟨aa, _, rfl, rfl, DPut.t g ht hlen, ?_⟩
          rw [e3]
          exact .dt n upd_same rfl (OwnL.sh e4)
        · cases e'
    | _ => cases e
theorem js_fldIx {pp : Addr} {mts : List Mode} (i j : Nat) (hx : XOk mx ms) (hC : X.mg c = some (.ref C)) (cl : Cls X.K C) (na : NoAttr X.K C f) (hst : ∀ te to ti, PE X e te → PE X (.Attribute ox f fpos) to → PE X key ti → PS X st (tAsg te (gSub to ti rSet5))) (hv : PE X ox (tVar i)) (hk : JG X W l ms key ek) (he : JG X W .s ms e ev)
    (hm : md ms i = .N pp mts := by rfl) (hj : mts.getD j .S = .O .S := by rfl) (hi : i < ms.length := by first | decide | simp) (hb : attributeBase ox f X.env (eval ox X.env) = eval ox X.env := by rfl) : JS X W mx ml rm ms st ms (sFldIx i c f j ek ev) := by
  obtain ⟨t, h1, h2⟩ := he
  obtain ⟨u, k1, k2⟩ := hk
  refine ⟨_, hst _ _ _ h1 (pe_fld hv hb) k1, fun B Hs H σ ρ Fp E R p => h2 B Hs H σ ρ Fp _ R (SPost.bind R hx p fun d v Hs1 H1 e1 R1 r q => ?_)⟩
  split at q
  · rename_i c' fs hρ
    split at q
    · rename_i hc
      subst hc
      obtain ⟨a, dx, C', fvs, ds, F, g0, g1, g2, g3, g4, g5, g6⟩ := R1.obj hm hρ
      subst g0
      rw [show (mkM X).mg c' = X.mg c' from rfl, hC] at g2
      cases g2
      subst g4
      have dl := g5.den0 R1.sub
      have hl : fvs.length = ds.length := by have := dl.length; rw [List.length_map] at this; exact this
      split at q
      · rename_i o ho
        obtain ⟨d1, w, w1, w2⟩ := lookJ_val hl ho
        refine ⟨.ref a, g1, a, C, dx, fvs, w, rfl, g3, cl, na, w2, ?_⟩
        refine k2 B Hs1 H1 σ ρ Fp _ R1 (SPost.bind R1 hx q fun kd kv Hs2 H2 e2 R2 r2 q2 => ?_)
        split at q2
        · rename_i o' ho'
          have g5' := g5.ext e2
          have nd := R2.nd i
          rw [g6] at nd
          obtain ⟨na', nF⟩ := List.nodup_cons.mp nd
          obtain ⟨y, G, y1, y2, y3, y4⟩ := g5'.innerG nF d1
          rw [w1] at y1
          cases y1
          rw [hj] at y2 y4
          have dkk := r2.b R2.sub
          have dvv := r.s.mono e2.s1
          have hcase : (∃ xs, o = .lst xs) ∨ ∀ xs, o ≠ .lst xs := by
            cases o with
            | lst xs => exact .inl ⟨xs, rfl⟩
            | _ => exact .inr fun xs z => by cases z
          rcases hcase with ⟨xs, rfl⟩ | hd
          · -- a list
            cases y2 with
            | flat f _ => cases f
            | @lst _ qa ws _ F2 n gq ll =>
              obtain ⟨dl2, rfl⟩ := ll.den_S
              cases dkk with
              | int z =>
                obtain ⟨jj, hjj, rfl⟩ := Option.map_eq_some_iff.mp (show (ixN _ z).map _ = some o' from ho')
                rw [← dl2.length] at hjj
                refine .inl ⟨_, _, z, jj, rfl, rfl, gq, hjj, ?_⟩
                have hqa : a ≠ qa := fun e => na' (by rw [e]; exact y3 qa List.mem_cons_self)
                have ow := y4 (upd H2 qa (.lst (ws.set jj v))) (.lst (xs.set jj d)) (fun b u hb z => by rw [upd_ne (fun e => z (by rw [e]; exact List.mem_cons_self))]; exact hb) (.lst n upd_same (OwnL.sh (dl2.set dvv jj)))
                obtain ⟨Fp', R'⟩ := R2.write (m' := .N a mts) (F := a :: F) (o := .lst (ws.set jj v)) (d' := .obj c' ((fvs.map (·.1)).zip (ds.set j (.lst (xs.set jj d))))) (a := qa) hi (by rw [g6]; exact List.mem_cons_of_mem _ (y3 qa List.mem_cons_self)) g1
                  (.obj (R2.has (i := i) (by rw [g6]; exact List.mem_cons_self)).1 hC (by rw [upd_ne hqa]; exact e2.s3 _ _ g3) rfl ow) (by rw [← g6]; exact R2.nd i) fun b hb => .inl (by rw [g6]; exact hb)
                rw [← hm, md_same hi] at R'
                rw [zip_setJ hl ho] at q2
                exact q2 Hs2 _ σ Fp' R'
              | _ => cases ho'
          · obtain ⟨qa, u, rfl, rfl, y5, y6⟩ := own_dict_set y2 dkk dvv ho' hd
            refine .inr ⟨qa, _, rfl, y5, ?_⟩
            have hqa : a ≠ qa := fun e => na' (by rw [e]; exact y3 qa List.mem_cons_self)
            have ow := y4 (upd H2 qa u) o' (fun b u' hb z => by rw [upd_ne (fun e => z (by rw [e]; exact List.mem_cons_self))]; exact hb) y6
            obtain ⟨Fp', R'⟩ := R2.write (m' := .N a mts) (F := a :: F) (o := u) (d' := .obj c' ((fvs.map (·.1)).zip (ds.set j o'))) (a := qa) hi (by rw [g6]; exact List.mem_cons_of_mem _ (y3 qa List.mem_cons_self)) g1
              (.obj (R2.has (i := i) (by rw [g6]; exact List.mem_cons_self)).1 hC (by rw [upd_ne hqa]; exact e2.s3 _ _ g3) rfl ow) (by rw [← g6]; exact R2.nd i) fun b hb => .inl (by rw [g6]; exact hb)
            rw [← hm, md_same hi] at R'
            rw [zip_setJ hl ho] at q2
            exact q2 Hs2 _ σ Fp' R'
        · exact q2.elim
      · exact q.elim
    · exact q.elim
  · exact q.elim
end
/-! ### __init__ -/
/-- what comes out of __init__: what the first name holds -/
def outN : Out → Rs D
  | .nx ρ => match ρ[0]? with
    | some (some d) => if d.flat then .bad else .ok d
    | _ => .bad
  | .exc c fs _ => .exc c fs
  | _ => .bad
/-- n parameters with self, N names -/
def runN (c : Str) (n N : Nat) (b : Env → Out) : List D → Rs D := fun ds => if ds.length + 1 = n then outN (b (some (.obj c []) :: (ds.map some ++ List.replicate (N - n) none))) else .bad
def spN (M : MK) (c : Str) (g : List D → Rs D) : Sp := fun vs H Q E => ∃ (p dx C : Addr) (ws : List V) (Hs : Hp) (ds : List D), vs = .ref p :: ws ∧ M.mg c = some (.ref C) ∧ H p = some (.ins C dx []) ∧ Hs p = none ∧ Same Hs H ∧ DenL M Hs ws ds ∧ match g ds with
  | .ok d => ∀ Hs' H', Ext Hs (fun b => if b = p then none else H b) Hs' H' → Den M Hs' (.ref p) d → Q .non H'
  | .exc c fs => ∀ Hs' H' cls dd, Ext Hs (fun b => if b = p then none else H b) Hs' H' → ExcAt M Hs' c fs cls dd → E cls dd H'
  | .bad => False
section
variable {P : Program} {w : World} {K : PySem.W.Frag} {mg : Str → Option Value} {base : Heap}
theorem fn_okN {x qual c : Str} {st : Stmt} {f : Addr} {fd : FuncData} {N ps : List Str} {k : Nat} {ev : Env → Out} (F : Fun K x qual st f fd) (S : FnScope N ps (defScope st)) (hpl : ps.length ≤ N.length) (h0 : 0 < ps.length)
    (hb : ∀ (cdv : Value) (A : Around) (outer : List PySem.Env) (s : Shared) (H : Hp) (E : XK), Room k (A.deeper (envOfC qual (defScope st) s.heap.objs.size f cdv)) →
      ∀ pp : Addr, ∃ mts, JSs (cxOf (L2.CX P w) P w K mg base N qual (defScope st) f cdv A outer s H E) (fun cls d _ H => E cls d H) none [] .S (.N pp [] :: List.replicate (N.length - 1) .S) (defBody st) (.N pp mts :: List.replicate (N.length - 1) .S) ev) :
    FnOk P w K mg base (L2.CX P w) (k + 1) f fd ps (spN ⟨K, mg⟩ c (runN c ps.length N.length ev)) := by
  refine F.okX S (fun vs H Q E h => ?_) (fun cdv A outer s H vs Q E hr h => ?_)
  · obtain ⟨p, dx, C, ws, Hs, ds, rfl, hm, hp, hsp, sm, l, h⟩ := h
    rw [List.length_cons, l.length]
    by_cases z : ds.length + 1 = ps.length
    · exact z
    · have q : runN c ps.length N.length ev ds = .bad := if_neg z
      rw [q] at h
      exact h.elim
  · obtain ⟨p, dx, C, ws, Hs, ds, rfl, hm, hp, hsp, sm, l, h⟩ := h
    obtain ⟨mts, t, h1, h2⟩ := hb cdv A outer s H E hr p
    refine ⟨t, h1, ?_⟩
    have z : ds.length + 1 = ps.length := by
      by_cases z : ds.length + 1 = ps.length
      · exact z
      · have q : runN c ps.length N.length ev ds = .bad := if_neg z
        rw [q] at h
        exact h.elim
    have q : runN c ps.length N.length ev ds = outN (ev (some (.obj c []) :: (ds.map some ++ List.replicate (N.length - ps.length) none))) := if_pos z
    rw [q] at h
    have hvl := l.length
    have ext0 : Ext Hs (fun b => if b = p then none else H b) Hs H := ⟨Same.refl _, sm, fun b o e => by
      by_cases y : b = p
      · simp only [if_pos y] at e; cases e
      · simp only [if_neg y] at e; exact e, fun a _ _ _ h2 => h2⟩
    refine h2 (Hs, fun b => if b = p then none else H b) Hs H _ (some (.obj c []) :: (ds.map some ++ List.replicate (N.length - ps.length) none)) (fun i => if i = 0 then [p] else []) _ ⟨ext0, ?_, ?_, fun i d e => ?_, fun i hi => ?_, fun i => ?_, fun i a ha => ?_, fun i j hij a ha => ?_⟩ ?_
    · unfold L2.start
      simp [hvl]
      omega
    · simp; omega
    · cases i with
      | zero =>
        cases e
        refine ⟨.ref p, by unfold L2.start; rfl, ?_⟩
        exact .obj (fvs := []) (ks := []) (ds := []) hsp hm hp rfl .nil
      | succ i =>
        have e' : (ds.map some ++ List.replicate (N.length - ps.length) none)[i]? = some (some d) := by simpa using e
        have hi : i < ds.length := by
          by_cases hi : i < ds.length
          · exact hi
          · rw [List.getElem?_append_right (by simp; omega), List.getElem?_replicate] at e'
            split at e' <;> cases e'
        rw [List.getElem?_append_left (by simpa using hi), List.getElem?_map] at e'
        obtain ⟨d', e1, e2⟩ := Option.map_eq_some_iff.mp e'
        cases e2
        obtain ⟨v, h3, h4⟩ := l.get e1
        refine ⟨v, ?_, ?_⟩
        · unfold L2.start
          rw [List.getElem?_append_left (by simp; omega), List.getElem?_map, List.getElem?_cons_succ, h3]
          rfl
        · have hm : md (Mode.N p [] :: List.replicate (N.length - 1) Mode.S) (i + 1) = .S := by
            unfold md
            rw [List.getD_eq_getElem?_getD, List.getElem?_cons_succ, List.getElem?_replicate]
            split <;> rfl
          rw [hm]
          exact .sh h4
    · cases i with
      | zero => exact absurd rfl (hi _)
      | succ i => rfl
    · split
      · simp
      · exact .nil
    · split at ha
      · rw [List.mem_singleton.mp ha]; exact if_pos rfl
      · cases ha
    · split at ha
      · rename_i hi
        split
        · rename_i hj; exact absurd (hi.trans hj.symm) hij
        · exact fun y => by cases y
      · cases ha
    · cases z2 : ev (some (.obj c []) :: (ds.map some ++ List.replicate (N.length - ps.length) none)) with
      | nx ρ =>
        rw [z2] at h
        intro Hs1 H1 σ1 Fp1 R1
        have h' : match (match ρ[0]? with | some (some d) => (if d.flat then Rs.bad else Rs.ok d) | _ => .bad) with
          | .ok d => ∀ Hs' H', Ext Hs (fun b => if b = p then none else H b) Hs' H' → Den ⟨K, mg⟩ Hs' (.ref p) d → Q .non H'
          | .exc c fs => ∀ Hs' H' cls dd, Ext Hs (fun b => if b = p then none else H b) Hs' H' → ExcAt ⟨K, mg⟩ Hs' c fs cls dd → E cls dd H'
          | .bad => False := h
        cases z3 : ρ[0]? with
        | none => rw [z3] at h'; exact h'.elim
        | some o =>
          cases o with
          | none => rw [z3] at h'; exact h'.elim
          | some d =>
            rw [z3] at h'
            obtain ⟨v, v1, v2⟩ := R1.val 0 d z3
            have mm : md (Mode.N p mts :: List.replicate (N.length - 1) Mode.S) 0 = .N p mts := rfl
            have v2' : Own ⟨K, mg⟩ Hs1 H1 (.N p mts) v d (Fp1 0) := v2
            by_cases hdd : d.flat = true
            · simp only [if_pos hdd] at h'
            · simp only [if_neg hdd] at h'
              have v3 : v = .ref p := by
                generalize Fp1 0 = FF at v2'
                cases v2' with
                | flat f _ => exact absurd f hdd
                | obj _ _ _ _ _ => rfl
              subst v3
              obtain ⟨Hs', e2, _, R2⟩ := R1.freeze (i := 0) (by simp)
              obtain ⟨w, w1, w2⟩ := R2.val 0 d z3
              rw [v1] at w1
              cases w1
              rw [md_set_self (by simp)] at w2
              exact h' Hs' H1 R2.ext w2.S.1
      | exc c fs ρ =>
        rw [z2] at h
        exact fun Hs1 H1 σ1 cls dd e r => h Hs1 H1 cls dd e r
      | _ => rw [z2] at h; exact h.elim
end
end G
/-! G: C(..) -/
namespace G
open PySem PySem.Spec L2
open PyProof.Rows hiding St
section
variable {X : Cx} {W : WX} {ms : Modes} {CX : CXT} {k : Nat} {f C : Addr} {fd : FuncData} {ps : List Str} {sp : Sp} {E : St → XK} {x c : Str} {p pos : Pos} {e : Expr} {es : List Expr} {t : TA}
theorem run_makeS {pins : List (Addr × Obj)} {σ : St} {H : Hp} {s : Shared} {Q : VK} {us : List Value} {vs : List V} (M : Mk X.K C f) (F : FnOk X.prog X.w X.K X.mg X.base CX k f fd ps sp) (hr : Room (k + 1) X.A) (hb : Binds X.K fd ps [])
    (hx : PassesAt CX X σ (E σ)) (I : Inv X pins σ H s) (r : Vals vs us)
    (h : ∀ x dx, H x = none → H dx = none → dx ≠ x → sp (.ref x :: vs) (upd (upd H dx (.own x)) x (.ins C dx [])) (fun v H2 => v = .non ∧ Q (.ref x) H2) (E σ)) :
    wpAny (model X.prog X.w) X.A (call (.ref C) us) (EP X pins σ Q) X.xe s := by
  have q0 := h (s.heap.objs.size + 1) s.heap.objs.size (I.hok.fresh (Nat.le_succ _)) (I.hok.fresh (Nat.le_refl _)) (Nat.ne_of_lt (Nat.lt_succ_self _))
  have J := Inv.made (C := C) I
  have r2 : Vals (V.ref (s.heap.objs.size + 1) :: vs) (Value.ref (s.heap.objs.size + 1) :: us) := .cons rfl r
  have hl : (Value.ref (s.heap.objs.size + 1) :: us ++ []).length = ps.length := by
    rw [List.append_nil]
    have z := r2.length
    rw [F.len _ _ _ _ q0] at z
    exact z.symm
  have bb := hb _ (Value.ref (s.heap.objs.size + 1) :: us) J.kIn hl
  rw [List.append_nil] at bb
  refine wpAny_call (make_map (f := f) I.kIn M.makes M.init (beq_iff_eq.mp M.fn) (codeAny_mono (F.run _ X.stack _ _ ⟨Value.ref (s.heap.objs.size + 1) :: us, []⟩ (Value.ref (s.heap.objs.size + 1) :: us) _ _ (E σ) (hr.make C us [])
    (J.env0.make C us []) bb r2 q0) fun r s' w => ?_))
  cases r with
  | error e => exact hx pins _ _ e s' J w
  | ok fl =>
    cases fl with
    | ret u =>
      obtain ⟨v, H', I3, rv, ev, q3⟩ := J.after w
      subst ev
      exact ⟨rv, V.ref (s.heap.objs.size + 1), H', I3, rfl, q3⟩
    | next => exact w.elim
    | brk => exact w.elim
    | cont => exact w.elim
def tMakeS (C : Addr) (sp : Sp) (E : St → XK) (t : TA) : TE := fun σ H Q => t σ H fun vs H1 => ∀ x dx, H1 x = none → H1 dx = none → dx ≠ x → sp (.ref x :: vs) (upd (upd H1 dx (.own x)) x (.ins C dx [])) (fun v H2 => v = .non ∧ Q (.ref x) H2) (E σ)
theorem pe_makeS (M : Mk X.K C f) (F : FnOk X.prog X.w X.K X.mg X.base CX k f fd ps sp) (hr : Room (k + 1) X.A) (hg : Gl X x) (hm : X.mg x = some (.ref C)) (hb : Binds X.K fd ps []) (hx : ∀ σ, PassesAt CX X σ (E σ))
    (ha : PA X (e :: es) t) (hdb : (x == ("__debug__" : Str)) = false) (he : starEach (e :: es) X.env = (false, eval e X.env) :: starEach es X.env) (hpl : (backTo pos (starEach es X.env)).any (·.1) = false) :
    PE X (.Call (.Name x p) (e :: es) [] pos) (tMakeS C sp E t) := by
  refine ⟨fun pins s σ H Q I h => wpAny_Call_Name_kw (ld_glob I hg hm ?_ hdb)⟩
  refine PySem.W.callWith_K (h₀ := X.base) I.ok.mod.kin M.kp (thn (ha.run pos pins s σ H _ I h) fun us s1 w => ?_) he hpl
  obtain ⟨vs, H1, I1, r, q⟩ := w
  exact ⟨I1.kIn, run_makeS M F hr hb (hx σ) I1 r q⟩
theorem je_make {g : List D → Rs D} {ea : Env → Rs (List D)} (M : Mk X.K C f) (F : FnOk X.prog X.w X.K X.mg X.base (L2.CX X.prog X.w) k f fd ps (spN (mkM X) x g)) (hr : Room (k + 1) X.A) (hm : X.mg x = some (.ref C)) (hb : Binds X.K fd ps []) (tk : Takes X W) (ha : JA X W .s ms (e :: es) ea)
    (hg : Gl X x := by rfl) (hdb : (x == ("__debug__" : Str)) = false := by decide) (he : starEach (e :: es) X.env = (false, eval e X.env) :: starEach es X.env := by rfl) (hpl : (backTo pos (starEach es X.env)).any (·.1) = false := by rfl) :
    JG X W .s ms (.Call (.Name x p) (e :: es) [] pos) (eFn g ea) := by
  obtain ⟨t, h1, h2⟩ := ha
  refine ⟨_, pe_makeS M F hr hg hm hb (fun σ => passAt tk σ) h1 hdb he hpl, fun B Hs H σ ρ Fp Q R p => ?_⟩
  refine h2 B Hs H σ ρ Fp _ R (Post.seq p fun ds vs Hs1 H1 _ e1 r q => ?_)
  intro a dx na nd ne
  have hsa : Hs1 a = none := e1.s2.free na
  have hsd : Hs1 dx = none := e1.s2.free nd
  have e2 : Ext Hs1 H1 (upd Hs1 dx (.own a)) (upd H1 dx (.own a)) := Ext.new e1.s2 nd
  have hide : (fun b => if b = a then none else upd (upd H1 dx (.own a)) a (.ins C dx []) b) = upd H1 dx (.own a) := by
    funext b
    by_cases z : b = a
    · subst z
      rw [if_pos rfl, upd_ne (Ne.symm ne)]
      exact na.symm
    · rw [if_neg z, upd_ne z]
  have l := r.s
  refine ⟨a, dx, C, vs, upd Hs1 dx (.own a), ds, rfl, hm, upd_same, ?_, ?_, l.mono (same_upd hsd), ?_⟩
  · rw [upd_ne (Ne.symm ne)]; exact hsa
  · intro b o hb
    have : b ≠ a := fun z => by subst z; rw [upd_ne (Ne.symm ne), hsa] at hb; cases hb
    rw [upd_ne this]
    exact e2.s2 _ _ hb
  · rw [hide]
    cases z : g ds with
    | ok d => rw [z] at q; exact fun Hs' H' ex dn => ⟨rfl, q _ Hs' H' (e2.trans ex) (.of dn)⟩
    | exc cc fs => rw [z] at q; exact fun Hs' H' cls dd ex r => q Hs' H' cls dd (e2.trans ex) r
    | bad => rw [z] at q; exact q.elim
end
end G
/-! G: for a, b in d: a dict is locked while its keys are walked -/
namespace G
open PySem PySem.Spec L2
open PyProof.Rows hiding St
def IsD (u : HO) : Prop := (∃ k, u = .dK k) ∨ ∃ k, u = .dT k
/-- a dict is locked, a lock is taken off; the rest stays -/
def Ch (H H' : Hp) : Prop := ∀ a o, H a = some o → H' a = some o ∨ ∃ od u, IsD u ∧ ((o = u ∧ H' a = some (.frz od u)) ∨ (o = .frz od u ∧ H' a = some u))
theorem Ch.exact {H H' : Hp} (c : Ch H H') {a : Addr} {o : HO} (h : H a = some o) (n1 : ¬ IsD o) (n2 : ∀ od u, IsD u → o ≠ .frz od u) : H' a = some o := by
  rcases c a o h with z | ⟨od, u, hu, z | z⟩
  · exact z
  · exact absurd (by rw [z.1]; exact hu) n1
  · exact absurd z.1 (n2 od u hu)
theorem Ch.rd {H H' : Hp} (c : Ch H H') {a : Addr} {w : HO} (h : Rd H a w) (nf : ∀ od u, w ≠ .frz od u) : Rd H' a w := by
  rcases h with h | ⟨o, h⟩
  · rcases c a _ h with z | ⟨od, u, hu, z | z⟩
    · exact .inl z
    · rw [z.1]; exact .inr ⟨od, z.2⟩
    · exact absurd z.1 (nf od u)
  · rcases c a _ h with z | ⟨od, u, hu, z | z⟩
    · exact .inr ⟨o, z⟩
    · exfalso
      rcases hu with ⟨k, hu⟩ | ⟨k, hu⟩ <;> (rw [hu] at z; cases z.1)
    · cases z.1; exact .inl z.2
theorem Ch.seqT {K : PySem.W.Frag} {H H' : Hp} (c : Ch H H') {a : Addr} {xs : List V} (h : SqT K H a xs) : SqT K H' a xs := by
  rcases h with h | h
  · exact .inl (c.rd h fun _ _ z => by cases z)
  · exact .inr h
theorem Ch.seqL {K : PySem.W.Frag} {H H' : Hp} (c : Ch H H') {a : Addr} {xs : List V} (h : SqL K H a xs) : SqL K H' a xs := by
  rcases h with h | h
  · exact .inl (c.rd h fun _ _ z => by cases z)
  · exact .inr h
section
variable {M : MK} {Hs H Hs' H' : Hp}
theorem nD {o : HO} (h : ∀ k, o ≠ .dK k) (h2 : ∀ k, o ≠ .dT k) : ¬ IsD o := fun z => by
  rcases z with ⟨k, z⟩ | ⟨k, z⟩
  · exact h k z
  · exact h2 k z
mutual
theorem Den.ch (c : Ch H H') : ∀ {v : V} {d : D}, Den M H v d → Den M H' v d
  | _, _, .non => .non
  | _, _, .bl b => .bl b
  | _, _, .int i => .int i
  | _, _, .str x => .str x
  | _, _, .lst h l => .lst (c.rd h fun _ _ z => by cases z) (DenL.ch c l)
  | _, _, .tup h l => .tup (c.exact h (nD (fun _ z => by cases z) fun _ z => by cases z) fun _ _ _ z => by cases z) (DenL.ch c l)
  | _, _, .kt h l => .kt (c.seqT h) (DenL.ch c l)
  | _, _, .kl h l => .kl (c.seqL h) (DenL.ch c l)
  | _, _, .dk h k l => .dk (c.rd h fun _ _ z => by cases z) k (DenL.ch c l)
  | _, _, .dt h k l => .dt (c.rd h fun _ _ z => by cases z) k (DenL.ch c l)
  | _, _, .obj m h k l => .obj m (c.exact h (nD (fun _ z => by cases z) fun _ z => by cases z) fun _ _ _ z => by cases z) k (DenL.ch c l)
  | _, _, .exc0 m h => .exc0 m (c.exact h (nD (fun _ z => by cases z) fun _ z => by cases z) fun _ _ _ z => by cases z)
  | _, _, .exc1 m h x l => .exc1 m (c.exact h (nD (fun _ z => by cases z) fun _ z => by cases z) fun _ _ _ z => by cases z) (c.exact x (nD (fun _ z => by cases z) fun _ z => by cases z) fun _ _ _ z => by cases z) (Den.ch c l)
theorem DenL.ch (c : Ch H H') : ∀ {vs : List V} {ds : List D}, DenL M H vs ds → DenL M H' vs ds
  | _, _, .nil => .nil
  | _, _, .cons h l => .cons (Den.ch c h) (DenL.ch c l)
end
mutual
theorem Own.moveC (s : Ch Hs Hs') :
    ∀ {m : Mode} {v : V} {d : D} {F : List Addr}, Own M Hs H m v d F → (∀ a ∈ F, Hs' a = none) → (∀ a o, H a = some o → a ∈ F → H' a = some o) → Own M Hs' H' m v d F
  | _, _, _, _, .sh h, _, _ => .sh (h.ch s)
  | _, _, _, _, .flat f h, _, _ => .flat f (h.ch s)
  | _, _, _, _, .shT h, _, _ => .shT (h.ch s)
  | _, _, _, _, .lst _ h l, hn, hk => .lst (hn _ List.mem_cons_self) (hk _ _ h List.mem_cons_self) (OwnL.moveC s l (fun b hb => hn b (List.mem_cons_of_mem _ hb)) fun b o e q => hk b o e (List.mem_cons_of_mem _ q))
  | _, _, _, _, .dk _ h k l, hn, hk => .dk (hn _ List.mem_cons_self) (hk _ _ h List.mem_cons_self) k (OwnL.moveC s l (fun b hb => hn b (List.mem_cons_of_mem _ hb)) fun b o e q => hk b o e (List.mem_cons_of_mem _ q))
  | _, _, _, _, .dt _ h k l, hn, hk => .dt (hn _ List.mem_cons_self) (hk _ _ h List.mem_cons_self) k (OwnL.moveC s l (fun b hb => hn b (List.mem_cons_of_mem _ hb)) fun b o e q => hk b o e (List.mem_cons_of_mem _ q))
  | _, _, _, _, .fT h f, _, _ => .fT (h.ch s) f
  | _, _, _, _, .tup n h l, hn, hk => .tup ⟨hn _ List.mem_cons_self, n.2⟩ (hk _ _ h List.mem_cons_self) (OwnT.moveC s l (fun b hb => hn b (List.mem_cons_of_mem _ hb)) fun b o e q => hk b o e (List.mem_cons_of_mem _ q))
  | _, _, _, _, .obj _ m h k l, hn, hk => .obj (hn _ List.mem_cons_self) m (hk _ _ h List.mem_cons_self) k (OwnT.moveC s l (fun b hb => hn b (List.mem_cons_of_mem _ hb)) fun b o e q => hk b o e (List.mem_cons_of_mem _ q))
theorem OwnL.moveC (s : Ch Hs Hs') :
    ∀ {m : Mode} {vs : List V} {ds : List D} {F : List Addr}, OwnL M Hs H m vs ds F → (∀ a ∈ F, Hs' a = none) → (∀ a o, H a = some o → a ∈ F → H' a = some o) → OwnL M Hs' H' m vs ds F
  | _, _, _, _, .nil, _, _ => .nil
  | _, _, _, _, .cons h l, hn, hk => .cons (Own.moveC s h (fun b hb => hn b (List.mem_append_left _ hb)) fun b o e q => hk b o e (List.mem_append_left _ q))
      (OwnL.moveC s l (fun b hb => hn b (List.mem_append_right _ hb)) fun b o e q => hk b o e (List.mem_append_right _ q))
theorem OwnT.moveC (s : Ch Hs Hs') :
    ∀ {ms : List Mode} {vs : List V} {ds : List D} {F : List Addr}, OwnT M Hs H ms vs ds F → (∀ a ∈ F, Hs' a = none) → (∀ a o, H a = some o → a ∈ F → H' a = some o) → OwnT M Hs' H' ms vs ds F
  | _, _, _, _, .nil, _, _ => .nil
  | _, _, _, _, .cons h l, hn, hk => .cons (Own.moveC s h (fun b hb => hn b (List.mem_append_left _ hb)) fun b o e q => hk b o e (List.mem_append_left _ q))
      (OwnT.moveC s l (fun b hb => hn b (List.mem_append_right _ hb)) fun b o e q => hk b o e (List.mem_append_right _ q))
end

end
section
variable {X : Cx} {W : WX} {mx : Option Modes} {ml : Modes} {rm : Mode} {mh mt ms ms' : Modes} {B : Hp × Hp} {Hs H : Hp} {σ : St} {ρ : Env} {Fp : Nat → List Addr} {E : Ends} {M : MK} {tg : Expr} {pos : Pos}
/-- targets of a tuple whose items are shared, the tuple itself perhaps not -/
def JGf (X : Cx) (ms : Modes) (tg : Expr) (is : List Nat) (ms' : Modes) (ev : TgtD) : Prop :=
  ∃ g, PG X tg g ∧ ∀ B Hs H σ ρ Fp q vs ds ρ' Q, Rel (mkM X) B ms Hs H σ ρ Fp → SqT X.K H q vs → DenL (mkM X) Hs vs ds → ev (.tup ds) ρ = some ρ' → (∀ σ' Fp', Rel (mkM X) B ms' Hs H σ' ρ' Fp' → Q σ' H) → g (.ref q) σ H Q
theorem jgf_tup {es : List Expr} {k : Nat} {u : List D → Env → Option Env} {n : Nat} {is : List Nat} {pos : Pos} (hc : X.calm = true) (h : JGts X ms es is ms' u) (hn : (assignEach es X.env).length = n := by rfl) (hst : (assignEach es X.env).findIdx? (·.1) = none := by rfl) : JGf X ms (.Tuple es k pos) is ms' (tTupN n u) := by
  obtain ⟨g, h1, h2⟩ := h
  refine ⟨_, pg_tup hc h1 hn hst, fun B Hs H σ ρ Fp q vs ds ρ' Q R sq l e kk => ?_⟩
  have e' : (if ds.length = n then u ds ρ else none) = some ρ' := e
  split at e'
  · rename_i c
    exact ⟨_, _, rfl, sq, by rw [l.length]; exact c, h2 B Hs H σ ρ Fp _ _ ρ' Q R l e' fun σ' Fp' R' _ _ => kk σ' Fp' R'⟩
  · cases e'
def keyD : Key → D
  | .inl i => .int i
  | .inr x => .str x
theorem keyD_den {M : MK} {H : Hp} : ∀ k : List Key, DenL M H (k.map kV) (k.map keyD)
  | [] => .nil
  | .inl i :: k => .cons (.int i) (keyD_den k)
  | .inr x :: k => .cons (.str x) (keyD_den k)
def dKeysT (kvs : List (List Key × D)) : List D := kvs.map fun p => D.tup (p.1.map keyD)
theorem keysT_zip {kvs : List (List Key × V)} {ds : List D} (h : kvs.length = ds.length) : dKeysT ((kvs.map (·.1)).zip ds) = kvs.map fun p => D.tup (p.1.map keyD) := by
  unfold dKeysT
  induction kvs generalizing ds with
  | nil => rfl
  | cons p kvs ih =>
    cases ds with
    | nil => simp at h
    | cons d ds =>
      simp only [List.map_cons, List.zip_cons_cons]
      rw [ih (by simpa using h)]
theorem PS.or {st : Stmt} {t t' : TS} (h : PS X st t) (h' : PS X st t') : PS X st (fun D σ H => t D σ H ∨ t' D σ H) := ⟨fun pins s σ H D I q => by
  rcases q with q | q
  · exact h.run pins s σ H D I q
  · exact h'.run pins s σ H D I q⟩
/-- the loop over a dict that is locked -/
theorem forD_core {it : Expr} {body : List Stmt} {is : List Nat} {t : TgtD} {eb : Env → Out} (i : Nat) (hx : XOk mx mh) (hp : PassesOwn (model X.prog X.w) X.A X.env X.xe) (hc : X.calm = true) (hv : PE X it (tVar i)) (hg : JGf X mh tg is mt t) (hb : JSs X W mx mh rm mt body mh eb)
    (hs : ∀ x, foldedSetIterable it X.env x = pure x) : ∃ T, PS X (.For tg it body [] pos) T ∧ ∀ B Hs H σ ρ Fp E d od kvs, Rel (mkM X) B mh Hs H σ ρ Fp → σ[i]? = some (some (.ref d)) → Hs d = some (.frz od (.dT kvs)) →
      SPost X W mx ml rm B mh E (sFor t eb (kvs.map fun p => D.tup (p.1.map keyD)) ρ) → T E σ H := by
  obtain ⟨g, g1, g2⟩ := hg
  obtain ⟨tb, b1, b2⟩ := hb
  refine ⟨_, ps_for hp hc (pi_keys hv) g1 b1 hs, fun B Hs1 H1 σ ρ Fp E d od kvs R1 hσ hd p => ?_⟩
  refine ⟨.ref d, hσ, d, od, rfl, .inr ⟨kvs, R1.sub _ _ hd, ?_⟩⟩
  generalize hds : (kvs.map fun p => D.tup (p.1.map keyD)) = ds at p
  have hlen : ds.length = kvs.length := by rw [← hds, List.length_map]
  have eB := R1.ext
  have p1 : SPost X W mx ml rm (Hs1, B.2) mh E (sFor t eb ds ρ) := SPost.rebase eB p
  refine ⟨fun i m σ H => m = ds.length - i ∧ i ≤ ds.length ∧ ∃ Hs ρ Fp, Rel (mkM X) (Hs1, B.2) mh Hs H σ ρ Fp ∧ SPost X W mx ml rm (Hs1, B.2) mh E (sFor t eb (ds.drop i) ρ), ⟨ds.length, rfl, Nat.zero_le _, Hs1, ρ, Fp, R1.rebase eB (Same.refl _), p1⟩, ?_⟩
  rintro n m σ2 H2 ⟨rfl, hi, Hs2, ρ2, Fp2, R2, p2⟩
  have hd2 : H2 d = some (.frz od (.dT kvs)) := R2.sub _ _ (R2.ext.s1 _ _ hd)
  by_cases hlt : n < ds.length
  · rw [List.drop_eq_getElem_cons hlt] at p2
    refine .inr ⟨⟨hd2, by omega⟩, fun σ' H' => ∃ Hs ρ Fp, Rel (mkM X) (Hs1, B.2) mh Hs H' σ' ρ Fp ∧ SPost X W mx ml rm (Hs1, B.2) mh E (sFor t eb (ds.drop (n + 1)) ρ), fun σ' H' q => ⟨_, by omega, rfl, hlt, q⟩, fun x H3 hy => ?_⟩
    obtain ⟨e3, k, v, q, hk, rfl, hq⟩ := hy
    subst e3
    have hdn : ds[n] = D.tup (k.map keyD) := by
      have h1 : ds[n]? = some ds[n] := List.getElem?_eq_getElem hlt
      have h2 : ds[n]? = some (D.tup (k.map keyD)) := by rw [← hds, List.getElem?_map, hk]; rfl
      exact Option.some.inj (h1.symm.trans h2)
    have p3 : SPost X W mx ml rm (Hs1, B.2) mh E (match t ds[n] ρ2 with
      | none => .bad
      | some ρ1 => match eb ρ1 with
        | .nx ρ2 => sFor t eb (ds.drop (n + 1)) ρ2
        | .ct ρ2 => sFor t eb (ds.drop (n + 1)) ρ2
        | .bk ρ2 => .nx ρ2
        | o => o) := p2
    rw [hdn] at p3
    cases zt : t (D.tup (k.map keyD)) ρ2 with
    | none => rw [zt] at p3; exact p3.elim
    | some ρ3 =>
      rw [zt] at p3
      simp only at p3
      refine g2 _ Hs2 H3 σ2 ρ2 Fp2 q _ _ ρ3 _ R2 (SqT.of hq) (keyD_den k) zt fun σ4 Fp4 R4 => b2 _ Hs2 H3 σ4 ρ3 Fp4 _ R4 ?_
      cases zb : eb ρ3 with
      | nx ρ' => rw [zb] at p3; exact fun Hs5 H5 σ5 Fp5 R5 => ⟨Hs5, ρ', Fp5, R5, p3⟩
      | ct ρ' => rw [zb] at p3; exact fun Hs5 H5 σ5 Fp5 R5 => ⟨Hs5, ρ', Fp5, R5, p3⟩
      | bk ρ' => rw [zb] at p3; exact p3
      | rt d => rw [zb] at p3; exact p3
      | exc c fs ρ' => rw [zb] at p3; exact p3
      | bad => rw [zb] at p3; exact p3
  · have e : n = ds.length := by omega
    subst e
    rw [List.drop_length] at p2
    exact .inl ⟨⟨hd2, by omega⟩, p2 Hs2 H2 σ2 Fp2 R2⟩
theorem Rel.ch {B B' : Hp × Hp} {Hs H Hs' H' : Hp} (R : Rel M B ms Hs H σ ρ Fp) (c : Ch Hs Hs') (e : Ext B'.1 B'.2 Hs' H') (h1 : ∀ i, ∀ a ∈ Fp i, Hs' a = none ∧ H' a = H a ∧ B'.2 a = none) : Rel M B' ms Hs' H' σ ρ Fp :=
  ⟨e, R.len, R.lm, fun i d h => by
    obtain ⟨v, g1, g2⟩ := R.val i d h
    exact ⟨v, g1, g2.moveC c (fun a ha => (h1 i a ha).1) fun a o q ha => by rw [(h1 i a ha).2.1]; exact q⟩, R.off, R.nd, fun i a ha => (h1 i a ha).2.2, R.dj⟩
/-- a locked dict's loop lets nothing out -/
def sForD (i : Nat) (t : TgtD) (s : Env → Out) : Env → Out := fun ρ => match ρ[i]? with
  | some (some (.dt kvs)) => match sFor t s (dKeysT kvs) ρ with
    | .exc _ _ _ => .bad
    | o => o
  | _ => .bad
theorem js_forD {it : Expr} {body : List Stmt} {is : List Nat} {t : TgtD} {eb : Env → Out} (i : Nat) (hx : XOk mx mh) (hp : PassesOwn (model X.prog X.w) X.A X.env X.xe) (hc : X.calm = true) (hv : PE X it (tVar i)) (hg : JGf X mh tg is mt t) (hb : JSs X W mx mh rm mt body mh eb)
    (hm : md mh i = .S := by rfl) (hs : ∀ x, foldedSetIterable it X.env x = pure x := by intro _; rfl) : JS X W mx ml rm mh (.For tg it body [] pos) mh (sForD i t eb) := by
  obtain ⟨T, h1, h2⟩ := forD_core (ml := ml) i hx hp hc hv hg hb hs
  refine ⟨_, G.PS.or h1 (ps_lock h1), fun B Hs H σ ρ Fp E R p => ?_⟩
  unfold sForD at p
  split at p
  · rename_i kv hρ
    obtain ⟨v, g1, g2⟩ := R.val i _ hρ
    rw [hm] at g2
    have dn := g2.S.1
    cases dn with
    | @dt d kvs ks ds hr hk l =>
      subst hk
      have hl : kvs.length = ds.length := by have := l.length; rw [List.length_map] at this; exact this
      rw [keysT_zip hl] at p
      rcases hr with hr | ⟨od, hr⟩
      rotate_left
      · refine .inl (h2 B Hs H σ ρ Fp E d od kvs R g1 hr ?_)
        split at p
        · exact p.elim
        · exact p
      · -- the lock
        have hH := R.sub _ _ hr
        refine .inr ⟨d, .dT kvs, hH, trivial, fun od => ?_⟩
        have isd : IsD (.dT kvs) := .inr ⟨kvs, rfl⟩
        have fne : ∀ {Hx : Hp} {b : Addr}, Hx b = none → Hx d = some (.dT kvs) → b ≠ d := fun h1 h2 z => by subst z; rw [h1] at h2; cases h2
        have cl : Ch Hs (upd Hs d (.frz od (.dT kvs))) := fun a o h => by
          by_cases z : a = d
          · subst z
            rw [hr] at h
            cases h
            exact .inr ⟨od, _, isd, .inl ⟨rfl, upd_same⟩⟩
          · exact .inl (by rw [upd_ne z]; exact h)
        let B2 : Hp := fun b => if b = d ∧ B.2 d ≠ none then some (.frz od (.dT kvs)) else B.2 b
        have b2ne : ∀ {b : Addr}, b ≠ d → B2 b = B.2 b := fun z => if_neg fun y => z y.1
        have eL : Ext (upd Hs d (.frz od (.dT kvs))) B2 (upd Hs d (.frz od (.dT kvs))) (upd H d (.frz od (.dT kvs))) := by
          refine ⟨Same.refl _, fun b o h => ?_, fun b o h => ?_, fun a _ _ _ h2 => h2⟩
          · by_cases z : b = d
            · subst z; rw [upd_same] at h ⊢; exact h
            · rw [upd_ne z] at h ⊢; exact R.sub _ _ h
          · by_cases z : b = d
            · subst z
              by_cases y : B.2 b = none
              · have : B2 b = B.2 b := if_neg fun w => w.2 y
                rw [this, y] at h; cases h
              · have : B2 b = some (.frz od (.dT kvs)) := if_pos ⟨rfl, y⟩
                rw [this] at h
                rw [upd_same]; exact h
            · rw [b2ne z] at h
              rw [upd_ne z]; exact R.ext.s3 _ _ h
        have RL : Rel (mkM X) (upd Hs d (.frz od (.dT kvs)), B2) mh (upd Hs d (.frz od (.dT kvs))) (upd H d (.frz od (.dT kvs))) σ ρ Fp := R.ch cl eL fun n a ha => by
          have z : a ≠ d := fne (R.has ha).1 hr
          exact ⟨by rw [upd_ne z]; exact (R.has ha).1, by rw [upd_ne z], by show B2 a = none; rw [b2ne z]; exact R.fr n a ha⟩
        -- the way back
        have back : ∀ {ms' : Modes} {ρ1 : Env} {Hs1 H1 : Hp} {σ1 : St} {Fp1 : Nat → List Addr}, Rel (mkM X) (upd Hs d (.frz od (.dT kvs)), B2) ms' Hs1 H1 σ1 ρ1 Fp1 → H1 d = some (.frz od (.dT kvs)) ∧ Rel (mkM X) B ms' (upd Hs1 d (.dT kvs)) (upd H1 d (.dT kvs)) σ1 ρ1 Fp1 := fun {ms' ρ1 Hs1 H1 σ1 Fp1} R1 => by
          have k1 : Hs1 d = some (.frz od (.dT kvs)) := R1.ext.s1 _ _ upd_same
          have k2 := R1.sub _ _ k1
          refine ⟨k2, R1.ch (fun a o h => ?_) ⟨fun a o h => ?_, fun a o h => ?_, fun a o h => ?_, fun a oo h3 nk h4 => ?_⟩ fun n a ha => ?_⟩
          · by_cases z : a = d
            · subst z
              rw [k1] at h
              cases h
              exact .inr ⟨od, _, isd, .inr ⟨rfl, upd_same⟩⟩
            · exact .inl (by rw [upd_ne z]; exact h)
          · have h5 := R.ext.s1 _ _ h
            by_cases z : a = d
            · subst z; rw [hr] at h5; rw [upd_same]; exact h5
            · rw [upd_ne z]; exact R1.ext.s1 _ _ (by show upd Hs d _ a = some o; rw [upd_ne z]; exact h5)
          · by_cases z : a = d
            · subst z; rw [upd_same] at h ⊢; exact h
            · rw [upd_ne z] at h ⊢; exact R1.sub _ _ h
          · have h5 := R.ext.s3 _ _ h
            by_cases z : a = d
            · subst z; rw [hH] at h5; rw [upd_same]; exact h5
            · rw [upd_ne z]; exact R1.ext.s3 _ _ (by show B2 a = some o; rw [b2ne z]; exact h)
          · have h5 := R.ext.s4 a oo h3 nk h4
            have z : a ≠ d := fne h5 hr
            rw [upd_ne z]
            exact R1.ext.s4 a oo (by show B2 a = some oo; rw [b2ne z]; exact h3) nk (by show upd Hs d _ a = none; rw [upd_ne z]; exact h5)
          · have h5 := (R1.has ha).1
            have z : a ≠ d := fun y => by subst y; rw [k1] at h5; cases h5
            have h6 := R1.fr n a ha
            exact ⟨by rw [upd_ne z]; exact h5, by rw [upd_ne z], by rw [← b2ne z]; exact h6⟩
        refine h2 (upd Hs d (.frz od (.dT kvs)), B2) _ _ σ ρ Fp _ d od kvs RL g1 upd_same ?_
        cases zo : sFor t eb (kvs.map fun p => D.tup (p.1.map keyD)) ρ with
        | nx ρ' =>
          rw [zo] at p
          intro Hs1 H1 σ1 Fp1 R1
          obtain ⟨k1, k2⟩ := back R1
          exact ⟨k1, p _ _ σ1 Fp1 k2⟩
        | bk ρ' =>
          rw [zo] at p
          intro Hs1 H1 σ1 Fp1 R1
          obtain ⟨k1, k2⟩ := back R1
          exact ⟨k1, p _ _ σ1 Fp1 k2⟩
        | ct ρ' =>
          rw [zo] at p
          intro Hs1 H1 σ1 Fp1 R1
          obtain ⟨k1, k2⟩ := back R1
          exact ⟨k1, p _ _ σ1 Fp1 k2⟩
        | rt dd =>
          rw [zo] at p
          intro Hs1 H1 v e r
          have R0 : Rel (mkM X) (upd Hs d (.frz od (.dT kvs)), B2) [] Hs1 H1 [] [] (fun _ => []) := ⟨e, rfl, rfl, fun i d h => by simp at h, fun _ _ => rfl, fun _ => .nil, fun _ _ z => (nomatch z), fun _ _ _ _ z => (nomatch z)⟩
          obtain ⟨k1, k2⟩ := back R0
          obtain ⟨F, o, n, fr⟩ := r
          have kd : Hs1 d = some (.frz od (.dT kvs)) := e.s1 _ _ upd_same
          have nz : ∀ a ∈ F, a ≠ d := fun a ha y => by subst y; have := (o.none _ ha).1; rw [kd] at this; cases this
          refine ⟨k1, p _ _ v k2.ext ⟨F, o.moveC (fun a u h => ?_) (fun a ha => by rw [upd_ne (nz a ha)]; exact (o.none a ha).1) fun a u h ha => by rw [upd_ne (nz a ha)]; exact h, n, fun a ha => by rw [← b2ne (nz a ha)]; exact fr a ha⟩⟩
          by_cases z : a = d
          · subst z
            rw [kd] at h
            cases h
            exact .inr ⟨od, _, isd, .inr ⟨rfl, upd_same⟩⟩
          · exact .inl (by rw [upd_ne z]; exact h)
        | exc c fs ρ' => rw [zo] at p; exact p.elim
        | bad => rw [zo] at p; exact p.elim
  · exact p.elim
end
end G
/-! G: sorted(pairs); d.get(k, x); constants of the module -/
namespace G
open PySem PySem.Spec L2
open PyProof.Rows hiding St
def pairD (p : Int × Int) : D := .tup [.int p.1, .int p.2]
def pairsOf : List D → Option (List (Int × Int))
  | [] => some []
  | d :: ds => match d with
    | .tup [.int a, .int b] => (pairsOf ds).map ((a, b) :: ·)
    | _ => none
theorem pairsOf_some : ∀ {ds : List D} {ps : List (Int × Int)}, pairsOf ds = some ps → ds = ps.map pairD
  | [], _, h => by cases h; rfl
  | d :: ds, ps, h => by
    unfold pairsOf at h
    split at h
    · obtain ⟨qs, h1, rfl⟩ := Option.map_eq_some_iff.mp h
      rw [pairsOf_some h1]
      rfl
    · cases h
@[simp] theorem pairsOf_map (ps : List (Int × Int)) : pairsOf (ps.map pairD) = some ps := by
  induction ps with
  | nil => rfl
  | cons p ps ih =>
    show (pairsOf (ps.map pairD)).map (fun qs => (p.1, p.2) :: qs) = _
    rw [ih]
    rfl
/-- a before b, or alike -/
def leP (p q : Int × Int) : Prop := p.1 < q.1 ∨ (p.1 = q.1 ∧ p.2 ≤ q.2)
instance {p q : Int × Int} : Decidable (leP p q) := inferInstanceAs (Decidable (_ ∨ _))
def insP (p : Int × Int) : List (Int × Int) → List (Int × Int)
  | [] => [p]
  | q :: qs => if leP p q then p :: q :: qs else q :: insP p qs
def sortP (ps : List (Int × Int)) : List (Int × Int) := ps.foldr insP []
theorem insP_perm (p : Int × Int) : ∀ qs, (insP p qs).Perm (p :: qs)
  | [] => .refl _
  | q :: qs => by
    unfold insP
    split
    · exact .refl _
    · exact ((insP_perm p qs).cons q).trans (.swap p q qs)
theorem sortP_perm : ∀ ps, (sortP ps).Perm ps
  | [] => .refl _
  | p :: ps => (insP_perm p _).trans ((sortP_perm ps).cons p)
theorem leP_trans {p q r : Int × Int} (h : leP p q) (k : leP q r) : leP p r := by unfold leP at *; omega
theorem leP_total {p q : Int × Int} (h : ¬ leP p q) : leP q p := by unfold leP at *; omega
theorem leP_anti {p q : Int × Int} (h : leP p q) (k : leP q p) : p = q := by
  unfold leP at *
  obtain ⟨a, b⟩ := p
  obtain ⟨c, d⟩ := q
  simp only at *
  have : a = c ∧ b = d := by omega
  rw [this.1, this.2]
theorem insP_sorted (p : Int × Int) : ∀ {qs : List (Int × Int)}, qs.Pairwise leP → (insP p qs).Pairwise leP
  | [], _ => List.pairwise_singleton _ _
  | q :: qs, h => by
    obtain ⟨h1, h2⟩ := List.pairwise_cons.mp h
    unfold insP
    split
    · rename_i c
      refine List.pairwise_cons.mpr ⟨fun r hr => ?_, h⟩
      rcases List.mem_cons.mp hr with z | hr
      · rw [z]; exact c
      · exact leP_trans c (h1 r hr)
    · rename_i c
      refine List.pairwise_cons.mpr ⟨fun r hr => ?_, insP_sorted p h2⟩
      rcases List.mem_cons.mp ((insP_perm p qs).mem_iff.mp hr) with z | hr
      · rw [z]; exact leP_total c
      · exact h1 r hr
theorem sortP_sorted : ∀ ps, (sortP ps).Pairwise leP
  | [] => .nil
  | p :: ps => insP_sorted p (sortP_sorted ps)
theorem sortedP_same {as bs : List (Int × Int)} (p : as.Perm bs) (h : as.Pairwise leP) (k : bs.Pairwise leP) : as = bs := by
  induction as generalizing bs with
  | nil => exact (List.perm_nil.mp p.symm).symm ▸ rfl
  | cons a as ih =>
    cases bs with
    | nil => exact absurd (List.perm_nil.mp p) (by simp)
    | cons b bs =>
      obtain ⟨h1, h2⟩ := List.pairwise_cons.mp h
      obtain ⟨k1, k2⟩ := List.pairwise_cons.mp k
      have e : a = b := by
        have m1 : a ∈ b :: bs := p.mem_iff.mp List.mem_cons_self
        have m2 : b ∈ a :: as := p.mem_iff.mpr List.mem_cons_self
        rcases List.mem_cons.mp m1 with z | z
        · exact z
        · rcases List.mem_cons.mp m2 with y | y
          · exact y.symm
          · exact leP_anti (h1 b y) (k1 a z)
      subst e
      rw [ih (List.Perm.cons_inv p) h2 k2]
section
variable {X : Cx} {W : WX} {l : Lv} {ms : Modes}
def keyV (Hs : Hp) : V → Int × Int
  | .ref t => match Hs t with
    | some (.tup [.int a, .int b]) => (a, b)
    | _ => (0, 0)
  | _ => (0, 0)
theorem pairs_den {M : MK} {Hs : Hp} : ∀ {vs : List V} {ps : List (Int × Int)}, DenL M Hs vs (ps.map pairD) → vs.map (keyV Hs) = ps ∧ ∀ x ∈ vs, ∃ t, x = .ref t ∧ Hs t = some (.tup [.int (keyV Hs x).1, .int (keyV Hs x).2])
  | _, [], .nil => ⟨rfl, fun _ h => by cases h⟩
  | _, p :: ps, .cons h t => by
    obtain ⟨h1, h2⟩ := pairs_den t
    cases h with
    | @tup a vs ds hh ll =>
      cases ll with
      | cons x y =>
        cases y with
        | cons y z =>
          cases z
          cases x
          cases y
          have e : keyV Hs (.ref a) = p := by
            show (match Hs a with | some (.tup [.int a, .int b]) => (a, b) | _ => (0, 0)) = _
            rw [hh]
          refine ⟨by rw [List.map_cons, e, h1], fun x hx => ?_⟩
          rcases List.mem_cons.mp hx with z | hx
          · subst z
            exact ⟨a, rfl, by rw [e]; exact hh⟩
          · exact h2 x hx
theorem den_pairs {M : MK} {Hs : Hp} : ∀ {vs : List V}, (∀ x ∈ vs, ∃ t, x = .ref t ∧ Hs t = some (.tup [.int (keyV Hs x).1, .int (keyV Hs x).2])) → DenL M Hs vs ((vs.map (keyV Hs)).map pairD)
  | [], _ => .nil
  | x :: xs, h => by
    obtain ⟨t, rfl, ht⟩ := h x List.mem_cons_self
    exact .cons (.tup ht (.cons (.int _) (.cons (.int _) .nil))) (den_pairs fun y hy => h y (List.mem_cons_of_mem _ hy))
/-- sorted(list of pairs of numbers) -/
def dSortP : List D → Rs D
  | [.lst ds] => match pairsOf ds with
    | some ps => .ok (.lst ((sortP ps).map pairD))
    | none => .bad
  | _ => .bad
theorem oc_sortP : OC X W .s .f (rSortedPO X.K) dSortP := by
  intro H0 Hs H σ xs ds Q s rx p
  unfold dSortP at p
  split at p
  · rename_i ds
    obtain ⟨v, rfl, r⟩ := rx.one
    split at p
    · rename_i ps hps
      have dv := r.s
      cases dv with
      | @lst a vs _ hr ll =>
        rw [pairsOf_some hps] at ll
        obtain ⟨k1, k2⟩ := pairs_den ll
        refine ⟨a, vs, keyV Hs, rfl, .inl (Same.rd s hr), fun x hx => ?_, fun ys q sd st np => ?_⟩
        · obtain ⟨t, e, ht⟩ := k2 x hx
          exact ⟨t, e, s _ _ ht⟩
        · have hy : ∀ y ∈ ys, ∃ t, y = .ref t ∧ Hs t = some (.tup [.int (keyV Hs y).1, .int (keyV Hs y).2]) := fun y hy => k2 y (st.perm.mem_iff.mp hy)
          have e : ys.map (keyV Hs) = sortP ps := by
            refine sortedP_same ?_ ?_ (sortP_sorted ps)
            · rw [← k1]
              exact (st.perm.map _).trans (sortP_perm _).symm
            · rw [List.pairwise_map]
              refine sd.imp fun {x y} h => ?_
              have := SrtO.lexB_no.mp h
              unfold leP
              omega
          have dl := den_pairs (M := mkM X) hy
          rw [e] at dl
          exact p _ Hs _ (Ext.newO s np) (new_lst s np dl)
    · exact p.elim
  · exact p.elim
end
end G
/-! G: d.get(k, x); constants of the module; min and max of texts .. -/
namespace G
open PySem PySem.Spec L2
open PyProof.Rows hiding St
section
variable {X : Cx} {W : WX} {ms : Modes} {o e f : Expr} {eo ee ef : Env → Rs D} {apos cpos pos : Pos} {le : Lv}
def dGet2 (d k z : D) : Rs D := match dLook d k with
  | some o => .ok (o.getD z)
  | none => .bad
def isDD : D → Bool
  | .dk _ => true
  | .dt _ => true
  | _ => false
def v3 (g : D → D → D → Rs D) (ea eb ec : Env → Rs D) : Env → Rs D := fun ρ => (ea ρ).bind fun d => if isDD d then (eb ρ).bind fun e => (ec ρ).bind fun f => g d e f else .bad
theorem je_get2 (hu : X.A.units + 64 < cLine) (ho : JG X W .s ms o eo) (he : JG X W le ms e ee) (hf : JG X W .s ms f ef) (m : M2 X o "get" apos e f cpos) : JG X W .s ms (.Call (.Attribute o "get" apos) [e, f] [] cpos) (v3 dGet2 eo ee ef) := by
  obtain ⟨t, h1, h2⟩ := ho
  obtain ⟨u, k1, k2⟩ := he
  obtain ⟨w, f1, f2⟩ := hf
  refine ⟨_, pe_dget2 (by omega) h1 k1 f1 m, fun B Hs H σ ρ Fp Q R p => h2 B Hs H σ ρ Fp _ R (Post.seq p fun d x Hs1 H1 _ e1 r q => ?_)⟩
  have dx := r.s
  have isd : isDD d = true → ∃ a, x = .ref a ∧ L2.IsD H1 a := fun z => by
    cases dx with
    | dk h _ _ => exact ⟨_, rfl, .inl ⟨_, Same.rd e1.s2 h⟩⟩
    | dt h _ _ => exact ⟨_, rfl, .inr ⟨_, Same.rd e1.s2 h⟩⟩
    | _ => cases z
  by_cases c : isDD d = true
  · rw [if_pos c] at q
    obtain ⟨a, ha, hd⟩ := isd c
    refine ⟨a, ha, hd, k2 B Hs1 H1 σ ρ Fp _ (R.step e1) (q.seq fun d2 y Hs2 H2 _ e2 r2 q2 => ?_)⟩
    refine f2 B Hs2 H2 σ ρ Fp _ (R.step (e1.trans e2)) (q2.seq fun d3 z Hs3 H3 _ e3 r3 q3 => ?_)
    have dx3 : Den (mkM X) Hs3 x d := dx.mono (e2.s1.trans e3.s1)
    have dy3 := (r2.b e2.s2).mono e3.s3
    unfold dGet2 at q3
    have fin : ∀ (oo : Option D) (rr : Option V), dLook d d2 = some oo → DGet H3 a y rr → (oo = none → rr = none) → (∀ zz, oo = some zz → ∃ vv, rr = some vv ∧ Den (mkM X) Hs3 vv zz) → ∃ o, DGet H3 a y o ∧ Q (o.getD z) H3 := fun oo rr e g n1 n2 => by
      rw [e] at q3
      refine ⟨rr, g, ?_⟩
      cases oo with
      | none => rw [n1 rfl]; exact q3 z Hs3 H3 (Ext.refl e3.s2) (.of r3.s)
      | some zz =>
        obtain ⟨vv, rfl, dv⟩ := n2 zz rfl
        exact q3 vv Hs3 H3 (Ext.refl e3.s2) (.of dv)
    cases z3 : dLook d d2 with
    | none => rw [z3] at q3; exact q3.elim
    | some oo =>
      subst ha
      cases dx3 with
      | dk g1 g2 g3 =>
        obtain ⟨k, hk, rfl⟩ := Option.map_eq_some_iff.mp z3
        have ey := keyOf_den dy3 hk
        subst ey g2
        obtain ⟨i1, i2⟩ := look_den (k := k) g3
        exact fin _ _ z3 (.inl ⟨_, k, Same.rd e3.s2 g1, rfl, rfl⟩) i2 i1
      | dt g1 g2 g3 =>
        cases dy3 with
        | tup tt ll =>
          obtain ⟨ks, hk, rfl⟩ := Option.map_eq_some_iff.mp z3
          have ey := keysOf_den ll hk
          subst ey g2
          obtain ⟨i1, i2⟩ := look_den (k := ks) g3
          exact fin _ _ z3 (.inr ⟨_, ks, _, Same.rd e3.s2 g1, rfl, tt, rfl⟩) i2 i1
        | _ => cases z3
      | _ => cases c
  · rw [if_neg c] at q; exact q.elim
/-- a constant of the module -/
theorem je_glob {x : Str} {v : V} {d : D} {u : Value} (hm : X.mg x = some u) (r : RelV v u) (dn : ∀ Hs, Den (mkM X) Hs v d) (hg : Gl X x := by rfl) (hd : (x == ("__debug__" : Str)) = false := by decide) : JG X W .s ms (.Name x pos) (eC d) := je_c (pe_glob hg hm r hd) dn
theorem je_gint {x : Str} {i : Int} {t : Tok} (hm : X.mg x = some (.int i t)) (hg : Gl X x := by rfl) (hd : (x == ("__debug__" : Str)) = false := by decide) : JG X W .s ms (.Name x pos) (eC (.int i)) := je_glob hm (v := .int i) ⟨t, rfl⟩ (fun _ => .int i) hg hd
end
/-- of a promise that never holds -/
theorem fn_none {P : Program} {w : World} {K : PySem.W.Frag} {mg : Str → Option Value} {base : Heap} {CX : CXT} {k : Nat} {f : Addr} {fd : FuncData} {ps : List Str} {M : MK} {rm : Mode} : FnOk P w K mg base CX k f fd ps (spD M rm fun _ => .bad) :=
  ⟨fun _ _ _ _ h => by obtain ⟨_, _, _, _, h⟩ := h; exact h.elim, fun _ _ _ _ _ _ _ _ _ _ _ _ _ h => by obtain ⟨_, _, _, _, h⟩ := h; exact h.elim⟩
end G
/-! G: constants of the module that are texts, tuples -/
namespace G
open PySem PySem.Spec L2
open PyProof.Rows hiding St
section
variable {X : Cx} {W : WX} {ms : Modes} {pos : Pos} {x : Str}
theorem je_gstr {y : Str} {t : Tok} (hm : X.mg x = some (.str y t)) (hg : Gl X x := by rfl) (hd : (x == ("__debug__" : Str)) = false := by decide) : JG X W .s ms (.Name x pos) (eC (.str y)) := je_glob hm (v := .str y) ⟨t, rfl⟩ (fun _ => .str y) hg hd
/-- a tuple of the module -/
def GTup (K : PySem.W.Frag) (mg : Str → Option Value) (x : Str) (ds : List D) : Prop := ∃ a vs, mg x = some (.ref a) ∧ (∀ H : Hp, SqT K H a vs) ∧ ∀ H : Hp, DenL ⟨K, mg⟩ H vs ds
theorem je_gtup {ds : List D} (h : GTup X.K X.mg x ds) (hg : Gl X x := by rfl) (hd : (x == ("__debug__" : Str)) = false := by decide) : JG X W .s ms (.Name x pos) (eC (.kt ds)) := by
  obtain ⟨a, vs, h1, h2, h3⟩ := h
  exact je_glob h1 (v := .ref a) rfl (fun Hs => .kt (h2 Hs) (h3 Hs)) hg hd
inductive LitV : Value → V → D → Prop
  | int (i : Int) (t : Tok) : LitV (.int i t) (.int i) (.int i)
  | str (y : Str) (t : Tok) : LitV (.str y t) (.str y) (.str y)
inductive LitL : List Value → List V → List D → Prop
  | nil : LitL [] [] []
  | cons {u : Value} {v : V} {d : D} {us : List Value} {vs : List V} {ds : List D} : LitV u v d → LitL us vs ds → LitL (u :: us) (v :: vs) (d :: ds)
theorem LitL.vals : ∀ {us : List Value} {vs : List V} {ds : List D}, LitL us vs ds → Vals vs us
  | _, _, _, .nil => .nil
  | _, _, _, .cons (.int i t) l => .cons ⟨t, rfl⟩ (LitL.vals l)
  | _, _, _, .cons (.str y t) l => .cons ⟨t, rfl⟩ (LitL.vals l)
theorem LitL.den {M : MK} {H : Hp} : ∀ {us : List Value} {vs : List V} {ds : List D}, LitL us vs ds → DenL M H vs ds
  | _, _, _, .nil => .nil
  | _, _, _, .cons (.int i t) l => .cons (.int i) (LitL.den l)
  | _, _, _, .cons (.str y t) l => .cons (.str y) (LitL.den l)
theorem gtup_of {K : PySem.W.Frag} {mg : Str → Option Value} {a : Addr} {od : Option Addr} {its : Array Value} {n : Nat} {sl : Array (Option Value)} {vs : List V} {ds : List D} (hm : mg x = some (.ref a)) (lk : K.lookup a = some ⟨.type "tuple", od, .seq its n, sl⟩) (hz : its.size ≤ 1000) (l : LitL its.toList vs ds) : GTup K mg x ds :=
  ⟨a, vs, hm, fun H => .inr ⟨_, its, n, lk, rfl, rfl, small_line hz, l.vals⟩, fun H => l.den⟩
end
end G
/-! G: enumerate(reversed(list)) -/
namespace PySem
open Sem (wp)
open Builtin Builtin.Str
section
variable {prog : Program} {w : World} {A : Around} {E : Value → Shared → Prop} {s : Shared}
theorem wpAny_nextOf_rev_itemG {it l : Addr} {i : Nat} {items : Array Value} {x : Value} {Q : Value → Shared → Prop} (hit : s.heap.IsRevIter it l (i : Int)) (hl : s.heap.IsList l items) (hx : items[i]? = some x)
    (hQ : ∀ h', h'.IsRevIter it l ((i : Int) - 1) → Heap.SameBut it s.heap h' → Q x { s with heap := h' }) : wpAny (model prog w) A (Builtin.SmallTypes.nextOf (.ref it)) Q E s := by
  obtain ⟨o, ho, hc, hd⟩ := id hit
  obtain ⟨ol, hol, _, nl, hdl⟩ := hl
  unfold Builtin.SmallTypes.nextOf
  refine wpAny_bind (wpAny_callSpecial?_slot (name := Str.ofString "__next__") hit.typeIs F.slot_lri_next
    (wpAny_call_entry F.slot_lri_next hit.typeIs F.entry_lri_next ?_ (F.args_lri_next_1 _)))
  unfold Builtin.«list_reverseiterator.__next__»
  refine wpAny_bind (wpAny_of_eq (a := (Value.ref it, [])) rfl ?_)
  try dsimp only
  refine wpAny_bind (wpAny_field ho hd (x := rawInt (i : Int)) rfl ?_)
  show wpAny _ _ (if (i : Int) < 0 then _ else _) _ _ s
  rw [if_neg (by omega)]
  show wpAny _ _ (field (.ref it) 0 >>= _) _ _ s
  refine wpAny_bind (wpAny_field ho hd (x := .ref l) rfl ?_)
  show wpAny _ _ (seqItems? (.ref l) >>= _) _ _ s
  refine wpAny_bind (wpAny_seqItems hol hdl ?_)
  simp only [Int.toNat_natCast, hx]
  refine wpAny_bind (wpAny_setField ho hd (by simp) ?_)
  first
  | refine wpAny_pure ⟨x, rfl, wpAny_pure (hQ _ ?_ (Heap.SameBut.update ..))⟩
  | refine wpAny_bind (wpAny_pure (wpAny_pure ⟨x, rfl, wpAny_pure (hQ _ ?_ (Heap.SameBut.update ..))⟩))
  exact ⟨_, Heap.get?_update_self _ ho (Obj.isFreed_of_fields (Obj.data_mapFields hd _)), (Obj.cls_mapFields ..).trans hc, by
    rw [Obj.data_mapFields hd]; simp⟩
theorem wpAny_nextOf_rev_endG {it l : Addr} {Q : Value → Shared → Prop} (hh : A.handled = none) (hit : s.heap.IsRevIter it l (-1))
    (hE : ∀ h' e, Heap.ExtBut it s.heap h' → (∃ o, h'.get? e = some o ∧ o.cls = .type "StopIteration") → E (.ref e) { s with heap := h' }) : wpAny (model prog w) A (Builtin.SmallTypes.nextOf (.ref it)) Q E s := by
  obtain ⟨o, ho, hc, hd⟩ := id hit
  unfold Builtin.SmallTypes.nextOf
  refine wpAny_bind (wpAny_callSpecial?_slot (name := Str.ofString "__next__") hit.typeIs F.slot_lri_next
    (wpAny_call_entry F.slot_lri_next hit.typeIs F.entry_lri_next ?_ (F.args_lri_next_1 _)))
  unfold Builtin.«list_reverseiterator.__next__»
  refine wpAny_bind (wpAny_of_eq (a := (Value.ref it, [])) rfl ?_)
  try dsimp only
  refine wpAny_bind (wpAny_field ho hd (x := rawInt (-1)) rfl ?_)
  show wpAny _ _ (if (-1 : Int) < 0 then _ else _) _ _ s
  rw [if_pos (by decide)]
  refine wpAny_bind (wpAny_rule ?_)
  first
  | show wpAny _ _ (newExc (.type "StopIteration") [] >>= _) _ _ _
  | (refine wpAny_bind ?_; show wpAny _ _ (newExc (.type "StopIteration") [] >>= _) _ _ _)
  refine wpAny_bind ?_
  simp only [newExc, newTuple]
  refine wpAny_bind (wpAny_newObj_type ?_ (by size_fits))
  refine wpAny_bind (m := firstArgMember _ _) (wpAny_of_eq (a := Value.none) (by first | rfl | (simp only [firstArgMember]; rfl)) ?_)
  refine wpAny_newObj_type ?_ (by size_fits)
  simp only [raiseNew]
  refine wpAny_bind (wpAny_handled ?_)
  first | rw [show A.in1.handled = none from hh] | rw [hh]
  refine wpAny_bind (wpAny_pure (wpAny_throw ?_))
  exact hE _ _ (((Heap.ExtBut.refl _ _).push _).push _) ⟨_, Heap.get?_push_size _ rfl, rfl⟩
end
theorem Draws.revG {prog : Program} {w : World} {A : Around} (hh : A.handled = none) (it l : Addr) (hne : l ≠ it) (items : Array Value) :
    Draws prog w A it [it, l] items.size (fun i v => items[items.size - 1 - i]? = some v) (fun i h => i ≤ items.size ∧ h.IsRevIter it l ((items.size : Int) - 1 - (i : Int)) ∧ h.IsList l items) where
  live := fun _ _ st => let ⟨o, ho, _⟩ := st.2.1; ⟨o, ho⟩
  frame := fun _ _ _ st hk => ⟨st.1, st.2.1.at fun o e => hk it (by simp) o e, st.2.2.at fun o e => hk l (by simp) o e⟩
  item := fun i s Q E hi st hQ => by
    obtain ⟨h1, h2, h3⟩ := st
    have e1 : (items.size : Int) - 1 - ((i : Nat) : Int) = ((items.size - 1 - i : Nat) : Int) := by omega
    rw [e1] at h2
    have hlt : items.size - 1 - i < items.size := by omega
    refine wpAny_nextOf_rev_itemG h2 h3 (x := items[items.size - 1 - i]) (by simp [hlt]) fun h' hit' hs' => ?_
    have e2 : ((items.size - 1 - i : Nat) : Int) - 1 = (items.size : Int) - 1 - ((i + 1 : Nat) : Int) := by omega
    rw [e2] at hit'
    exact hQ _ h' s.toks (by simp [hlt]) ⟨hi, hit', h3.extBut hs'.extBut hne⟩ hs'
  done := fun s Q E st hE => by
    obtain ⟨h1, h2, h3⟩ := st
    have e1 : (items.size : Int) - 1 - ((items.size : Nat) : Int) = -1 := by omega
    rw [e1] at h2
    exact wpAny_nextOf_rev_endG hh h2 hE
set_option maxHeartbeats 1000000 in
theorem meets_enumerate_newR (it l : Addr) (i : Int) (dct : Option Addr) (sl : Array (Option Value)) :
    Meets (Builtin.«enumerate.__new__» ⟨[.type "enumerate", .ref it], []⟩) (fun _ R s => s.heap.IsRevIter it l i ∧
      R (.ok (.ret (.ref s.heap.objs.size))) { s with heap := s.heap.push { cls := .type "enumerate", data := .fields #[.none, .bool false, .ref it, rawInt 0, .none, .none] } }) :=
  .of_wp fun prog w A R s h => by
    obtain ⟨hp, g, d, tk, os⟩ := s; obtain ⟨hl, h⟩ := h
    have hsub := sub_enumerate
    have q1 : ∀ {A' : Around} {E : Value → Shared → Prop} {Q : Value → Shared → Prop}, Q (.ref it) ⟨hp, g, d, tk, os⟩ → wpAny (model prog w) A' (pyIter (.ref it)) Q E ⟨hp, g, d, tk, os⟩ :=
      fun q => wpAny_pyIter_revIter hl q
    wp_walk using q1
    refine wpAny_stack_any fun st => wpAny_pure ?_
    split
    · rename_i c _ _ _ _ _
      cases (c == Value.type "enumerate")
      · wp_walk using q1
        exact ⟨_, rfl, h⟩
      · wp_walk using q1
        exact ⟨_, rfl, h⟩
    · wp_walk using q1
      exact ⟨_, rfl, h⟩
section
variable {prog : Program} {w : World} {A : Around} {E : Value → Shared → Prop} {s : Shared}
theorem call_enumerate_revG {it l : Addr} {i : Int} {Q : Value → Shared → Prop} (hL : s.heap.IsRevIter it l i)
    (h : ∀ h', IsEnum h' s.heap.objs.size it 0 .none → h'.objs.size = s.heap.objs.size + 1 → (∀ b o, s.heap.get? b = some o → h'.get? b = some o) → Q (.ref s.heap.objs.size) { s with heap := h' }) :
    wpAny (model prog w) A (call (.type "enumerate") [.ref it]) Q E s := by
  refine callType_new F.called_enumerate (by decide) (F.typeCall_enumerate_1 _) (F.newCall_enumerate_1 _) (fun obj => F.args_object_init_2 obj _) F.entry_enumerate_new
    (meets_enumerate_newR it l i none #[]) ⟨hL, ?_⟩
  have he : IsEnum (s.heap.push { cls := .type "enumerate", data := .fields #[.none, .bool false, .ref it, rawInt 0, .none, .none] }) s.heap.objs.size it 0 .none :=
    Heap.get?_push_size _ rfl
  exact ⟨⟨_, he, rfl⟩, h _ he (Heap.size_push ..) fun b o y => Heap.get?_push_of_some _ y⟩
end
end PySem
/-! G: for i, x in enumerate(reversed(list)) -/
namespace G
open PySem PySem.Spec L2
open PyProof.Rows hiding St
/-- the n items of the list at a from its end, each in a new pair -/
def IteR (K : PySem.W.Frag) (a : Addr) (n : Nat) : It :=
  ⟨fun i H => ∃ (xs : List V) (x : V), SqL K H a xs ∧ xs.length = n ∧ i < n ∧ xs[n - 1 - i]? = some x,
   fun i H v H' => ∃ T x, v = .ref T ∧ H T = none ∧ H' = upd H T (.tup [.int (i : Nat), x]) ∧ ∀ xs, SqL K H a xs → xs[n - 1 - i]? = some x,
   fun i H => ∃ xs : List V, SqL K H a xs ∧ xs.length = n ∧ n ≤ i⟩
theorem turn_enumR {P : Program} {w : World} {K : PySem.W.Frag} {elts : List Expr} {kk : Nat} {tpos : Pos} (a e it : Addr) (n : Nat) :
    Turn P w K (.Tuple elts kk tpos) (IteR K a n) [e, it] e (fun i h => (∃ old, IsEnum h e it ((i : Nat) : Int) old) ∧ (i ≤ n ∧ h.IsRevIter it a ((n : Int) - 1 - (i : Nat))) ∧ e ≠ it) where
  mem := by simp
  obj := fun i h st b hb => by
    obtain ⟨⟨old, he⟩, ⟨_, o, ho, hc, hd⟩, _⟩ := st
    have e' : b = e ∨ b = it := by simpa using hb
    rcases e' with z | z
    · rw [z]; exact ⟨_, he, fun v q => nomatch q⟩
    · rw [z]; exact ⟨o, ho, fun v q => by rw [hd] at q; cases q⟩
  keep := fun i h h' st k => let ⟨⟨old, he⟩, hi, hne⟩ := st; ⟨⟨old, k e (by simp) _ he⟩, ⟨hi.1, hi.2.at fun o q => k it (by simp) o q⟩, hne⟩
  item := by
    intro X hP hw hK hc i pins s σ H E I hf st hg
    subst hP hw hK
    obtain ⟨⟨old, he⟩, ⟨hin, hit⟩, hne⟩ := st
    obtain ⟨xs, x, hq, hxl, hi, hx⟩ := hg
    obtain ⟨its, rv, p, hz⟩ := I.list hq
    obtain ⟨u, hu, ru⟩ := rv.get hx
    have hl := rv.length
    have hel : e < s.heap.objs.size := Heap.lt_size he
    have hil : it < s.heap.objs.size := by obtain ⟨_, q, _⟩ := hit; exact Heap.lt_size q
    have hL := p.isList
    have hai : a ≠ it := by
      intro z
      obtain ⟨o1, q1, c1, _⟩ := hL
      obtain ⟨o2, q2, c2, _⟩ := hit
      rw [z, q2] at q1
      cases q1
      rw [c1] at c2
      exact absurd c2 (by decide)
    have hae : e ≠ a := by
      intro z
      obtain ⟨o1, q1, c1, _⟩ := hL
      rw [← z, he] at q1
      cases q1
      have c2 : ("enumerate" : String) = "list" := by injection c1
      exact absurd c2 (by decide)
    have hsz : its.toArray.size = n := by rw [List.size_toArray]; omega
    have D := Draws.revG (prog := X.prog) (w := X.w) (A := X.A.in1) (I.ok.hd hc) it a hai its.toArray
    have hst : i ≤ its.toArray.size ∧ s.heap.IsRevIter it a ((its.toArray.size : Int) - 1 - (i : Int)) ∧ s.heap.IsList a its.toArray := by rw [hsz]; exact ⟨hin, hit, hL⟩
    refine wpAny_pyNext_enum_itemD D he hst (by rw [hsz]; exact hi) hne (by simp [hne, hae]) fun x' h' tk hx' ho hst' hT hsz' hk => ?_
    have ex : x' = u := by
      have e1 : its.toArray[its.toArray.size - 1 - i]? = some u := by rw [hsz]; simpa using hu
      rw [e1] at hx'
      exact (Option.some.inj hx').symm
    subst ex
    refine ⟨_, rfl, wpAny_letOwnedTupleGo_enum (s := { s with heap := h', toks := tk + 1 }) ho fun h'' he' sb => ?_⟩
    have hT2 : h''.get? s.heap.objs.size = some { cls := .type "tuple", data := .seq #[.int i tk, x'] } := (sb.2 _ (Nat.ne_of_gt hel)).trans hT
    have new : ObjOk X.prog X.w (upd H s.heap.objs.size (.tup [.int (i : Nat), x])) h'' s.heap.objs.size (.tup [.int (i : Nat), x]) :=
      ⟨by show 2 ≤ sizeLine; decide, [.int i tk, x'], .cons ⟨_, rfl⟩ (.cons ru .nil), ⟨_, hT2, rfl, _, rfl⟩⟩
    have I1 : Inv X pins σ (upd H s.heap.objs.size (.tup [.int (i : Nat), x])) { s with heap := h'', toks := tk + 1 } :=
      I.turnedNew (ch := [e, it]) (fun b ob hb q => (sb.2 b (fun z => hb (by simp [z]))).trans (hk b ob (fun z => hb (by simp [z])) (fun z => hb (by simp [z])) q)) hf (Nat.le_refl _) new
    refine ⟨.ref s.heap.objs.size, _, I1, rfl, ⟨_, x, rfl, I.hok.fresh (Nat.le_refl _), rfl, fun ys hy => by rw [I.list_inj hy hq]; exact hx⟩, ⟨⟨x', ?_⟩, ⟨hi, ?_⟩, hne⟩, fun b hb => ?_⟩
    · have e1 : ((i + 1 : Nat) : Int) = (i : Int) + 1 := by omega
      rw [e1]; exact he'
    · have := hst'.2.1
      rw [hsz] at this
      exact this.at fun o q => (sb.2 it (Ne.symm hne)).trans q
    · have hb' : b < s.heap.objs.size := by
        have e' : b = e ∨ b = it := by simpa using hb
        rcases e' with z | z
        · rw [z]; exact hel
        · rw [z]; exact hil
      rw [upd_ne (Nat.ne_of_lt hb')]
      exact (hf b hb).1
  done := by
    intro X hP hw hK hc i pins s σ H E I hf st hg
    subst hP hw hK
    obtain ⟨⟨old, he⟩, ⟨hin, hit⟩, hne⟩ := st
    obtain ⟨xs, hq, hxl, hx⟩ := hg
    obtain ⟨its, rv, p, hz⟩ := I.list hq
    obtain ⟨f0, f1, f2, f3, f4, f5⟩ := hf it (by simp)
    have hl := rv.length
    have hL := p.isList
    have hai : a ≠ it := by
      intro z
      obtain ⟨o1, q1, c1, _⟩ := hL
      obtain ⟨o2, q2, c2, _⟩ := hit
      rw [z, q2] at q1
      cases q1
      rw [c1] at c2
      exact absurd c2 (by decide)
    have hsz : its.toArray.size = n := by rw [List.size_toArray]; omega
    have hin' : i = n := by omega
    subst hin'
    have D := Draws.revG (prog := X.prog) (w := X.w) (A := X.A.in1) (I.ok.hd hc) it a hai its.toArray
    have hst : its.toArray.size ≤ its.toArray.size ∧ s.heap.IsRevIter it a ((its.toArray.size : Int) - 1 - ((its.toArray.size : Nat) : Int)) ∧ s.heap.IsList a its.toArray := by rw [hsz]; exact ⟨hin, hit, hL⟩
    exact wpAny_pyNext_enum_endD D he hst fun h' eb => ⟨rfl, I.turned (t' := s.toks) (fun b o hb q => eb b o hb q) f0 f1 f3 f4 f5⟩
  self := fun A i s Q E st h => let ⟨⟨_, he⟩, _⟩ := st; wpAny_pyIter_enum he h
def iEnumR (K : PySem.W.Frag) (te : TE) : TI := fun σ H R => te σ H fun v H1 => ∃ (a : Addr) (xs : List V), v = .ref a ∧ SqL K H1 a xs ∧ R (IteR K a xs.length) H1
theorem pi_enumR {X : Cx} {e : Expr} {te : TE} {p p2 pos pos2 tpos : Pos} {elts : List Expr} {kk : Nat} (hg : Gl X "enumerate") (hm : X.mg "enumerate" = none) (hg2 : Gl X "reversed") (hm2 : X.mg "reversed" = none) (he : PE X e te)
    (hs : starEach [e] X.env = (false, eval e X.env) :: starEach [] X.env := by rfl)
    (hs2 : starEach [.Call (.Name "reversed" p2) [e] [] pos2] X.env = (false, eval (.Call (.Name "reversed" p2) [e] [] pos2) X.env) :: starEach [] X.env := by rfl) :
    PI X (.Tuple elts kk tpos) (.Call (.Name "enumerate" p) [.Call (.Name "reversed" p2) [e] [] pos2] [] pos) (iEnumR X.K te) := by
  refine ⟨fun pins s σ H R I h => ?_⟩
  refine Call_ (ld_blt I hg hm boot_enumerate (PyProof.Rows.callWith_type1 (args_cons (Call_ (ld_blt I hg2 hm2 PyProof.Rows.boot_reversed (PyProof.Rows.callWith_type1 (args_cons (thn (he.run pins s σ H _ I h) fun u s1 ⟨v, H1, I1, r1, q1⟩ => args_nil ?_) hs) hs rfl))) hs2) hs2 rfl))
  obtain ⟨a, xs, ev, hq, q⟩ := q1
  subst ev
  obtain rfl : u = Value.ref a := r1
  obtain ⟨its, rv, p', hz⟩ := I1.list hq
  have hl := rv.length
  refine call_reversed_list p'.isList (args_nil ?_)
  have k0 : ∀ b o, s1.heap.get? b = some o → (s1.heap.push (revObj a ((its.toArray.size : Int) - 1))).get? b = some o := fun b o e => Heap.get?_push_of_some _ e
  have I2 : Inv X pins σ H1 { s1 with heap := s1.heap.push (revObj a ((its.toArray.size : Int) - 1)) } := I1.kept (t' := s1.toks) k0
  have hz2 : (s1.heap.push (revObj a ((its.toArray.size : Int) - 1))).objs.size = s1.heap.objs.size + 1 := Heap.size_push ..
  have hR : (s1.heap.push (revObj a ((its.toArray.size : Int) - 1))).IsRevIter s1.heap.objs.size a ((its.toArray.size : Int) - 1) := ⟨_, Heap.get?_push_size _ rfl, rfl, rfl⟩
  refine call_enumerate_revG (s := { s1 with heap := s1.heap.push (revObj a ((its.toArray.size : Int) - 1)) }) hR fun h' he' hsz hk => wpAny_pyIter_enum he' ?_
  have hk' : ∀ b o, s1.heap.get? b = some o → h'.get? b = some o := fun b o e => hk b o (k0 b o e)
  have I3 : Inv X pins σ H1 { s1 with heap := h' } := I1.kept (t' := s1.toks) hk'
  replace he' : IsEnum h' (s1.heap.objs.size + 1) s1.heap.objs.size 0 .none := by rw [← hz2]; exact he'
  show PIE X pins σ (.Tuple elts kk tpos) R (.ref (s1.heap.push (revObj a ((its.toArray.size : Int) - 1))).objs.size) { s1 with heap := h' }
  rw [hz2]
  have e1 : ((its.toArray.size : Nat) : Int) - 1 = (xs.length : Int) - 1 - ((0 : Nat) : Int) := by simp only [List.size_toArray]; omega
  refine ⟨s1.heap.objs.size + 1, [s1.heap.objs.size + 1, s1.heap.objs.size], _, _, H1, rfl, I3, turn_enumR a (s1.heap.objs.size + 1) s1.heap.objs.size xs.length, ⟨⟨.none, he'⟩, ⟨Nat.zero_le _, ?_⟩, Nat.succ_ne_self _⟩, fun b hb => ?_, q⟩
  · rw [← e1]
    exact hR.at fun o q => hk _ o q
  have e' : b = s1.heap.objs.size + 1 ∨ b = s1.heap.objs.size := by simpa using hb
  have hle : s1.heap.objs.size ≤ b := by
    rcases e' with z | z
    · rw [z]; exact Nat.le_add_right _ _
    · rw [z]; exact Nat.le_refl _
  exact I1.fpOk hle (I1.hok.fresh hle)
section
variable {X : Cx} {W : WX} {ms : Modes} {l : Lv} {a : Expr} {ea : Env → Rs D} {Hs : Hp} {M : MK}
def dEnumR : D → Rs (List D)
  | .lst ds => .ok (enumD ds.reverse)
  | _ => .bad
theorem iteR_ok {a : Addr} {vs : List V} {ds : List D} (h : Rd Hs a (.lst vs)) (l : DenL M Hs vs ds) : ItOk M (IteR M.K a vs.length) Hs (enumD ds.reverse) := by
  intro Hs' H' s1 s2 i
  have q : SqL M.K H' a vs := .inl (Same.rd s2 (Same.rd s1 h))
  unfold enumD
  refine ⟨fun d hd => ?_, fun hi => ⟨vs, q, rfl, by rw [l.length]; simpa using hi⟩⟩
  rw [List.getElem?_map] at hd
  obtain ⟨k, h1, rfl⟩ := Option.map_eq_some_iff.mp hd
  rw [List.getElem?_zipIdx] at h1
  obtain ⟨d0, h2, rfl⟩ := Option.map_eq_some_iff.mp h1
  obtain ⟨v, h3, h4⟩ := l.reverse.get h2
  have hi : i < vs.length := by
    have := (List.getElem?_eq_some_iff.mp h3).1
    simpa using this
  rw [List.getElem?_reverse hi] at h3
  refine ⟨⟨vs, v, q, rfl, hi, h3⟩, fun x H'' y => ?_⟩
  obtain ⟨T, w, rfl, np, rfl, y⟩ := y
  have := y vs q
  rw [h3] at this
  cases this
  refine ⟨_, Ext.new s2 np, .tup upd_same (.cons ?_ (.cons ((h4.mono s1).mono (same_upd (s2.free np))) .nil))⟩
  rw [Nat.zero_add]
  exact .int _
theorem ji_enumR {p1 p2 p3 p4 tpos : Pos} {elts : List Expr} {kk : Nat} (hm : X.mg "enumerate" = none) (hm2 : X.mg "reversed" = none) (hl : l = .own .S ∨ l = .t .S) (ha : JG X W l ms a ea) (hg : Gl X "enumerate" := by rfl) (hg2 : Gl X "reversed" := by rfl)
    (hs : starEach [a] X.env = (false, eval a X.env) :: starEach [] X.env := by rfl)
    (hs2 : starEach [.Call (.Name "reversed" p3) [a] [] p4] X.env = (false, eval (.Call (.Name "reversed" p3) [a] [] p4) X.env) :: starEach [] X.env := by rfl) :
    JI X W ms (.Tuple elts kk tpos) (.Call (.Name "enumerate" p1) [.Call (.Name "reversed" p3) [a] [] p4] [] p2) (iOf dEnumR ea) := by
  obtain ⟨t, h1, h2⟩ := ha
  refine ⟨_, pi_enumR hg hm hg2 hm2 h1 hs hs2, fun B Hs H σ ρ Fp R RR p => h2 B Hs H σ ρ Fp _ RR (IPost.seq2 p fun d v Hs1 H1 e r q => ?_)⟩
  have dd : Den (mkM X) Hs1 v d := by
    rcases hl with rfl | rfl
    · exact r.s
    · exact r.tS
  cases dd with
  | lst g l => exact ⟨_, _, rfl, .inl (Same.rd e.s2 g), q _ Hs1 H1 (Ext.refl e.s2) (iteR_ok (M := mkM X) g l)⟩
  | _ => exact q.elim
end
end G
/-! G: min of a list of pairs of numbers -/
namespace G
open PySem PySem.Spec L2
open PyProof.Rows hiding St
def rMinD (K : PySem.W.Frag) : List V → Hp → VK → Prop := fun vs H Q => ∃ (a : Addr) (xs : List V) (d : PyData) (ds : List PyData), vs = [V.ref a] ∧ SqL K H a xs ∧ DpAll K H xs (d :: ds) ∧ PySem.W.AlikeAll (d :: ds) ∧ PyData.depthAll (d :: ds) ≤ 8 ∧ PyData.canLayAll0 (d :: ds) = true ∧
  ∀ (i : Nat) (x : V), xs[i]? = some x → (d :: ds)[i]? = some (PySem.W.minD d ds) → Q x H
theorem vals_ix : ∀ {xs : List V} {us : List Value} {i : Nat} {u : Value}, Vals xs us → us[i]? = some u → ∃ x, xs[i]? = some x ∧ RelV x u
  | _, _, i, u, .nil, h => by simp at h
  | _, _, 0, u, .cons r _, h => by cases h; exact ⟨_, rfl, r⟩
  | _, _, i + 1, u, .cons _ l, h => by
    obtain ⟨x, a, b⟩ := vals_ix l (i := i) (by simpa using h)
    exact ⟨x, by simpa using a, b⟩
theorem lay_all : ∀ {ds : List PyData} {i : Nat} {d : PyData}, PyData.canLayAll0 ds = true → ds[i]? = some d → d.canLay0 = true
  | [], i, d, _, h => by simp at h
  | x :: xs, 0, d, k, h => by
    cases h
    have k' : (x.canLay0 && PyData.canLayAll0 xs) = true := k
    exact (Bool.and_eq_true _ _ ▸ k').1
  | x :: xs, i + 1, d, k, h => by
    have k' : (x.canLay0 && PyData.canLayAll0 xs) = true := k
    exact lay_all (Bool.and_eq_true _ _ ▸ k').2 (by simpa using h)
theorem cr_minD {X : Cx} (hc : X.calm = true) (hu : X.A.units + 64 < cLine) : CallR X (.builtin "min") (rMinD X.K) := by
  intro pins s σ H vs us Q I r h
  obtain ⟨a, xs, d, ds, rfl, hs, hdp, ha, hdep, hlay, q⟩ := h
  obtain ⟨its, rv, hl, _⟩ := I.list hs
  rw [Vals.ref1 r]
  obtain ⟨as, hr⟩ := Dp.readsAll I _ _ _ hdp rv
  refine PySem.W.min_list_data (I.ok.hd hc) hl.isList (as := as) hr ha (by omega) fun i v h' tk bs hv rd k => ?_
  have hv' : its[i]? = some v := by simpa using hv
  obtain ⟨x, hx, rx⟩ := vals_ix rv hv'
  obtain ⟨bs2, rd2, hil, _, _⟩ := PySem.W.readsAll_at hr i v hv'
  have rd3 := PySem.W.reads_keeps k rd2
  have hgi : (d :: ds)[i]? = some ((d :: ds).getD i .none) := by
    rw [List.getD_eq_getElem?_getD, List.getElem?_eq_getElem hil]; rfl
  have e := (PySem.Reads.unique rd3 _ _ rd).1
  exact ⟨x, H, I.kept k, rx, q i x hx (by rw [hgi, e])⟩
/-! ### pairs -/
def ltPr (p q : Int × Int) : Bool := decide (p.1 < q.1 ∨ (p.1 = q.1 ∧ p.2 < q.2))
def ppr (p : Int × Int) : PyData := .tuple [.int p.1, .int p.2]
theorem dataLt_ppr (p q : Int × Int) : PySem.W.dataLt (ppr p) (ppr q) = ltPr p q := by
  unfold ppr
  rw [PySem.W.dataLt_tuple]
  obtain ⟨a, b⟩ := p
  obtain ⟨c, d⟩ := q
  show PyProof.Rows.lexLt PyProof.Rows.itemOrd ([.inl 1, .inl a, .inl 1, .inl b, .inl 0] : List (Int ⊕ List Nat)) ([.inl 1, .inl c, .inl 1, .inl d, .inl 0] : List (Int ⊕ List Nat)) = _
  rw [PyProof.Rows.lex_self]
  unfold ltPr
  by_cases h : a = c
  · subst h
    rw [PyProof.Rows.lex_self, PyProof.Rows.lex_self]
    by_cases k : b = d
    · subst k
      rw [PyProof.Rows.lex_self, PyProof.Rows.lex_self]
      simp
      rfl
    · rw [PyProof.Rows.lex_diff (fun z => k (Sum.inl.inj z))]
      show decide (b < d) = _
      simp
  · rw [PyProof.Rows.lex_diff (fun z => h (Sum.inl.inj z))]
    show decide (a < c) = _
    simp [h]
def minPr (p : Int × Int) (ps : List (Int × Int)) : Int × Int := ps.foldl (fun a y => if ltPr y a then y else a) p
theorem minD_ppr : ∀ (ps : List (Int × Int)) (p : Int × Int), PySem.W.minD (ppr p) (ps.map ppr) = ppr (minPr p ps) := by
  intro ps
  unfold PySem.W.minD minPr
  induction ps with
  | nil => intro p; rfl
  | cons q ps ih =>
    intro p
    rw [List.map_cons, List.foldl_cons, List.foldl_cons, ← ih]
    rw [dataLt_ppr]
    cases ltPr q p <;> rfl
theorem ppr_inj {p q : Int × Int} (h : ppr p = ppr q) : p = q := by
  obtain ⟨a, b⟩ := p
  obtain ⟨c, d⟩ := q
  unfold ppr at h
  simp at h
  simp [h]
theorem toPys_pairs : ∀ ps : List (Int × Int), toPys (ps.map pairD) = some (ps.map ppr)
  | [] => rfl
  | p :: ps => by
    rw [List.map_cons]
    unfold toPys
    rw [toPys_pairs ps]
    rfl
theorem alike_ppr (ps : List (Int × Int)) : PySem.W.AlikeAll (ps.map ppr) := by
  refine ⟨fun x hx y hy => ?_, fun x hx => ?_⟩
  · obtain ⟨p, _, rfl⟩ := List.mem_map.mp hx
    obtain ⟨q, _, rfl⟩ := List.mem_map.mp hy
    rfl
  · obtain ⟨p, _, rfl⟩ := List.mem_map.mp hx
    intro z; cases z
theorem depth_ppr : ∀ ps : List (Int × Int), PyData.depthAll (ps.map ppr) ≤ 8 ∧ PyData.canLayAll0 (ps.map ppr) = true
  | [] => ⟨by decide, rfl⟩
  | p :: ps => by
    obtain ⟨h1, h2⟩ := depth_ppr ps
    constructor
    · show max (PyData.depth (ppr p)) (PyData.depthAll (ps.map ppr)) ≤ 8
      have : PyData.depth (ppr p) = 1 := rfl
      omega
    · show ((ppr p).canLay0 && PyData.canLayAll0 (ps.map ppr)) = true
      rw [h2]; rfl
def dMinP : List D → Rs D
  | [.lst ds] => match pairsOf ds with
    | some (p :: ps) => .ok (pairD (minPr p ps))
    | _ => .bad
  | _ => .bad
section
variable {X : Cx} {W : WX}
theorem denL_ix {M : MK} {H : Hp} : ∀ {vs : List V} {ds : List D} {i : Nat} {v : V}, DenL M H vs ds → vs[i]? = some v → ∃ d, ds[i]? = some d ∧ Den M H v d
  | _, _, i, v, .nil, h => by simp at h
  | _, _, 0, v, .cons h _, e => by cases e; exact ⟨_, rfl, h⟩
  | _, _, i + 1, v, .cons _ l, e => by
    obtain ⟨d, a, b⟩ := denL_ix l (i := i) (by simpa using e)
    exact ⟨d, by simpa using a, b⟩
theorem oc_minP : OC X W .s .s (rMinD X.K) dMinP := by
  intro H0 Hs H σ xs ds Q s rx p
  unfold dMinP at p
  split at p
  · rename_i ds
    obtain ⟨v, rfl, r⟩ := rx.one
    split at p
    · rename_i q ps hps
      have dv := r.s
      cases dv with
      | @lst a vs _ hr ll =>
        rw [pairsOf_some hps] at ll
        have hdp := denL_dp ll (toPys_pairs (q :: ps))
        obtain ⟨hd1, hd2⟩ := depth_ppr (q :: ps)
        refine ⟨a, vs, ppr q, ps.map ppr, rfl, .inl (Same.rd s hr), denL_dp (ll.mono s) (toPys_pairs (q :: ps)), alike_ppr (q :: ps), hd1, hd2, fun i x hx hi => ?_⟩
        obtain ⟨d, hd, dx⟩ := denL_ix ll hx
        have e : d = pairD (minPr q ps) := by
          rw [List.getElem?_map] at hd
          obtain ⟨z, hz, rfl⟩ := Option.map_eq_some_iff.mp hd
          rw [minD_ppr, show ppr q :: ps.map ppr = (q :: ps).map ppr from rfl, List.getElem?_map, hz] at hi
          have hi : ppr z = ppr (minPr q ps) := Option.some.inj hi
          rw [ppr_inj hi]
        subst e
        exact p _ Hs _ (Ext.refl s) (.of dx)
    · exact p.elim
  · exact p.elim
end
end G
/-! G: a comprehension whose items are own; the loop that empties a list's own lists -/
namespace G
open PySem PySem.Spec L2
open PyProof.Rows hiding St
section
variable {X : Cx} {W : WX} {ms mt : Modes} {B : Hp × Hp} {Hs H : Hp} {σ : St} {ρ : Env} {Fp : Nat → List Addr} {M : MK} {mi : Mode}
/-- [elt for tg in it if ..]: x: the def's context -/
theorem lc_mainO {it elt tg : Expr} {ifs : List Expr} {own : List (Str × Nat)} {wi : TI} {g : TG} {tt : TT} {te : TE} {ei : Env → Rs (List D)} {t : TgtD} {et : Env → Rs Bool} {ee : Env → Rs D} {is : List Nat} {Q : VK}
    (i2 : ∀ B Hs H σ ρ Fp R, Rel (mkM X) B ms Hs H σ ρ Fp → IPost X W Hs H σ R (ei ρ) → wi σ H R)
    (g2 : ∀ B Hs H σ ρ Fp v d ρ' Q, Rel (mkM X) B ms Hs H σ ρ Fp → Den (mkM X) Hs v d → t d ρ = some ρ' → (∀ σ' Fp', Rel (mkM X) B mt Hs H σ' ρ' Fp' → σ'.length = σ.length → (∀ i, i ∉ is → σ'[i]? = σ[i]?) → Q σ' H) → g v σ H Q)
    (t2 : ∀ B Hs H σ ρ Fp Q, Rel (mkM X) B mt Hs H σ ρ Fp → Post X W0 PB Hs H σ Q (et ρ) → tt σ H Q)
    (e2 : ∀ B Hs H σ ρ Fp Q, Rel (mkM X) B mt Hs H σ ρ Fp → Post X W0 (PV X (.own mi)) Hs H σ Q (ee ρ) → te σ H Q)
    (his : ∀ i ∈ is, i ∈ own.map (·.2)) (R : Rel (mkM X) B ms Hs H σ ρ Fp) (p : Post X W (PV X (.own (.O mi))) Hs H σ Q (eLc ei t et ee (own.map (·.2)) ρ)) : tLc wi g tt te (own.map (·.2)) σ H Q := by
  refine i2 B Hs H σ ρ Fp _ R ?_
  have p0 : Post X W (PV X (.own (.O mi))) Hs H σ Q ((ei ρ).bind fun ds => if ds.length < cap then (lcGo t et ee (wipeE ρ (own.map (·.2))) ds).bind fun xs => .ok (.lst xs) else .bad) := p
  cases z : ei ρ with
  | bad => rw [z] at p0; exact p0.elim
  | exc c fs => rw [z] at p0; exact p0
  | ok ds =>
    rw [z, Rs.bind_ok] at p0
    intro J Hs1 H1 e1 hJ Da hD
    by_cases hc : ds.length < cap
    · rw [if_pos hc] at p0
      generalize hvs : own.map (·.2) = vs at *
      have sD : Hs1 Da = none := e1.s2.free hD
      have Rw := (R.step e1).wipe vs
      obtain ⟨Fpw, Rw⟩ := Rw
      -- the whole result
      cases zr : lcGo t et ee (wipeE ρ vs) ds with
      | exc c fs =>
        -- lcGo never raises
        exfalso
        have noexc : ∀ ds : List G.D, ∀ c fs, lcGo t et ee (wipeE ρ vs) ds ≠ .exc c fs := by
          intro ds
          induction ds with
          | nil => intro c fs h; cases h
          | cons d ds ih =>
            intro c fs h
            unfold lcGo at h
            split at h
            · cases h
            · rename_i ρ1 _
              cases za : et ρ1 with
              | bad => rw [za] at h; cases h
              | exc _ _ => rw [za] at h; cases h
              | ok b =>
                rw [za, nox_ok, Rs.bind_ok] at h
                cases b with
                | false => exact ih c fs h
                | true =>
                  rw [if_pos rfl] at h
                  cases zb : ee ρ1 with
                  | bad => rw [zb] at h; cases h
                  | exc _ _ => rw [zb] at h; cases h
                  | ok x =>
                    rw [zb, nox_ok, Rs.bind_ok] at h
                    cases zc : lcGo t et ee (wipeE ρ vs) ds with
                    | ok ys => rw [zc] at h; cases h
                    | exc c' fs' => exact ih _ _ zc
                    | bad => rw [zc] at h; cases h
        exact noexc ds c fs zr
      | bad => rw [zr] at p0; exact p0.elim
      | ok all =>
        rw [zr, Rs.bind_ok] at p0
        have hlen := lcGo_len zr
        refine ⟨fun i m H' => m = ds.length - i ∧ i ≤ ds.length ∧ ∃ Hs' acc done todo F, Ext Hs1 H1 Hs' H' ∧ Hs' Da = none ∧ H' Da = some (.lst acc) ∧ (OwnL (mkM X) Hs' H' mi acc done F ∧ F.Nodup ∧ (∀ a ∈ F, H1 a = none) ∧ Da ∉ F) ∧ lcGo t et ee (wipeE ρ vs) (ds.drop i) = .ok todo ∧ all = done ++ todo,
          ⟨ds.length, rfl, Nat.zero_le _, Hs1, [], [], all, [], Ext.newO e1.s2 hD, sD, upd_same, ⟨.nil, .nil, (fun a ha => nomatch ha), (fun ha => nomatch ha)⟩, zr, rfl⟩, ?_⟩
        rintro i m H2 ⟨rfl, hi, Hs2, acc, done, todo, F, x2, n2, a2, l2, g2', q2⟩
        obtain ⟨j1, j2⟩ := hJ Hs2 H2 x2.s1 x2.s2 i
        by_cases hlt : i < ds.length
        · obtain ⟨go, yl⟩ := j1 ds[i] (List.getElem?_eq_getElem hlt)
          rw [List.drop_eq_getElem_cons hlt] at g2'
          refine .inr ⟨go, fun H' => ∃ Hs' acc done todo F, Ext Hs1 H1 Hs' H' ∧ Hs' Da = none ∧ H' Da = some (.lst acc) ∧ (OwnL (mkM X) Hs' H' mi acc done F ∧ F.Nodup ∧ (∀ a ∈ F, H1 a = none) ∧ Da ∉ F) ∧ lcGo t et ee (wipeE ρ vs) (ds.drop (i + 1)) = .ok todo ∧ all = done ++ todo, fun H' q => ⟨_, by omega, rfl, hlt, q⟩, fun x H3 hy => ?_⟩
          obtain ⟨Hs3, x3, dn⟩ := yl x H3 hy
          have n3 : Hs3 Da = none := x3.s4 Da _ a2 KT.lst n2
          have a3 : H3 Da = some (.lst acc) := x3.s3 _ _ a2
          have l3 : OwnL (mkM X) Hs3 H3 mi acc done F ∧ F.Nodup ∧ (∀ a ∈ F, H1 a = none) ∧ Da ∉ F := ⟨l2.1.ext x3, l2.2⟩
          unfold lcGo at g2'
          cases zt : t ds[i] (wipeE ρ vs) with
          | none => rw [zt] at g2'; cases g2'
          | some ρ1 =>
            rw [zt] at g2'
            simp only at g2'
            have R3 : Rel (mkM X) B ms Hs3 H3 (wipe σ vs) (wipeE ρ vs) Fpw := Rw.step (x2.trans x3)
            refine g2 B Hs3 H3 _ _ Fpw x _ ρ1 _ R3 dn zt fun σ4 Fp4 R4 l4 k4 => ?_
            refine ⟨?_, ?_⟩
            · apply wipe_ext
              · rw [l4, wipe_length]
              · intro k hk
                rw [k4 k fun w => hk (his k w), wipe_get hk]
            · cases zb : et ρ1 with
              | bad => rw [zb] at g2'; cases g2'
              | exc _ _ => rw [zb] at g2'; cases g2'
              | ok b =>
                rw [zb, nox_ok, Rs.bind_ok] at g2'
                refine t2 B Hs3 H3 σ4 ρ1 Fp4 _ R4 ?_
                rw [zb]
                intro b' Hs5 H5 x5 eb
                subst eb
                have n5 : Hs5 Da = none := x5.s4 Da _ a3 KT.lst n3
                have a5 : H5 Da = some (.lst acc) := x5.s3 _ _ a3
                have l5 : OwnL (mkM X) Hs5 H5 mi acc done F ∧ F.Nodup ∧ (∀ a ∈ F, H1 a = none) ∧ Da ∉ F := ⟨l3.1.ext x5, l3.2⟩
                have x15 := (x2.trans x3).trans x5
                cases b' with
                | false =>
                  rw [if_neg (by decide)] at g2' ⊢
                  exact ⟨Hs5, acc, done, todo, F, x15, n5, a5, l5, g2', q2⟩
                | true =>
                  rw [if_pos rfl] at g2' ⊢
                  cases ze : ee ρ1 with
                  | bad => rw [ze] at g2'; cases g2'
                  | exc _ _ => rw [ze] at g2'; cases g2'
                  | ok y =>
                    rw [ze, nox_ok, Rs.bind_ok] at g2'
                    refine e2 B Hs5 H5 σ4 ρ1 Fp4 _ (R4.step x5) ?_
                    rw [ze]
                    intro v Hs6 H6 x6 dv
                    have n6 : Hs6 Da = none := x6.s4 Da _ a5 KT.lst n5
                    have a6 : H6 Da = some (.lst acc) := x6.s3 _ _ a5
                    have l6 : OwnL (mkM X) Hs6 H6 mi acc done F ∧ F.Nodup ∧ (∀ a ∈ F, H1 a = none) ∧ Da ∉ F := ⟨l5.1.ext x6, l5.2⟩
                    obtain ⟨G, og, ng, fg⟩ := dv
                    have x16 := x15.trans x6
                    have hacc : acc.length < sizeLine := by
                      rw [l6.1.length]
                      have : done.length ≤ all.length := by rw [q2, List.length_append]; omega
                      exact cap_lt (by omega)
                    refine ⟨acc, a6, hacc, ?_⟩
                    cases zd : lcGo t et ee (wipeE ρ vs) (ds.drop (i + 1)) with
                    | bad => rw [zd] at g2'; cases g2'
                    | exc _ _ => rw [zd] at g2'; cases g2'
                    | ok rest =>
                      rw [zd, Rs.bind_ok] at g2'
                      cases g2'
                      have keepO : ∀ {a : Addr} {o : HO}, a ≠ Da → H6 a = some o → upd H6 Da (.lst (acc ++ [v])) a = some o := fun na q => by rw [upd_ne na]; exact q
                      have gDa : Da ∉ G := fun ha => by have := fg Da ha; rw [a5] at this; cases this
                      have disj : ∀ a ∈ F, a ∉ G := fun a ha hb => by
                        obtain ⟨_, o, ho, _⟩ := l5.1.none a ha
                        rw [fg a hb] at ho; cases ho
                      have oF : OwnL (mkM X) Hs6 (upd H6 Da (.lst (acc ++ [v]))) mi acc done F := l6.1.move (Same.refl _) (fun a ha => (l6.1.none a ha).1) fun a o q ha => keepO (fun z => l6.2.2.2 (z ▸ ha)) q
                      have oG : Own (mkM X) Hs6 (upd H6 Da (.lst (acc ++ [v]))) mi v y G := og.move (Same.refl _) (fun a ha => (og.none a ha).1) fun a o q ha => keepO (fun z => gDa (z ▸ ha)) q
                      refine ⟨Hs6, acc ++ [v], done ++ [y], rest, F ++ (G ++ []), ⟨x16.s1, fun b u q => ?_, fun b u q => ?_, x16.s4⟩, n6, upd_same, ⟨oF.app (.cons oG .nil), ?_, ?_, ?_⟩, rfl, by rw [q2, List.append_assoc]; rfl⟩
                      · rw [upd_ne (fun w => by rw [w, n6] at q; cases q)]; exact x16.s2 _ _ q
                      · rw [upd_ne (fun w => by rw [w, hD] at q; cases q)]; exact x16.s3 _ _ q
                      · rw [List.append_nil, List.nodup_append]
                        exact ⟨l6.2.1, ng, fun a ha b hb e => disj a ha (e ▸ hb)⟩
                      · intro a ha
                        rw [List.append_nil] at ha
                        rcases List.mem_append.mp ha with ha | ha
                        · exact l6.2.2.1 a ha
                        · have h5 := fg a ha
                          cases z : H1 a with
                          | none => rfl
                          | some o =>
                            have : a ≠ Da := fun w => by rw [w, hD] at z; cases z
                            have := x15.s3 a o z
                            rw [h5] at this; cases this
                      · rw [List.append_nil]
                        exact fun ha => (List.mem_append.mp ha).elim l6.2.2.2 gDa
        · have e : i = ds.length := by omega
          subst e
          rw [List.drop_length] at g2'
          cases g2'
          rw [List.append_nil] at q2
          subst q2
          refine .inl ⟨j2 (Nat.le_refl _), p0 _ Hs2 H2 (e1.trans x2) ⟨Da :: F, .lst n2 a2 l2.1, List.nodup_cons.mpr ⟨l2.2.2.2, l2.2.1⟩, fun a ha => by
            rcases List.mem_cons.mp ha with rfl | ha
            · exact e1.s3.free hD
            · exact e1.s3.free (l2.2.2.1 a ha)⟩⟩
    · rw [if_neg hc] at p0; exact p0.elim
end
section
variable {X : Cx} {W : WX} {mx : Option Modes} {ml : Modes} {rm : Mode} {ms ms' mt : Modes} {B : Hp × Hp} {Hs H : Hp} {σ : St} {ρ : Env} {Fp : Nat → List Addr} {E : Ends}
variable {elt tg it : Expr} {ifs : List Expr} {scope : Scope} {own : List (Str × Nat)} {pos pos' spos : Pos} {is : List Nat} {t : TgtD} {ei : Env → Rs (List D)} {et : Env → Rs Bool} {ee : Env → Rs D} {st : Stmt}
variable {mi : Mode}
theorem js_setLcO (i : Nat) {y : Str} {py : Pos} (hx : XOk mx ms) (hc : X.calm = true) (hN : X.N.Nodup) (hi : JI X W ms tg it ei) (ok : BlkOk X.N X.env.scope scope own)
    (hg : ∀ (s : Shared) (H : Hp) (C : Addr) (cl : List (Str × Addr)) (fp : List Addr), JGt (X.blk s H scope (compEnvC scope cl C X.env) fp) ms tg is mt t)
    (ht : ∀ (s : Shared) (H : Hp) (C : Addr) (cl : List (Str × Addr)) (fp : List Addr), JTs (X.blk s H scope (compEnvC scope cl C X.env) fp) mt ifs et)
    (he : ∀ (s : Shared) (H : Hp) (C : Addr) (cl : List (Str × Addr)) (fp : List Addr), JG (X.blk s H scope (compEnvC scope cl C X.env) fp) W0 (.own mi) mt elt ee)
    (his : ∀ i ∈ is, i ∈ own.map (·.2)) (hsw : swapsWith (.ListComp elt [⟨tg, it, ifs, 0⟩] scope pos) (some (.Name y py)) spos.line X.env = pure true)
    (hlt : i < ms.length := by first | decide | simp) (hy : X.N[i]? = some y := by rfl) (hyl : X.env.scope.names.lookup y = some .local := by rfl)
    (hs : ∀ x, foldedSetIterable it X.env x = pure x := by intro _; rfl) : JS X W mx ml rm ms (.Assign [.Name y py] (.ListComp elt [⟨tg, it, ifs, 0⟩] scope pos) spos) (ms.set i (.O mi)) (sSet i (eLc ei t et ee (own.map (·.2)))) := by
  obtain ⟨wi, hi1, i2⟩ := hi
  have hg' : ∃ g, (∀ (s : Shared) (H : Hp) (C : Addr) (cl : List (Str × Addr)) (fp : List Addr), PG (X.blk s H scope (compEnvC scope cl C X.env) fp) tg g) ∧ ∀ B Hs H σ ρ Fp v d ρ' Q, Rel (mkM X) B ms Hs H σ ρ Fp → Den (mkM X) Hs v d → t d ρ = some ρ' → (∀ σ' Fp', Rel (mkM X) B mt Hs H σ' ρ' Fp' → σ'.length = σ.length → (∀ i, i ∉ is → σ'[i]? = σ[i]?) → Q σ' H) → g v σ H Q := by
    refine ⟨fun v σ H Q => ∀ (s : Shared) (H1 : Hp) (C : Addr) (cl : List (Str × Addr)) (fp : List Addr), (Classical.choose (hg s H1 C cl fp)) v σ H Q, fun s H C cl fp => ⟨fun pins s' σ H' v u Q I r q => (Classical.choose_spec (hg s H C cl fp)).1.run pins s' σ H' v u Q I r (q s H C cl fp)⟩, fun B Hs H σ ρ Fp v d ρ' Q R dn e k s H1 C cl fp => (Classical.choose_spec (hg s H1 C cl fp)).2 B Hs H σ ρ Fp v d ρ' Q R dn e k⟩
  have ht' : ∃ tt, (∀ (s : Shared) (H : Hp) (C : Addr) (cl : List (Str × Addr)) (fp : List Addr), PTs (X.blk s H scope (compEnvC scope cl C X.env) fp) ifs tt) ∧ ∀ B Hs H σ ρ Fp Q, Rel (mkM X) B mt Hs H σ ρ Fp → Post X W0 PB Hs H σ Q (et ρ) → tt σ H Q := by
    refine ⟨fun σ H Q => ∀ (s : Shared) (H1 : Hp) (C : Addr) (cl : List (Str × Addr)) (fp : List Addr), (Classical.choose (ht s H1 C cl fp)) σ H Q, fun s H C cl fp => ⟨fun pins s' σ H' Q I q => (Classical.choose_spec (ht s H C cl fp)).1.run pins s' σ H' Q I (q s H C cl fp)⟩, fun B Hs H σ ρ Fp Q R p s H1 C cl fp => (Classical.choose_spec (ht s H1 C cl fp)).2 B Hs H σ ρ Fp Q R p⟩
  have he' : ∃ te, (∀ (s : Shared) (H : Hp) (C : Addr) (cl : List (Str × Addr)) (fp : List Addr), PE (X.blk s H scope (compEnvC scope cl C X.env) fp) elt te) ∧ ∀ B Hs H σ ρ Fp Q, Rel (mkM X) B mt Hs H σ ρ Fp → Post X W0 (PV X (.own mi)) Hs H σ Q (ee ρ) → te σ H Q := by
    refine ⟨fun σ H Q => ∀ (s : Shared) (H1 : Hp) (C : Addr) (cl : List (Str × Addr)) (fp : List Addr), (Classical.choose (he s H1 C cl fp)) σ H Q, fun s H C cl fp => ⟨fun pins s' σ H' Q I q => (Classical.choose_spec (he s H C cl fp)).1.run pins s' σ H' Q I (q s H C cl fp)⟩, fun B Hs H σ ρ Fp Q R p s H1 C cl fp => (Classical.choose_spec (he s H1 C cl fp)).2 B Hs H σ ρ Fp Q R p⟩
  obtain ⟨g, g1, g2⟩ := hg'
  obtain ⟨tt, t1, t2⟩ := ht'
  obtain ⟨te, e1, e2⟩ := he'
  refine ⟨_, ps_setLc hc hN hy hyl hsw hi1 ok g1 t1 e1 hs, fun B Hs H σ ρ Fp E R p => ?_⟩
  refine lc_mainO (it := it) (elt := elt) (tg := tg) (ifs := ifs) i2 g2 t2 e2 his R (SPost.bind R hx p fun d v Hs1 H1 e1 R1 r q => ?_)
  obtain ⟨Fp', R'⟩ := R.new e1 hlt r
  exact q Hs1 H1 _ Fp' R'

end
/-! ### for x in xs: x.clear() -/
def isLD : D → Bool
  | .lst _ => true
  | _ => false
def sForClr (i j : Nat) : Env → Out := fun ρ => match ρ[i]? with
  | some (some (.lst ds)) => if ds.all isLD then .nx ((ρ.set j none).set i (some (.lst (ds.map fun _ => .lst [])))) else .bad
  | _ => .bad
theorem Rel.free {M : MK} {B : Hp × Hp} {ms : Modes} {Hs H : Hp} {σ : St} {ρ : Env} {Fp : Nat → List Addr} (R : Rel M B ms Hs H σ ρ Fp) {j : Nat} (h : ∀ d, ρ[j]? ≠ some (some d)) (x : Option V) : Rel M B ms Hs H (σ.set j x) ρ Fp :=
  ⟨R.ext, by rw [List.length_set]; exact R.len, R.lm, fun i d q => by
    obtain ⟨v, h1, h2⟩ := R.val i d q
    have ne : j ≠ i := fun z => by subst z; exact h d q
    exact ⟨v, by rw [List.getElem?_set_ne ne]; exact h1, h2⟩, R.off, R.nd, R.fr, R.dj⟩
def clr (k : Nat) (ds : List D) : List D := (ds.take k).map (fun _ => .lst []) ++ ds.drop k
theorem clr_len {k : Nat} {ds : List D} : (clr k ds).length = ds.length := by unfold clr; simp; omega
theorem clr_get {k : Nat} {ds : List D} (h : k < ds.length) : (clr k ds)[k]? = some ds[k] := by
  unfold clr
  rw [List.getElem?_append_right (by simp; omega)]
  simp
  rw [Nat.min_eq_left (by omega), Nat.sub_self, Nat.add_zero, List.getElem?_eq_getElem h]
theorem clr_set {k : Nat} {ds : List D} (h : k < ds.length) : (clr k ds).set k (.lst []) = clr (k + 1) ds := by
  unfold clr
  have hl : ((ds.take k).map fun _ => D.lst []).length = k := by simp; omega
  rw [List.set_append_right _ _ (by omega), hl, Nat.sub_self, List.drop_eq_getElem_cons h, List.set_cons_zero, List.take_succ_eq_append_getElem h, List.map_append, List.append_assoc]
  rfl
section
variable {X : Cx} {W : WX} {mx : Option Modes} {ml : Modes} {rm : Mode} {ms : Modes}
theorem js_forClear {it tg : Expr} {st : Stmt} {pos : Pos} (i j : Nat) (hp : PassesOwn (model X.prog X.w) X.A X.env X.xe) (hc : X.calm = true) (hv : PE X it (tVar i)) (hg : PG X tg (gName j)) (hst : PS X st (tDrop (tBM0 X.K "list" rClear (tVar j))))
    (hij : i ≠ j := by decide) (hm : md ms i = .O (.O .S) := by rfl) (hi : i < ms.length := by first | decide | simp) (hj : j < ms.length := by first | decide | simp) (hs : ∀ x, foldedSetIterable it X.env x = pure x := by intro _; rfl) :
    JS X W mx ml rm ms (.For tg it [st] [] pos) ms (sForClr i j) := by
  refine ⟨_, ps_for hp hc (pi_list hv) hg (pss_one hst) hs, fun B Hs H σ ρ Fp E R p => ?_⟩
  unfold sForClr at p
  split at p
  · rename_i ds hρ
    split at p
    · rename_i hall
      have hls : ∀ d ∈ ds, ∃ es, d = .lst es := fun d hd => by
        have := List.all_eq_true.mp hall d hd
        cases d <;> first | exact ⟨_, rfl⟩ | cases this
      -- the list stands
      have R0 : Rel (mkM X) B ms Hs H σ (ρ.set j none) (fun k => if k = j then [] else Fp k) := R.takeOut j
      have hρ0 : (ρ.set j none)[i]? = some (some (.lst ds)) := by rw [List.getElem?_set_ne (Ne.symm hij)]; exact hρ
      obtain ⟨a, vs, h1, h2, hlen, _⟩ := R0.inner hi hm hρ0
      have hiρ : i < (ρ.set j none).length := by rw [List.length_set, ← R.lm]; exact hi
      refine ⟨.ref a, h1, a, rfl, ⟨vs, SqL.of h2⟩, fun k m σ' H' => m = ds.length - k ∧ k ≤ ds.length ∧ ∃ Hs' Fp', σ'[i]? = some (some (.ref a)) ∧ H' a = some (.lst vs) ∧ Rel (mkM X) B ms Hs' H' σ' ((ρ.set j none).set i (some (.lst (clr k ds)))) Fp',
        ⟨ds.length, rfl, Nat.zero_le _, Hs, _, h1, h2, by
          have : clr 0 ds = ds := by unfold clr; simp
          rw [this]
          have e : (ρ.set j none).set i (some (.lst ds)) = ρ.set j none := by
            apply List.ext_getElem?
            intro n
            by_cases z : i = n
            · subst z; rw [List.getElem?_set_self hiρ, hρ0]
            · rw [List.getElem?_set_ne z]
          rw [e]; exact R0⟩, ?_⟩
      rintro k m σ2 H2 ⟨rfl, hk, Hs2, Fp2, s2, a2, R2⟩
      have q2 : SqL X.K H2 a vs := SqL.of a2
      by_cases hlt : k < ds.length
      · refine .inr ⟨?_, fun σ' H' => (k + 1) ≤ ds.length ∧ ∃ Hs' Fp', σ'[i]? = some (some (.ref a)) ∧ H' a = some (.lst vs) ∧ Rel (mkM X) B ms Hs' H' σ' ((ρ.set j none).set i (some (.lst (clr (k + 1) ds)))) Fp', fun σ' H' q => ⟨_, by omega, rfl, q.1, q.2⟩, fun x H3 hy => ?_⟩
        · exact ⟨vs, vs[k]'(by omega), q2, List.getElem?_eq_getElem (by omega)⟩
        · obtain ⟨e3, y⟩ := hy
          subst e3
          have hx := y vs q2
          obtain ⟨es, hes⟩ := hls ds[k] (List.getElem_mem _)
          obtain ⟨a', vs', g1, g2, g3, g4⟩ := R2.inner hi hm (List.getElem?_set_self hiρ)
          rw [s2] at g1
          cases g1
          rw [a2] at g2
          cases g2
          obtain ⟨q, ws, k1, k2, k3, k4⟩ := g4 k es (by rw [clr_get hlt, hes])
          rw [hx] at k1
          cases k1
          obtain ⟨Fp', R'⟩ := k4 [] [] .nil
          have hne : a ≠ q := fun z => by
            have R5 := R'.lst hm (List.getElem?_set_self (by rw [List.length_set]; exact hiρ))
            obtain ⟨a5, v5, F5, g5, h5, o5, _⟩ := R5
            rw [s2] at g5
            cases g5
            subst z
            rw [upd_same] at h5
            cases h5
            have := o5.length
            rw [clr_set hlt, clr_len] at this
            simp at this
            omega
          have hσj : j < σ2.length := by rw [R2.len, List.length_set, List.length_set, ← R.lm]; exact hj
          refine ⟨.ref q, List.getElem?_set_self hσj, .inl ⟨rfl, ws, SqL.of k2⟩, q, ws, rfl, rfl, k2, ?_⟩
          refine ⟨hlt, Hs2, Fp', by rw [List.getElem?_set_ne (Ne.symm hij)]; exact s2, by rw [upd_ne hne]; exact a2, ?_⟩
          rw [List.set_set, clr_set hlt] at R'
          refine Rel.free R' (fun d z => ?_) _
          rw [List.getElem?_set_ne hij] at z
          have hjl : j < ρ.length := by rw [← R.lm]; exact hj
          rw [List.getElem?_set_self hjl] at z
          cases z
      · have e : k = ds.length := by omega
        subst e
        refine .inl ⟨⟨vs, q2, by omega⟩, ?_⟩
        have ec : clr ds.length ds = ds.map fun _ => .lst [] := by unfold clr; simp
        rw [ec] at R2
        exact p Hs2 H2 σ2 Fp2 R2
    · exact p.elim
  · exact p.elim
end
end G
/-! G: exceptions are raised; what a kept one is asked -/
namespace G
open PySem PySem.Spec L2
open PyProof.Rows hiding St
/-- __init__(self, x): self.f = x -/
def spO (C : Addr) (f : Str) : Sp := fun vs H Q _ => ∃ (a : Addr) (v : V), vs = [.ref a, v] ∧ H a = some (exo a C none) ∧ ∀ dx, H dx = none → dx ≠ a → Q .non (upd (upd H dx (exd dx [(f, v)])) a (exo a C (some dx)))
section
variable {P : Program} {w : World} {K : PySem.W.Frag} {mg : Str → Option Value} {base : Heap}
theorem fn_okO {x qual f : Str} {st : Stmt} {fa C : Addr} {fd : FuncData} {n0 n1 : Str} {k : Nat} (F : Fun K x qual st fa fd) (S : FnScope [n0, n1] [n0, n1] (defScope st)) (T : OexC K C) (hno : PySem.W.findIn K (.ref C) f = some none)
    (hb : ∀ (cdv : Value) (A : Around) (outer : List PySem.Env) (s : Shared) (H : Hp) (E : XK), PSs (cxOf (L2.CX P w) P w K mg base [n0, n1] qual (defScope st) fa cdv A outer s H E) (defBody st) (tOst K f (tVar 0) (tVar 1))) :
    FnOk P w K mg base (L2.CX P w) (k + 1) fa fd [n0, n1] (spO C f) := by
  refine F.okX S (fun vs H Q E h => ?_) (fun cdv A outer s H vs Q E hr h => ?_)
  · obtain ⟨a, v, rfl, _⟩ := h; rfl
  · obtain ⟨a, v, rfl, h1, h2⟩ := h
    refine ⟨_, hb cdv A outer s H E, ?_⟩
    refine ⟨v, rfl, .ref a, rfl, a, C, rfl, T, hno, .inl ⟨h1, fun dx n ne => h2 dx n ne⟩⟩
end
section
variable {X : Cx} {W : WX} {mx : Option Modes} {ml : Modes} {rm : Mode} {ms ms' : Modes} {e : Expr} {ev : Env → Rs D} {p pos pos2 : Pos} {c x f : Str} {C fI : Addr} {fd : FuncData} {ps : List Str} {k : Nat} {l : Lv}
/-- raise C(e), C keeps e as f -/
def sRaise1 (c f : Str) (ev : Env → Rs D) : Env → Out := fun ρ => sBind (ev ρ) ρ fun d => .exc c [(f, d)] ρ
def sRaise0 (c : Str) : Env → Out := fun ρ => .exc c [] ρ
/-- what the written part says of an own class with one field -/
structure ExF (K : PySem.W.Frag) (mg : Str → Option Value) (c : Str) (C fI : Addr) : Prop where
  g : mg c = some (.ref C)
  o : OexC K C
  i : PySem.W.findIn K (.ref C) "__init__" = some (some (.ref fI))
  t : PySem.W.typeIn K (.ref fI) = some (.type "function")
theorem js_raise1 (hx : XOk mx ms) (hc : X.calm = true) (T : ExF X.K X.mg c C fI) (F1 : FnOk X.prog X.w X.K X.mg X.base (L2.CX X.prog X.w) k fI fd ps (spO C f)) (hr : Room (k + 1) X.A) (hb : Binds X.K fd ps []) (hp : Passes (L2.CX X.prog X.w) X (fun _ _ _ => False)) (tk : Takes X W) (he : JG X W .s ms e ev)
    (hg : Gl X c := by rfl) (hdb : (c == ("__debug__" : Str)) = false := by decide) (hst : starEach (e :: []) X.env = (false, eval e X.env) :: starEach [] X.env := by rfl) (hpl : (backTo pos (starEach [] X.env)).any (·.1) = false := by rfl) :
    JS X W mx ml rm ms (.Raise (some (.Call (.Name c p) [e] [] pos)) none pos2) ms' (sRaise1 c f ev) := by
  obtain ⟨t, h1, h2⟩ := he
  refine ⟨_, ps_raise hc tk (pmk_oex T.o T.i T.t F1 hr hb .nil hp hg T.g (pa_cons h1 pa_nil hst) hdb hst hpl), fun B Hs H σ ρ Fp E R q => ?_⟩
  refine h2 B Hs H σ ρ Fp _ R (SPost.bind R hx q fun d v Hs1 H1 e1 R1 r q1 => ?_)
  refine ⟨by simp, fun a ha => ⟨a, v, rfl, upd_same, fun dx hdx hne => ⟨rfl, dx, [(f, v)], upd_same, ?_, ?_, ?_⟩⟩⟩
  · rw [upd_ne hne, upd_same]
  · rw [upd_ne hne] at hdx; exact hdx
  · rw [upd_ne hne] at hdx
    have eH : upd (del (upd (upd (upd H1 a (exo a C none)) dx (exd dx [(f, v)])) a (exo a C (some dx))) a) dx (.xd [(f, v)]) = upd H1 dx (.xd [(f, v)]) := by
      funext b
      by_cases hb : b = dx
      · subst hb; rw [upd_same, upd_same]
      · rw [upd_ne hb, upd_ne hb]
        by_cases hba : b = a
        · subst hba; rw [del_same, ha]
        · rw [del_ne hba, upd_ne hba, upd_ne hb, upd_ne hba]
    rw [eH]
    have ex : Ext Hs1 H1 (upd Hs1 dx (.xd [(f, v)])) (upd H1 dx (.xd [(f, v)])) := Ext.new e1.s2 hdx
    have at_ : ExcAt (mkM X) (upd Hs1 dx (.xd [(f, v)])) c [(f, d)] (.ref C) (some dx) := ⟨C, T.g, rfl, .inr ⟨f, v, d, dx, rfl, rfl, upd_same, (r.s).mono ex.s1⟩⟩
    have R2 := R1.step ex
    cases mx with
    | none => exact q1 _ _ σ (.ref C) (some dx) R2.ext at_
    | some m =>
      rcases hx with hx | hx
      · cases hx
      · cases hx; exact q1 _ _ σ Fp (.ref C) (some dx) R2 at_
/-- raise C('..'), C without a field -/
theorem js_raise0 (hx : XOk mx ms) (hc : X.calm = true) (tk : Takes X W) (h : PMk X e (fun _ H Q => Q (.ref C) none H)) (hm : X.mg c = some (.ref C)) :
    JS X W mx ml rm ms (.Raise (some e) none pos2) ms' (sRaise0 c) := by
  refine ⟨_, ps_raise hc tk h, fun B Hs H σ ρ Fp E R q => ?_⟩
  have at_ : ExcAt (mkM X) Hs c [] (.ref C) none := ⟨C, hm, rfl, .inl ⟨rfl, rfl⟩⟩
  have q1 : SPost X W mx ml rm B ms' E (.exc c [] ρ) := q
  cases mx with
  | none => exact q1 Hs H σ (.ref C) none R.ext at_
  | some m =>
    rcases hx with hx | hx
    · cases hx
    · cases hx; exact q1 Hs H σ Fp (.ref C) none R at_
/-! ### a kept exception -/
theorem xo_at {P : Program} {w : World} {H : Hp} {h : Heap} {C a : Addr} {d : Option Addr} (hok : HOk P w H h) (e : H a = some (xo C d a)) : ∃ (oe : Obj) (vs : Array Value), h.get? a = some oe ∧ Zc (.ref C) d oe ∧ oe.data = .fields vs := by
  have x : ObjOk P w H h a (.ext fun h => ∃ (oe : Obj) (vs : Array Value), h.get? a = some oe ∧ Zc (.ref C) d oe ∧ oe.data = .fields vs) := hok a _ e
  exact x.1
/-- e.f -/
def tXo (C : Addr) (f : Str) (te : TE) : TE := fun σ H Q => te σ H fun x H1 => ∃ (a dd : Addr) (fs : List (Str × V)) (v : V), x = .ref a ∧ H1 a = some (xo C (some dd) a) ∧ H1 dd = some (.xd fs) ∧ fs.lookup f = some v ∧ Q v H1
theorem pe_xo {te : TE} (T : XfC X.K C) (hno : PySem.W.findIn X.K (.ref C) f = some none) (he : PE X e te) (hb : attributeBase e f X.env (eval e X.env) = eval e X.env := by rfl) : PE X (.Attribute e f pos) (tXo C f te) := by
  refine ⟨fun pins s σ H Q I h => attr_of hb (thn (he.run pins s σ H _ I h) fun u s1 hh => ?_)⟩
  obtain ⟨x, H1, J1, rx, a, dd, fs, v, hxa, ha, hd, hl, q⟩ := hh
  subst hxa
  have hu : u = Value.ref a := rx
  subst hu
  obtain ⟨oe, vs, g1, g2, g3⟩ := xo_at J1.hok ha
  have hx : ObjOk X.prog X.w H1 s1.heap dd (.xd fs) := J1.hok dd _ hd
  obtain ⟨mA, hns, hr⟩ := hx
  obtain ⟨od, ho, hlk⟩ := lookIn_ns hns
  obtain ⟨y, hy, ry⟩ := RelO.some_of (v := v) (o := mA f) (by rw [← hl]; exact hr f)
  have J : PySem.W.InstAt s1.heap a oe C (some od) := ⟨g1, g2.1, by unfold PySem.W.notCls; rw [g3] <;> rfl, by rw [g2.2]; exact ho⟩
  exact HandSPX.exc_get J1.kIn J T.ga T.gg T.exC (PySem.W.findObj_own T.hdC hno rfl (by rw [hlk, hy])) (handed_of ry) ⟨v, H1, J1.tok _, ry, q⟩
/-- the field of a kept exception of the class c -/
def dXfld (c f : Str) : D → Rs D
  | .exc c' fs => if c' = c then (match fs.lookup f with
    | some d => .ok d
    | none => .bad) else .bad
  | _ => .bad
theorem je_xfld (hC : X.mg c = some (.ref C)) (T : XfC X.K C) (hno : PySem.W.findIn X.K (.ref C) f = some none) (he : JG X W .s ms e ev) (hb : attributeBase e f X.env (eval e X.env) = eval e X.env := by rfl) : JG X W .s ms (.Attribute e f pos) (v1 (dXfld c f) ev) := by
  obtain ⟨t, h1, h2⟩ := he
  refine ⟨_, pe_xo T hno h1 hb, fun B Hs H σ ρ Fp Q R p => h2 B Hs H σ ρ Fp _ R (p.seq fun d x Hs1 H1 _ e1 r q => ?_)⟩
  have dx := r.s
  unfold dXfld at q
  split at q
  · rename_i c' fs
    split at q
    · rename_i hc'
      subst hc'
      cases dx with
      | exc0 m h => cases q
      | @exc1 a dd C' _ g v d m h hd dv =>
        have hm : some (Value.ref C) = some (.ref C') := hC.symm.trans m
        cases hm
        have s2 := e1.s2
        cases z : (([(g, d)] : List (Str × D)).lookup f) with
        | none => rw [z] at q; exact q.elim
        | some d' =>
          rw [z] at q
          have hgf : g = f ∧ d' = d := by
            simp only [List.lookup] at z
            split at z
            · rename_i hb'
              cases z
              exact ⟨(eq_of_beq hb').symm, rfl⟩
            · cases z
          obtain ⟨rfl, rfl⟩ := hgf
          exact ⟨a, dd, [(g, v)], v, rfl, s2 _ _ h, s2 _ _ hd, by simp [List.lookup], q v Hs1 H1 (Ext.refl s2) (.of dv)⟩
    · exact q.elim
  · exact q.elim
/-- what a class says, for isinstance of its instances -/
structure XcC (K : PySem.W.Frag) (D : Addr) : Prop where
  ga : PySem.W.findIn K (.ref D) "__getattribute__" = some (some (.builtin "BaseException.__getattribute__"))
  gg : PySem.W.findIn K (.ref D) "__getattr__" = some none
  ex : PySem.W.subIn K (.ref D) (.type "BaseException") = some true
  hdc : PySem.W.hasDictIn K D = true
  cl : PySem.W.findIn K (.ref D) "__class__" = some (some (.builtin "object.__class__"))
  gs : PySem.W.specialIn K (.builtin "object.__class__") "__get__" = some (some (.builtin "getset_descriptor.__get__"))
  tk : PySem.W.takesIn K (.builtin "object.__class__") = some true
  mr : PySem.W.mroIn K D (.type "object") = some true
def rIsX (K : PySem.W.Frag) : List V → Hp → VK → Prop := fun xs H Q => ∃ (a D : Addr) (d : Option Addr) (cv : V) (u : Value) (b : Bool), xs = [.ref a, cv] ∧ H a = some (xo D d a) ∧ XcC K D ∧ (∀ dd, d = some dd → ∃ fs, H dd = some (.xd fs)) ∧ ClsV cv u ∧ PySem.W.kitOne K (.ref D) u = some b ∧ Q (.bl b) H
theorem call_isX : CallR X (.builtin "isinstance") (rIsX X.K) := by
  intro pins s σ H xs us Q I r h
  obtain ⟨a, D, d, cv, u, b, rfl, ha, T, hd, hcv, hk, q⟩ := h
  cases r with
  | cons rx rr =>
    cases rr with
    | cons rt rr =>
      cases rr
      cases rx
      have ec := hcv.eq rt
      subst ec
      obtain ⟨oe, vs, g1, g2, g3⟩ := xo_at I.hok ha
      have J : ∃ od, PySem.W.InstAt s.heap a oe D od := by
        cases d with
        | none => exact ⟨none, g1, g2.1, by unfold PySem.W.notCls; rw [g3] <;> rfl, by rw [g2.2]; trivial⟩
        | some dd =>
          obtain ⟨fs, hfs⟩ := hd dd rfl
          have hx : ObjOk X.prog X.w H s.heap dd (.xd fs) := I.hok dd _ hfs
          obtain ⟨mA, hns, _⟩ := hx
          obtain ⟨od, ho, _⟩ := lookIn_ns hns
          exact ⟨some od, g1, g2.1, by unfold PySem.W.notCls; rw [g3] <;> rfl, by rw [g2.2]; exact ho⟩
      obtain ⟨od, J⟩ := J
      have hcl : (PySem.W.clsIn X.K D).isSome = true := by
        have := T.hdc
        unfold PySem.W.hasDictIn at this
        cases z : PySem.W.clsIn X.K D with
        | some c => rfl
        | none => rw [z] at this; cases this
      exact PySem.W.kia_one (PySem.W.kitx_exc hcl T.ga T.gg T.ex T.cl T.gs T.tk T.mr) I.kIn J hk (fun z => nomatch z) fun tk => ⟨.bl b, H, I.kept (t' := tk) fun _ _ z => z, rfl, q⟩
end
end G
/-! G: a caught exception is kept in a name -/
namespace L2
open PySem PySem.Spec PyProof.Rows
/-- an exception that stays in a name -/
def xoV (cls : Value) (d : Option Addr) (a : Addr) : HO := .ext fun h => ∃ (oe : Obj) (vs : Array Value), h.get? a = some oe ∧ Zc cls d oe ∧ oe.data = .fields vs
section
variable {X : Cx} {pins : List (Addr × Obj)} {σ : St} {H : Hp} {s : Shared}
theorem Inv.keepX {a : Addr} {oe : Obj} {cls : Value} {d : Option Addr} {vs : Array Value} (I : Inv X ((a, oe) :: pins) σ H s) (hz : Zc cls d oe) (hd : oe.data = .fields vs) (h0 : X.s_0.heap.get? a = none) (hp : ∀ q ∈ X.pn ++ pins, q.1 ≠ a) : Inv X pins σ (upd H a (xoV cls d a)) s := by
  obtain ⟨g1, g2, g3, g4, g5⟩ := I.pin (a, oe) (List.mem_append_right _ List.mem_cons_self)
  have old : ∀ {b : Addr} {o : Obj}, X.s_0.heap.get? b = some o → b ≠ a := fun {b o} e z => by rw [z, h0] at e; cases e
  have had : ∀ {b : Addr} {o : HO}, H b = some o → b ≠ a := fun {b o} e z => by rw [z] at e; exact absurd (g2.symm.trans e) (fun y => nomatch y)
  have dn : ∀ {b : Addr} {o : HO}, X.H_0 b = some o → H b = some o → upd H a (xoV cls d a) b = some o := fun {b o} _ e => by rw [upd_ne (had e)]; exact e
  refine ⟨I.ok, I.os, I.bare, ⟨I.base.keep, I.base.slot, fun b o e n x => ?_, I.base.there, fun b xs e => ?_, fun b o u e => ?_, fun b ps e => ?_⟩, I.loc, I.cell, ?_, fun x c e => ?_, fun q hq => ?_, fun b o e => ?_, I.len⟩
  · rw [upd_ne (old e)]; exact I.base.free b o e n x
  · exact dn e (I.base.tups b xs e)
  · exact dn e (I.base.frzs b o u e)
  · obtain ⟨more, hm⟩ := I.base.tbls b ps e
    exact ⟨more, by rw [upd_ne (had hm)]; exact hm⟩
  · rw [upd_ne (Ne.symm g3)]; exact I.free
  · have hc : c ≠ a := fun z => by
      obtain ⟨v, o, e1, e2⟩ := I.cell x c e
      rw [z, g1] at e1
      cases e1
      exact g5 v (by first | exact e2 | exact e2.2 | exact e2.1)
    rw [upd_ne hc]; exact I.freeC x c e
  · obtain ⟨e1, e2, e3, e4, e5⟩ := I.pin q (by
      rcases List.mem_append.mp hq with h | h
      · exact List.mem_append_left _ h
      · exact List.mem_append_right _ (List.mem_cons_of_mem _ h))
    exact ⟨e1, by rw [upd_ne (hp q hq)]; exact e2, e3, e4, e5⟩
  · by_cases hb : b = a
    · subst hb
      rw [upd_same] at e
      cases e
      exact ⟨⟨oe, vs, g1, hz, hd⟩, ⟨_, g1⟩, fun h1 h2 z k => by
        obtain ⟨o', vs', q1, q2, q3⟩ := z
        exact ⟨o', vs', k _ q1, q2, q3⟩⟩
    · rw [upd_ne hb] at e
      exact (I.hok b o e).stay (fun c v _ z => z) (fun c hc => by rw [upd_ne (had hc)]; exact hc) (fun c xs hc => by rw [upd_ne (had hc)]; exact hc)
end
/-- what 'except x as n: k = n' wishes of an exception: slot i is n's, slot j is k's -/
def wKeep (K : PySem.W.Frag) (c : Value) (i j : Nat) (Wout : WX) (D : Ends) : WX := fun cls d σ H =>
  ∃ b, PySem.W.exmOne K cls c = some b ∧ (b = true → ∀ a, H a = none → D.nx (((σ.set i (some (.ref a))).set j (some (.ref a))).set i none) (upd H a (xoV cls d a))) ∧ (b = false → Wout cls d σ H)
section
variable {X : Cx} {x n : Str} {c : Value} {i j : Nat} {body suite : List Stmt} {b₀ : Stmt} {np pos pos' : Pos} {tb : WX → TS} {Wout : WX}
theorem ps_try_keep (hS : X.stack = X.env :: X.outer) (hF : X.env.frame = some X.env.locals) (hX : X.ex = []) (hND : X.N.Nodup) (hI : X.N[i]? = some n) (hLn : X.env.kindOf n = some .local) (hC : Names X x c) (tK : Takes X Wout)
    (hB : ∀ (W : WX) (pn : List (Addr × Obj)) (xe : Value → Shared → Prop), Takes (X.tr pn xe) W → PassesOwn (model X.prog X.w) X.A X.env xe → PSs (X.tr pn xe) body (tb W))
    (hU : ∀ (a : Addr) (oe : Obj) (pn : List (Addr × Obj)), PSs (X.suite a ((a, oe) :: pn)) (b₀ :: suite) (tAsg (tVar i) (gName j))) :
    PS X (.Try body [.ExceptHandler (some (.Name x np)) (some n) (b₀ :: suite) pos'] [] [] pos) (fun D σ H => tb (wKeep X.K c i j Wout D) D σ H) := by
  refine ⟨fun pins s σ H D Iv hw => ?_⟩
  have okX := Iv.ok
  have frX : X.A.frames = some (X.env :: X.outer) := by rw [okX.frames, hS]
  have locn : Loc X.env.scope n := .inl hLn
  refine wpAny_Try_except (wpAny_mono ((hB (wKeep X.K c i j Wout D) (X.pn ++ pins) (fun e s₁ => wpAny (model X.prog X.w) X.A (noteFrame e X.env) (fun _ s₂ => wpAny (model X.prog X.w) X.A (setFlight e none) (fun _ s₃ => wpAny (model X.prog X.w) X.A (handleBy e X.env [.ExceptHandler (some (.Name x np)) (some n) (b₀ :: suite) pos']) (SP X pins D) X.xe s₃) X.xe s₂) X.xe s₁)
    (fun u s' xx => ?caught) PassesOwn.looking).run [] s σ H D (Iv.toTry _) hw) (fun f s1 hsp => ?norm) (fun e s1 he => he))
  case norm =>
    cases f with
    | next => obtain ⟨σ1, H1, J1, q1⟩ := hsp; exact wpAny_execs_nil ⟨σ1, H1, J1.ofTry okX, q1⟩
    | brk => obtain ⟨σ1, H1, J1, q1⟩ := hsp; exact ⟨σ1, H1, J1.ofTry okX, q1⟩
    | cont => obtain ⟨σ1, H1, J1, q1⟩ := hsp; exact ⟨σ1, H1, J1.ofTry okX, q1⟩
    | ret u => obtain ⟨v1, σ1, H1, J1, r1, q1⟩ := hsp; exact ⟨v1, σ1, H1, J1.ofTry okX, r1, q1⟩
  case caught =>
    obtain ⟨a, B, sI, pins1, σ1, H1, cls, d, rfl, J1, nbX, upX, skyX, naX, osX, agX, b, hb1, hYes, hNo⟩ := xx
    have J : Inv X pins σ1 H1 sI := J1.ofTry okX
    have skyE : Sky B (X.env :: X.outer) a (Zc cls d) X.env.locals s'.heap := by rw [← hS]; exact skyX
    show wpAny (model X.prog X.w) X.A (noteFrame (.ref a) X.env) _ _ _
    refine Sky.land Zc.steady frX hF skyE fun hA flA upA => ?_
    have JA : Inv X pins σ1 H1 { s' with heap := hA } := J.landed nbX flA.1 (upX.trans upA) osX agX
    obtain ⟨oA, vA, heA, hzA, hdA⟩ := flA.there
    have aNot : a ∉ frs (X.env :: X.outer) := fun hm => by
      obtain ⟨_, o', e', hnf⟩ := flA.2.2.1.mem hm
      rw [heA] at e'; cases e'
      exact hnf _ hdA
    have aL : a ≠ X.env.locals := fun z => aNot (List.mem_filterMap.mpr ⟨X.env, List.mem_cons_self, by rw [hF, z]⟩)
    have aF : a ∉ X.fs := fun hm => by
      obtain ⟨e, he, q⟩ := List.mem_filterMap.mp hm
      exact aNot (List.mem_filterMap.mpr ⟨e, List.mem_cons_of_mem _ he, q⟩)
    have Bn : B.get? a = none := flA.2.1
    have notIn : ∀ {y : Addr} {o : Obj}, sI.heap.get? y = some o → y ≠ X.env.locals → y ∉ X.fs → y ≠ a := fun {y o} e nl nf z => by
      have hy : y ∉ frs X.stack := fun hm => by
        rw [hS] at hm
        obtain ⟨en, hen, q⟩ := List.mem_filterMap.mp hm
        rcases List.mem_cons.mp hen with rfl | hen
        · rw [hF] at q; exact nl (Option.some.inj q).symm
        · exact nf (List.mem_filterMap.mpr ⟨en, hen, q⟩)
      have := nbX y o e hy
      rw [z, Bn] at this; cases this
    have s0n : X.s_0.heap.get? a = none := by
      cases z : X.s_0.heap.get? a with
      | none => rfl
      | some o =>
        obtain ⟨o', e'⟩ := J.base.there a o z (by rw [hX]; simp)
        exact absurd rfl (notIn e' aL aF)
    have pinN : ∀ q ∈ X.pn ++ pins, q.1 ≠ a := fun q hq => by
      obtain ⟨e1, _, e3, e4, _⟩ := J.pin q hq
      exact notIn e1 e3 e4
    have SA := JA.suite heA hdA naX aL aF
    refine wpAny_handleBy_cons (codeAny_handlers_test ?_) (by intro q; cases q)
    have LkT : PySem.W.Looks (model X.prog X.w) hA (typeOf (.ref a)) cls := fun A Q E s k q => wpAny_typeOf_ref (k _ _ heA) (by rw [hzA.1]; exact q)
    have LkM := PySem.W.exm_one (M := model X.prog X.w) (JA.kIn) LkT hb1
    have tst : ∀ {Q : Value → Shared → Prop} {E : Value → Shared → Prop}, Q c { s' with heap := hA } → wpAny (model X.prog X.w) (X.A.mark (some (.ref a))) (eval (.Name x np) X.env) Q E { s' with heap := hA } := fun {Q E} q => by
      obtain ⟨hg, hdbg, hm | ⟨hm, hv, hnn⟩⟩ := hC
      · exact ld_glob (X := X.suite a ((a, oA) :: (X.pn ++ pins))) SA hg hm q hdbg
      · exact ld_blt (X := X.suite a ((a, oA) :: (X.pn ++ pins))) SA hg hm hv q hnn hdbg
    refine tst (LkM.here ?_)
    cases b with
    | true =>
      refine codeAny_handlers_suite_as (HandSPX.lands_againZ flA fun hB2 flB upB => ?_)
      have JB : Inv X pins σ1 H1 { s' with heap := hB2 } := J.landed nbX flB.1 ((upX.trans upA).trans upB) osX agX
      obtain ⟨oB, vB, heB, hzB, hdB⟩ := flB.there
      have SB := JB.suite heB hdB naX aL aF
      refine store_ok (X := X.suite a ((a, oB) :: (X.pn ++ pins))) (v := .ref a) SB hND hI locn rfl (fun s5 S5 => ?_) (.inr hLn)
      have hl : i < σ1.length := by
        have e1 := JB.len
        have e2 := (List.getElem?_eq_some_iff.mp hI).1
        omega
      refine wpAny_mono ((hU a oB (X.pn ++ pins)).run [] s5 _ H1 { nx := fun σ2 H2 => D.nx (σ2.set i none) (upd H2 a (xoV cls d a)), rt := fun _ _ => False, bk := fun _ _ => False, ct := fun _ _ => False } S5 ⟨.ref a, List.getElem?_set_self hl, hYes rfl a naX⟩) (fun f s6 hsp => ?_) (fun _ _ z => False.elim z)
      cases f with
      | next =>
        obtain ⟨σ6, H6, S6, q6⟩ := hsp
        have P6 : Inv X ((a, oB) :: pins) σ6 H6 s6 := (S6.unsuite okX).pins_of fun q hq => by
          rcases List.mem_cons.mp hq with e | h
          · rw [e]; exact S6.pin (a, oB) (List.mem_append_left _ List.mem_cons_self)
          · exact S6.pin q (List.mem_append_left _ (List.mem_cons_of_mem _ (List.mem_append_right _ h)))
        exact gone_ok P6 hND hI hLn fun s7 J7 => ⟨_, _, J7.keepX hzB hdB s0n pinN, q6⟩
      | brk => obtain ⟨_, _, _, q6⟩ := hsp; exact q6.elim
      | cont => obtain ⟨_, _, _, q6⟩ := hsp; exact q6.elim
      | ret u => obtain ⟨_, _, _, _, _, q6⟩ := hsp; exact q6.elim
    | false =>
      show wpAny _ X.A (handleBy (.ref a) X.env []) _ _ _
      refine wpAny_handleBy_nil ?_
      obtain ⟨k1, k2, k3, oe, vs, T, oT, ts', he, hz, hd, h1, hr⟩ := id flA
      unfold PySem.passOn
      refine wpAny_bind (wpAny_field he hd h1 ?_)
      rw [if_neg (show ¬ ((Value.ref T == Value.none) = true) from by simp)]
      have fin : wpAny (model X.prog X.w) X.A (setFlight (.ref a) X.env.frame) (fun _ s4 => wpAny (model X.prog X.w) X.A (throw (.ref a) : Sem Flow) (SP X pins D) X.xe s4) X.xe { s' with heap := hA } := by
        rw [hF]
        refine HandSPX.setFlight_upZ flA fun h4 hh4 up4 => wpAny_throw (tK _ _ ⟨a, B, sI, pins, σ1, H1, cls, d, rfl, J, nbX, (upX.trans upA).trans up4, .inr (.inr (by rw [hS]; exact hh4)), naX, osX, agX, hNo rfl⟩)
      first
        | exact wpAny_bind (wpAny_pure (wpAny_bind fin))
        | exact wpAny_bind fin
end
end L2
/-! G: try: .. except C as e: k = e; isinstance of an exception -/
namespace G
open PySem PySem.Spec L2
open PyProof.Rows hiding St
/-- the classes that are caught -/
inductive CatchT (K : PySem.W.Frag) (mg : Str → Option Value) (C : Value) : List Str → Prop
  | nil : CatchT K mg C []
  | cons {c : Str} {D : Addr} {cs : List Str} : mg c = some (.ref D) → PySem.W.exmOne K (.ref D) C = some true → CatchT K mg C cs → CatchT K mg C (c :: cs)
theorem CatchT.get {K : PySem.W.Frag} {mg : Str → Option Value} {C : Value} {c : Str} : ∀ {cs : List Str}, CatchT K mg C cs → c ∈ cs → ∃ D, mg c = some (.ref D) ∧ PySem.W.exmOne K (.ref D) C = some true
  | _, .nil, h => nomatch h
  | _, .cons m e t, h => by
    rcases List.mem_cons.mp h with rfl | h
    · exact ⟨_, m, e⟩
    · exact t.get h
def sTryK (cs : List Str) (i j : Nat) (eb : Env → Out) : Env → Out := fun ρ => match eb ρ with
  | .exc c fs ρ' => if c ∈ cs then .nx ((ρ'.set j (some (.exc c fs))).set i none) else .bad
  | o => o
section
variable {X : Cx} {W : WX} {mx : Option Modes} {ml : Modes} {rm : Mode} {ms ms' : Modes} {e a : Expr} {ev ea : Env → Rs D} {p pos pos2 : Pos} {l : Lv}
theorem js_tryKeep {x n : Str} {C : Value} {cs : List Str} {body suite : List Stmt} {b₀ : Stmt} {np pos' : Pos} {eb : Env → Out} (i j : Nat) (hS : X.stack = X.env :: X.outer) (hF : X.env.frame = some X.env.locals) (hX : X.ex = []) (hND : X.N.Nodup) (hC : Names X x C) (tK : Takes X W) (T : CatchT X.K X.mg C cs)
    (hB : ∀ (W' : WX) (pn : List (Addr × Obj)) (xe : Value → Shared → Prop), Takes (X.tr pn xe) W' → PassesOwn (model X.prog X.w) X.A X.env xe → JSs (X.tr pn xe) W' (some ms) ml rm ms body ms eb)
    (hU : ∀ (a : Addr) (oe : Obj) (pn : List (Addr × Obj)), PSs (X.suite a ((a, oe) :: pn)) (b₀ :: suite) (tAsg (tVar i) (gName j)))
    (hij : i ≠ j := by decide) (hm : md ms j = .S := by rfl) (hi : i < ms.length := by first | decide | simp) (hj : j < ms.length := by first | decide | simp) (hI : X.N[i]? = some n := by rfl) (hLn : X.env.kindOf n = some .local := by rfl) :
    JS X W mx ml rm ms (.Try body [.ExceptHandler (some (.Name x np)) (some n) (b₀ :: suite) pos'] [] [] pos) ms (sTryK cs i j eb) := by
  -- one reading of the body
  let tb : WX → TS := fun W' D σ H => ∀ (pn : List (Addr × Obj)) (xe : Value → Shared → Prop) (h1 : Takes (X.tr pn xe) W') (h2 : PassesOwn (model X.prog X.w) X.A X.env xe), (Classical.choose (hB W' pn xe h1 h2)) D σ H
  have hb : ∀ (W' : WX) (pn : List (Addr × Obj)) (xe : Value → Shared → Prop), Takes (X.tr pn xe) W' → PassesOwn (model X.prog X.w) X.A X.env xe → PSs (X.tr pn xe) body (tb W') := fun W' pn xe h1 h2 =>
    ⟨fun pins s σ H D I q => (Classical.choose_spec (hB W' pn xe h1 h2)).1.run pins s σ H D I (q pn xe h1 h2)⟩
  refine ⟨_, ps_try_keep hS hF hX hND hI hLn hC tK hb hU, fun B Hs H σ ρ Fp E R q => ?_⟩
  intro pn xe h1 h2
  refine (Classical.choose_spec (hB (wKeep X.K C i j W E) pn xe h1 h2)).2 B Hs H σ ρ Fp E R ?_
  have q' : SPost X W mx ml rm B ms E (match eb ρ with
    | .exc c fs ρ' => if c ∈ cs then .nx ((ρ'.set j (some (.exc c fs))).set i none) else .bad
    | o => o) := q
  cases z : eb ρ with
  | nx ρ' => rw [z] at q'; exact q'
  | bk ρ' => rw [z] at q'; exact q'
  | ct ρ' => rw [z] at q'; exact q'
  | rt d => rw [z] at q'; exact q'
  | bad => rw [z] at q'; exact q'.elim
  | exc c fs ρ' =>
    rw [z] at q'
    simp only at q'
    split at q'
    · rename_i hc
      intro Hs1 H1 σ1 Fp1 cls dd R1 at_
      obtain ⟨D, m1, m2⟩ := T.get hc
      obtain ⟨D', m3, m4, fld⟩ := at_
      have eD : some (Value.ref D) = some (.ref D') := m1.symm.trans m3
      cases eD
      subst m4
      refine ⟨true, m2, fun _ a na => ?_, fun h => nomatch h⟩
      have R1' : Rel (mkM X) B ms Hs1 H1 σ1 ρ' Fp1 := R1
      have ex : Ext Hs1 H1 (upd Hs1 a (xoV (.ref D) dd a)) (upd H1 a (xoV (.ref D) dd a)) := Ext.new R1'.sub na
      have nas : Hs1 a = none := R1'.sub.free na
      have R2 := R1'.step ex
      have dn : Den (mkM X) (upd Hs1 a (xoV (.ref D) dd a)) (.ref a) (.exc c fs) := by
        rcases fld with ⟨rfl, rfl⟩ | ⟨f, v, d, dx, rfl, rfl, hdx, dv⟩
        · exact .exc0 (C := D) m1 upd_same
        · have hne : dx ≠ a := fun y => by rw [y, nas] at hdx; cases hdx
          exact .exc1 (C := D) m1 upd_same (by rw [upd_ne hne]; exact hdx) (dv.mono ex.s1)
      have R3 := R2.put (v := .ref a) (d := .exc c fs) (m := .S) (F := []) hj (.sh dn) .nil (fun _ h => nomatch h) (fun _ _ _ h => nomatch h)
      have em : ms.set j .S = ms := by rw [← hm]; exact md_same hj
      rw [em] at R3
      have R4 := R3.takeOut i
      have hρl : i < (ρ'.set j (some (.exc c fs))).length := by rw [List.length_set, ← R1'.lm]; exact hi
      have R5 := Rel.free R4 (j := i) (fun d y => by rw [List.getElem?_set_self hρl] at y; cases y) none
      have es : (((σ1.set i (some (.ref a))).set j (some (.ref a))).set i none) = ((σ1.set j (some (.ref a))).set i none) := by
        rw [List.set_comm _ _ hij, List.set_set]
      rw [es]
      exact q' _ _ _ _ R5
    · exact q'.elim
/-! ### isinstance(e, C), e an exception -/
inductive IsT (K : PySem.W.Frag) (mg : Str → Option Value) (u : Value) : List (Str × Bool) → Prop
  | nil : IsT K mg u []
  | cons {c : Str} {b : Bool} {D : Addr} {t : List (Str × Bool)} : mg c = some (.ref D) → XcC K D → PySem.W.kitOne K (.ref D) u = some b → IsT K mg u t → IsT K mg u ((c, b) :: t)
theorem IsT.get {K : PySem.W.Frag} {mg : Str → Option Value} {u : Value} {c : Str} {b : Bool} : ∀ {t : List (Str × Bool)}, IsT K mg u t → t.lookup c = some b → ∃ D, mg c = some (.ref D) ∧ XcC K D ∧ PySem.W.kitOne K (.ref D) u = some b
  | _, .nil, h => nomatch h
  | _, .cons (c := c') m x k t, h => by
    simp only [List.lookup] at h
    split at h
    · rename_i hb
      cases h
      have := eq_of_beq hb
      subst this
      exact ⟨_, m, x, k⟩
    · exact t.get h
def isXF (t : List (Str × Bool)) : D → Rs D
  | .exc c _ => match t.lookup c with
    | some b => .ok (.bl b)
    | none => .bad
  | _ => .bad
theorem isX_core {u : Value} {cv : V} {t : List (Str × Bool)} {te : Expr} {p1 : Pos} (T : IsT X.K X.mg u t) (hm : X.mg "isinstance" = none) (hcv : ClsV cv u) (hpe : PE X te (tC cv)) (ha : JG X W .s ms a ea) (hg : Gl X "isinstance" := by rfl)
    (he : starEach (a :: [te]) X.env = (false, eval a X.env) :: starEach [te] X.env := by rfl) (he2 : starEach [te] X.env = (false, eval te X.env) :: starEach [] X.env := by rfl) (hpl : (backTo pos (starEach [te] X.env)).any (·.1) = false := by rfl) :
    JG X W .s ms (.Call (.Name "isinstance" p1) [a, te] [] pos) (v1 (isXF t) ea) := by
  obtain ⟨ta, h1, h2⟩ := ha
  refine ⟨_, pe_callB call_isX hg hm (by decide +kernel) (pa_cons h1 (pa_cons hpe pa_nil he2) he) (by decide) (by decide) he hpl, fun B Hs H σ ρ Fp Q R p => h2 B Hs H σ ρ Fp _ R (p.seq fun d x Hs1 H1 _ e1 r q => ?_)⟩
  have dx := r.s
  unfold isXF at q
  split at q
  · rename_i c fs _
    cases z : t.lookup c with
    | none => rw [z] at q; exact q.elim
    | some b =>
      rw [z] at q
      obtain ⟨D, m1, m2, m3⟩ := T.get z
      cases dx with
      | exc0 m h =>
        have eD := m1.symm.trans m
        cases eD
        exact ⟨_, D, _, cv, u, b, rfl, e1.s2 _ _ h, m2, (fun dd e => by cases e), hcv, m3, q _ Hs1 H1 (Ext.refl e1.s2) (.of (.bl _))⟩
      | exc1 m h hd dv =>
        have eD := m1.symm.trans m
        cases eD
        exact ⟨_, D, _, cv, u, b, rfl, e1.s2 _ _ h, m2, fun dd e => by cases e; exact ⟨_, e1.s2 _ _ hd⟩, hcv, m3, q _ Hs1 H1 (Ext.refl e1.s2) (.of (.bl _))⟩
  · exact q.elim
/-! ### l.index(True), l of truth values -/
def boolsOf : List D → Option (List Bool)
  | [] => some []
  | .bl b :: ds => (boolsOf ds).map (b :: ·)
  | _ => none
theorem boolsOf_some : ∀ {ds : List D} {bs : List Bool}, boolsOf ds = some bs → ds = bs.map .bl
  | [], _, h => by cases h; rfl
  | .bl b :: ds, _, h => by
    unfold boolsOf at h
    obtain ⟨bs, h1, rfl⟩ := Option.map_eq_some_iff.mp h
    rw [boolsOf_some h1]; rfl
theorem DenL.bools {M : MK} {H : Hp} : ∀ {bs : List Bool} {vs : List V}, DenL M H vs (bs.map .bl) → vs = bs.map .bl
  | [], _, .nil => rfl
  | b :: bs, _, .cons h t => by cases h; rw [DenL.bools t]; rfl
def idxB : List Bool → Bool → Option Nat
  | [], _ => none
  | n :: ns, k => if n = k then some 0 else (idxB ns k).map (· + 1)
theorem idxB_spec : ∀ {ns : List Bool} {k : Bool} {j : Nat}, idxB ns k = some j → ns[j]? = some k ∧ ∀ m z, m < j → ns[m]? = some z → z ≠ k
  | [], _, _, h => by cases h
  | n :: ns, k, j, h => by
    unfold idxB at h
    by_cases e : n = k
    · rw [if_pos e] at h
      cases h
      exact ⟨by simp [e], fun m z hm => absurd hm (Nat.not_lt_zero _)⟩
    · rw [if_neg e] at h
      obtain ⟨i, h1, rfl⟩ := Option.map_eq_some_iff.mp h
      obtain ⟨h2, h3⟩ := idxB_spec h1
      refine ⟨by simpa using h2, fun m z hm hz => ?_⟩
      cases m with
      | zero => simp at hz; rw [← hz]; exact e
      | succ m => exact h3 m z (by omega) (by simpa using hz)
def dIndexB (ds : List D) : D → Rs D
  | .bl k => match boolsOf ds with
    | some ns => match idxB ns k with
      | some j => .ok (.int (j : Nat))
      | none => .bad
    | none => .bad
  | _ => .bad
def eIndexB (eo ea : Env → Rs D) : Env → Rs D := fun ρ => (eo ρ).bind fun d => match d with
  | .lst ds => (ea ρ).bind fun e => dIndexB ds e
  | _ => .bad
theorem je_indexB {la : Lv} {ox ce : Expr} {eo : Env → Rs D} (hpe : ∀ tr ta, PE X ox tr → PE X a ta → PE X ce (tBM X.K "list" (rIndex X.K) tr (tCons ta tNil))) (ho : JG X W l ms ox eo) (ha : JG X W la ms a ea) : JG X W .s ms ce (eIndexB eo ea) := by
  obtain ⟨t, h1, h2⟩ := ho
  obtain ⟨u, k1, k2⟩ := ha
  refine ⟨_, hpe _ _ h1 k1, fun B Hs H σ ρ Fp Q R p => h2 B Hs H σ ρ Fp _ R (Post.seq p fun d x Hs1 H1 _ e1 r1 q1 => ?_)⟩
  have dx := r1.b e1.s2
  cases d with
  | lst ds =>
    cases dx with
    | lst g l =>
      rename_i a vs
      refine ⟨.inl ⟨rfl, vs, .inl g⟩, k2 B Hs1 H1 σ ρ Fp _ (R.step e1) (Post.seq q1 fun d2 y Hs2 H2 _ e2 r2 q2 => ?_)⟩
      unfold dIndexB at q2
      split at q2
      · rename_i k _
        have dy := r2.b e2.s2
        cases dy
        split at q2
        · rename_i ns hn
          split at q2
          · rename_i j hj
            rw [boolsOf_some hn] at l
            have e := l.bools
            subst e
            obtain ⟨j1, j2⟩ := idxB_spec hj
            refine ⟨a, ns.map V.bl, .bl k, j, .bl k, rfl, rfl, .inl (Same.rd e2.s3 g), rfl, ?_, ?_, ?_, fun m z' hm hz => ?_, q2 _ Hs2 H2 (Ext.refl e2.s2) (.of (.int _))⟩
            · rw [List.all_eq_true]
              intro v hv
              obtain ⟨n, _, rfl⟩ := List.mem_map.mp hv
              rfl
            · rw [List.getElem?_map, j1]; rfl
            · cases k <;> rfl
            · rw [List.getElem?_map] at hz
              obtain ⟨n, h5, rfl⟩ := Option.map_eq_some_iff.mp hz
              have := j2 m n hm h5
              cases n <;> cases k <;> first | rfl | exact absurd rfl this
          · exact q2.elim
        · exact q2.elim
      · exact q2.elim
  | _ => exact q1.elim
/-- None, held as anything -/
theorem je_nonM {m : Mode} {j : Nat} : JG X W (.own m) ms (.Constant .none j pos) (eC .non) :=
  ⟨_, pe_non, fun B Hs H σ ρ Fp Q R p => p .non Hs H (Ext.refl R.sub) ⟨[], .flat rfl .non, .nil, fun _ z => nomatch z⟩⟩
end
end G
/-! G: own exceptions without a field; raises never reach a block's end -/
namespace G
open PySem PySem.Spec L2
open PyProof.Rows hiding St
theorem nv_raise1 {c f : Str} {ev : Env → Rs D} : Never (sRaise1 c f ev) := fun ρ ρ' h => by
  unfold sRaise1 at h
  cases z : ev ρ <;> rw [z] at h <;> cases h
theorem nv_raise0 {c : Str} : Never (sRaise0 c) := fun ρ ρ' h => by cases h
theorem passX {X : Cx} : Passes (L2.CX X.prog X.w) X (fun _ _ _ => False) := passes_call (W := fun _ _ _ _ => False) L2.takes0 (fun _ _ _ _ h => h)
/-- what the written part says of an own class without __init__ -/
structure ExP (K : PySem.W.Frag) (mg : Str → Option Value) (c : Str) (C : Addr) : Prop where
  g : mg c = some (.ref C)
  q : PySem.W.excIn K C [.type "ValueError", .type "Exception", .type "BaseException", .type "object"] "ValueError.__new__" = true
  k : PySem.W.keepIn K (.ref C) = true
  s : PySem.W.subIn K (.ref C) (.type "BaseException") = some true
  t : PySem.W.typeIn K (.ref C) = some (.type "type")
section
variable {X : Cx} {W : WX} {mx : Option Modes} {ml : Modes} {rm : Mode} {ms ms' : Modes} {e : Expr} {ev : Env → Rs D} {p p2 pos pos2 : Pos} {c m : Str} {j : Nat} {C : Addr}
theorem js_raiseP (hx : XOk mx ms) (hc : X.calm = true) (tk : Takes X W) (T : ExP X.K X.mg c C) (hg : Gl X c := by rfl) (hdb : (c == ("__debug__" : Str)) = false := by decide) :
    JS X W mx ml rm ms (.Raise (some (.Call (.Name c p) [.Constant (.str m) j p2] [] pos)) none pos2) ms' (sRaise0 c) :=
  js_raise0 hx hc tk (pmk_own PySem.F.excBase_ValueError T.q T.g T.k (raises_own T.s T.t) hg hdb) T.g
theorem exm_kit {K : PySem.W.Frag} {C S : Value} (h1 : PySem.W.subIn K S (.type "BaseException") = some true) (h2 : PySem.W.kitCls K C S = some true) : PySem.W.exmOne K C S = some true := by
  have e1 : (PySem.W.subIn K S (.type "BaseException") == some true) = true := by rw [h1] <;> rfl
  unfold PySem.W.exmOne
  rw [if_pos e1]
  exact h2
theorem kit_own {K : PySem.W.Frag} {t : Value} {S : Addr} {b : Bool} (h0 : PySem.W.isClsIn K S = true) (h1 : PySem.W.typeIn K (.ref S) = some (.type "type")) (h2 : PySem.W.subIn K t (.ref S) = some b) : PySem.W.kitCls K t (.ref S) = some b := by
  have e : ((PySem.W.clsIn K S).isSome && PySem.W.typeIn K (.ref S) == some (.type "type")) = true := by
    have h0' : (PySem.W.clsIn K S).isSome = true := h0
    rw [h0', h1] <;> rfl
  show (if ((PySem.W.clsIn K S).isSome && PySem.W.typeIn K (.ref S) == some (.type "type")) = true then PySem.W.subIn K t (.ref S) else none) = some b
  rw [if_pos e]
  exact h2
theorem kit_ty {K : PySem.W.Frag} {t : Value} {T : String} {b : Bool} (h0 : PySem.W.kitMeta T = true) (h2 : PySem.W.subIn K t (.type T) = some b) : PySem.W.kitCls K t (.type T) = some b := by
  show (if PySem.W.kitMeta T = true then PySem.W.subIn K t (.type T) else none) = some b
  rw [if_pos h0]
  exact h2
theorem kit_one {K : PySem.W.Frag} {t c : Value} {b : Bool} (h : (t == c) = false) (h2 : PySem.W.kitCls K t c = some b) : PySem.W.kitOne K t c = some b := by
  unfold PySem.W.kitOne
  rw [h]
  exact h2
theorem kit_self {K : PySem.W.Frag} {t : Value} : PySem.W.kitOne K t t = some true := by
  unfold PySem.W.kitOne
  rw [if_pos (by simp)]
end
/-! ### for simp -/
@[simp] theorem sRaise1_ap {c f : Str} {ev : Env → Rs D} {ρ : Env} : sRaise1 c f ev ρ = sBind (ev ρ) ρ fun d => .exc c [(f, d)] ρ := rfl
@[simp] theorem sRaise0_ap {c : Str} {ρ : Env} : sRaise0 c ρ = .exc c [] ρ := rfl
@[simp] theorem isXF_hd {c : Str} {b : Bool} {t : List (Str × Bool)} {fs : List (Str × D)} : isXF ((c, b) :: t) (.exc c fs) = .ok (.bl b) := by
  have : List.lookup c ((c, b) :: t) = some b := by simp [List.lookup]
  unfold isXF
  simp only [this]
theorem isXF_tl {c c' : Str} {b : Bool} {t : List (Str × Bool)} {fs : List (Str × D)} (h : (c == c') = false) : isXF ((c', b) :: t) (.exc c fs) = isXF t (.exc c fs) := by
  have : List.lookup c ((c', b) :: t) = List.lookup c t := by simp only [List.lookup, h]
  unfold isXF
  simp only [this]
@[simp] theorem dXfld_hd {c f : Str} {d : D} : dXfld c f (.exc c [(f, d)]) = .ok d := by
  have : List.lookup f [(f, d)] = some d := by simp [List.lookup]
  unfold dXfld
  simp only [this, if_true]
@[simp] theorem eIndexB_ap {eo ea : Env → Rs D} {ρ : Env} : eIndexB eo ea ρ = (eo ρ).bind fun d => match d with
  | .lst ds => (ea ρ).bind fun e => dIndexB ds e
  | _ => .bad := rfl
@[simp] theorem isNonD_exc {c : Str} {fs : List (Str × D)} : isNonD (.exc c fs) = false := rfl
theorem sTryK_nx {cs : List Str} {i j : Nat} {eb : Env → Out} {ρ ρ' : Env} (h : eb ρ = .nx ρ') : sTryK cs i j eb ρ = .nx ρ' := by unfold sTryK; rw [h]
theorem sTryK_ex {cs : List Str} {i j : Nat} {eb : Env → Out} {ρ ρ' : Env} {c : Str} {fs : List (Str × D)} (h : eb ρ = .exc c fs ρ') (hc : c ∈ cs) : sTryK cs i j eb ρ = .nx ((ρ'.set j (some (.exc c fs))).set i none) := by
  unfold sTryK
  rw [h]
  simp only
  rw [if_pos hc]
end G
/-! G: l.pop(i) -/
namespace G
open PySem PySem.Spec L2
open PyProof.Rows hiding St
section
variable {X : Cx} {W : WX} {mx : Option Modes} {ml : Modes} {rm : Mode} {ms : Modes} {a ce ox : Expr} {ea : Env → Rs D} {st : Stmt}
def fPopAt (ds : List D) (e : D) : Option (List D) := match e with
  | .int i => if 0 ≤ i ∧ i < ds.length ∧ ds.length < 1000000 then some (ds.eraseIdx i.toNat) else none
  | _ => none
theorem seqIx {n : Nat} {i : Int} (h0 : 0 ≤ i) (h1 : i < n) : seqIndex? i n = some i.toNat := by
  unfold seqIndex?
  simp [h0, h1]
  omega
theorem DenL.erase {M : MK} {H : Hp} {vs : List V} {ds : List D} (n : Nat) (l : DenL M H vs ds) : DenL M H (vs.eraseIdx n) (ds.eraseIdx n) := by
  rw [List.eraseIdx_eq_take_drop_succ, List.eraseIdx_eq_take_drop_succ]
  exact (l.take n).append (l.drop (n + 1))
theorem js_popAt (i : Nat) (hx : XOk mx ms) (hpe : ∀ tr ta, PE X ox tr → PE X a ta → PE X ce (tBM X.K "list" rPopAt tr (tCons ta tNil))) (hst : ∀ te, PE X ce te → PS X st (tDrop te)) (hv : PE X ox (tVar i)) (he : JG X W .s ms a ea)
    (hm : md ms i = .O .S := by rfl) (hi : i < ms.length := by first | decide | simp) : JS X W mx ml rm ms st ms (sLm i ea fPopAt) := by
  obtain ⟨t, h1, h2⟩ := he
  refine js_lm (P := P1 X .s) (args := []) i hx hi hm (fun tr h => hpe tr t h h1) hst hv (arg1 h2) ?_
  intro B Hs0 H0 Hs H σ ρ Fp a vs ds F e xs ds' Q ex R0 R hσ ha ll hF hP hf k
  obtain ⟨x, rfl, r⟩ := hP
  unfold fPopAt at hf
  split at hf
  · rename_i j
    split at hf
    · rename_i c
      cases hf
      have dx := r.s
      cases dx
      obtain ⟨dl, rfl⟩ := ll.den_S
      have hl := dl.length
      have hj : j.toNat < vs.length := by omega
      exact ⟨a, vs, j, j.toNat, vs[j.toNat], rfl, rfl, ha, by omega, by omega, seqIx c.1 (by omega), List.getElem?_eq_getElem hj, k _ _ [] (OwnL.sh (dl.erase _)) .nil fun b hb => by cases hb⟩
    · cases hf
  · cases hf
end
end G
/-! G: a list's slice with a step -/
namespace L2
open PySem PySem.Spec
open PyProof.Rows hiding St
def stepX {α : Type} (xs : List α) (lo hi : Option Int) (st : Int) : List α :=
  (sliceRange (sliceBounds lo hi (some st) xs.length).1 (sliceBounds lo hi (some st) xs.length).2.1 (sliceBounds lo hi (some st) xs.length).2.2).filterMap (xs[·]?)
theorem Vals.pick {xs : List V} {us : List Value} (r : Vals xs us) : ∀ js : List Nat, Vals (js.filterMap (xs[·]?)) (js.filterMap (us[·]?))
  | [] => .nil
  | j :: js => by
    have ih := Vals.pick r js
    rw [List.filterMap_cons, List.filterMap_cons]
    cases h : xs[j]? with
    | none =>
      have : us[j]? = none := by
        rw [List.getElem?_eq_none_iff] at h ⊢
        rw [← r.length]; exact h
      rw [this]
      exact ih
    | some x =>
      obtain ⟨u, h2, h3⟩ := r.get h
      rw [h2]
      exact .cons h3 ih
theorem slicePick_step (its : List Value) (lo hi : Option Int) (st : Int) : slicePick its.toArray lo hi (some st) = (stepX its lo hi st).toArray := by
  unfold slicePick stepX
  simp only [List.size_toArray, List.getElem?_toArray]
theorem stepX_length (its : List Value) (lo hi : Option Int) (st : Int) : (stepX its lo hi st).length ≤ its.length := by
  have h := slicePick_size_le its.toArray lo hi (some st)
  rw [slicePick_step, List.size_toArray, List.size_toArray] at h
  exact h
section
variable {X : Cx} {e st : Expr} {te : TE} {lo hi : Option Expr} {tl th ts : TO} {pos p2 : Pos}
def rSl3 (K : PySem.W.Frag) : V → Option Int → Option Int → Option Int → Hp → VK → Prop := fun x lo hi st H Q => ∃ a xs c, x = .ref a ∧ SqL K H a xs ∧ st = some c ∧ c ≠ 0 ∧ ∀ p, H p = none → Q (.ref p) (upd H p (.lst (stepX xs lo hi c)))
def tSl3 (r : V → Option Int → Option Int → Option Int → Hp → VK → Prop) (te : TE) (tl th ts : TO) : TE := fun σ H Q => te σ H fun x H1 => tl σ H1 fun l H2 => th σ H2 fun u H3 => ts σ H3 fun c H4 => r x l u c H4 Q
theorem pe_slice3 (he : PE X e te) (hl : PO X lo tl) (hu : PO X hi th) (hst : PO X (some st) ts) : PE X (.Subscript e (.Slice lo hi (some st) p2) pos) (tSl3 (rSl3 X.K) te tl th ts) := by
  refine ⟨fun pins s σ H Q I h => ?_⟩
  refine Subscript_ (thn (he.run pins s σ H _ I h) fun v s1 ⟨x, H1, I1, r1, q1⟩ => ?_)
  refine wpAny_Slice (thn (hl.run pins s1 σ H1 _ I1 q1) fun vl s2 ⟨l, H2, I2, pl, q2⟩ => thn (hu.run pins s2 σ H2 _ I2 q2) fun vu s3 ⟨u, H3, I3, pu, q3⟩ => thn (hst.run pins s3 σ H3 _ I3 q3) fun vc s4 ⟨c0, H4, I4, pc, q4⟩ => ?_)
  obtain ⟨a, xs, c, rfl, hx, rfl, hc, q⟩ := q4
  cases r1
  have I5 : Inv X pins σ H4 { s4 with heap := s4.heap.push { cls := .type "slice", data := .fields #[vl, vu, vc] } } := I4.kept (t' := s4.toks) fun b ob q => Heap.get?_push_of_some _ q
  obtain ⟨its, r, ht, hz⟩ := I5.list hx
  have hlen := r.length
  have hg : wpAny (model X.prog X.w) X.A (getItem (.ref a) (.ref s4.heap.objs.size)) (EP X pins σ Q) X.xe { s4 with heap := s4.heap.push { cls := .type "slice", data := .fields #[vl, vu, vc] } } := by
    refine wpAny_getItem_list_slice ht.isList (Heap.IsSliceOf.new ..) pl pu pc (fun z => hc (by cases z; rfl)) ?_ (by rw [List.size_toArray] <;> omega)
    rw [slicePick_step]
    refine ⟨.ref _, _, I5.laid (t' := s4.toks) (o := .lst (stepX xs l u c)) (fun b ob q => Heap.get?_push_of_some _ q) (Nat.le_refl _) ?_, rfl, q _ (I5.hok.fresh (Nat.le_refl _))⟩
    have hv : Vals (stepX xs l u c) (stepX its l u c) := by
      unfold stepX
      rw [hlen]
      exact r.pick _
    refine ⟨Nat.le_trans (Nat.le_of_eq hv.length) (Nat.le_trans (stepX_length its l u c) (by omega)), _, 0, hv, Heap.get?_push_size _ rfl⟩
  show wpAny (model X.prog X.w) X.A (subscriptTail e (.Slice lo hi (some st) p2) (.ref a) (.ref s4.heap.objs.size)) (EP X pins σ Q) X.xe { s4 with heap := s4.heap.push { cls := .type "slice", data := .fields #[vl, vu, vc] } }
  exact tail_any (ops := [.ref a, .ref s4.heap.objs.size]) ht.isList.typeIs slot_list_getitem.lookup hg (by with_unfolding_all rfl)
end
end L2
namespace G
open PySem PySem.Spec L2
open PyProof.Rows hiding St
theorem DenL.pick {M : MK} {H : Hp} {vs : List V} {ds : List D} (r : DenL M H vs ds) : ∀ js : List Nat, DenL M H (js.filterMap (vs[·]?)) (js.filterMap (ds[·]?))
  | [] => .nil
  | j :: js => by
    have ih := DenL.pick r js
    rw [List.filterMap_cons, List.filterMap_cons]
    cases h : ds[j]? with
    | none =>
      have : vs[j]? = none := by
        rw [List.getElem?_eq_none_iff] at h ⊢
        rw [r.length]; exact h
      rw [this]
      exact ih
    | some x =>
      obtain ⟨u, h2, h3⟩ := r.get h
      rw [h2]
      exact .cons h3 ih
theorem DenL.step {M : MK} {H : Hp} {vs : List V} {ds : List D} (r : DenL M H vs ds) (lo hi : Option Int) (c : Int) : DenL M H (stepX vs lo hi c) (stepX ds lo hi c) := by
  unfold stepX
  rw [r.length]
  exact r.pick _
section
variable {X : Cx} {W : WX} {ms : Modes} {la : Lv} {a : Expr} {ea : Env → Rs D} {el eh es : Env → Rs (Option Int)} {pos p2 : Pos} {lo' hi' : Option Expr} {st' : Expr}
def dStep : D → Option Int → Option Int → Option Int → Rs D
  | .lst xs, lo, hi, some c => if c = 0 then .bad else .ok (.lst (stepX xs lo hi c))
  | _, _, _, _ => .bad
def eSl3 (ea : Env → Rs D) (el eh es : Env → Rs (Option Int)) : Env → Rs D := fun ρ => (ea ρ).bind fun d => (el ρ).bind fun lo => (eh ρ).bind fun hi => (es ρ).bind fun st => dStep d lo hi st
theorem je_sl3 (hl : la.sh = true) (ha : JG X W la ms a ea) (h1 : JP X W ms lo' el) (h2 : JP X W ms hi' eh) (h3 : JP X W ms (some st') es) : JG X W .f ms (.Subscript a (.Slice lo' hi' (some st') p2) pos) (eSl3 ea el eh es) := by
  obtain ⟨ta, a1, a2⟩ := ha
  obtain ⟨tl, l1, l2⟩ := h1
  obtain ⟨tu, k1, k2⟩ := h2
  obtain ⟨ts, c1, c2⟩ := h3
  refine ⟨_, pe_slice3 a1 l1 k1 c1, fun B Hs H σ ρ Fp Q R p => ?_⟩
  refine a2 B Hs H σ ρ Fp _ R (p.seq fun d x Hs1 H1 _ e1 r1 q1 => ?_)
  refine l2 B Hs1 H1 σ ρ Fp _ (R.step e1) (q1.seq fun l l' Hs2 H2 _ e2 r2 q2 => ?_)
  refine k2 B Hs2 H2 σ ρ Fp _ (R.step (e1.trans e2)) (q2.seq fun u u' Hs3 H3 _ e3 r3 q3 => ?_)
  refine c2 B Hs3 H3 σ ρ Fp _ (R.step ((e1.trans e2).trans e3)) (q3.seq fun c c' Hs4 H4 _ e4 r4 q4 => ?_)
  subst r2 r3 r4
  have rx := r1.ext ((e2.trans e3).trans e4)
  cases d with
  | lst xs =>
    cases c' with
    | none => exact q4.elim
    | some z =>
      have q5 : Post X W (PV X .f) Hs4 H4 σ Q (if z = 0 then .bad else .ok (.lst (stepX xs l' u' z))) := q4
      by_cases hz : z = 0
      · rw [if_pos hz] at q5; exact q5.elim
      · rw [if_neg hz] at q5
        obtain ⟨a, vs, rfl, g1, ll, s1, _⟩ := rx.lst e4.s2
        exact ⟨a, vs, z, rfl, .inl g1, rfl, hz, fun q np => q5 _ _ _ (Ext.newO e4.s2 np) (new_lst e4.s2 np ((s1 hl).step _ _ z))⟩
  | _ => exact q4.elim
end
end G
/-! G: two readings of one expression; calls without arguments -/
namespace G
open PySem PySem.Spec L2
open PyProof.Rows hiding St
section
variable {X : Cx} {W : WX} {ms : Modes} {e : Expr} {l : Lv}
/-- the second reading where the first one tells nothing -/
def orE (f g : Env → Rs D) : Env → Rs D := fun ρ => match f ρ with
  | .bad => g ρ
  | r => r
theorem je_orE {f g : Env → Rs D} (h : JG X W l ms e f) (k : JG X W l ms e g) : JG X W l ms e (orE f g) := by
  obtain ⟨t, h1, h2⟩ := h
  obtain ⟨u, k1, k2⟩ := k
  refine ⟨_, PE.or h1 k1, fun B Hs H σ ρ Fp Q R p => ?_⟩
  unfold orE at p
  cases z : f ρ with
  | bad => rw [z] at p; exact .inr (k2 B Hs H σ ρ Fp Q R p)
  | ok d => rw [z] at p; exact .inl (h2 B Hs H σ ρ Fp Q R (by rw [z]; exact p))
  | exc c fs => rw [z] at p; exact .inl (h2 B Hs H σ ρ Fp Q R (by rw [z]; exact p))
end
section
variable {X : Cx} {W : WX} {ms : Modes} {k : Nat} {f : Addr} {fd : FuncData} {rm : Mode} {g : List D → Rs D} {x : Str} {p pos : Pos}
theorem pe_callS0 {sp : Sp} {E : St → XK} (F : FnOk X.prog X.w X.K X.mg X.base (L2.CX X.prog X.w) k f fd [] sp) (hr : Room k X.A) (hg : Gl X x) (hm : X.mg x = some (.ref f)) (hk : PySem.W.keepIn X.K (.ref f) = true) (hb : Binds X.K fd [] []) (hx : ∀ σ, PassesAt (L2.CX X.prog X.w) X σ (E σ))
    (hdb : (x == ("__debug__" : Str)) = false := by decide) : PE X (.Call (.Name x p) [] [] pos) (tCallS sp E tNil) := by
  refine ⟨fun pins s σ H Q I h => ?_⟩
  refine wpAny_Call_Name_kw (ld_glob I hg hm ?_ hdb)
  exact PySem.W.callWith_K0 I.kIn hk (run_fnS (us := []) F hr hb (hx σ) I .nil h)
theorem je_fn0 (F : FnOk X.prog X.w X.K X.mg X.base (L2.CX X.prog X.w) k f fd [] (spD (mkM X) rm g)) (hr : Room k X.A) (hm : X.mg x = some (.ref f)) (hk : PySem.W.keepIn X.K (.ref f) = true) (hb : Binds X.K fd [] []) (tk : Takes X W)
    (hg : Gl X x := by rfl) (hdb : (x == ("__debug__" : Str)) = false := by decide) : JG X W (.own rm) ms (.Call (.Name x p) [] [] pos) (eFn g aNil) := by
  refine ⟨_, pe_callS0 F hr hg hm hk hb (fun σ => passAt tk σ) hdb, fun B Hs H σ ρ Fp Q R p => ?_⟩
  have p' : Post X W (PV X (.own rm)) Hs H σ Q (g []) := p
  refine ⟨Hs, [], R.sub, .nil, ?_⟩
  cases z : g [] with
  | ok d => rw [z] at p'; exact fun v Hs' H' e r => p' v Hs' H' e r
  | exc c fs => rw [z] at p'; exact fun Hs' H' cls dd e r => p' Hs' H' cls dd e r
  | bad => rw [z] at p'; exact p'
end
@[simp] theorem orE_ap {f g : Env → Rs D} {ρ : Env} : orE f g ρ = match f ρ with
  | .bad => g ρ
  | r => r := rfl
theorem dXfld_tl {c c' f : Str} {fs : List (Str × D)} (h : c ≠ c') : dXfld c' f (.exc c fs) = .bad := by
  unfold dXfld
  simp only [if_neg h]
end G
/-! G: sorted and min of a tuple of ints -/
namespace PyProof.Rows
open PySem
section
variable {prog : Program} {w : World} {A : Around} {E : Value → Shared → Prop} {s : Shared}
theorem collect_tup {l : Addr} {vs : List Value} {Q : List Value → Shared → Prop} (hl : IsTup s.heap l vs.toArray)
    (h : Q vs { s with heap := (s.heap.push (seqObj "list" #[] 0)).update s.heap.objs.size (Obj.mapSeq (· ++ vs.toArray)) }) (hsz : vs.length ≤ sizeLine) :
    wpAny (model prog w) A (collect (.ref l)) Q E s := by
  obtain ⟨o, ho, hc, n, hd⟩ := id hl
  unfold collect
  refine wpAny_bind (wpAny_runValue (codeAny_builtin entry_proto_collect' ?_))
  show wpAny _ _ (do again (.builtin "list.__iadd__" ⟨[← newList [], .ref l], []⟩)) _ _ s
  refine wpAny_bind (wpAny_newList (wpAny_pure ⟨Code.quiet_builtin _ (by decide +kernel), codeAny_builtin entry_list_iadd' ?_⟩))
  show wpAny _ _ (Builtin.List.listExtendWith (.ref s.heap.objs.size) (.ref l) (.ref s.heap.objs.size)) _ _ { s with heap := s.heap.push (seqObj "list" #[] 0) }
  unfold Builtin.List.listExtendWith
  have ho' : (s.heap.push (seqObj "list" #[] 0)).get? l = some o := Heap.get?_push_of_some _ ho
  refine wpAny_bind (wpAny_typeOf (T := "tuple") ⟨o, ho', hc⟩ ?_)
  have ht : (Value.type "tuple" == Value.type "tuple") = true := by rfl
  rw [if_pos (by rw [ht]; simp)]
  refine wpAny_bind (listItems_at ho' hd ?_)
  refine wpAny_bind (listItems_at (xs := #[]) (n := 0) (Heap.get?_push_size _ rfl) rfl ?_)
  rw [if_neg (by simp)]
  refine wpAny_bind (listUpdate_at (xs := #[]) (n := 0) (Heap.get?_push_size _ rfl) rfl ?_ (Nat.zero_le _) (by show (#[] ++ vs.toArray).size ≤ sizeLine + 1; simp only [Array.size_append, List.size_toArray, List.length_nil]; omega))
  refine wpAny_pure ?_
  show wpAny (model prog w) A (do
      let o ← load s.heap.objs.size
      match o.data with
      | .seq xs _ => pure xs.toList
      | _ => unsupported "internal:collect") Q E { s with heap := (s.heap.push (seqObj "list" #[] 0)).update s.heap.objs.size (Obj.mapSeq (· ++ vs.toArray)) }
  refine wpAny_bind (wpAny_load (get?_update_seq (Heap.get?_push_size _ rfl) _) ?_)
  show wpAny _ _ (pure ((#[] : Array Value) ++ vs.toArray).toList) Q E _
  rw [show ((#[] : Array Value) ++ vs.toArray).toList = vs by simp]
  exact wpAny_pure h
end
end PyProof.Rows
namespace SrtO
open PySem PyProof.Rows Srt
section
variable {prog : Program} {w : World} {A : Around} {E : Value → Shared → Prop} {s : Shared}
theorem sorted_ordT {l : Addr} {vs : List Value} {ltv : Value → Value → Bool} {Q : Value → Shared → Prop} (O : Swo ltv) (hl : IsTup s.heap l vs.toArray) (hz : vs.length ≤ sizeLine)
    (hS : 2 ≤ vs.length → ∀ (h₁ : Heap) (a : Addr), h₁.get? a = some (seqObj "list" vs.toArray 0) → (∀ b o, s.heap.get? b = some o → b ≠ a ∧ h₁.get? b = some o) → SortableO prog w A.in1.in1 { s with heap := h₁ } a vs ltv)
    (h : ∀ out : List Value, Srtd ltv out → Stb ltv out vs → Q (.ref (s.heap.objs.size + 1)) { s with heap := sortedAll s.heap vs out.toArray }) :
    wpAny (model prog w) A (call (.builtin "sorted") [.ref l]) Q E s := by
  refine Calls.call_function_entry kind_sorted plain_sorted entry_sorted (args_sorted1 _) ?_
  unfold Builtin.«sorted»
  refine wpAny_bind (m := checkCount "sorted" 1 1 _) (wpAny_pure ?_)
  refine wpAny_bind (collect_tup hl ?_ hz)
  refine wpAny_bind (wpAny_newList ?_ hz)
  have hsz : ((s.heap.push (seqObj "list" #[] 0)).update s.heap.objs.size (Obj.mapSeq (· ++ vs.toArray))).objs.size = s.heap.objs.size + 1 := by
    rw [Heap.size_update, size_push']
  have hoL : (((s.heap.push (seqObj "list" #[] 0)).update s.heap.objs.size (Obj.mapSeq (· ++ vs.toArray))).push (seqObj "list" vs.toArray 0)).get? (s.heap.objs.size + 1) = some (seqObj "list" vs.toArray 0) := by
    rw [← hsz]; exact Heap.get?_push_size _ rfl
  have keep : ∀ b o, s.heap.get? b = some o → b ≠ s.heap.objs.size + 1 ∧ (((s.heap.push (seqObj "list" #[] 0)).update s.heap.objs.size (Obj.mapSeq (· ++ vs.toArray))).push (seqObj "list" vs.toArray 0)).get? b = some o := fun b o q => by
    have hlt : b < s.heap.objs.size := Heap.lt_size q
    refine ⟨Nat.ne_of_lt (Nat.lt_succ_of_lt hlt), Heap.get?_push_of_some _ ?_⟩
    rw [Heap.get?_update_ne _ _ _ _ (Nat.ne_of_lt hlt)]
    exact Heap.get?_push_of_some _ q
  show wpAny _ _ _ _ _ { s with heap := ((s.heap.push (seqObj "list" #[] 0)).update s.heap.objs.size (Obj.mapSeq (· ++ vs.toArray))).push (seqObj "list" vs.toArray 0) }
  rw [hsz]
  refine wpAny_bind (wpAny_holding (wpAny_call_entry slot_list_sort ⟨_, hoL, rfl⟩ entry_list_sort (list_sort_ord O hoL hz (fun h2 => hS h2 _ _ hoL keep) fun out hs hb => ⟨_, rfl, ?_⟩) (args_list_sort _)))
  exact wpAny_pure ⟨_, rfl, h out hs hb⟩
end
end SrtO
namespace L2
open PySem PySem.Spec
open PyProof.Rows hiding St
section
variable {prog : Program} {w : World} {A : Around} {E : Value → Shared → Prop} {s : Shared}
theorem min_rawT {l : Addr} {its : List Value} {ns : List Int} {Q : Value → Shared → Prop} (hh : A.handled = none) (hl : IsTup s.heap l its.toArray) (hi : IntsAre its ns) (hne : 0 < ns.length)
    (h : ∀ h' tk M t', (∀ b o, s.heap.get? b = some o → h'.get? b = some o) → M ∈ ns → (∀ a, a ∈ ns → M ≤ a) → Q (.int M t') { s with heap := h', toks := tk }) : wpAny (model prog w) A (call (.builtin "min") [.ref l]) Q E s := by
  obtain ⟨xs, e⟩ := hi.allInts.items
  have hn : numsOf (intItems xs).toList = ns := by rw [← e]; exact hi.numsOf
  rw [nums_intItems] at hn
  subst hn
  rw [e] at hl
  have hsz : 0 < xs.size := by simpa using hne
  have hlT : s.heap.IsTuple l (intItems xs) := hl
  have hlt : l < s.heap.objs.size := by obtain ⟨_, e, _⟩ := hlT; exact Heap.lt_size e
  refine PySem.call_min_walk (wpAny_pyIter_tuple hlT ?_)
  have hT2 : (s.heap.push { cls := .type "tuple_iterator", data := .fields #[.ref l, .int 0 0] }).IsTuple l (intItems xs) := by
    obtain ⟨o, ho, r⟩ := hlT
    exact ⟨o, Heap.get?_push_of_some _ ho, r⟩
  refine ⟨_, _, _, _, _, _, _, rfl, Walks.tuple (A := A.in1) hh s.heap.objs.size l (Nat.ne_of_lt hlt) (intItems xs), ⟨⟨_, Heap.get?_push_size _ rfl, rfl, rfl⟩, hT2⟩, fun b hb => ?_, by simpa [intItems] using hsz, CmpOf.ints_lt (numAt xs) (fun _ _ => intItems_at), fun v h' tk hv hk => ?_⟩
  · show b < (s.heap.push _).objs.size
    rw [Heap.size_push]
    rcases List.mem_cons.mp hb with rfl | hb
    · exact Nat.lt_succ_self _
    · rcases List.mem_cons.mp hb with rfl | hb
      · exact Nat.lt_succ_of_lt hlt
      · cases hb
  · have hv : (intItems xs)[argBest (fun i j => decide (numAt xs i < numAt xs j)) (xs.size - 1)]? = some v := by simpa [intItems] using hv
    obtain ⟨t, rfl⟩ := intItems_at hv
    obtain ⟨h1, h2⟩ := argBest_lt (numAt xs) (xs.size - 1)
    refine h h' tk _ t (fun b o e => hk b o (fun hb => ?_) (Heap.get?_push_of_some _ e)) ?_ fun a ha => ?_
    · have q1 : b = s.heap.objs.size := by simpa using hb
      have q2 : b < s.heap.objs.size := Heap.lt_size e
      exact absurd q1 (Nat.ne_of_lt q2)
    · rw [numAt_eq]; exact PySem.getD_mem (by rw [List.length_map, Array.length_toList]; omega)
    · obtain ⟨j, hj, rfl⟩ := mem_getD ha
      rw [List.length_map, Array.length_toList] at hj
      rw [← numAt_eq]; exact h2 j (by omega)
end
section
variable {X : Cx}
def rSortedIT (K : PySem.W.Frag) : List V → Hp → VK → Prop := fun vs H Q => ∃ (a : Addr) (ns : List Int), vs = [V.ref a] ∧ SqT K H a (ns.map V.int) ∧ ∀ (ns' : List Int) (p : Addr), ns'.Perm ns → ns'.Pairwise (· ≤ ·) → H p = none → Q (.ref p) (upd H p (.lst (ns'.map V.int)))
theorem cr_sortedIT : CallR X (.builtin "sorted") (rSortedIT X.K) := by
  intro pins s σ H vs us Q I r h
  obtain ⟨a, ns, rfl, hs, q⟩ := h
  obtain ⟨its, rv, hl, hz⟩ := I.tuple hs
  rw [Vals.ref1 r]
  have hi := rv.ints
  refine SrtO.sorted_ordT SrtO.swo_int hl (by rw [← rv.length]; exact hz) (fun h2 h₁ a' _ _ => SrtO.ints_sortable hi h2) fun out h1 h2 => ?_
  obtain ⟨k1, k2, k3⟩ := SrtO.ints_out hi h1 h2
  obtain ⟨ep, he'⟩ := PyProof.Rows.sortedAll_at s.heap its out.toArray
  have hlen : ((out.map SrtO.iv).map V.int).length ≤ sizeLine := by
    rw [List.length_map, k2.length_eq]
    rw [List.length_map] at hz
    exact hz
  exact ⟨.ref _, upd H (s.heap.objs.size + 1) (.lst ((out.map SrtO.iv).map V.int)), I.laid (t' := s.toks) (fun _ _ => PyProof.Rows.sortedAll_old) (Nat.le_succ _) ⟨hlen, out, ep, vals_of_ints k1, he'⟩, rfl, q _ _ k2 k3 (I.hok.fresh (Nat.le_succ _))⟩
def rMinT (K : PySem.W.Frag) : List V → Hp → VK → Prop := fun vs H Q => ∃ (a : Addr) (ns : List Int), vs = [V.ref a] ∧ SqT K H a (ns.map V.int) ∧ 0 < ns.length ∧ ∀ m, m ∈ ns → (∀ y, y ∈ ns → m ≤ y) → Q (.int m) H
theorem cr_minT (hc : X.calm = true) : CallR X (.builtin "min") (rMinT X.K) := by
  intro pins s σ H vs us Q I r h
  obtain ⟨a, ns, rfl, hs, hne, q⟩ := h
  obtain ⟨its, rv, hl, _⟩ := I.tuple hs
  rw [Vals.ref1 r]
  exact min_rawT (I.ok.hd hc) hl rv.ints hne fun h' tk m t' hk h1 h2 => ⟨.int _, H, I.kept hk, ⟨_, rfl⟩, q m h1 h2⟩
end
end L2
namespace G
open PySem PySem.Spec L2
open PyProof.Rows hiding St
section
variable {X : Cx} {W : WX} {lo : Lv}
theorem intsOf_den {M : MK} {H : Hp} {vs : List V} {ds : List D} {ns : List Int} (l : DenL M H vs ds) (h : intsOf ds = some ns) : vs = ns.map V.int := by
  have : ds = ns.map D.int := intsOf_some h
  subst this
  exact l.ints
def dIntsT (g : List Int → Rs D) : List D → Rs D
  | [.tup ds] => match intsOf ds with
    | some ns => g ns
    | none => .bad
  | _ => .bad
theorem oc_intsT {g : List Int → Rs D} {k : List V → Hp → VK → Prop} (h : ∀ (H0 Hs H : Hp) (σ : St) ns (a : Addr) (Q : VK), Same Hs H → SqT X.K H a (ns.map V.int) → Post X W (PV X lo) Hs H σ Q (g ns) → k [.ref a] H Q) : OC X W .s lo k (dIntsT g) := by
  intro H0 Hs H σ xs ds Q s rx p
  unfold dIntsT at p
  split at p
  · obtain ⟨v, rfl, r⟩ := rx.one
    split at p
    · rename_i ns hn
      have dn := r.s
      cases dn with
      | tup h1 l1 =>
        have e := intsOf_den l1 hn
        subst e
        exact h H0 Hs H σ ns _ Q s (SqT.of (s _ _ h1)) p
    · exact p.elim
  · exact p.elim
def dSortIT : List D → Rs D := dIntsT fun ns => .ok (.lst ((sortI ns).map .int))
theorem oc_sortIT : OC X W .s .f (rSortedIT X.K) dSortIT := oc_intsT fun H0 Hs H σ ns a Q s hq p => ⟨a, ns, rfl, hq, fun ns' q h1 h2 np => by
  have e : ns' = sortI ns := sorted_same (h1.trans (sortI_perm ns).symm) h2 (sortI_sorted ns)
  subst e
  exact p _ _ _ (Ext.newO s np) (new_lst s np (DenL.of_ints _))⟩
def dMinT : List D → Rs D := dIntsT fun ns => if ns.isEmpty then .bad else .ok (.int (minL ns))
theorem oc_minT : OC X W .s .s (rMinT X.K) dMinT := oc_intsT fun H0 Hs H σ ns a Q s hq p => by
  cases ns with
  | nil => exact p.elim
  | cons n ns => exact ⟨a, n :: ns, rfl, hq, by simp, fun m h1 h2 => by rw [minL_is h1 h2]; exact p _ Hs H (Ext.refl s) (.of (.int _))⟩
end
end G
/-! G: set(t) == set(u), set(t) != set(u) of tuples of ints -/
namespace L2
open PySem PySem.Spec
open PyProof.Rows hiding St
theorem entry_set_ne : entryFor table "set.__ne__" = some Builtin.«frozenset.__ne__» :=
  entryFor_alias (id' := "frozenset.__ne__") (by kernel_rfl) rfl (by decide +kernel) (by kernel_rfl)
theorem entry_set_eq : entryFor table "set.__eq__" = some Builtin.«frozenset.__eq__» :=
  entryFor_alias (id' := "frozenset.__eq__") (by kernel_rfl) rfl (by decide +kernel) (by kernel_rfl)
section
variable {P : Program} {w : World} {A : Around} {E : Value → Shared → Prop} {s : Shared} {a b : Addr} {S T : Int → Bool} {n m : Nat}
theorem set_sub_set : isSubtype (.type "set") (.type "set") = pure true := by rw [isSubtype_type]; kernel_rfl
theorem set_sub_fz : isSubtype (.type "set") (.type "frozenset") = pure false := by rw [isSubtype_type]; kernel_rfl
theorem quietEq_good {e : Int × Value} (g : GoodE e) : Builtin.Frozenset.quietEq e.2 = pure true := by
  obtain ⟨k, tk, h, _⟩ := g
  rw [h]; rfl
theorem sizeOf_set {o : Obj} {es : Array (Int × Value)} {ep : Nat} {t : SetTable} {Q : Nat → Shared → Prop} (ho : s.heap.get? a = some o) (hd : o.data = .set es ep t) (hf : t.fits es.size = true) (h : Q es.size s) : wpAny (model P w) A (Builtin.Frozenset.sizeOf a) Q E s := by
  unfold Builtin.Frozenset.sizeOf setEntries
  exact wpAny_bind (wpAny_bind (wpAny_setState_of ho hd hf (wpAny_pure (wpAny_pure h))))
theorem entries_set {o : Obj} {es : Array (Int × Value)} {ep : Nat} {t : SetTable} {Q : Array (Int × Value) → Shared → Prop} (ho : s.heap.get? a = some o) (hd : o.data = .set es ep t) (hf : t.fits es.size = true) (h : Q es s) : wpAny (model P w) A (setEntries a) Q E s := by
  unfold setEntries
  exact wpAny_bind (wpAny_setState_of ho hd hf (wpAny_pure h))
/-- a loop that does nothing -/
theorem for_quiet {α β : Type} {f : α → β → Sem (ForInStep β)} {b0 : β} {Q : β → Shared → Prop} : ∀ {l : List α}, (∀ x ∈ l, f x b0 = pure (.yield b0)) → Q b0 s → wpAny (model P w) A (forIn l b0 f) Q E s
  | [], _, q => by rw [List.forIn_nil]; exact wpAny_pure q
  | x :: l, h, q => by
    rw [List.forIn_cons, h x List.mem_cons_self]
    refine wpAny_bind (wpAny_pure ?_)
    exact for_quiet (fun y hy => h y (List.mem_cons_of_mem _ hy)) q
/-- a set of ints: S its members, n their number -/
def SetQ (w : World) (h : Heap) (a : Addr) (S : Int → Bool) (n : Nat) : Prop :=
  ∃ o es ep t, h.get? a = some o ∧ o.ExactSet ∧ o.data = .set es ep t ∧ (∀ e ∈ es.toList, GoodE e) ∧ (es.toList.map keyOf).Nodup ∧ (∀ k, S k = true ↔ k ∈ es.toList.map keyOf) ∧
    es.size < scanBound ∧ t.fits es.size = true ∧ es.size = n ∧ True
theorem SetR.q {h : Heap} (R : SetR w h a S n) : SetQ w h a S n := by
  obtain ⟨o, es, ep, t, ho, hx, hd, g, nd, hm, hb, hf, hn, _⟩ := R
  exact ⟨o, es, ep, t, ho, hx, hd, g, nd, hm, hb, hf, hn, trivial⟩
theorem SetQ.at {h h' : Heap} (R : SetQ w h a S n) (k : ∀ o, h.get? a = some o → h'.get? a = some o) : SetQ w h' a S n := by
  obtain ⟨o, es, ep, t, ho, r⟩ := R
  exact ⟨o, es, ep, t, k o ho, r⟩
theorem SetQ.setOf {h : Heap} (R : SetQ w h a S n) : h.SetOf (intKind P w) a S n := by
  obtain ⟨o, es, ep, t, ho, hx, hd, g, nd, hm, hb, hf, hn, _⟩ := R
  exact ⟨o, es, ep, t, ho, hx, hd, good_elems g, fun k => (hm k).trans (good_mem g k), hb, hf, hn⟩
theorem unseen_set (R : SetQ w s.heap a S n) (R' : SetQ w s.heap b T m) {Q : List (Int × Value) → Shared → Prop}
    (h : ∀ es : List (Int × Value), (∀ e ∈ es, GoodE e) → (∀ k, S k = true ↔ k ∈ es.map keyOf) → Q es s) : wpAny (model P w) A (Builtin.Frozenset.walkUnseen a b) Q E s := by
  obtain ⟨o, es, ep, t, ho, hx, hd, g, nd, hm, hb, hf, hn, _⟩ := R
  obtain ⟨o', es', ep', t', ho', hx', hd', g', nd', hm', hb', hf', hn', _⟩ := R'
  unfold Builtin.Frozenset.walkUnseen
  refine wpAny_bind (entries_set ho hd hf ?_)
  refine wpAny_bind (entries_set ho' hd' hf' ?_)
  refine wpAny_bind (for_quiet (fun x hx => ?_) ?_)
  · obtain ⟨k, v⟩ := x
    have gg : GoodE (k, v) := by
      rcases List.mem_append.mp hx with q | q
      · exact g _ q
      · exact g' _ q
    have q := quietEq_good gg
    simp only at q
    dsimp only
    rw [q]
    rfl
  · exact wpAny_pure (h _ g hm)
theorem unchanged_set {x : String} {o : Obj} {es : Array (Int × Value)} {ep : Nat} {t : SetTable} {Q : Unit → Shared → Prop} (ho : s.heap.get? a = some o) (hd : o.data = .set es ep t) (hf : t.fits es.size = true) (h : Q () s) : wpAny (model P w) A (Builtin.Frozenset.unchanged x a ep) Q E s := by
  unfold Builtin.Frozenset.unchanged
  refine wpAny_bind (wpAny_setEpoch_of ho hd hf ?_)
  rw [if_neg (by simp)]
  exact wpAny_pure h
theorem subset_set {x : String} (R : SetQ w s.heap a S n) (R' : SetQ w s.heap b T m) (hnm : n ≤ m) {Q : Bool → Shared → Prop}
    (h : ∀ r : Bool, (r = true ↔ ∀ k, S k = true → T k = true) → Q r s) : wpAny (model P w) A (Builtin.Frozenset.subsetOf x a b) Q E s := by
  have R0 := R
  have R0' := R'
  obtain ⟨o, es, ep, t, ho, hx, hd, g, nd, hm, hb, hf, hn, _⟩ := R
  obtain ⟨o', es', ep', t', ho', hx', hd', g', nd', hm', hb', hf', hn', _⟩ := R'
  unfold Builtin.Frozenset.subsetOf
  refine wpAny_bind (sizeOf_set ho hd hf ?_)
  refine wpAny_bind (sizeOf_set ho' hd' hf' ?_)
  rw [if_neg (by omega)]
  refine wpAny_bind (wpAny_setEpoch_of ho hd hf ?_)
  refine wpAny_bind (unseen_set R0 R0' fun l gl ml => ?_)
  have key : ∀ (l : List (Int × Value)), (∀ e ∈ l, GoodE e) → ∀ {Q2 : (Option Bool × Unit) → Shared → Prop},
      (∀ r : Option Bool × Unit, (r.1 = none ∧ (∀ e ∈ l, T (keyOf e) = true)) ∨ (r.1 = some false ∧ ¬ ∀ e ∈ l, T (keyOf e) = true) → Q2 r s) →
      wpAny (model P w) A (forIn l ((none, ()) : Option Bool × Unit) fun y __s =>
                match y with
                | (h, v) => do
                  let __do_lift ← holding [v] (setFind b v h)
                  if __do_lift.isNone = true then pure (ForInStep.done (some false, ()))
                    else do
                      Builtin.Frozenset.unchanged x a ep
                      pure (ForInStep.yield (none, ()))) Q2 E s := by
    intro l
    induction l with
    | nil => intro _ Q2 q; rw [List.forIn_nil]; exact wpAny_pure (q _ (.inl ⟨rfl, fun e h => absurd h (by simp)⟩))
    | cons e l ih =>
      intro gl Q2 q
      obtain ⟨k, tk, hv, hh⟩ := gl e List.mem_cons_self
      obtain ⟨eh, ev⟩ := e
      simp only at hv hh
      subst hv hh
      have hk : keyOf (hashInt k, Value.int k tk) = k := rfl
      rw [List.forIn_cons]
      refine wpAny_bind ?_
      dsimp only
      refine wpAny_bind (wpAny_holding (wpAny_setFind_of (knd := intKind P w) (k := k) (intKind_is _ _ _ _) rfl (R0'.setOf (P := P)) fun r hr => ?_))
      cases hT : T k with
      | false =>
        rw [hT] at hr
        rw [if_pos (by cases r with | none => rfl | some _ => cases hr)]
        refine wpAny_pure ?_
        dsimp only
        exact wpAny_pure (q _ (.inr ⟨rfl, fun z => by
          have := z (hashInt k, Value.int k tk) List.mem_cons_self
          rw [hk, hT] at this; cases this⟩))
      | true =>
        rw [hT] at hr
        rw [if_neg (by cases r with | none => cases hr | some _ => simp)]
        refine wpAny_bind (unchanged_set ho hd hf ?_)
        refine wpAny_pure ?_
        dsimp only
        refine ih (fun e he => gl e (List.mem_cons_of_mem _ he)) fun r2 h2 => q r2 ?_
        rcases h2 with ⟨z1, z2⟩ | ⟨z1, z2⟩
        · refine .inl ⟨z1, fun e he => ?_⟩
          rcases List.mem_cons.mp he with rfl | he
          · rw [hk]; exact hT
          · exact z2 e he
        · exact .inr ⟨z1, fun z => z2 fun e he => z e (List.mem_cons_of_mem _ he)⟩
  refine wpAny_bind (key l gl fun r hr => ?_)
  have all_iff : (∀ e ∈ l, T (keyOf e) = true) ↔ ∀ k, S k = true → T k = true := by
    constructor
    · intro z k hk
      obtain ⟨e, he, rfl⟩ := List.mem_map.mp ((ml k).mp hk)
      exact z e he
    · intro z e he
      exact z _ ((ml _).mpr (List.mem_map.mpr ⟨e, he, rfl⟩))
  rcases hr with ⟨z1, z2⟩ | ⟨z1, z2⟩
  · dsimp only
    rw [z1]
    exact wpAny_pure (h true ⟨fun _ => all_iff.mp z2, fun _ => rfl⟩)
  · dsimp only
    rw [z1]
    exact wpAny_pure (h false ⟨fun z => absurd z (by decide), fun z => absurd (all_iff.mpr z) z2⟩)
theorem nodup_sub : ∀ {l r : List Int}, l.Nodup → (∀ x ∈ l, x ∈ r) → l.length ≤ r.length
  | [], r, _, _ => Nat.zero_le _
  | x :: l, r, nd, h => by
    obtain ⟨h1, h2⟩ := List.nodup_cons.mp nd
    have hx := h x List.mem_cons_self
    have := nodup_sub (l := l) (r := r.erase x) h2 fun y hy => by
      have hne : y ≠ x := fun z => h1 (z ▸ hy)
      exact (List.mem_erase_of_ne hne).mpr (h y (List.mem_cons_of_mem _ hy))
    rw [List.length_erase_of_mem hx] at this
    have hp : 0 < r.length := List.length_pos_of_mem hx
    simp only [List.length_cons]
    omega
theorem nodup_eq {l r : List Int} (nl : l.Nodup) (hl : l.length = r.length) (h : ∀ x ∈ l, x ∈ r) : ∀ x ∈ r, x ∈ l := by
  intro x hx
  by_cases hm : x ∈ l
  · exact hm
  · have := nodup_sub (l := x :: l) (r := r) (List.nodup_cons.mpr ⟨hm, nl⟩) fun y hy => by
      rcases List.mem_cons.mp hy with rfl | hy
      · exact hx
      · exact h y hy
    simp only [List.length_cons] at this
    omega
/-- equal sets -/
theorem equal_iff (R : SetQ w s.heap a S n) (R' : SetQ w s.heap b T m) : (n = m ∧ ∀ k, S k = true → T k = true) ↔ ∀ k, S k = T k := by
  obtain ⟨o, es, ep, t, ho, hx, hd, g, nd, hm, hb, hf, hn, _⟩ := R
  obtain ⟨o', es', ep', t', ho', hx', hd', g', nd', hm', hb', hf', hn', _⟩ := R'
  have l1 : (es.toList.map keyOf).length = n := by rw [List.length_map, Array.length_toList]; exact hn
  have l2 : (es'.toList.map keyOf).length = m := by rw [List.length_map, Array.length_toList]; exact hn'
  constructor
  · rintro ⟨e, h⟩ k
    have back := nodup_eq nd (by rw [l1, l2, e]) fun x hx => (hm' x).mp (h x ((hm x).mpr hx))
    rw [Bool.eq_iff_iff]
    exact ⟨h k, fun z => (hm k).mpr (back k ((hm' k).mp z))⟩
  · intro h
    refine ⟨?_, fun k hk => by rw [← h k]; exact hk⟩
    have q1 := nodup_sub nd (r := es'.toList.map keyOf) fun x hx => (hm' x).mp (by rw [← h x]; exact (hm x).mpr hx)
    have q2 := nodup_sub nd' (r := es.toList.map keyOf) fun x hx => (hm x).mp (by rw [h x]; exact (hm' x).mpr hx)
    omega
theorem anySet_set (hT : s.TypeIs (.ref a) "set") {Q : Bool → Shared → Prop} (h : Q true s) : wpAny (model P w) A (Builtin.Frozenset.isAnySet (.ref a)) Q E s := by
  unfold Builtin.Frozenset.isAnySet
  refine wpAny_bind (wpAny_isInstance hT set_sub_set ?_)
  exact wpAny_pure h
theorem equal_code (R : SetQ w s.heap a S n) (R' : SetQ w s.heap b T m) {x : String} {c1 : Sem Bool} {Q : Bool → Shared → Prop} (h : ∀ r : Bool, (r = true ↔ ∀ k, S k = T k) → Q r s) :
    wpAny (model P w) A (if (n != m) = true then pure false
                else do
                  let __do_lift ← isInstance (.ref a) (Value.type "frozenset") <&&> isInstance (.ref b) (Value.type "frozenset")
                  have __do_jp : Unit → Sem Bool := fun __r => Builtin.Frozenset.subsetOf x a b
                  if __do_lift = true then c1 else __do_jp ()) Q E s := by
  have hiff := equal_iff R R'
  by_cases c : n = m
  · rw [if_neg (by simp [c])]
    have tA : s.TypeIs (.ref a) "set" := by
      obtain ⟨o, es, ep, t, ho, hx, _⟩ := R
      exact ⟨o, ho, hx.1⟩
    refine wpAny_bind (wpAny_bind (wpAny_isInstance tA set_sub_fz ?_))
    refine wpAny_pure ?_
    dsimp only
    rw [if_neg (by simp)]
    exact subset_set R R' (by omega) fun r hr => h r (hr.trans ⟨fun z => hiff.mp ⟨c, z⟩, fun z => (hiff.mpr z).2⟩)
  · rw [if_pos (by simp [c])]
    exact wpAny_pure (h false ⟨fun z => absurd z (by decide), fun z => absurd (hiff.mpr z).1 c⟩)
theorem typeIs_set (R : SetQ w s.heap a S n) : s.TypeIs (.ref a) "set" := by
  obtain ⟨o, es, ep, t, ho, hx, _⟩ := R
  exact ⟨o, ho, hx.1⟩
theorem size_set (R : SetQ w s.heap a S n) {Q : Nat → Shared → Prop} (h : Q n s) : wpAny (model P w) A (Builtin.Frozenset.sizeOf a) Q E s := by
  obtain ⟨o, es, ep, t, ho, hx, hd, g, nd, hm, hb, hf, hn, _⟩ := R
  exact sizeOf_set ho hd hf (by rw [hn]; exact h)
theorem ne_code (R : SetQ w s.heap a S n) (R' : SetQ w s.heap b T m) {Q : PySem.Fin → Shared → Prop} (h : ∀ r : Bool, (r = true ↔ ∀ k, S k = T k) → Q (.done (.ret (.bool !r))) s) :
    wpAny (model P w) A (Builtin.«frozenset.__ne__» ⟨[.ref a, .ref b], []⟩) Q E s := by
  unfold Builtin.«frozenset.__ne__»
  refine wpAny_bind (m := Builtin.Frozenset.slot1 "__ne__" _) ?_
  refine wpAny_of_eq (show Builtin.Frozenset.slot1 "__ne__" ⟨[.ref a, .ref b], []⟩ = pure (.ref a, .ref b) from rfl) ?_
  dsimp only
  refine wpAny_bind (anySet_set (typeIs_set R') ?_)
  rw [if_neg (by simp)]
  refine wpAny_bind (wpAny_pure ?_)
  refine wpAny_bind (wpAny_pure ?_)
  refine wpAny_bind (size_set R ?_)
  refine wpAny_bind (size_set R' ?_)
  refine wpAny_bind (equal_code R R' fun r hr => ?_)
  exact wpAny_pure (h r hr)
theorem eq_code (R : SetQ w s.heap a S n) (R' : SetQ w s.heap b T m) {Q : PySem.Fin → Shared → Prop} (h : ∀ r : Bool, (r = true ↔ ∀ k, S k = T k) → Q (.done (.ret (.bool r))) s) :
    wpAny (model P w) A (Builtin.«frozenset.__eq__» ⟨[.ref a, .ref b], []⟩) Q E s := by
  unfold Builtin.«frozenset.__eq__»
  refine wpAny_bind (m := Builtin.Frozenset.slot1 "__eq__" _) ?_
  refine wpAny_of_eq (show Builtin.Frozenset.slot1 "__eq__" ⟨[.ref a, .ref b], []⟩ = pure (.ref a, .ref b) from rfl) ?_
  dsimp only
  refine wpAny_bind (anySet_set (typeIs_set R') ?_)
  rw [if_neg (by simp)]
  refine wpAny_bind (wpAny_pure ?_)
  refine wpAny_bind (wpAny_pure ?_)
  refine wpAny_bind (size_set R ?_)
  refine wpAny_bind (size_set R' ?_)
  refine wpAny_bind (equal_code R R' fun r hr => ?_)
  exact wpAny_pure (h r hr)
end
end L2
/-! G: set(t) != set(u), set(t) == set(u) -/
namespace L2
open PySem PySem.Spec
open PyProof.Rows hiding St
def SetQO (w : World) (a : Addr) (S : Int → Bool) (n : Nat) : HO := .ext fun h => SetQ w h a S n
section
variable {X : Cx}
theorem setQ_new {w : World} {P : Program} {H : Hp} {h : Heap} {a : Addr} {S : Int → Bool} {n : Nat} (R : SetQ w h a S n) : ObjOk P w H h a (SetQO w a S n) := by
  have ⟨o, _, _, _, ho, _⟩ := R
  exact ⟨R, ⟨o, ho⟩, fun h1 h2 p k => SetQ.at p k⟩
theorem setQ_get {pins : List (Addr × Obj)} {σ : St} {H : Hp} {s : Shared} {a : Addr} {S : Int → Bool} {n : Nat} (I : Inv X pins σ H s) (ha : H a = some (SetQO X.w a S n)) : SetQ X.w s.heap a S n := (I.hok a _ ha).1
def rSetTI (K : PySem.W.Frag) (w : World) : List V → Hp → VK → Prop := fun vs H Q => ∃ (p : Addr) (ns : List Int), vs = [V.ref p] ∧ SqT K H p (ns.map V.int) ∧ ns.length ≤ 1000 ∧ ∀ (a : Addr) (c : Nat), H a = none → Q (.ref a) (upd H a (SetQO w a (fun j => decide (j ∈ ns)) c))
theorem cr_setTI (hc : X.calm = true) : CallR X (.type "set") (rSetTI X.K X.w) := by
  intro pins s σ H vs us Q I r h
  obtain ⟨p, ns, rfl, hq, hl, q⟩ := h
  obtain ⟨its, rv, pt, hz⟩ := I.tuple hq
  rw [Vals.ref1 r]
  have hi : IntsAre its.toArray.toList ns := ints_of_vals rv
  refine call_set_tupI ns (I.ok.hd hc) (show s.heap.IsTuple p its.toArray from pt) hi (by unfold scanBound; omega) fun h' tk c R1 hcn k => ?_
  exact ⟨.ref _, upd H s.heap.objs.size (SetQO X.w s.heap.objs.size (fun j => decide (j ∈ ns)) c), I.laid (t' := tk) k (Nat.le_refl _) (setQ_new R1.q), rfl, q _ c (I.hok.fresh (Nat.le_refl _))⟩
def rSetCmp (w : World) (neg : Bool) : R2 := fun x y H Q => ∃ (a b : Addr) (S T : Int → Bool) (n m : Nat), x = V.ref a ∧ y = V.ref b ∧ H a = some (SetQO w a S n) ∧ H b = some (SetQO w b T m) ∧ ∀ r : Bool, (r = true ↔ ∀ k, S k = T k) → Q (.bl (if neg then !r else r)) H
theorem op_setNe (hu : X.A.units + 64 < cLine) : OpR X (compareOp .NotEq) (rSetCmp X.w true) := by
  intro pins s σ H x y v u Q I rx ry h
  obtain ⟨a, b, S, T, n, m, rfl, rfl, ha, hb, q⟩ := h
  cases rx
  cases ry
  have R := setQ_get I ha
  have R' := setQ_get I hb
  show wpAny _ _ (richCompare .NotEq (.ref a) (.ref b)) _ _ _
  refine wpAny_richCompare_same_room (typeIs_set R) (typeIs_set R') F.slot_set_ne ?_ (by omega)
  refine wpAny_call_entry F.slot_set_ne (typeIs_set R) entry_set_ne ?_ (F.args_set_ne_2 _ _)
  refine ne_code R R' fun r hr => ⟨_, rfl, by simp, .bl (!r), H, I, rfl, q r hr⟩
theorem op_setEq (hu : X.A.units + 64 < cLine) : OpR X (compareOp .Eq) (rSetCmp X.w false) := by
  intro pins s σ H x y v u Q I rx ry h
  obtain ⟨a, b, S, T, n, m, rfl, rfl, ha, hb, q⟩ := h
  cases rx
  cases ry
  have R := setQ_get I ha
  have R' := setQ_get I hb
  show wpAny _ _ (richCompare .Eq (.ref a) (.ref b)) _ _ _
  refine wpAny_richCompare_same_room (typeIs_set R) (typeIs_set R') F.slot_set_eq ?_ (by omega)
  refine wpAny_call_entry F.slot_set_eq (typeIs_set R) entry_set_eq ?_ (F.args_set_eq_2 _ _)
  refine eq_code R R' fun r hr => ⟨_, rfl, by simp, .bl r, H, I, rfl, q r hr⟩
end
end L2
namespace G
open PySem PySem.Spec L2
open PyProof.Rows hiding St
/-- == of the sets of two lists of ints -/
def setEqI (ns ms : List Int) : Bool := decide (∀ x ∈ ns, x ∈ ms) && decide (∀ x ∈ ms, x ∈ ns)
theorem setEqI_iff {ns ms : List Int} : setEqI ns ms = true ↔ ∀ k, decide (k ∈ ns) = decide (k ∈ ms) := by
  unfold setEqI
  rw [Bool.and_eq_true, decide_eq_true_eq, decide_eq_true_eq]
  constructor
  · rintro ⟨h1, h2⟩ k
    rw [decide_eq_decide]
    exact ⟨h1 k, h2 k⟩
  · intro h
    exact ⟨fun x hx => (decide_eq_decide.mp (h x)).mp hx, fun x hx => (decide_eq_decide.mp (h x)).mpr hx⟩
def dSetCmp (neg : Bool) : D → D → Rs D
  | .tup xs, .tup ys => match intsOf xs, intsOf ys with
    | some ns, some ms => if ns.length ≤ 1000 ∧ ms.length ≤ 1000 then .ok (.bl (if neg then !setEqI ns ms else setEqI ns ms)) else .bad
    | _, _ => .bad
  | _, _ => .bad
section
variable {X : Cx} {W : WX} {ms : Modes} {a b : Expr} {ea eb : Env → Rs D} {p p' q q' pos : Pos}
/-- the left one's ints known before the right one is asked -/
def tupI : D → Option (List Int)
  | .tup xs => (intsOf xs).bind fun ns => if ns.length ≤ 1000 then some ns else none
  | _ => none
def v2S (neg : Bool) (ea eb : Env → Rs D) : Env → Rs D := fun ρ => (ea ρ).bind fun d => match tupI d with
  | some ns => (eb ρ).bind fun e => match tupI e with
    | some ms => .ok (.bl (if neg then !setEqI ns ms else setEqI ns ms))
    | none => .bad
  | none => .bad
theorem tupI_den {M : MK} {H : Hp} {v : V} {d : D} {ns : List Int} (h : Den M H v d) (e : tupI d = some ns) : ∃ a, v = .ref a ∧ SqT M.K H a (ns.map V.int) ∧ ns.length ≤ 1000 := by
  cases d with
  | tup xs =>
    have e' : ((intsOf xs).bind fun ns => if ns.length ≤ 1000 then some ns else none) = some ns := e
    cases z : intsOf xs with
    | none => rw [z] at e'; cases e'
    | some ks =>
      rw [z] at e'
      have e2 : (if ks.length ≤ 1000 then some ks else none) = some ns := e'
      by_cases c : ks.length ≤ 1000
      · rw [if_pos c] at e2
        cases e2
        cases h with
        | tup h1 l1 =>
          have e3 := intsOf_den l1 z
          subst e3
          exact ⟨_, rfl, SqT.of h1, c⟩
      · rw [if_neg c] at e2; cases e2
  | _ => cases e
theorem set_run {op : CmpOp} (neg : Bool) (hc : X.calm = true) (ho : OpR X (compareOp op) (rSetCmp X.w neg)) (hm : behindInMarks op (.Call (.Name "set" p') [b] [] q') = false) (hg : Gl X "set") (hn : X.mg "set" = none) (ha : JG X W .s ms a ea) (hb : JG X W .s ms b eb)
    (na : starEach [a] X.env = (false, eval a X.env) :: starEach [] X.env) (nb : starEach [b] X.env = (false, eval b X.env) :: starEach [] X.env) :
    ∃ t u, PE X (.Call (.Name "set" p) [a] [] q) t ∧ PE X (.Call (.Name "set" p') [b] [] q') u ∧ ∀ B Hs H σ ρ Fp Q, Rel (mkM X) B ms Hs H σ ρ Fp → Post X W (PV X .s) Hs H σ Q (v2S neg ea eb ρ) → tOp (rSetCmp X.w neg) t u σ H Q := by
  obtain ⟨ta, h1, h2⟩ := ha
  obtain ⟨tb, k1, k2⟩ := hb
  have sa := pe_callTy (p := p) (pos := q) (cr_setTI hc) hg hn (by decide +kernel) (pa_cons h1 pa_nil na) (by decide) (by decide) na rfl
  have sb := pe_callTy (p := p') (pos := q') (cr_setTI hc) hg hn (by decide +kernel) (pa_cons k1 pa_nil nb) (by decide) (by decide) nb rfl
  refine ⟨_, _, sa, sb, fun B Hs H σ ρ Fp Q R p => ?_⟩
  refine h2 B Hs H σ ρ Fp _ R (p.seq fun d x Hs1 H1 _ e1 r1 q1 => ?_)
  cases z : tupI d with
  | none => rw [z] at q1; exact q1.elim
  | some ns =>
    rw [z] at q1
    simp only at q1
    obtain ⟨A, rfl, hA, hl⟩ := tupI_den (r1.b e1.s2) z
    refine ⟨A, ns, rfl, hA, hl, fun sA c nsA => ?_⟩
    have eN : Ext Hs1 H1 Hs1 (upd H1 sA (SetQO X.w sA (fun j => decide (j ∈ ns)) c)) := Ext.newO e1.s2 nsA
    have R2 := R.step (e1.trans eN)
    refine k2 B Hs1 _ σ ρ Fp _ R2 ((q1.step eN).seq fun e y Hs3 H3 _ e3 r3 q3 => ?_)
    cases z2 : tupI e with
    | none => rw [z2] at q3; exact q3.elim
    | some ks =>
      rw [z2] at q3
      simp only at q3
      obtain ⟨A2, rfl, hA2, hl2⟩ := tupI_den (r3.b e3.s2) z2
      refine ⟨A2, ks, rfl, hA2, hl2, fun sB c2 nsB => ?_⟩
      have h3 : H3 sA = some (SetQO X.w sA (fun j => decide (j ∈ ns)) c) := e3.s3 _ _ upd_same
      have hne : sA ≠ sB := fun zz => by rw [zz, nsB] at h3; cases h3
      have h4 : upd H3 sB (SetQO X.w sB (fun j => decide (j ∈ ks)) c2) sA = some (SetQO X.w sA (fun j => decide (j ∈ ns)) c) := by rw [upd_ne hne]; exact h3
      refine ⟨sA, sB, _, _, c, c2, rfl, rfl, h4, upd_same, fun r hr => ?_⟩
      have er : r = setEqI ns ks := by rw [Bool.eq_iff_iff, hr, setEqI_iff]
      subst er
      exact q3 _ Hs3 _ (Ext.newO e3.s2 nsB) (.of (.bl _))
theorem set_core {op : CmpOp} (neg : Bool) (hc : X.calm = true) (ho : OpR X (compareOp op) (rSetCmp X.w neg)) (hm : behindInMarks op (.Call (.Name "set" p') [b] [] q') = false) (hg : Gl X "set") (hn : X.mg "set" = none) (ha : JG X W .s ms a ea) (hb : JG X W .s ms b eb)
    (na : starEach [a] X.env = (false, eval a X.env) :: starEach [] X.env) (nb : starEach [b] X.env = (false, eval b X.env) :: starEach [] X.env) :
    JG X W .s ms (.Compare (.Call (.Name "set" p) [a] [] q) [op] [.Call (.Name "set" p') [b] [] q'] pos) (v2S neg ea eb) := by
  obtain ⟨t, u, h1, h2, h3⟩ := set_run (p := p) (p' := p') (q := q) (q' := q') neg hc ho hm hg hn ha hb na nb
  exact ⟨_, pe_cmpR ho h1 h2 hm, h3⟩
theorem set_coreT {op : CmpOp} (neg : Bool) (hc : X.calm = true) (ho : OpR X (compareOp op) (rSetCmp X.w neg)) (hm : behindInMarks op (.Call (.Name "set" p') [b] [] q') = false) (hg : Gl X "set") (hn : X.mg "set" = none) (ha : JG X W .s ms a ea) (hb : JG X W .s ms b eb)
    (na : starEach [a] X.env = (false, eval a X.env) :: starEach [] X.env) (nb : starEach [b] X.env = (false, eval b X.env) :: starEach [] X.env) :
    JT X W ms (.Compare (.Call (.Name "set" p) [a] [] q) [op] [.Call (.Name "set" p') [b] [] q'] pos) (evB (v2S neg ea eb)) := by
  obtain ⟨t, u, h1, h2, h3⟩ := set_run (p := p) (p' := p') (q := q) (q' := q') neg hc ho hm hg hn ha hb na nb
  exact ⟨_, pt_cmpR ho h1 h2 hm, fun B Hs H σ ρ Fp Q R p => h3 B Hs H σ ρ Fp _ R (post_tB p)⟩
theorem je_setNe (hc : X.calm = true) (hu : X.A.units + 64 < cLine) (hn : X.mg "set" = none) (hm : behindInMarks .NotEq (.Call (.Name "set" p') [b] [] q') = false) (ha : JG X W .s ms a ea) (hb : JG X W .s ms b eb) (hg : Gl X "set" := by rfl)
    (na : starEach [a] X.env = (false, eval a X.env) :: starEach [] X.env := by rfl) (nb : starEach [b] X.env = (false, eval b X.env) :: starEach [] X.env := by rfl) :
    JG X W .s ms (.Compare (.Call (.Name "set" p) [a] [] q) [.NotEq] [.Call (.Name "set" p') [b] [] q'] pos) (v2S true ea eb) := set_core true hc (op_setNe hu) hm hg hn ha hb na nb
theorem je_setEq (hc : X.calm = true) (hu : X.A.units + 64 < cLine) (hn : X.mg "set" = none) (hm : behindInMarks .Eq (.Call (.Name "set" p') [b] [] q') = false) (ha : JG X W .s ms a ea) (hb : JG X W .s ms b eb) (hg : Gl X "set" := by rfl)
    (na : starEach [a] X.env = (false, eval a X.env) :: starEach [] X.env := by rfl) (nb : starEach [b] X.env = (false, eval b X.env) :: starEach [] X.env := by rfl) :
    JG X W .s ms (.Compare (.Call (.Name "set" p) [a] [] q) [.Eq] [.Call (.Name "set" p') [b] [] q'] pos) (v2S false ea eb) := set_core false hc (op_setEq hu) hm hg hn ha hb na nb
theorem jt_setNe (hc : X.calm = true) (hu : X.A.units + 64 < cLine) (hn : X.mg "set" = none) (hm : behindInMarks .NotEq (.Call (.Name "set" p') [b] [] q') = false) (ha : JG X W .s ms a ea) (hb : JG X W .s ms b eb) (hg : Gl X "set" := by rfl)
    (na : starEach [a] X.env = (false, eval a X.env) :: starEach [] X.env := by rfl) (nb : starEach [b] X.env = (false, eval b X.env) :: starEach [] X.env := by rfl) :
    JT X W ms (.Compare (.Call (.Name "set" p) [a] [] q) [.NotEq] [.Call (.Name "set" p') [b] [] q'] pos) (evB (v2S true ea eb)) := set_coreT true hc (op_setNe hu) hm hg hn ha hb na nb
theorem jt_setEq (hc : X.calm = true) (hu : X.A.units + 64 < cLine) (hn : X.mg "set" = none) (hm : behindInMarks .Eq (.Call (.Name "set" p') [b] [] q') = false) (ha : JG X W .s ms a ea) (hb : JG X W .s ms b eb) (hg : Gl X "set" := by rfl)
    (na : starEach [a] X.env = (false, eval a X.env) :: starEach [] X.env := by rfl) (nb : starEach [b] X.env = (false, eval b X.env) :: starEach [] X.env := by rfl) :
    JT X W ms (.Compare (.Call (.Name "set" p) [a] [] q) [.Eq] [.Call (.Name "set" p') [b] [] q'] pos) (evB (v2S false ea eb)) := set_coreT false hc (op_setEq hu) hm hg hn ha hb na nb
end
end G
/-! G: isinstance(x, C), C an own class, x one of its objects -/
namespace G
open PySem PySem.Spec L2
open PyProof.Rows hiding St
section
variable {X : Cx} {W : WX} {ms : Modes} {a : Expr} {ea : Env → Rs D} {c : Str} {C : Addr} {p1 p2 pos : Pos}
def isObj (c : Str) : D → Rs D
  | .obj c' _ => if c' = c then .ok (.bl true) else .bad
  | _ => .bad
theorem je_isC (hC : X.mg c = some (.ref C)) (ic : C8.InsC X.K C) (hm : X.mg "isinstance" = none) (ha : JG X W .s ms a ea) (hgc : Gl X c := by rfl) (hdc : (c == ("__debug__" : Str)) = false := by decide) (hg : Gl X "isinstance" := by rfl)
    (he : starEach (a :: [.Name c p2]) X.env = (false, eval a X.env) :: starEach [.Name c p2] X.env := by rfl) (he2 : starEach [.Name c p2] X.env = (false, eval (.Name c p2) X.env) :: starEach [] X.env := by rfl) (hpl : (backTo pos (starEach [.Name c p2] X.env)).any (·.1) = false := by rfl) :
    JG X W .s ms (.Call (.Name "isinstance" p1) [a, .Name c p2] [] pos) (v1 (isObj c) ea) := by
  obtain ⟨ta, h1, h2⟩ := ha
  have hpe : PE X (.Name c p2) (tC (.ref C)) := pe_glob hgc hC rfl hdc
  refine ⟨_, pe_callB (C8.call_isC ic) hg hm (by decide +kernel) (pa_cons h1 (pa_cons hpe pa_nil he2) he) (by decide) (by decide) he hpl, fun B Hs H σ ρ Fp Q R p => h2 B Hs H σ ρ Fp _ R (p.seq fun d x Hs1 H1 _ e1 r q => ?_)⟩
  have dx := r.s
  cases dx with
  | @obj a dx C' c' fvs ks ds hm hH hk l =>
    have q' : Post X W (PV X .s) Hs1 H1 σ Q (if c' = c then Rs.ok (.bl true) else .bad) := q
    by_cases hc : c' = c
    · rw [if_pos hc] at q'
      subst hc
      rw [show (mkM X).mg c' = X.mg c' from rfl, hC] at hm
      cases hm
      exact ⟨a, dx, fvs, rfl, e1.s2 _ _ hH, q' _ Hs1 H1 (Ext.refl e1.s2) (.of (.bl _))⟩
    · rw [if_neg hc] at q'; exact q'.elim
  | _ => exact q.elim
end
end G
/-! G: {x, y} == set(t), x and y ints -/
namespace L2
open PySem PySem.Spec
open PyProof.Rows hiding St
theorem nodup_of_cover : ∀ {ns l : List Int}, ns.Nodup → (∀ x ∈ ns, x ∈ l) → l.length = ns.length → l.Nodup
  | [], l, _, _, e => by
    cases l with
    | nil => exact .nil
    | cons _ _ => simp at e
  | x :: ns, l, nd, h, e => by
    obtain ⟨n1, n2⟩ := List.nodup_cons.mp nd
    have hx := h x List.mem_cons_self
    have hl : (l.erase x).length = ns.length := by rw [List.length_erase_of_mem hx]; simp at e; omega
    have hs : ∀ y ∈ ns, y ∈ l.erase x := fun y hy => by
      have hne : y ≠ x := fun z => n1 (z ▸ hy)
      exact (List.mem_erase_of_ne hne).mpr (h y (List.mem_cons_of_mem _ hy))
    have ih := nodup_of_cover n2 hs hl
    have back := nodup_eq (l := ns) (r := l.erase x) n2 hl.symm hs
    refine (List.perm_cons_erase hx).nodup_iff.mpr (List.nodup_cons.mpr ⟨fun z => n1 (back x z), ih⟩)
section
variable {P : Program} {w : World} {A : Around} {E : Value → Shared → Prop} {s : Shared} {D : Addr} {S : Int → Bool} {n : Nat}
theorem setQ_of {h : Heap} (hS : h.SetOf (intKind P w) D S n) {ns : List Int} (nd : ns.Nodup) (hn : ns.length = n) (hm : ∀ k, S k = true ↔ k ∈ ns) : SetQ w h D S n := by
  obtain ⟨o, es, ep, t, ho, hex, hd, hel, hmem, hb, hf, hsz⟩ := hS
  have good : ∀ e ∈ es.toList, GoodE e := fun e he => by
    obtain ⟨⟨k, h1, h2⟩, h3⟩ := hel e he
    obtain ⟨tk, h4⟩ := Value.isInt_shape h1
    exact ⟨k, tk, h4, h2⟩
  have mem : ∀ k, S k = true ↔ k ∈ es.toList.map keyOf := fun k => by
    rw [hmem k]
    constructor
    · rintro ⟨e, he, hk⟩
      obtain ⟨tk, h4⟩ := Value.isInt_shape hk
      refine List.mem_map.mpr ⟨e, he, ?_⟩
      unfold keyOf
      rw [h4]
    · intro hk
      obtain ⟨e, he, rfl⟩ := List.mem_map.mp hk
      obtain ⟨k, tk, h4, h5⟩ := good e he
      refine ⟨e, he, ?_⟩
      unfold keyOf
      rw [h4]
      exact intKind_is _ _ _ _
  refine ⟨o, es, ep, t, ho, hex, hd, good, ?_, mem, hb, hf, hsz, trivial⟩
  refine nodup_of_cover nd (fun x hx => (mem x).mp ((hm x).mpr hx)) ?_
  rw [List.length_map, Array.length_toList, hsz, hn]
theorem SetQ.congr {h : Heap} {S' : Int → Bool} (R : SetQ w h D S n) (e : ∀ k, S' k = S k) : SetQ w h D S' n := by
  have : S' = S := funext e
  rw [this]; exact R
theorem unledI {Q : Unit → Shared → Prop} (hS : s.heap.SetOf (intKind P w) D S n) (h : ∀ h', h'.SetOf (intKind P w) D S n → (∀ b o, b ≠ D → s.heap.get? b = some o → h'.get? b = some o) → Q () { s with heap := h' }) :
    wpAny (model P w) A (setUnled D) Q E s := by
  obtain ⟨o, es, ep, t, ho, hex, hd, hel, hmem, hb, hf, hn⟩ := hS
  have hf' : ({ t with led := false } : SetTable).fits es.size = true := by cases t; exact hf
  unfold setUnled
  refine wpAny_bind (wpAny_setState_of ho hd hf ?_)
  dsimp only
  refine wpAny_storeSet_of ho hd ?_ (fits_of_scanBound hb)
  obtain ⟨_, hS⟩ := SetOf_store (knd := intKind P w) ho hex hd hel hmem hb hf'
  rw [hn] at hS
  have sb := Heap.SameBut.update s.heap D (Obj.putSet es { t with led := false })
  exact h _ hS fun b o hb e => (sb.2 b hb).trans e
/-- two ints put in -/
theorem fill_two {u : Bool} {i j : Int} {t1 t2 : Tok} {Q : Value → Shared → Prop} (hS : s.heap.SetOf (intKind P w) D (fun _ => false) 0)
    (h : ∀ h' k' n', SetQ w h' D (fun k => decide (k ∈ [i, j])) n' → (∀ b o, b ≠ D → s.heap.get? b = some o → h'.get? b = some o) → Q (.ref D) { s with heap := h', toks := k' }) :
    PySem.W.KdsFill (model P w) A E u D Q [.int i t1, .int j t2] s := by
  refine PySem.W.kds_fill_cons ?_
  unfold setAdd
  refine wpAny_holding (wpAny_bind ((intKind P w).pyHash (k := i) (intKind_is _ _ _ _) ?_))
  refine wpAny_setAddHashed_of (knd := intKind P w) (s := { s with toks := s.toks + 1 }) (intKind_is _ _ _ _) rfl hS (by unfold scanBound; omega) fun h1 sb1 hS1 => ?_
  refine PySem.W.kds_fill_cons ?_
  unfold setAdd
  refine wpAny_holding (wpAny_bind ((intKind P w).pyHash (k := j) (intKind_is _ _ _ _) ?_))
  refine wpAny_setAddHashed_of (knd := intKind P w) (s := { s with heap := h1, toks := s.toks + 1 + 1 }) (intKind_is _ _ _ _) rfl hS1 (by unfold scanBound; simp) fun h2 sb2 hS2 => ?_
  have keep : ∀ b o, b ≠ D → s.heap.get? b = some o → h2.get? b = some o := fun b o hb e => (sb2.2 b hb).trans ((sb1.2 b hb).trans e)
  have fin : ∀ h3 : Heap, h3.SetOf (intKind P w) D (fun k' => ((false || decide (k' = i)) || decide (k' = j))) (if ((false || decide (j = i)) = true) then (if (false = true) then 0 else 0 + 1) else (if (false = true) then 0 else 0 + 1) + 1) → (∀ b o, b ≠ D → s.heap.get? b = some o → h3.get? b = some o) → Q (.ref D) { s with heap := h3, toks := s.toks + 1 + 1 } := fun h3 hS3 k3 => by
    by_cases c : j = i
    · subst c
      refine h h3 _ 1 (SetQ.congr (setQ_of (ns := [j]) (SetOf_congr hS3 (fun k => rfl) (by simp)) (by simp) rfl fun k => by simp) fun k => by simp) k3
    · have c' : ¬ i = j := fun z => c z.symm
      refine h h3 _ 2 (SetQ.congr (setQ_of (ns := [i, j]) (SetOf_congr hS3 (fun k => rfl) (by simp [c])) (by simp [c']) rfl fun k => by simp) fun k => by simp) k3
  cases u with
  | false => exact PySem.W.kds_fill_nil rfl (fin h2 hS2 keep)
  | true => exact PySem.W.kds_fill_unled rfl (unledI (s := { s with heap := h2, toks := s.toks + 1 + 1 }) hS2 fun h3 hS3 k3 => fin h3 hS3 fun b o hb e => k3 b o hb (keep b o hb e))
end
section
variable {X : Cx} {e1 e2 : Expr} {t1 t2 : TE} {pos : Pos}
def tSetD (w : World) (t1 t2 : TE) : TE := fun σ H Q => ∀ D, H D = none → t1 σ (upd H D (SetQO w D (fun _ => false) 0)) fun x H1 => ∃ i, x = .int i ∧ t2 σ H1 fun y H2 => ∃ j, y = .int j ∧ H2 D = some (SetQO w D (fun _ => false) 0) ∧ ∀ n, Q (.ref D) (upd H2 D (SetQO w D (fun k => decide (k ∈ [i, j])) n))
theorem pe_setD (h1 : PE X e1 t1) (h2 : PE X e2 t2) (hp : [e1, e2].all PySem.W.kdsPlain = true) (hcd : PySem.W.kdsCode X.K X.env.code = true) : PE X (.Set [e1, e2] 0 pos) (tSetD X.w t1 t2) := by
  refine ⟨fun pins s σ H Q I h => ?_⟩
  rw [arm_eval_Set]
  refine wpAny_bind (wpAny_standAt ?_)
  refine wpAny_bind (PySem.W.kds_main I.kIn hcd fun b => ?_)
  rw [PySem.W.kds_star [e1, e2] hp, List.map_map]
  refine PySem.W.kds_core (ts := (evalEach [e1, e2] X.env).map fun t => do let v ← t; standAt pos; pure v) (road0 [e1, e2]) ?_ ?_ ?_ fun led => ?_
  · refine List.findIdx?_eq_none_iff.mpr fun x hx => ?_
    obtain ⟨t, _, rfl⟩ := List.mem_map.mp hx
    rfl
  · rw [List.length_map, PySem.W.kds_len]
    show 2 ≤ 30
    omega
  · rw [List.map_map]
    try rfl
  · refine PySem.W.kds_all pos [e1, e2] _ _ ?_
    have hD : H s.heap.objs.size = none := I.hok.fresh (Nat.le_refl _)
    have hS0 : (s.heap.push { cls := .type "set", dict := none, data := .set #[] 0 (.fresh 0 0 led) }).SetOf (intKind X.prog X.w) s.heap.objs.size (fun _ => false) 0 := (setObjOf_fresh (knd := intKind X.prog X.w) led).setOf (Heap.get?_push_size _ rfl) (by decide)
    have q0 : SetQ X.w (s.heap.push { cls := .type "set", dict := none, data := .set #[] 0 (.fresh 0 0 led) }) s.heap.objs.size (fun _ => false) 0 := setQ_of (ns := []) hS0 .nil rfl fun k => by simp
    have I1 : Inv X pins σ (upd H s.heap.objs.size (SetQO X.w s.heap.objs.size (fun _ => false) 0)) { s with heap := s.heap.push { cls := .type "set", dict := none, data := .set #[] 0 (.fresh 0 0 led) } } := I.laid (t' := s.toks) (fun b o e => Heap.get?_push_of_some _ e) (Nat.le_refl _) (setQ_new q0)
    have hq := h _ hD
    show wpAny _ _ (eval e1 X.env) _ _ _
    refine thn (h1.run pins _ σ _ _ I1 hq) fun v1 s1 ⟨x, H1, I2, r1, i, ex, q1⟩ => ?_
    subst ex
    obtain ⟨k1, rfl⟩ := r1
    show wpAny _ _ (eval e2 X.env) _ _ _
    refine thn (h2.run pins _ σ _ _ I2 q1) fun v2 s2 ⟨y, H2, I3, r2, j, ey, hH2, q2⟩ => ?_
    subst ey
    obtain ⟨k2, rfl⟩ := r2
    have R := setQ_get I3 hH2
    show PySem.W.KdsFill _ _ _ _ _ _ [_, _] _
    refine fill_two (R.setOf) fun h' k' n' R' keep => ?_
    refine ⟨.ref s.heap.objs.size, upd H2 s.heap.objs.size (SetQO X.w s.heap.objs.size (fun k => decide (k ∈ [i, j])) n'), ?_, rfl, q2 n'⟩
    obtain ⟨o', _, _, _, ho', _⟩ := id R'
    exact I3.write (e := s.heap.objs.size) (t' := k') (by rw [hH2]; trivial) (.inl rfl) (fun b u hb hu => keep b u hb hu) ⟨_, ho'⟩ (setQ_new R')
end
end L2
namespace G
open PySem PySem.Spec L2
open PyProof.Rows hiding St
section
variable {X : Cx} {W : WX} {ms : Modes} {a1 a2 b : Expr} {e1 e2 eb : Env → Rs D} {p p' q q' pos : Pos}
/-- {x, y} == set(t) -/
def v3S (neg : Bool) (e1 e2 eb : Env → Rs D) : Env → Rs D := fun ρ => (e1 ρ).bind fun d1 => match d1 with
  | .int i => (e2 ρ).bind fun d2 => match d2 with
    | .int j => (eb ρ).bind fun e => match tupI e with
      | some ms => .ok (.bl (if neg then !setEqI [i, j] ms else setEqI [i, j] ms))
      | none => .bad
    | _ => .bad
  | _ => .bad
theorem disp_run (neg : Bool) (hc : X.calm = true) (hcd : PySem.W.kdsCode X.K X.env.code = true) (hp : [a1, a2].all PySem.W.kdsPlain = true) (hg : Gl X "set") (hn : X.mg "set" = none) (h1 : JG X W .s ms a1 e1) (h2 : JG X W .s ms a2 e2) (hb : JG X W .s ms b eb)
    (nb : starEach [b] X.env = (false, eval b X.env) :: starEach [] X.env) :
    ∃ t u, PE X (.Set [a1, a2] 0 p) t ∧ PE X (.Call (.Name "set" p') [b] [] q') u ∧ ∀ B Hs H σ ρ Fp Q, Rel (mkM X) B ms Hs H σ ρ Fp → Post X W (PV X .s) Hs H σ Q (v3S neg e1 e2 eb ρ) → tOp (rSetCmp X.w neg) t u σ H Q := by
  obtain ⟨t1, g1, g2⟩ := h1
  obtain ⟨t2, f1, f2⟩ := h2
  obtain ⟨tb, k1, k2⟩ := hb
  have sa := pe_setD (pos := p) g1 f1 hp hcd
  have sb := pe_callTy (p := p') (pos := q') (cr_setTI hc) hg hn (by decide +kernel) (pa_cons k1 pa_nil nb) (by decide) (by decide) nb rfl
  refine ⟨_, _, sa, sb, fun B Hs H σ ρ Fp Q R p => ?_⟩
  intro sD nsD
  have eN : Ext Hs H Hs (upd H sD (SetQO X.w sD (fun _ => false) 0)) := Ext.newO R.sub nsD
  have R0 := R.step eN
  have p0 := p
  refine g2 B Hs _ σ ρ Fp _ R0 ((p.step eN).seq fun d1 x Hs1 H1 z1 E1 r1 q1 => ?_)
  cases d1 with
  | int i =>
    have dx := r1.b E1.s2
    cases dx
    refine ⟨i, rfl, f2 B Hs1 H1 σ ρ Fp _ (R0.step E1) (q1.seq fun d2 y Hs2 H2 z2 E2 r2 q2 => ?_)⟩
    cases d2 with
    | int j =>
      have dy := r2.b E2.s2
      cases dy
      have hH2 : H2 sD = some (SetQO X.w sD (fun _ => false) 0) := E2.s3 _ _ (E1.s3 _ _ upd_same)
      refine ⟨j, rfl, hH2, fun n => ?_⟩
      have eT := (eN.trans E1).trans E2
      have h0 : Hs sD = none := by
        cases zz : Hs sD with
        | none => rfl
        | some o' => have := R.sub _ _ zz; rw [nsD] at this; cases this
      have nkS : ¬ KT (SetQO X.w sD (fun _ => false) 0) := fun ⟨ks, z⟩ => by
        have z' : HO.ext _ = HO.tup _ := z
        cases z'
      have hs2 : Hs2 sD = none := E2.s4 sD _ (E1.s3 _ _ upd_same) nkS (E1.s4 sD _ upd_same nkS h0)
      have e4 : Ext Hs H Hs2 (upd H2 sD (SetQO X.w sD (fun k => decide (k ∈ [i, j])) n)) := ⟨eT.s1, fun a o h => by
          have hne : a ≠ sD := fun zz => by rw [zz, hs2] at h; cases h
          rw [upd_ne hne]; exact E2.s2 _ _ h, fun a o h => by
          have hne : a ≠ sD := fun zz => by rw [zz, nsD] at h; cases h
          rw [upd_ne hne]; exact eT.s3 _ _ h, eT.s4⟩
      have pv : v3S neg e1 e2 eb ρ = (eb ρ).bind fun e => match tupI e with
        | some ms => .ok (.bl (if neg then !setEqI [i, j] ms else setEqI [i, j] ms))
        | none => .bad := by
        unfold v3S
        rw [z1]
        show ((e2 ρ).bind _) = _
        rw [z2]
        rfl
      rw [pv] at p0
      refine k2 B Hs2 _ σ ρ Fp _ (R.step e4) ((p0.step e4).seq fun e y Hs3 H3 _ E3 r3 q3 => ?_)
      cases zz : tupI e with
      | none => rw [zz] at q3; exact q3.elim
      | some ks =>
        rw [zz] at q3
        simp only at q3
        obtain ⟨A2, rfl, hA2, hl2⟩ := tupI_den (r3.b E3.s2) zz
        refine ⟨A2, ks, rfl, hA2, hl2, fun sB c2 nsB => ?_⟩
        have h3 : H3 sD = some (SetQO X.w sD (fun k => decide (k ∈ [i, j])) n) := E3.s3 _ _ upd_same
        have hne : sD ≠ sB := fun zz => by rw [zz, nsB] at h3; cases h3
        have h4 : upd H3 sB (SetQO X.w sB (fun j => decide (j ∈ ks)) c2) sD = some (SetQO X.w sD (fun k => decide (k ∈ [i, j])) n) := by rw [upd_ne hne]; exact h3
        refine ⟨sD, sB, _, _, n, c2, rfl, rfl, h4, upd_same, fun r hr => ?_⟩
        have er : r = setEqI [i, j] ks := by rw [Bool.eq_iff_iff, hr, setEqI_iff]
        subst er
        exact q3 _ Hs3 _ (Ext.newO E3.s2 nsB) (.of (.bl _))
    | _ => exact q2.elim
  | _ => exact q1.elim
theorem je_dispEq (hc : X.calm = true) (hu : X.A.units + 64 < cLine) (hcd : PySem.W.kdsCode X.K X.env.code = true) (hn : X.mg "set" = none) (hm : behindInMarks .Eq (.Call (.Name "set" p') [b] [] q') = false) (h1 : JG X W .s ms a1 e1) (h2 : JG X W .s ms a2 e2) (hb : JG X W .s ms b eb) (hp : [a1, a2].all PySem.W.kdsPlain = true := by rfl) (hg : Gl X "set" := by rfl)
    (nb : starEach [b] X.env = (false, eval b X.env) :: starEach [] X.env := by rfl) :
    JG X W .s ms (.Compare (.Set [a1, a2] 0 p) [.Eq] [.Call (.Name "set" p') [b] [] q'] pos) (v3S false e1 e2 eb) := by
  obtain ⟨t, u, h1, h2, h3⟩ := disp_run (p := p) (p' := p') (q' := q') false hc hcd hp hg hn h1 h2 hb nb
  exact ⟨_, pe_cmpR (op_setEq hu) h1 h2 hm, h3⟩
theorem jt_dispEq (hc : X.calm = true) (hu : X.A.units + 64 < cLine) (hcd : PySem.W.kdsCode X.K X.env.code = true) (hn : X.mg "set" = none) (hm : behindInMarks .Eq (.Call (.Name "set" p') [b] [] q') = false) (h1 : JG X W .s ms a1 e1) (h2 : JG X W .s ms a2 e2) (hb : JG X W .s ms b eb) (hp : [a1, a2].all PySem.W.kdsPlain = true := by rfl) (hg : Gl X "set" := by rfl)
    (nb : starEach [b] X.env = (false, eval b X.env) :: starEach [] X.env := by rfl) :
    JT X W ms (.Compare (.Set [a1, a2] 0 p) [.Eq] [.Call (.Name "set" p') [b] [] q'] pos) (evB (v3S false e1 e2 eb)) := by
  obtain ⟨t, u, h1, h2, h3⟩ := disp_run (p := p) (p' := p') (q' := q') false hc hcd hp hg hn h1 h2 hb nb
  exact ⟨_, pt_cmpR (op_setEq hu) h1 h2 hm, fun B Hs H σ ρ Fp Q R p => h3 B Hs H σ ρ Fp _ R (post_tB p)⟩
end
section
variable {P : Program} {w : World} {K : PySem.W.Frag} {mg : Str → Option Value} {base : Heap}
/-- a def whose code object is known to be the module's -/
theorem fn_okDc {x qual : Str} {st : Stmt} {f : Addr} {fd : FuncData} {N ps : List Str} {k : Nat} {rm : Mode} {ms' : Modes} {ev : Env → Out} (F : Fun K x qual st f fd) (S : FnScope N ps (defScope st)) (hpl : ps.length ≤ N.length)
    (hb : ∀ (cdv : Value) (A : Around) (outer : List PySem.Env) (s : Shared) (H : Hp) (E : XK), PySem.W.kdsCode K cdv = true → Room k (A.deeper (envOfC qual (defScope st) s.heap.objs.size f cdv)) →
      JSs (cxOf (L2.CX P w) P w K mg base N qual (defScope st) f cdv A outer s H E) (fun cls d _ H => E cls d H) none [] rm (List.replicate N.length .S) (defBody st) ms' ev) :
    FnOk P w K mg base (L2.CX P w) (k + 1) f fd ps (spD ⟨K, mg⟩ rm (runD ps.length N.length ev)) := by
  obtain ⟨oc, od, kV, doc, pm, an, cdv, ct, osl, rfl, lk, hcd⟩ := F.ex
  have hkc := kdsCode_of hcd
  refine fn_of lk hcd S (fun vs H Q E h => ?_) fun A outer s H vs Q E hr h => ?_
  · obtain ⟨Hs, ds, s, l, h⟩ := h
    rw [l.length]
    by_cases z : ds.length = ps.length
    · exact z
    · have q : runD ps.length N.length ev ds = .bad := if_neg z
      rw [q] at h
      exact h.elim
  · obtain ⟨t, h1, h2⟩ := hb cdv A outer s H E hkc hr
    refine ⟨t, h1, ?_⟩
    obtain ⟨Hs, ds, s, l, h⟩ := h
    have z : ds.length = ps.length := by
      by_cases z : ds.length = ps.length
      · exact z
      · have q : runD ps.length N.length ev ds = .bad := if_neg z
        rw [q] at h
        exact h.elim
    have q : runD ps.length N.length ev ds = outD (ev (ds.map some ++ List.replicate (N.length - ps.length) none)) := if_pos z
    rw [q] at h
    have hvl := l.length
    refine h2 (Hs, H) Hs H _ (ds.map some ++ List.replicate (N.length - ps.length) none) (fun _ => []) _ ⟨Ext.refl s, ?_, ?_, fun i d e => ?_, fun _ _ => rfl, fun _ => .nil, fun _ _ z => (nomatch z), fun _ _ _ _ z => (nomatch z)⟩ ?_
    · unfold L2.start
      simp [hvl, z]
    · simp [z]; omega
    · have hi : i < ds.length := by
        by_cases hi : i < ds.length
        · exact hi
        · rw [List.getElem?_append_right (by simp; omega), List.getElem?_replicate] at e
          split at e <;> cases e
      rw [List.getElem?_append_left (by simpa using hi), List.getElem?_map] at e
      obtain ⟨d', e1, e2⟩ := Option.map_eq_some_iff.mp e
      cases e2
      obtain ⟨v, h3, h4⟩ := l.get e1
      refine ⟨v, ?_, ?_⟩
      · unfold L2.start
        rw [List.getElem?_append_left (by simp; omega), List.getElem?_map, h3]
        rfl
      · have hm : md (List.replicate N.length Mode.S) i = .S := by
          unfold md
          rw [List.getD_eq_getElem?_getD, List.getElem?_replicate]
          split <;> rfl
        rw [hm]
        exact .sh h4
    · cases z2 : ev (ds.map some ++ List.replicate (N.length - ps.length) none) with
      | nx ρ =>
        rw [z2] at h
        exact fun Hs1 H1 σ1 Fp1 R1 => h .non Hs1 H1 R1.ext ⟨[], .flat rfl .non, .nil, fun _ z => by cases z⟩
      | rt d =>
        rw [z2] at h
        exact fun Hs1 H1 v e r => h v Hs1 H1 e r
      | exc c fs ρ =>
        rw [z2] at h
        exact fun Hs1 H1 σ1 cls dd e r => h Hs1 H1 cls dd e r
      | _ => rw [z2] at h; exact h.elim
end
end G
/-! G: a tuple's slice with a step (not 1) -/
namespace HT
open PySem PyProof.Rows
open PySem.SeqAt
section
variable {prog : Program} {w : World} {A : Around} {E : Value → Shared → Prop} {s : Shared}
theorem sliceApplied_st {sl : Addr} {vl vu vc : Value} {lo hi : Option Int} {c : Int} {n : Nat} {Q : Int × Int × Nat → Shared → Prop} (hs : s.heap.IsSliceOf sl vl vu vc) (pl : IsPart vl lo) (pu : IsPart vu hi) (pc : IsPart vc (some c)) (hc : c ≠ 0)
    (h : Q ((Builtin.Slice.sliceAdjust lo hi c n).1, c, Builtin.Slice.slicePlaces (Builtin.Slice.sliceAdjust lo hi c n).1 (Builtin.Slice.sliceAdjust lo hi c n).2 c) s) : wpAny (model prog w) A (Builtin.Slice.sliceApplied (.ref sl) (pure (n : Int))) Q E s := by
  obtain ⟨os, hos, hcs, hds⟩ := id hs
  unfold Builtin.Slice.sliceApplied Builtin.Slice.sliceFields
  refine wpAny_bind (wpAny_bind (wpAny_field hos hds (x := vl) rfl (wpAny_bind (wpAny_field hos hds (x := vu) rfl (wpAny_bind (wpAny_field hos hds (x := vc) rfl (wpAny_pure ?_)))))))
  refine wpAny_bind (slicePart_ pc ?_)
  show wpAny _ _ (if (c == 0) = true then _ else _) _ _ s
  rw [if_neg (by simpa using hc)]
  refine wpAny_bind (slicePart_ pl (wpAny_bind (slicePart_ pu (wpAny_bind (wpAny_pure ?_)))))
  exact wpAny_pure h
def pickT {α : Type} (xs : List α) (lo hi : Option Int) (c : Int) : List α := (List.range (Builtin.Slice.slicePlaces (Builtin.Slice.sliceAdjust lo hi c xs.length).1 (Builtin.Slice.sliceAdjust lo hi c xs.length).2 c)).filterMap fun (m : Nat) => xs[((Builtin.Slice.sliceAdjust lo hi c xs.length).1 + (m : Int) * c).toNat]?
theorem getItem_tuple_step {t sl : Addr} {items : Array Value} {vl vu vc : Value} {lo hi : Option Int} {c : Int} {Q : Value → Shared → Prop} (ht : IsTup s.heap t items) (hs : s.heap.IsSliceOf sl vl vu vc) (pl : IsPart vl lo) (pu : IsPart vu hi) (pc : IsPart vc (some c)) (hc : c ≠ 0) (hc1 : c ≠ 1)
    (h : Q (.ref s.heap.objs.size) { s with heap := s.heap.push { cls := .type "tuple", data := .seq (pickT items.toList lo hi c).toArray } })
    (hsz : (pickT items.toList lo hi c).length ≤ sizeLine) : wpAny (model prog w) A (getItem (.ref t) (.ref sl)) Q E s := by
  have htake : sizeOk (.seq (pickT items.toList lo hi c).toArray) := by
    show (pickT items.toList lo hi c).toArray.size ≤ sizeLine
    rw [List.size_toArray]
    exact hsz
  obtain ⟨os, hos, hcs, hds⟩ := id hs
  have hTs : s.TypeIs (.ref sl) "slice" := ⟨os, hos, hcs⟩
  unfold getItem
  try with_reducible refine wpAny_holding ?_
  first | refine wpAny_bind (wpAny_pure ?_) | skip
  refine wpAny_bind (wpAny_sequenceKey ht.typeIs (by decide) ?_)
  refine wpAny_bind (wpAny_callSpecial?_slot (name := Str.ofString "__getitem__") ht.typeIs PyProof.Rows.slot_tuple_getitem
    (wpAny_call_entry PyProof.Rows.slot_tuple_getitem ht.typeIs entry_tuple_getitem ?_ (args_tuple_getitem _ _)))
  show wpAny _ _ (Builtin.Tuple.tupleItemsOf (.ref t) >>= _) _ _ s
  refine wpAny_bind (tupleItemsOf_ ht ?_)
  refine wpAny_bind (wpAny_typeOf hTs ?_)
  rw [if_pos (by decide)]
  refine wpAny_bind (sliceApplied_st hs pl pu pc hc ?_)
  have hno : ¬ (((Builtin.Slice.sliceAdjust lo hi c (items.size : Nat)).1 == 0 && c == 1 && (Builtin.Slice.slicePlaces (Builtin.Slice.sliceAdjust lo hi c (items.size : Nat)).1 (Builtin.Slice.sliceAdjust lo hi c (items.size : Nat)).2 c) == items.size) = true) := by
    intro q
    rw [Bool.and_eq_true, Bool.and_eq_true] at q
    exact hc1 (eq_of_beq q.1.2)
  show wpAny _ _ (if ((Builtin.Slice.sliceAdjust lo hi c (items.size : Nat)).1 == 0 && c == 1 && (Builtin.Slice.slicePlaces (Builtin.Slice.sliceAdjust lo hi c (items.size : Nat)).1 (Builtin.Slice.sliceAdjust lo hi c (items.size : Nat)).2 c) == items.size) = true then _ else _) _ _ s
  rw [if_neg hno]
  have ep : ((List.range (Builtin.Slice.slicePlaces (Builtin.Slice.sliceAdjust lo hi c (items.size : Nat)).1 (Builtin.Slice.sliceAdjust lo hi c (items.size : Nat)).2 c)).filterMap fun (m : Nat) => items[((Builtin.Slice.sliceAdjust lo hi c (items.size : Nat)).1 + (m : Int) * c).toNat]?) = pickT items.toList lo hi c := by
    unfold pickT
    rw [Array.length_toList]
    congr 1
    funext m
    rw [Array.getElem?_toList]
  rw [ep]
  first
    | exact wpAny_bind (m := Builtin.Tuple.tupleExact _) (wpAny_newObj_type (wpAny_pure ⟨_, rfl, wpAny_pure h⟩) htake)
    | exact wpAny_bind (m := Builtin.Tuple.tupleExact _) (wpAny_newObj_type (wpAny_bind (wpAny_pure (wpAny_pure ⟨_, rfl, wpAny_pure h⟩))) htake)
    | exact wpAny_bind (wpAny_bind (m := Builtin.Tuple.tupleExact _) (wpAny_newObj_type (wpAny_pure (wpAny_pure ⟨_, rfl, wpAny_pure h⟩)) htake))
    | exact wpAny_bind (wpAny_bind (m := Builtin.Tuple.tupleExact _) (wpAny_newObj_type (wpAny_pure ⟨_, rfl, wpAny_pure h⟩) htake))
end
end HT
namespace L2
open PySem PySem.Spec
open PyProof.Rows hiding St
theorem Vals.pickF {xs : List V} {us : List Value} (r : Vals xs us) (g : Nat → Nat) : ∀ js : List Nat, Vals (js.filterMap fun m => xs[g m]?) (js.filterMap fun m => us[g m]?)
  | [] => .nil
  | j :: js => by
    have ih := Vals.pickF r g js
    rw [List.filterMap_cons, List.filterMap_cons]
    cases h : xs[g j]? with
    | none =>
      have : us[g j]? = none := by
        rw [List.getElem?_eq_none_iff] at h ⊢
        rw [← r.length]; exact h
      rw [this]
      exact ih
    | some x =>
      obtain ⟨u, h2, h3⟩ := r.get h
      rw [h2]
      exact .cons h3 ih
theorem Vals.pickT {xs : List V} {us : List Value} (r : Vals xs us) (lo hi : Option Int) (c : Int) : Vals (HT.pickT xs lo hi c) (HT.pickT us lo hi c) := by
  unfold HT.pickT
  rw [← r.length]
  exact r.pickF (fun m => ((Builtin.Slice.sliceAdjust lo hi c xs.length).1 + (m : Int) * c).toNat) _
section
variable {X : Cx} {e st : Expr} {te : TE} {lo hi : Option Expr} {tl th ts : TO} {pos p2 : Pos}
def rSl3T (K : PySem.W.Frag) : V → Option Int → Option Int → Option Int → Hp → VK → Prop := fun x lo hi st H Q => ∃ a xs c, x = .ref a ∧ SqT K H a xs ∧ st = some c ∧ c ≠ 0 ∧ c ≠ 1 ∧ (HT.pickT xs lo hi c).length ≤ 1000 ∧ ∀ p, H p = none → Q (.ref p) (upd H p (.tup (HT.pickT xs lo hi c)))
theorem pe_slice3T (he : PE X e te) (hl : PO X lo tl) (hu : PO X hi th) (hst : PO X (some st) ts) : PE X (.Subscript e (.Slice lo hi (some st) p2) pos) (tSl3 (rSl3T X.K) te tl th ts) := by
  refine ⟨fun pins s σ H Q I h => ?_⟩
  refine Subscript_ (thn (he.run pins s σ H _ I h) fun v s1 ⟨x, H1, I1, r1, q1⟩ => ?_)
  refine wpAny_Slice (thn (hl.run pins s1 σ H1 _ I1 q1) fun vl s2 ⟨l, H2, I2, pl, q2⟩ => thn (hu.run pins s2 σ H2 _ I2 q2) fun vu s3 ⟨u, H3, I3, pu, q3⟩ => thn (hst.run pins s3 σ H3 _ I3 q3) fun vc s4 ⟨c0, H4, I4, pc, q4⟩ => ?_)
  obtain ⟨a, xs, c, rfl, hx, rfl, hc, hc1, hlen, q⟩ := q4
  cases r1
  have I5 : Inv X pins σ H4 { s4 with heap := s4.heap.push { cls := .type "slice", data := .fields #[vl, vu, vc] } } := I4.kept (t' := s4.toks) fun b ob q => Heap.get?_push_of_some _ q
  obtain ⟨its, r, ht, hz⟩ := I5.tuple hx
  have hv := r.pickT l u c
  have hl2 : (HT.pickT its l u c).length ≤ sizeLine := by
    rw [← hv.length]
    exact Nat.le_trans hlen (by decide)
  have hg : wpAny (model X.prog X.w) X.A (getItem (.ref a) (.ref s4.heap.objs.size)) (EP X pins σ Q) X.xe { s4 with heap := s4.heap.push { cls := .type "slice", data := .fields #[vl, vu, vc] } } := by
    refine HT.getItem_tuple_step ht (Heap.IsSliceOf.new ..) pl pu pc hc hc1 ?_ hl2
    refine ⟨.ref _, _, I5.laid (t' := s4.toks) (o := .tup (HT.pickT xs l u c)) (fun b ob q => Heap.get?_push_of_some _ q) (Nat.le_refl _) ?_, rfl, q _ (I5.hok.fresh (Nat.le_refl _))⟩
    exact ⟨by rw [hv.length]; exact hl2, HT.pickT its l u c, hv, ⟨_, Heap.get?_push_size _ rfl, rfl, _, rfl⟩⟩
  show wpAny (model X.prog X.w) X.A (subscriptTail e (.Slice lo hi (some st) p2) (.ref a) (.ref s4.heap.objs.size)) (EP X pins σ Q) X.xe { s4 with heap := s4.heap.push { cls := .type "slice", data := .fields #[vl, vu, vc] } }
  exact tail_any (ops := [.ref a, .ref s4.heap.objs.size]) ht.typeIs PyProof.Rows.slot_tuple_getitem.lookup hg (by with_unfolding_all rfl)
end
end L2
namespace G
open PySem PySem.Spec L2
open PyProof.Rows hiding St
theorem DenL.pickF {M : MK} {H : Hp} {vs : List V} {ds : List D} (r : DenL M H vs ds) (g : Nat → Nat) : ∀ js : List Nat, DenL M H (js.filterMap fun m => vs[g m]?) (js.filterMap fun m => ds[g m]?)
  | [] => .nil
  | j :: js => by
    have ih := DenL.pickF r g js
    rw [List.filterMap_cons, List.filterMap_cons]
    cases h : ds[g j]? with
    | none =>
      have : vs[g j]? = none := by
        rw [List.getElem?_eq_none_iff] at h ⊢
        rw [r.length]; exact h
      rw [this]
      exact ih
    | some x =>
      obtain ⟨u, h2, h3⟩ := r.get h
      rw [h2]
      exact .cons h3 ih
theorem DenL.pickT {M : MK} {H : Hp} {vs : List V} {ds : List D} (r : DenL M H vs ds) (lo hi : Option Int) (c : Int) : DenL M H (HT.pickT vs lo hi c) (HT.pickT ds lo hi c) := by
  unfold HT.pickT
  rw [r.length]
  exact r.pickF _ _
section
variable {X : Cx} {W : WX} {ms : Modes} {a : Expr} {ea : Env → Rs D} {el eh es : Env → Rs (Option Int)} {pos p2 : Pos} {lo' hi' : Option Expr} {st' : Expr}
def dStepT : D → Option Int → Option Int → Option Int → Rs D
  | .tup xs, lo, hi, some c => if c = 0 ∨ c = 1 ∨ 1000 < (HT.pickT xs lo hi c).length then .bad else .ok (.tup (HT.pickT xs lo hi c))
  | _, _, _, _ => .bad
def eSl3T (ea : Env → Rs D) (el eh es : Env → Rs (Option Int)) : Env → Rs D := fun ρ => (ea ρ).bind fun d => (el ρ).bind fun lo => (eh ρ).bind fun hi => (es ρ).bind fun st => dStepT d lo hi st
theorem je_sl3T (ha : JG X W .s ms a ea) (h1 : JP X W ms lo' el) (h2 : JP X W ms hi' eh) (h3 : JP X W ms (some st') es) : JG X W .s ms (.Subscript a (.Slice lo' hi' (some st') p2) pos) (eSl3T ea el eh es) := by
  obtain ⟨ta, a1, a2⟩ := ha
  obtain ⟨tl, l1, l2⟩ := h1
  obtain ⟨tu, k1, k2⟩ := h2
  obtain ⟨ts, c1, c2⟩ := h3
  refine ⟨_, pe_slice3T a1 l1 k1 c1, fun B Hs H σ ρ Fp Q R p => ?_⟩
  refine a2 B Hs H σ ρ Fp _ R (p.seq fun d x Hs1 H1 _ e1 r1 q1 => ?_)
  refine l2 B Hs1 H1 σ ρ Fp _ (R.step e1) (q1.seq fun l l' Hs2 H2 _ e2 r2 q2 => ?_)
  refine k2 B Hs2 H2 σ ρ Fp _ (R.step (e1.trans e2)) (q2.seq fun u u' Hs3 H3 _ e3 r3 q3 => ?_)
  refine c2 B Hs3 H3 σ ρ Fp _ (R.step ((e1.trans e2).trans e3)) (q3.seq fun c c' Hs4 H4 _ e4 r4 q4 => ?_)
  subst r2 r3 r4
  have dx := (r1.ext ((e2.trans e3).trans e4)).s
  cases dx with
  | @tup a vs xs h1 ll =>
    cases c' with
    | none => exact q4.elim
    | some z =>
      have q5 : Post X W (PV X .s) Hs4 H4 σ Q (if z = 0 ∨ z = 1 ∨ 1000 < (HT.pickT xs l' u' z).length then .bad else .ok (.tup (HT.pickT xs l' u' z))) := q4
      by_cases hz : z = 0 ∨ z = 1 ∨ 1000 < (HT.pickT xs l' u' z).length
      · rw [if_pos hz] at q5; exact q5.elim
      · rw [if_neg hz] at q5
        have lp := ll.pickT l' u' z
        refine ⟨a, vs, z, rfl, SqT.of (e4.s2 _ _ h1), rfl, fun w => hz (.inl w), fun w => hz (.inr (.inl w)), ?_, fun q np => q5 _ _ _ (Ext.new e4.s2 np) (.of (.tup upd_same (lp.mono (same_upd (e4.s2.free np)))))⟩
        rw [lp.length]
        exact Nat.not_lt.mp fun w => hz (.inr (.inr w))
  | _ => exact q4.elim
end
end G
/-! G: for (a, b), w in d.items(), the keys tuples -/
namespace L2
open PySem PySem.Spec
open PyProof.Rows hiding St
section
variable {X : Cx} {pins : List (Addr × Obj)} {σ : St} {H : Hp} {s : Shared} {d : Addr} {o : Obj}
theorem Inv.frzT2 {kvs : List (List Key × V)} (I : Inv X pins σ H s) (h : H d = some (.frz o (.dT kvs))) :
    (d == sysModules) = false ∧ s.heap.get? d = some o ∧ o.ExactDict ∧ ∃ (es : Array DictEntry) (ep : Nat), o.data = .dict es ep ∧ es.size = kvs.length ∧
      ∀ (i : Nat) (k : List Key) (v : V), kvs[i]? = some (k, v) → ∃ (en : DictEntry) (q : Addr), es[i]? = some en ∧ en.key = .ref q ∧ H q = some (.tup (k.map kV)) ∧ RelV v en.val := by
  obtain ⟨hd, z, hs, xs, pr, o', es, ep, ho, hx, hdt, he, _⟩ := I.hok d _ h
  rw [hd] at ho
  cases ho
  refine ⟨hs, hd, hx, es, ep, hdt, ?_, fun i k v e => ?_⟩
  · have l1 : es.size = xs.length := size_of_entries he
    have l2 : kvs.length = xs.length := Paired.length pr
    omega
  · obtain ⟨b, hb, e1, e2, e3⟩ := paired_get pr e
    have q := entry_at he i
    rw [hb] at q
    exact ⟨_, b.2.1, q, rfl, e2, e3⟩
end
/-- the pairs of a locked dict whose keys are tuples, each a new tuple -/
def Itit (d : Addr) (o : Obj) (kvs : List (List Key × V)) : It :=
  ⟨fun i H => H d = some (.frz o (.dT kvs)) ∧ i < kvs.length, fun i H x H' => ∃ T k v q, kvs[i]? = some (k, v) ∧ x = .ref T ∧ H T = none ∧ H q = some (.tup (k.map kV)) ∧ H' = upd H T (.tup [.ref q, v]), fun i H => H d = some (.frz o (.dT kvs)) ∧ kvs.length ≤ i⟩
section
variable {P : Program} {w : World} {K : PySem.W.Frag} {d : Addr} {o : Obj} {es : Array DictEntry} {ep : Nat}
theorem turn_itemsT {kvs : List (List Key × V)} {elts : List Expr} {kk : Nat} {tpos : Pos} (it : Addr) (hod : o.data = .dict es ep) :
    Turn P w K (.Tuple elts kk tpos) (Itit d o kvs) [it] it (fun i h => ∃ ok ov, IsItemIter h it d i kvs.length ep ok ov) where
  mem := by simp
  obj := fun i h st b hb => by
    have e : b = it := by simpa using hb
    subst e
    obtain ⟨ok, ov, e⟩ := st
    exact ⟨_, e, fun v z => nomatch z⟩
  keep := fun i h h' st k => let ⟨ok, ov, e⟩ := st; ⟨ok, ov, k it (by simp) _ e⟩
  item := by
    intro X hP hw hK hc i pins s σ H E I hf st hg
    subst hP hw hK
    obtain ⟨hd, hi⟩ := hg
    obtain ⟨hs, hgd, hx, es', ep', hdt, hsz, ent⟩ := I.frzT2 hd
    obtain ⟨rfl, rfl⟩ := dict_ep hod hdt
    obtain ⟨⟨k, v⟩, hkv⟩ : ∃ p, kvs[i]? = some p := ⟨kvs[i], List.getElem?_eq_getElem hi⟩
    obtain ⟨en, q, hen, hkey, hq, ru⟩ := ent i k v hkv
    have hraw : s.heap.DictRaw d es' ep' := ⟨o, hgd, hx, hdt⟩
    obtain ⟨ok, ov, he⟩ := st
    rw [← hsz] at he
    have hlt : it < s.heap.objs.size := Heap.lt_size he
    have hi2 : i < es'.size := by omega
    have een : es'[i] = en := by
      rw [Array.getElem?_eq_getElem hi2] at hen
      exact Option.some.inj hen
    refine wpAny_pyNext_items_item_raw he hraw hi2 fun h' ho hT hz hk => ?_
    rw [een, hkey] at ho hT
    refine ⟨_, rfl, wpAny_letOwnedTupleGo_items (s := { s with heap := h' }) ho fun h'' he' sb => ?_⟩
    have hT2 : h''.get? s.heap.objs.size = some { cls := .type "tuple", data := .seq #[.ref q, en.val] } := (sb.2 _ (Nat.ne_of_gt hlt)).trans hT
    have new : ObjOk X.prog X.w (upd H s.heap.objs.size (.tup [.ref q, v])) h'' s.heap.objs.size (.tup [.ref q, v]) :=
      ⟨by show 2 ≤ sizeLine; decide, [.ref q, en.val], .cons rfl (.cons ru .nil), ⟨_, hT2, rfl, _, rfl⟩⟩
    have I1 : Inv X pins σ (upd H s.heap.objs.size (.tup [.ref q, v])) { s with heap := h'' } :=
      I.turnedNew (t' := s.toks) (ch := [it]) (fun b ob hb e => (sb.2 b (by simpa using hb)).trans (hk b ob (by simpa using hb) e)) hf (Nat.le_refl _) new
    refine ⟨.ref s.heap.objs.size, _, I1, rfl, ⟨_, k, v, q, hkv, rfl, I.hok.fresh (Nat.le_refl _), hq, rfl⟩, ⟨.ref q, en.val, ?_⟩, fun b hb => ?_⟩
    · rw [← hsz]; exact he'
    · have e : b = it := by simpa using hb
      rw [e, upd_ne (Nat.ne_of_lt hlt)]
      exact (hf it (by simp)).1
  done := by
    intro X hP hw hK hc i pins s σ H E I hf st hg
    subst hP hw hK
    obtain ⟨hd, hi⟩ := hg
    obtain ⟨f0, f1, f2, f3, f4, f5⟩ := hf it (by simp)
    obtain ⟨hs, hgd, hx, es', ep', hdt, hsz, ent⟩ := I.frzT2 hd
    obtain ⟨rfl, rfl⟩ := dict_ep hod hdt
    have hraw : s.heap.DictRaw d es' ep' := ⟨o, hgd, hx, hdt⟩
    obtain ⟨ok, ov, he⟩ := st
    rw [← hsz] at he
    exact wpAny_pyNext_items_end_raw (I.ok.hd hc) he hraw (by omega) fun h' eb => ⟨rfl, I.turned (t' := s.toks) (fun b ob hb e => eb b ob hb e) f0 f1 f3 f4 f5⟩
  self := fun A i s Q E st h => let ⟨_, _, e⟩ := st; PySem.W.kcp_self e h
end
def iItemsT (td : TE) : TI := fun σ H R => td σ H fun x H1 => ∃ d o kvs, x = .ref d ∧ H1 d = some (.frz o (.dT kvs)) ∧ R (Itit d o kvs) H1
section
variable {X : Cx} {tg e : Expr} {td : TE} {apos cpos : Pos}
theorem pi_itemsT {elts : List Expr} {kk : Nat} {tpos : Pos} (he : PE X e td) (hbase : attributeBase e "items" X.env (eval e X.env) = eval e X.env := by rfl) (hline : (apos.endLine == cpos.line) = true := by rfl) :
    PI X (.Tuple elts kk tpos) (.Call (.Attribute e "items" apos) [] [] cpos) (iItemsT td) := by
  refine ⟨fun pins s σ H R I h => ?_⟩
  refine wpAny_Call_method (T := "dict") (id := "dict.items") hbase rfl hline F.plainAttrs_dict F.slot_dict_items F.type_dict_items (thn (he.run pins s σ H _ I h) fun u s1 ⟨x, H1, I1, rx, d, o, kvs, ex, hd, q⟩ => ?_)
  subst ex
  obtain rfl : u = Value.ref d := rx
  obtain ⟨hs, hgd, hx, es, ep, hdt, hsz, ent⟩ := I1.frzT2 hd
  have hraw : s1.heap.DictRaw d es ep := ⟨o, hgd, hx, hdt⟩
  refine ⟨hraw.typeIs, ?_, ?_⟩
  · exact fun b e => by injection e with e; subst e; exact ⟨o, hgd, hx.2.1⟩
  have I2 : Inv X pins σ H1 { s1 with heap := s1.heap.push { cls := .type "dict_items", data := .fields #[.ref d] } } := I1.kept (t' := s1.toks) fun b ob q => Heap.get?_push_of_some _ q
  have fin : wpAny (model X.prog X.w) X.A (pyIter (.ref s1.heap.objs.size)) (PIE X pins σ (.Tuple elts kk tpos) R) X.xe { s1 with heap := s1.heap.push { cls := .type "dict_items", data := .fields #[.ref d] } } := by
    refine wpAny_pyIter_items_raw (d := d) ⟨_, Heap.get?_push_size _ rfl, rfl, rfl⟩ (hraw.at fun ob e => Heap.get?_push_of_some _ e) (pi_one (tk := s1.toks) I2 _ (turn_itemsT _ hdt) ⟨.none, .none, ?_⟩ q)
    rw [← hsz]
    exact Heap.get?_push_size _ rfl
  show wpAny _ _ (callWith cpos (.builtin "dict.items") [.ref d] [] []) _ X.xe s1
  exact method_meetsIn F.slot_dict_items F.entry_dict_items rfl (PySem.evalArgs_none ⟨rfl, hraw.typeIs, F.args_dict_items_1 _, _, meets_dict_items_raw d hs, ⟨es, ep, hraw⟩, fin⟩)
end
end L2
namespace G
open PySem PySem.Spec L2
open PyProof.Rows hiding St
section
variable {X : Cx} {W : WX} {mx : Option Modes} {ml : Modes} {rm : Mode} {mh mt ms ms' : Modes} {B : Hp × Hp} {Hs H : Hp} {σ : St} {ρ : Env} {Fp : Nat → List Addr} {E : Ends} {M : MK} {tg : Expr} {pos : Pos}
def dItT (kvs : List (List Key × D)) : List D := kvs.map fun p => D.tup [.tup (p.1.map keyD), p.2]
theorem dItT_len {ks : List (List Key)} {ds : List D} (h : ks.length = ds.length) : (dItT (ks.zip ds)).length = ds.length := by
  unfold dItT
  rw [List.length_map, List.length_zip, h, Nat.min_self]
theorem dItT_get {ks : List (List Key)} {ds : List D} {n : Nat} {k : List Key} {d : D} (h1 : ks[n]? = some k) (h2 : ds[n]? = some d) : (dItT (ks.zip ds))[n]? = some (.tup [.tup (k.map keyD), d]) := by
  unfold dItT
  rw [List.getElem?_map]
  have : (ks.zip ds)[n]? = some (k, d) := List.getElem?_zip_eq_some.mpr ⟨h1, h2⟩
  rw [this]
  rfl
theorem forDI_core {it tg1 tg2 : Expr} {body : List Stmt} {is js : List Nat} {m1 : Modes} {t1 t2 : TgtD} {kk : Nat} {tpos apos cpos : Pos} {eb : Env → Out} (i : Nat) (hx : XOk mx mh) (hp : PassesOwn (model X.prog X.w) X.A X.env X.xe) (hc : X.calm = true) (hv : PE X it (tVar i)) (hg : JGf X mh tg1 is m1 t1) (hg2 : JGt X m1 tg2 js mt t2) (hb : JSs X W mx mh rm mt body mh eb)
    (hbase : attributeBase it "items" X.env (eval it X.env) = eval it X.env) (hline : (apos.endLine == cpos.line) = true) (hs : ∀ x, foldedSetIterable (.Call (.Attribute it "items" apos) [] [] cpos) X.env x = pure x) (hn : (assignEach [tg1, tg2] X.env).length = 2) (hst : (assignEach [tg1, tg2] X.env).findIdx? (·.1) = none) (hq1 : (assignEach [tg1, tg2] X.env).map (·.2) = assign tg1 X.env :: (assignEach [tg2] X.env).map (·.2)) (hq2 : (assignEach [tg2] X.env).map (·.2) = assign tg2 X.env :: (assignEach [] X.env).map (·.2)) : ∃ T, PS X (.For (.Tuple [tg1, tg2] kk tpos) (.Call (.Attribute it "items" apos) [] [] cpos) body [] pos) T ∧ ∀ B Hs H σ ρ Fp E d od kvs vds, Rel (mkM X) B mh Hs H σ ρ Fp → DenL (mkM X) Hs (kvs.map (·.2)) vds → σ[i]? = some (some (.ref d)) → Hs d = some (.frz od (.dT kvs)) →
      SPost X W mx ml rm B mh E (sFor (tTupN 2 (tsCons t1 (tsCons t2 tsNil))) eb (dItT ((kvs.map (·.1)).zip vds)) ρ) → T E σ H := by
  obtain ⟨g, g1, g2⟩ := hg
  obtain ⟨u, u1, u2⟩ := hg2
  obtain ⟨tb, b1, b2⟩ := hb
  refine ⟨_, ps_for hp hc (pi_itemsT hv hbase hline) (pg_tup hc (pgs_cons g1 (pgs_cons u1 pgs_nil hq2) hq1) hn hst) b1 hs, fun B Hs1 H1 σ ρ Fp E d od kvs vds R1 lv hσ hd p => ?_⟩
  refine ⟨.ref d, hσ, d, od, kvs, rfl, R1.sub _ _ hd, ?_⟩
  have hl : (kvs.map (·.1)).length = vds.length := by have := lv.length; rw [List.length_map] at this ⊢; exact this
  have hlen : (dItT ((kvs.map (·.1)).zip vds)).length = kvs.length := by rw [dItT_len hl, ← hl, List.length_map]
  have hget : ∀ (n : Nat) (k : List Key) (v : V), kvs[n]? = some (k, v) → ∃ dv, Den (mkM X) Hs1 v dv ∧ (dItT ((kvs.map (·.1)).zip vds))[n]? = some (.tup [.tup (k.map keyD), dv]) := fun n k v hk => by
    have hv1 : (kvs.map (·.2))[n]? = some v := by rw [List.getElem?_map, hk]; rfl
    obtain ⟨dv, h1, h2⟩ := lv.getV hv1
    exact ⟨dv, h2, dItT_get (by rw [List.getElem?_map, hk]; rfl) h1⟩
  generalize dItT ((kvs.map (·.1)).zip vds) = ds at p hlen hget
  generalize ht : tTupN 2 (tsCons t1 (tsCons t2 tsNil)) = t at p
  have eB := R1.ext
  have p1 : SPost X W mx ml rm (Hs1, B.2) mh E (sFor t eb ds ρ) := SPost.rebase eB p
  refine ⟨fun i m σ H => m = ds.length - i ∧ i ≤ ds.length ∧ ∃ Hs ρ Fp, Rel (mkM X) (Hs1, B.2) mh Hs H σ ρ Fp ∧ SPost X W mx ml rm (Hs1, B.2) mh E (sFor t eb (ds.drop i) ρ), ⟨ds.length, rfl, Nat.zero_le _, Hs1, ρ, Fp, R1.rebase eB (Same.refl _), p1⟩, ?_⟩
  rintro n m σ2 H2 ⟨rfl, hi, Hs2, ρ2, Fp2, R2, p2⟩
  have hd2 : H2 d = some (.frz od (.dT kvs)) := R2.sub _ _ (R2.ext.s1 _ _ hd)
  by_cases hlt : n < ds.length
  · rw [List.drop_eq_getElem_cons hlt] at p2
    refine .inr ⟨⟨hd2, by omega⟩, fun σ' H' => ∃ Hs ρ Fp, Rel (mkM X) (Hs1, B.2) mh Hs H' σ' ρ Fp ∧ SPost X W mx ml rm (Hs1, B.2) mh E (sFor t eb (ds.drop (n + 1)) ρ), fun σ' H' q => ⟨_, by omega, rfl, hlt, q⟩, fun x H3 hy => ?_⟩
    obtain ⟨T, k, v, q, hk, rfl, hT, hq, e3⟩ := hy
    obtain ⟨dv, hdv, hdn0⟩ := hget n k v hk
    have hdn : ds[n] = D.tup [.tup (k.map keyD), dv] := Option.some.inj ((List.getElem?_eq_getElem hlt).symm.trans hdn0)
    have p3 : SPost X W mx ml rm (Hs1, B.2) mh E (match t ds[n] ρ2 with
      | none => .bad
      | some ρ1 => match eb ρ1 with
        | .nx ρ2 => sFor t eb (ds.drop (n + 1)) ρ2
        | .ct ρ2 => sFor t eb (ds.drop (n + 1)) ρ2
        | .bk ρ2 => .nx ρ2
        | o => o) := p2
    rw [hdn] at p3
    have et : t (D.tup [.tup (k.map keyD), dv]) ρ2 = (t1 (.tup (k.map keyD)) ρ2).bind fun ρ' => t2 dv ρ' := by
      rw [← ht]
      show (tsCons t1 (tsCons t2 tsNil)) [.tup (k.map keyD), dv] ρ2 = _
      show ((t1 (.tup (k.map keyD)) ρ2).bind fun ρ' => (t2 dv ρ').bind fun ρ'' => some ρ'') = _
      cases t1 (.tup (k.map keyD)) ρ2 with
      | none => rfl
      | some z => show (t2 dv z).bind some = t2 dv z; cases t2 dv z <;> rfl
    rw [et] at p3
    cases z1 : t1 (D.tup (k.map keyD)) ρ2 with
    | none => rw [z1] at p3; exact p3.elim
    | some ρ3 =>
      rw [z1] at p3
      simp only [Option.bind_some] at p3
      cases z2 : t2 dv ρ3 with
      | none => rw [z2] at p3; exact p3.elim
      | some ρ4 =>
        rw [z2] at p3
        simp only at p3
        have eN : Ext Hs2 H2 Hs2 H3 := by rw [e3]; exact Ext.newO R2.sub hT
        have R3 := R2.step eN
        have hT3 : H3 T = some (.tup [.ref q, v]) := by rw [e3, upd_same]
        have hq3 : H3 q = some (.tup (k.map kV)) := by rw [e3, upd_ne (ne_of_none hq hT)]; exact hq
        have dv2 : Den (mkM X) Hs2 v dv := Den.mono R2.ext.s1 hdv
        refine ⟨T, _, rfl, SqT.of hT3, rfl, _, _, rfl, ?_⟩
        refine g2 _ Hs2 H3 σ2 ρ2 Fp2 q _ _ ρ3 _ R3 (SqT.of hq3) (keyD_den k) z1 fun σ4 Fp4 R4 => ?_
        refine ⟨_, _, rfl, ?_⟩
        refine u2 _ Hs2 H3 σ4 ρ3 Fp4 v dv ρ4 _ R4 dv2 z2 fun σ5 Fp5 R5 _ _ => ?_
        refine ⟨rfl, b2 _ Hs2 H3 σ5 ρ4 Fp5 _ R5 ?_⟩
        cases zb : eb ρ4 with
        | nx ρ' => rw [zb] at p3; exact fun Hs5 H5 σ5 Fp5 R5 => ⟨Hs5, ρ', Fp5, R5, p3⟩
        | ct ρ' => rw [zb] at p3; exact fun Hs5 H5 σ5 Fp5 R5 => ⟨Hs5, ρ', Fp5, R5, p3⟩
        | bk ρ' => rw [zb] at p3; exact p3
        | rt d => rw [zb] at p3; exact p3
        | exc c fs ρ' => rw [zb] at p3; exact p3
        | bad => rw [zb] at p3; exact p3
  · have e : n = ds.length := by omega
    subst e
    rw [List.drop_length] at p2
    exact .inl ⟨⟨hd2, by omega⟩, p2 Hs2 H2 σ2 Fp2 R2⟩
/-- a locked dict's loop lets nothing out -/
def sForDI (i : Nat) (t : TgtD) (s : Env → Out) : Env → Out := fun ρ => match ρ[i]? with
  | some (some (.dt kvs)) => match sFor t s (dItT kvs) ρ with
    | .exc _ _ _ => .bad
    | o => o
  | _ => .bad
theorem js_forDI {it tg1 tg2 : Expr} {body : List Stmt} {is js : List Nat} {m1 : Modes} {t1 t2 : TgtD} {kk : Nat} {tpos apos cpos : Pos} {eb : Env → Out} (i : Nat) (hx : XOk mx mh) (hp : PassesOwn (model X.prog X.w) X.A X.env X.xe) (hc : X.calm = true) (hv : PE X it (tVar i)) (hg : JGf X mh tg1 is m1 t1) (hg2 : JGt X m1 tg2 js mt t2) (hb : JSs X W mx mh rm mt body mh eb)
    (hm : md mh i = .S := by rfl) (hbase : attributeBase it "items" X.env (eval it X.env) = eval it X.env := by rfl) (hline : (apos.endLine == cpos.line) = true := by rfl) (hs : ∀ x, foldedSetIterable (.Call (.Attribute it "items" apos) [] [] cpos) X.env x = pure x := by intro _; rfl) (hn : (assignEach [tg1, tg2] X.env).length = 2 := by rfl) (hst : (assignEach [tg1, tg2] X.env).findIdx? (·.1) = none := by rfl) (hq1 : (assignEach [tg1, tg2] X.env).map (·.2) = assign tg1 X.env :: (assignEach [tg2] X.env).map (·.2) := by rfl) (hq2 : (assignEach [tg2] X.env).map (·.2) = assign tg2 X.env :: (assignEach [] X.env).map (·.2) := by rfl) : JS X W mx ml rm mh (.For (.Tuple [tg1, tg2] kk tpos) (.Call (.Attribute it "items" apos) [] [] cpos) body [] pos) mh (sForDI i (tTupN 2 (tsCons t1 (tsCons t2 tsNil))) eb) := by
  obtain ⟨T, h1, h2⟩ := forDI_core (ml := ml) (kk := kk) (tpos := tpos) i hx hp hc hv hg hg2 hb hbase hline hs hn hst hq1 hq2
  refine ⟨_, G.PS.or h1 (ps_lock h1), fun B Hs H σ ρ Fp E R p => ?_⟩
  unfold sForDI at p
  split at p
  · rename_i kv hρ
    obtain ⟨v, g1, g2⟩ := R.val i _ hρ
    rw [hm] at g2
    have dn := g2.S.1
    cases dn with
    | @dt d kvs ks ds hr hk l =>
      subst hk
      rcases hr with hr | ⟨od, hr⟩
      rotate_left
      · refine .inl (h2 B Hs H σ ρ Fp E d od kvs ds R l g1 hr ?_)
        split at p
        · exact p.elim
        · exact p
      · -- the lock
        have hH := R.sub _ _ hr
        refine .inr ⟨d, .dT kvs, hH, trivial, fun od => ?_⟩
        have isd : IsD (.dT kvs) := .inr ⟨kvs, rfl⟩
        have fne : ∀ {Hx : Hp} {b : Addr}, Hx b = none → Hx d = some (.dT kvs) → b ≠ d := fun h1 h2 z => by subst z; rw [h1] at h2; cases h2
        have cl : Ch Hs (upd Hs d (.frz od (.dT kvs))) := fun a o h => by
          by_cases z : a = d
          · subst z
            rw [hr] at h
            cases h
            exact .inr ⟨od, _, isd, .inl ⟨rfl, upd_same⟩⟩
          · exact .inl (by rw [upd_ne z]; exact h)
        let B2 : Hp := fun b => if b = d ∧ B.2 d ≠ none then some (.frz od (.dT kvs)) else B.2 b
        have b2ne : ∀ {b : Addr}, b ≠ d → B2 b = B.2 b := fun z => if_neg fun y => z y.1
        have eL : Ext (upd Hs d (.frz od (.dT kvs))) B2 (upd Hs d (.frz od (.dT kvs))) (upd H d (.frz od (.dT kvs))) := by
          refine ⟨Same.refl _, fun b o h => ?_, fun b o h => ?_, fun a _ _ _ h2 => h2⟩
          · by_cases z : b = d
            · subst z; rw [upd_same] at h ⊢; exact h
            · rw [upd_ne z] at h ⊢; exact R.sub _ _ h
          · by_cases z : b = d
            · subst z
              by_cases y : B.2 b = none
              · have : B2 b = B.2 b := if_neg fun w => w.2 y
                rw [this, y] at h; cases h
              · have : B2 b = some (.frz od (.dT kvs)) := if_pos ⟨rfl, y⟩
                rw [this] at h
                rw [upd_same]; exact h
            · rw [b2ne z] at h
              rw [upd_ne z]; exact R.ext.s3 _ _ h
        have RL : Rel (mkM X) (upd Hs d (.frz od (.dT kvs)), B2) mh (upd Hs d (.frz od (.dT kvs))) (upd H d (.frz od (.dT kvs))) σ ρ Fp := R.ch cl eL fun n a ha => by
          have z : a ≠ d := fne (R.has ha).1 hr
          exact ⟨by rw [upd_ne z]; exact (R.has ha).1, by rw [upd_ne z], by show B2 a = none; rw [b2ne z]; exact R.fr n a ha⟩
        -- the way back
        have back : ∀ {ms' : Modes} {ρ1 : Env} {Hs1 H1 : Hp} {σ1 : St} {Fp1 : Nat → List Addr}, Rel (mkM X) (upd Hs d (.frz od (.dT kvs)), B2) ms' Hs1 H1 σ1 ρ1 Fp1 → H1 d = some (.frz od (.dT kvs)) ∧ Rel (mkM X) B ms' (upd Hs1 d (.dT kvs)) (upd H1 d (.dT kvs)) σ1 ρ1 Fp1 := fun {ms' ρ1 Hs1 H1 σ1 Fp1} R1 => by
          have k1 : Hs1 d = some (.frz od (.dT kvs)) := R1.ext.s1 _ _ upd_same
          have k2 := R1.sub _ _ k1
          refine ⟨k2, R1.ch (fun a o h => ?_) ⟨fun a o h => ?_, fun a o h => ?_, fun a o h => ?_, fun a oo h3 nk h4 => ?_⟩ fun n a ha => ?_⟩
          · by_cases z : a = d
            · subst z
              rw [k1] at h
              cases h
              exact .inr ⟨od, _, isd, .inr ⟨rfl, upd_same⟩⟩
            · exact .inl (by rw [upd_ne z]; exact h)
          · have h5 := R.ext.s1 _ _ h
            by_cases z : a = d
            · subst z; rw [hr] at h5; rw [upd_same]; exact h5
            · rw [upd_ne z]; exact R1.ext.s1 _ _ (by show upd Hs d _ a = some o; rw [upd_ne z]; exact h5)
          · by_cases z : a = d
            · subst z; rw [upd_same] at h ⊢; exact h
            · rw [upd_ne z] at h ⊢; exact R1.sub _ _ h
          · have h5 := R.ext.s3 _ _ h
            by_cases z : a = d
            · subst z; rw [hH] at h5; rw [upd_same]; exact h5
            · rw [upd_ne z]; exact R1.ext.s3 _ _ (by show B2 a = some o; rw [b2ne z]; exact h)
          · have h5 := R.ext.s4 a oo h3 nk h4
            have z : a ≠ d := fne h5 hr
            rw [upd_ne z]
            exact R1.ext.s4 a oo (by show B2 a = some oo; rw [b2ne z]; exact h3) nk (by show upd Hs d _ a = none; rw [upd_ne z]; exact h5)
          · have h5 := (R1.has ha).1
            have z : a ≠ d := fun y => by subst y; rw [k1] at h5; cases h5
            have h6 := R1.fr n a ha
            exact ⟨by rw [upd_ne z]; exact h5, by rw [upd_ne z], by rw [← b2ne z]; exact h6⟩
        refine h2 (upd Hs d (.frz od (.dT kvs)), B2) _ _ σ ρ Fp _ d od kvs ds RL (l.ch cl) g1 upd_same ?_
        cases zo : sFor (tTupN 2 (tsCons t1 (tsCons t2 tsNil))) eb (dItT ((kvs.map (·.1)).zip ds)) ρ with
        | nx ρ' =>
          rw [zo] at p
          intro Hs1 H1 σ1 Fp1 R1
          obtain ⟨k1, k2⟩ := back R1
          exact ⟨k1, p _ _ σ1 Fp1 k2⟩
        | bk ρ' =>
          rw [zo] at p
          intro Hs1 H1 σ1 Fp1 R1
          obtain ⟨k1, k2⟩ := back R1
          exact ⟨k1, p _ _ σ1 Fp1 k2⟩
        | ct ρ' =>
          rw [zo] at p
          intro Hs1 H1 σ1 Fp1 R1
          obtain ⟨k1, k2⟩ := back R1
          exact ⟨k1, p _ _ σ1 Fp1 k2⟩
        | rt dd =>
          rw [zo] at p
          intro Hs1 H1 v e r
          have R0 : Rel (mkM X) (upd Hs d (.frz od (.dT kvs)), B2) [] Hs1 H1 [] [] (fun _ => []) := ⟨e, rfl, rfl, fun i d h => by simp at h, fun _ _ => rfl, fun _ => .nil, fun _ _ z => (nomatch z), fun _ _ _ _ z => (nomatch z)⟩
          obtain ⟨k1, k2⟩ := back R0
          obtain ⟨F, o, n, fr⟩ := r
          have kd : Hs1 d = some (.frz od (.dT kvs)) := e.s1 _ _ upd_same
          have nz : ∀ a ∈ F, a ≠ d := fun a ha y => by subst y; have := (o.none _ ha).1; rw [kd] at this; cases this
          refine ⟨k1, p _ _ v k2.ext ⟨F, o.moveC (fun a u h => ?_) (fun a ha => by rw [upd_ne (nz a ha)]; exact (o.none a ha).1) fun a u h ha => by rw [upd_ne (nz a ha)]; exact h, n, fun a ha => by rw [← b2ne (nz a ha)]; exact fr a ha⟩⟩
          by_cases z : a = d
          · subst z
            rw [kd] at h
            cases h
            exact .inr ⟨od, _, isd, .inr ⟨rfl, upd_same⟩⟩
          · exact .inl (by rw [upd_ne z]; exact h)
        | exc c fs ρ' => rw [zo] at p; exact p.elim
        | bad => rw [zo] at p; exact p.elim
  · exact p.elim
end
end G
namespace G
open PySem PySem.Spec L2
open PyProof.Rows hiding St
section
variable {X : Cx} {W : WX} {ms : Modes} {o e f : Expr} {eo ee ef : Env → Rs D} {apos cpos pos : Pos} {le : Lv}
/-- d.get(k, x), d a dict of this frame alone -/
theorem je_get2O (hu : X.A.units + 64 < cLine) (ho : JG X W (.t (.O .S)) ms o eo) (he : JG X W le ms e ee) (hf : JG X W .s ms f ef) (m : M2 X o "get" apos e f cpos) : JG X W .s ms (.Call (.Attribute o "get" apos) [e, f] [] cpos) (v3 dGet2 eo ee ef) := by
  obtain ⟨t, h1, h2⟩ := ho
  obtain ⟨u, k1, k2⟩ := he
  obtain ⟨w, f1, f2⟩ := hf
  refine ⟨_, pe_dget2 (by omega) h1 k1 f1 m, fun B Hs H σ ρ Fp Q R p => h2 B Hs H σ ρ Fp _ R (Post.seq p fun d x Hs1 H1 _ e1 r q => ?_)⟩
  obtain ⟨F, o1⟩ := r
  have isd : isDD d = true → ∃ a, x = .ref a ∧ L2.IsD H1 a := fun z => by
    cases o1 with
    | flat f h => cases h with
      | dk h _ _ => exact ⟨_, rfl, .inl ⟨_, Same.rd e1.s2 h⟩⟩
      | dt h _ _ => exact ⟨_, rfl, .inr ⟨_, Same.rd e1.s2 h⟩⟩
      | _ => cases z
    | shT h => cases z
    | lst n h l => cases z
    | dk n h k l => exact ⟨_, rfl, .inl ⟨_, .inl h⟩⟩
    | dt n h k l => exact ⟨_, rfl, .inr ⟨_, .inl h⟩⟩
  by_cases c : isDD d = true
  · rw [if_pos c] at q
    obtain ⟨a, ha, hd⟩ := isd c
    refine ⟨a, ha, hd, k2 B Hs1 H1 σ ρ Fp _ (R.step e1) (q.seq fun d2 y Hs2 H2 _ e2 r2 q2 => ?_)⟩
    refine f2 B Hs2 H2 σ ρ Fp _ (R.step (e1.trans e2)) (q2.seq fun d3 z Hs3 H3 _ e3 r3 q3 => ?_)
    have dx3 : Own (mkM X) Hs3 H3 (.O .S) x d F := (o1.ext e2).ext e3
    have dy3 := (r2.b e2.s2).mono e3.s3
    unfold dGet2 at q3
    have fin : ∀ (oo : Option D) (rr : Option V), dLook d d2 = some oo → DGet H3 a y rr → (oo = none → rr = none) → (∀ zz, oo = some zz → ∃ vv, rr = some vv ∧ Den (mkM X) Hs3 vv zz) → ∃ o, DGet H3 a y o ∧ Q (o.getD z) H3 := fun oo rr e g n1 n2 => by
      rw [e] at q3
      refine ⟨rr, g, ?_⟩
      cases oo with
      | none => rw [n1 rfl]; exact q3 z Hs3 H3 (Ext.refl e3.s2) (.of r3.s)
      | some zz =>
        obtain ⟨vv, rfl, dv⟩ := n2 zz rfl
        exact q3 vv Hs3 H3 (Ext.refl e3.s2) (.of dv)
    cases z3 : dLook d d2 with
    | none => rw [z3] at q3; exact q3.elim
    | some oo =>
      subst ha
      have key : ∀ {kvs : List (Key × V)} {ds : List D}, Rd H3 a (.dK kvs) → d = .dk ((kvs.map (·.1)).zip ds) → DenL (mkM X) Hs3 (kvs.map (·.2)) ds → ∃ o, DGet H3 a y o ∧ Q (o.getD z) H3 := fun {kvs ds} g1 g2 g3 => by
        subst g2
        obtain ⟨k, hk, rfl⟩ := Option.map_eq_some_iff.mp z3
        have ey := keyOf_den dy3 hk
        subst ey
        obtain ⟨i1, i2⟩ := look_den (k := k) g3
        exact fin _ _ z3 (.inl ⟨_, k, g1, rfl, rfl⟩) i2 i1
      have keyT : ∀ {kvs : List (List Key × V)} {ds : List D}, Rd H3 a (.dT kvs) → d = .dt ((kvs.map (·.1)).zip ds) → DenL (mkM X) Hs3 (kvs.map (·.2)) ds → ∃ o, DGet H3 a y o ∧ Q (o.getD z) H3 := fun {kvs ds} g1 g2 g3 => by
        subst g2
        cases dy3 with
        | tup tt ll =>
          obtain ⟨ks, hk, rfl⟩ := Option.map_eq_some_iff.mp z3
          have ey := keysOf_den ll hk
          subst ey
          obtain ⟨i1, i2⟩ := look_den (k := ks) g3
          exact fin _ _ z3 (.inr ⟨_, ks, _, g1, rfl, tt, rfl⟩) i2 i1
        | _ => cases z3
      cases dx3 with
      | flat f h => cases h with
        | dk g1 g2 g3 => subst g2; exact key (Same.rd e3.s2 g1) rfl g3
        | dt g1 g2 g3 => subst g2; exact keyT (Same.rd e3.s2 g1) rfl g3
        | _ => cases c
      | shT h => cases c
      | lst n h l => cases c
      | dk n h k l => subst k; exact key (.inl h) rfl l.den_S.1
      | dt n h k l => subst k; exact keyT (.inl h) rfl l.den_S.1
  · rw [if_neg c] at q; exact q.elim
end
end G
/-! G: sorted(list of triples of numbers from 0 on) -/
namespace G
open PySem PySem.Spec L2
open PyProof.Rows hiding St
abbrev Tri := Int × Int × Int
def triD (p : Tri) : D := .tup [.int p.1, .int p.2.1, .int p.2.2]
def trisOf : List D → Option (List Tri)
  | [] => some []
  | d :: ds => match d with
    | .tup [.int a, .int b, .int c] => (trisOf ds).map ((a, b, c) :: ·)
    | _ => none
theorem trisOf_some : ∀ {ds : List D} {ps : List Tri}, trisOf ds = some ps → ds = ps.map triD
  | [], _, h => by cases h; rfl
  | d :: ds, ps, h => by
    unfold trisOf at h
    split at h
    · obtain ⟨qs, h1, rfl⟩ := Option.map_eq_some_iff.mp h
      rw [trisOf_some h1]
      rfl
    · cases h
@[simp] theorem trisOf_map (ps : List Tri) : trisOf (ps.map triD) = some ps := by
  induction ps with
  | nil => rfl
  | cons p ps ih =>
    show (trisOf (ps.map triD)).map (fun qs => (p.1, p.2.1, p.2.2) :: qs) = _
    rw [ih]
    rfl
def leT (p q : Tri) : Prop := p.1 < q.1 ∨ (p.1 = q.1 ∧ (p.2.1 < q.2.1 ∨ (p.2.1 = q.2.1 ∧ p.2.2 ≤ q.2.2)))
instance {p q : Tri} : Decidable (leT p q) := inferInstanceAs (Decidable (_ ∨ _))
def insT (p : Tri) : List Tri → List Tri
  | [] => [p]
  | q :: qs => if leT p q then p :: q :: qs else q :: insT p qs
def sortT (ps : List Tri) : List Tri := ps.foldr insT []
theorem insT_perm (p : Tri) : ∀ qs, (insT p qs).Perm (p :: qs)
  | [] => .refl _
  | q :: qs => by
    unfold insT
    split
    · exact .refl _
    · exact ((insT_perm p qs).cons q).trans (.swap p q qs)
theorem sortT_perm : ∀ ps, (sortT ps).Perm ps
  | [] => .refl _
  | p :: ps => (insT_perm p _).trans ((sortT_perm ps).cons p)
theorem leT_trans {p q r : Tri} (h : leT p q) (k : leT q r) : leT p r := by unfold leT at *; omega
theorem leT_total {p q : Tri} (h : ¬ leT p q) : leT q p := by unfold leT at *; omega
theorem leT_anti {p q : Tri} (h : leT p q) (k : leT q p) : p = q := by
  unfold leT at *
  obtain ⟨a, b, e⟩ := p
  obtain ⟨c, d, f⟩ := q
  simp only at *
  have : a = c ∧ b = d ∧ e = f := by omega
  rw [this.1, this.2.1, this.2.2]
theorem insT_sorted (p : Tri) : ∀ {qs : List Tri}, qs.Pairwise leT → (insT p qs).Pairwise leT
  | [], _ => List.pairwise_singleton _ _
  | q :: qs, h => by
    obtain ⟨h1, h2⟩ := List.pairwise_cons.mp h
    unfold insT
    split
    · rename_i c
      refine List.pairwise_cons.mpr ⟨fun r hr => ?_, h⟩
      rcases List.mem_cons.mp hr with z | hr
      · rw [z]; exact c
      · exact leT_trans c (h1 r hr)
    · rename_i c
      refine List.pairwise_cons.mpr ⟨fun r hr => ?_, insT_sorted p h2⟩
      rcases List.mem_cons.mp ((insT_perm p qs).mem_iff.mp hr) with z | hr
      · rw [z]; exact leT_total c
      · exact h1 r hr
theorem sortT_sorted : ∀ ps, (sortT ps).Pairwise leT
  | [] => .nil
  | p :: ps => insT_sorted p (sortT_sorted ps)
theorem sortedT_same {as bs : List Tri} (p : as.Perm bs) (h : as.Pairwise leT) (k : bs.Pairwise leT) : as = bs := by
  induction as generalizing bs with
  | nil => exact (List.perm_nil.mp p.symm).symm ▸ rfl
  | cons a as ih =>
    cases bs with
    | nil => exact absurd (List.perm_nil.mp p) (by simp)
    | cons b bs =>
      obtain ⟨h1, h2⟩ := List.pairwise_cons.mp h
      obtain ⟨k1, k2⟩ := List.pairwise_cons.mp k
      have e : a = b := by
        have m1 : a ∈ b :: bs := p.mem_iff.mp List.mem_cons_self
        have m2 : b ∈ a :: as := p.mem_iff.mpr List.mem_cons_self
        rcases List.mem_cons.mp m1 with z | z
        · exact z
        · rcases List.mem_cons.mp m2 with y | y
          · exact y.symm
          · exact leT_anti (h1 b y) (k1 a z)
      subst e
      rw [ih (List.Perm.cons_inv p) h2 k2]
def triL (p : Tri) : List Int := [p.1, p.2.1, p.2.2]
theorem leT_code {B : Int} {p q : Tri} (bp : TS.Bd B (triL p)) (bq : TS.Bd B (triL q)) (h : TS.code B (triL p) ≤ TS.code B (triL q)) : leT p q := by
  obtain ⟨a, b, c⟩ := p
  obtain ⟨d, e, f⟩ := q
  unfold triL at *
  unfold leT
  simp only at *
  rcases Int.lt_trichotomy a d with z | z | z
  · exact .inl z
  · subst z
    refine .inr ⟨rfl, ?_⟩
    have h2 : ¬ TS.code B [e, f] < TS.code B [b, c] := fun y => by
      have := (TS.code_same (B := B) (d := a) (r := [e, f]) (q := [b, c]) rfl).mpr y
      omega
    rcases Int.lt_trichotomy b e with z | z | z
    · exact .inl z
    · subst z
      refine .inr ⟨rfl, ?_⟩
      have h3 : ¬ TS.code B [f] < TS.code B [c] := fun y => h2 ((TS.code_same (B := B) (d := b) (r := [f]) (q := [c]) rfl).mpr y)
      have e1 : ∀ x : Int, TS.code B [x] = x := fun x => by
        show x * B ^ 0 + 0 = x
        rw [Int.pow_zero]; omega
      rw [e1, e1] at h3
      omega
    · exact absurd (TS.code_lt (r := [f]) (q := [c]) rfl bq.tail.tail bp.tail.tail z) h2
  · have := TS.code_lt (r := [e, f]) (q := [b, c]) rfl bq.tail bp.tail z
    omega
def nnT (p : Tri) : Bool := decide (0 ≤ p.1) && (decide (0 ≤ p.2.1) && decide (0 ≤ p.2.2))
theorem bd_all : ∀ ps : List Tri, ps.all nnT = true → ∃ B : Int, 0 ≤ B ∧ ∀ p ∈ ps, TS.Bd B (triL p)
  | [], _ => ⟨0, by omega, fun p hp => by cases hp⟩
  | p :: ps, h => by
    rw [List.all_cons, Bool.and_eq_true] at h
    obtain ⟨B, b0, hB⟩ := bd_all ps h.2
    have hp := h.1
    unfold nnT at hp
    simp only [Bool.and_eq_true, decide_eq_true_eq] at hp
    refine ⟨B + p.1 + p.2.1 + p.2.2 + 1, by omega, fun q hq m hm => ?_⟩
    rcases List.mem_cons.mp hq with e | hq
    · subst e
      unfold triL at hm
      simp at hm
      omega
    · have := hB q hq m hm
      omega
section
variable {X : Cx} {W : WX} {l : Lv} {ms : Modes}
def keyT (Hs : Hp) : V → Tri
  | .ref t => match Hs t with
    | some (.tup [.int a, .int b, .int c]) => (a, b, c)
    | _ => (0, 0, 0)
  | _ => (0, 0, 0)
theorem tris_den {M : MK} {Hs : Hp} : ∀ {vs : List V} {ps : List Tri}, DenL M Hs vs (ps.map triD) → vs.map (keyT Hs) = ps ∧ ∀ x ∈ vs, ∃ t, x = .ref t ∧ Hs t = some (.tup ((triL (keyT Hs x)).map V.int))
  | _, [], .nil => ⟨rfl, fun _ h => by cases h⟩
  | _, p :: ps, .cons h t => by
    obtain ⟨h1, h2⟩ := tris_den t
    cases h with
    | @tup a vs ds hh ll =>
      cases ll with
      | cons x y =>
        cases y with
        | cons y z =>
          cases z with
          | cons z u =>
            cases u
            cases x
            cases y
            cases z
            have e : keyT Hs (.ref a) = p := by
              show (match Hs a with | some (.tup [.int a, .int b, .int c]) => (a, b, c) | _ => (0, 0, 0)) = _
              rw [hh]
            refine ⟨by rw [List.map_cons, e, h1], fun x hx => ?_⟩
            rcases List.mem_cons.mp hx with z | hx
            · subst z
              exact ⟨a, rfl, by rw [e]; exact hh⟩
            · exact h2 x hx
theorem den_tris {M : MK} {Hs : Hp} : ∀ {vs : List V}, (∀ x ∈ vs, ∃ t, x = .ref t ∧ Hs t = some (.tup ((triL (keyT Hs x)).map V.int))) → DenL M Hs vs ((vs.map (keyT Hs)).map triD)
  | [], _ => .nil
  | x :: xs, h => by
    obtain ⟨t, rfl, ht⟩ := h x List.mem_cons_self
    exact .cons (.tup ht (.cons (.int _) (.cons (.int _) (.cons (.int _) .nil)))) (den_tris fun y hy => h y (List.mem_cons_of_mem _ hy))
def rSortU3 (K : PySem.W.Frag) : List V → Hp → VK → Prop := fun vs H Q => ∃ B : Int, rSortU K 3 B vs H Q
theorem cr_sortU3 : CallR X (.builtin "sorted") (rSortU3 X.K) := by
  intro pins s σ H vs us Q I r h
  obtain ⟨B, h⟩ := h
  exact cr_sortT (d := 3) (B := B) (by decide) _ _ _ _ _ _ _ I r h
/-- sorted(list of triples) -/
def dSortT3 : List D → Rs D
  | [.lst ds] => match trisOf ds with
    | some ps => if ps.length < 64 ∧ ps.all nnT = true then .ok (.lst ((sortT ps).map triD)) else .bad
    | none => .bad
  | _ => .bad
theorem oc_sortT3 : OC X W .s .f (rSortU3 X.K) dSortT3 := by
  intro H0 Hs H σ xs ds Q s rx p
  unfold dSortT3 at p
  split at p
  · rename_i ds
    obtain ⟨v, rfl, r⟩ := rx.one
    split at p
    · rename_i ps hps
      split at p
      · rename_i hc
        have dv := r.s
        cases dv with
        | @lst a vs _ hr ll =>
          rw [trisOf_some hps] at ll
          obtain ⟨k1, k2⟩ := tris_den ll
          obtain ⟨B, _, hB⟩ := bd_all ps hc.2
          have bk : ∀ x ∈ vs, TS.Bd B (triL (keyT Hs x)) := fun x hx => hB _ (by rw [← k1]; exact List.mem_map_of_mem hx)
          have hl : vs.length < 64 := by
            have := congrArg List.length k1
            rw [List.length_map] at this
            omega
          have tI : ∀ x ∈ vs, TupI X.K H x (triL (keyT Hs x)) := fun x hx => by
            obtain ⟨t, e, ht⟩ := k2 x hx
            exact ⟨t, e, SqT.of (s _ _ ht)⟩
          refine ⟨B, a, vs, rfl, .inl (Same.rd s hr), hl, fun x hx => ⟨_, tI x hx, rfl, bk x hx⟩, fun ys q pm sd np => ?_⟩
          have hy : ∀ y ∈ ys, ∃ t, y = .ref t ∧ Hs t = some (.tup ((triL (keyT Hs y)).map V.int)) := fun y hy => k2 y (pm.mem_iff.mp hy)
          have e : ys.map (keyT Hs) = sortT ps := by
            refine sortedT_same ?_ ?_ (sortT_sorted ps)
            · rw [← k1]
              exact (pm.map _).trans (sortT_perm _).symm
            · rw [List.pairwise_map]
              refine List.Pairwise.imp_of_mem (fun {x y} hx hy h => ?_) sd
              have hx' := pm.mem_iff.mp hx
              have hy' := pm.mem_iff.mp hy
              exact leT_code (bk x hx') (bk y hy') (h _ _ (tI x hx') (tI y hy'))
          have dl := den_tris (M := mkM X) hy
          rw [e] at dl
          exact p _ Hs _ (Ext.newO s np) (new_lst s np dl)
      · exact p.elim
    · exact p.elim
  · exact p.elim
end
end G
/-! G: a test that only looks at a held list -/
namespace G
open PySem PySem.Spec L2
open PyProof.Rows hiding St
def lkT (ev : Env → Rs Bool) : Env → Rs Bool := fun ρ => nox (ev ρ)
@[simp] theorem lkT_ap {ev : Env → Rs Bool} {ρ : Env} : lkT ev ρ = nox (ev ρ) := rfl
section
variable {X : Cx} {W : WX} {ms : Modes} {e : Expr} {ev : Env → Rs Bool}
/-- the list is held as shared while the test runs, and as one's own again behind it -/
theorem jt_look (i : Nat) (hi : i < ms.length) (h : JT X W (ms.set i .S) e ev) : JT X W ms e (lkT ev) := by
  obtain ⟨t, h1, h2⟩ := h
  refine ⟨t, h1, fun B Hs H σ ρ Fp Q R p => ?_⟩
  obtain ⟨Hs', _, _, R'⟩ := R.freeze hi
  refine h2 B Hs' H σ ρ _ Q R' ?_
  rw [lkT_ap] at p
  cases z : ev ρ with
  | ok a =>
    rw [z] at p
    exact fun b Hs1 H1 e pb => p b Hs H1 ⟨Same.refl _, R.ext.s2.trans e.s3, e.s3, fun _ _ _ _ h => h⟩ pb
  | exc c fs => rw [z] at p; exact p.elim
  | bad => rw [z] at p; exact p.elim
end
end G
/-! G: min of a list of tuples of a number and a pair -/
namespace G
open PySem PySem.Spec L2
open PyProof.Rows hiding St
def nesD (p : Tri) : D := .tup [.int p.1, .tup [.int p.2.1, .int p.2.2]]
def nesOf : List D → Option (List Tri)
  | [] => some []
  | d :: ds => match d with
    | .tup [.int a, .tup [.int b, .int c]] => (nesOf ds).map ((a, b, c) :: ·)
    | _ => none
theorem nesOf_some : ∀ {ds : List D} {ps : List Tri}, nesOf ds = some ps → ds = ps.map nesD
  | [], _, h => by cases h; rfl
  | d :: ds, ps, h => by
    unfold nesOf at h
    split at h
    · obtain ⟨qs, h1, rfl⟩ := Option.map_eq_some_iff.mp h
      rw [nesOf_some h1]
      rfl
    · cases h
@[simp] theorem nesOf_map (ps : List Tri) : nesOf (ps.map nesD) = some ps := by
  induction ps with
  | nil => rfl
  | cons p ps ih =>
    show (nesOf (ps.map nesD)).map (fun qs => (p.1, p.2.1, p.2.2) :: qs) = _
    rw [ih]
    rfl
def ltTr (p q : Tri) : Bool := decide (p.1 < q.1 ∨ (p.1 = q.1 ∧ (p.2.1 < q.2.1 ∨ (p.2.1 = q.2.1 ∧ p.2.2 < q.2.2))))
def pnes (p : Tri) : PyData := .tuple [.int p.1, .tuple [.int p.2.1, .int p.2.2]]
theorem dataLt_pnes (p q : Tri) : PySem.W.dataLt (pnes p) (pnes q) = ltTr p q := by
  unfold pnes
  rw [PySem.W.dataLt_tuple]
  obtain ⟨a, b, e⟩ := p
  obtain ⟨c, d, f⟩ := q
  show PyProof.Rows.lexLt PyProof.Rows.itemOrd ([.inl 1, .inl a, .inl 1, .inl 1, .inl b, .inl 1, .inl e, .inl 0, .inl 0] : List (Int ⊕ List Nat)) ([.inl 1, .inl c, .inl 1, .inl 1, .inl d, .inl 1, .inl f, .inl 0, .inl 0] : List (Int ⊕ List Nat)) = _
  rw [PyProof.Rows.lex_self]
  unfold ltTr
  by_cases h : a = c
  · subst h
    rw [PyProof.Rows.lex_self, PyProof.Rows.lex_self, PyProof.Rows.lex_self]
    by_cases k : b = d
    · subst k
      rw [PyProof.Rows.lex_self, PyProof.Rows.lex_self]
      by_cases g : e = f
      · subst g
        rw [PyProof.Rows.lex_self, PyProof.Rows.lex_self, PyProof.Rows.lex_self]
        simp
        rfl
      · rw [PyProof.Rows.lex_diff (fun z => g (Sum.inl.inj z))]
        show decide (e < f) = _
        simp
    · rw [PyProof.Rows.lex_diff (fun z => k (Sum.inl.inj z))]
      show decide (b < d) = _
      simp [k]
  · rw [PyProof.Rows.lex_diff (fun z => h (Sum.inl.inj z))]
    show decide (a < c) = _
    simp [h]
def minTr (p : Tri) (ps : List Tri) : Tri := ps.foldl (fun a y => if ltTr y a then y else a) p
theorem minD_pnes : ∀ (ps : List Tri) (p : Tri), PySem.W.minD (pnes p) (ps.map pnes) = pnes (minTr p ps) := by
  intro ps
  unfold PySem.W.minD minTr
  induction ps with
  | nil => intro p; rfl
  | cons q ps ih =>
    intro p
    rw [List.map_cons, List.foldl_cons, List.foldl_cons, ← ih]
    rw [dataLt_pnes]
    cases ltTr q p <;> rfl
theorem pnes_inj {p q : Tri} (h : pnes p = pnes q) : p = q := by
  obtain ⟨a, b, e⟩ := p
  obtain ⟨c, d, f⟩ := q
  unfold pnes at h
  simp at h
  simp [h]
theorem toPys_nes : ∀ ps : List Tri, toPys (ps.map nesD) = some (ps.map pnes)
  | [] => rfl
  | p :: ps => by
    rw [List.map_cons]
    unfold toPys
    rw [toPys_nes ps]
    rfl
theorem alike_pnes (ps : List Tri) : PySem.W.AlikeAll (ps.map pnes) := by
  refine ⟨fun x hx y hy => ?_, fun x hx => ?_⟩
  · obtain ⟨p, _, rfl⟩ := List.mem_map.mp hx
    obtain ⟨q, _, rfl⟩ := List.mem_map.mp hy
    rfl
  · obtain ⟨p, _, rfl⟩ := List.mem_map.mp hx
    intro z; cases z
theorem depth_pnes : ∀ ps : List Tri, PyData.depthAll (ps.map pnes) ≤ 8 ∧ PyData.canLayAll0 (ps.map pnes) = true
  | [] => ⟨by decide, rfl⟩
  | p :: ps => by
    obtain ⟨h1, h2⟩ := depth_pnes ps
    constructor
    · show max (PyData.depth (pnes p)) (PyData.depthAll (ps.map pnes)) ≤ 8
      have : PyData.depth (pnes p) = 2 := rfl
      omega
    · show ((pnes p).canLay0 && PyData.canLayAll0 (ps.map pnes)) = true
      rw [h2]; rfl
def dMinN : List D → Rs D
  | [.lst ds] => match nesOf ds with
    | some (p :: ps) => .ok (nesD (minTr p ps))
    | _ => .bad
  | _ => .bad
section
variable {X : Cx} {W : WX}
theorem oc_minN : OC X W .s .s (rMinD X.K) dMinN := by
  intro H0 Hs H σ xs ds Q s rx p
  unfold dMinN at p
  split at p
  · rename_i ds
    obtain ⟨v, rfl, r⟩ := rx.one
    split at p
    · rename_i q ps hps
      have dv := r.s
      cases dv with
      | @lst a vs _ hr ll =>
        rw [nesOf_some hps] at ll
        have hdp := denL_dp ll (toPys_nes (q :: ps))
        obtain ⟨hd1, hd2⟩ := depth_pnes (q :: ps)
        refine ⟨a, vs, pnes q, ps.map pnes, rfl, .inl (Same.rd s hr), denL_dp (ll.mono s) (toPys_nes (q :: ps)), alike_pnes (q :: ps), hd1, hd2, fun i x hx hi => ?_⟩
        obtain ⟨d, hd, dx⟩ := denL_ix ll hx
        have e : d = nesD (minTr q ps) := by
          rw [List.getElem?_map] at hd
          obtain ⟨z, hz, rfl⟩ := Option.map_eq_some_iff.mp hd
          rw [minD_pnes, show pnes q :: ps.map pnes = (q :: ps).map pnes from rfl, List.getElem?_map, hz] at hi
          have hi : pnes z = pnes (minTr q ps) := Option.some.inj hi
          rw [pnes_inj hi]
        subst e
        exact p _ Hs _ (Ext.refl s) (.of dx)
    · exact p.elim
  · exact p.elim
end
end G
/-! G: list(d), the keys tuples -/
namespace G
open PySem PySem.Spec L2
open PyProof.Rows hiding St
def dListDT : List D → Rs D
  | [.dt kvs] => .ok (.lst (dKeysT kvs))
  | _ => .bad
@[simp] theorem dListDT_dt {kvs : List (List Key × D)} : dListDT [.dt kvs] = .ok (.lst (dKeysT kvs)) := rfl
section
variable {X : Cx} {W : WX}
theorem isKeys_kt {H : Hp} : ∀ {kvs : List (List Key × V)} {bs : List Addr}, IsKeys H kvs bs → ∀ a ∈ bs, ∃ ks : List Key, H a = some (.tup (ks.map kV))
  | _, _, .nil, _, h => nomatch h
  | _, _, .cons h t, a, ha => by
    rcases List.mem_cons.mp ha with rfl | ha
    · exact ⟨_, h⟩
    · exact isKeys_kt t a ha
theorem isKeys_den {M : MK} {H Hs : Hp} : ∀ {kvs : List (List Key × V)} {bs : List Addr}, IsKeys H kvs bs → (∀ a ∈ bs, Hs a = H a) → DenL M Hs (bs.map V.ref) (kvs.map fun p => D.tup (p.1.map keyD))
  | _, _, .nil, _ => .nil
  | _, _, .cons h t, k => .cons (.tup ((k _ List.mem_cons_self).trans h) (keyD_den _)) (isKeys_den t fun a ha => k a (List.mem_cons_of_mem _ ha))
theorem oc_listDT : OC X W .s .f (fun xs H Q => ∃ d kvs, xs = [V.ref d] ∧ Rd H d (.dT kvs) ∧ ∀ p bs, H p = none → IsKeys H kvs bs → Q (.ref p) (upd H p (.lst (bs.map V.ref)))) dListDT := by
  intro H0 Hs H σ xs ds Q s rx p
  unfold dListDT at p
  split at p
  · rename_i zs
    obtain ⟨v, rfl, r⟩ := rx.one
    have dn := r.s
    generalize hd : D.dt zs = d at dn
    cases dn with
    | @dt a kvs ks es h k l =>
      cases hd
      subst k
      refine ⟨a, kvs, rfl, h.imp (fun z => s _ _ z) (fun ⟨o, z⟩ => ⟨o, s _ _ z⟩), fun q bs np ik => ?_⟩
      have hl : kvs.length = es.length := by have := l.length; rw [List.length_map] at this; exact this
      rw [keysT_zip hl] at p
      have e1 : Ext Hs H (keysIn Hs H bs) H := Ext.keys s (isKeys_kt ik)
      exact p _ _ _ (e1.trans (Ext.newO e1.s2 np)) (new_lst e1.s2 np (isKeys_den ik fun a ha => keysIn_in ha))
    | _ => cases hd
  · exact p.elim
end
end G
/-! G: an expression that only looks at a held list of tuples, and tells what does not hold it -/
namespace G
open PySem PySem.Spec L2
open PyProof.Rows hiding St
def isTup : D → Bool
  | .tup _ => true
  | _ => false
/-- no list in it, each with something that is no tuple -/
def noTL : Nat → D → Bool
  | 0, d => d.flat
  | n + 1, .lst xs => xs.any (fun x => !isTup x) && xs.all (noTL n)
  | n + 1, .tup xs => xs.all (noTL n)
  | n + 1, .dk kvs => kvs.all fun p => noTL n p.2
  | n + 1, .dt kvs => kvs.all fun p => noTL n p.2
  | n + 1, .obj _ fs => fs.all fun p => noTL n p.2
  | _ + 1, d => d.flat
def del (H : Hp) (a : Addr) : Hp := fun b => if b = a then none else H b
theorem del_ne {H : Hp} {a b : Addr} (h : b ≠ a) : del H a b = H b := if_neg h
theorem del_self {H : Hp} {a : Addr} : del H a a = none := if_pos rfl
section
variable {M : MK} {H : Hp} {a : Addr} {vs0 : List V} {ds0 : List D}
theorem rd_del {b : Addr} {u : HO} (h : Rd H b u) (n : b ≠ a) : Rd (del H a) b u := by
  unfold Rd
  rw [del_ne n]
  exact h
theorem tup_only {n : Nat} {v : V} {d0 x : D} (h0 : Den M H v d0) (i0 : isTup d0 = true) (h : Den M H v x) (k : noTL n x = true) : isTup x = true := by
  cases h0 with
  | tup g l =>
    cases h with
    | tup _ _ => rfl
    | lst r _ => rcases r with r | ⟨o, r⟩ <;> (rw [g] at r; cases r)
    | kt _ _ => cases n <;> cases k
    | kl _ _ => cases n <;> cases k
    | dk r _ _ => rcases r with r | ⟨o, r⟩ <;> (rw [g] at r; cases r)
    | dt r _ _ => rcases r with r | ⟨o, r⟩ <;> (rw [g] at r; cases r)
    | obj _ r _ _ => rw [g] at r; cases r
    | exc0 _ r =>
      rw [g] at r
      have r' : HO.tup _ = HO.ext _ := Option.some.inj r
      cases r'
    | exc1 _ r _ _ =>
      rw [g] at r
      have r' : HO.tup _ = HO.ext _ := Option.some.inj r
      cases r'
  | _ => cases i0
theorem denL_map {H' : Hp} : ∀ {vs : List V} {ds : List D}, DenL M H vs ds → (∀ d ∈ ds, ∀ v, Den M H v d → Den M H' v d) → DenL M H' vs ds
  | _, _, .nil, _ => .nil
  | _, _, .cons h l, k => .cons (k _ List.mem_cons_self _ h) (denL_map l fun d hd => k d (List.mem_cons_of_mem _ hd))
theorem zip_snd {κ : Type} : ∀ {ks : List κ} {ds : List D}, ks.length = ds.length → ∀ d ∈ ds, ∃ k, (k, d) ∈ ks.zip ds
  | [], [], _, _, h => nomatch h
  | [], _ :: _, h, _, _ => by cases h
  | _ :: _, [], h, _, _ => by cases h
  | k :: ks, d0 :: ds, h, d, hd => by
    rcases List.mem_cons.mp hd with rfl | hd
    · exact ⟨k, List.mem_cons_self⟩
    · obtain ⟨k', q⟩ := zip_snd (ks := ks) (by simpa using h) d hd
      exact ⟨k', List.mem_cons_of_mem _ q⟩
theorem den_del (ha : H a = some (.lst vs0)) (l0 : DenL M H vs0 ds0) (i0 : ds0.all isTup = true) : ∀ (n : Nat) {d : D} {v : V}, Den M H v d → noTL n d = true → Den M (del H a) v d
  | 0, d, v, h, k => h.flat k
  | n + 1, d, v, h, k => by
    have ih := @den_del ha l0 i0 n
    cases h with
    | non => exact .non
    | bl b => exact .bl b
    | int i => exact .int i
    | str x => exact .str x
    | @lst b vs ds r l =>
      have k' : (ds.any (fun x => !isTup x) && ds.all (noTL n)) = true := k
      obtain ⟨k1, k2⟩ := Bool.and_eq_true_iff.mp k'
      have hl : DenL M (del H a) vs ds := denL_map l fun d hd v hv => ih hv (List.all_eq_true.mp k2 d hd)
      by_cases e : b = a
      · subst e
        exfalso
        have ev : vs = vs0 := by
          rcases r with r | ⟨o, r⟩
          · rw [ha] at r; cases r; rfl
          · rw [ha] at r; cases r
        subst ev
        obtain ⟨x, hx, nx⟩ := List.any_eq_true.mp k1
        obtain ⟨j, hj⟩ := List.getElem?_of_mem hx
        obtain ⟨u, hu, du⟩ := l.get hj
        obtain ⟨d0, h0, dd⟩ := l0.getV hu
        have i1 := List.all_eq_true.mp i0 d0 (List.mem_of_getElem? h0)
        rw [tup_only dd i1 du (List.all_eq_true.mp k2 x hx)] at nx
        cases nx
      · exact .lst (rd_del r e) hl
    | @tup b vs ds r l =>
      have k2 : ds.all (noTL n) = true := k
      have e : b ≠ a := fun e => by subst e; rw [ha] at r; cases r
      exact .tup (by rw [del_ne e]; exact r) (denL_map l fun d hd v hv => ih hv (List.all_eq_true.mp k2 d hd))
    | kt _ _ => cases k
    | kl _ _ => cases k
    | @dk b kvs ks ds r e l =>
      have k2 : (ks.zip ds).all (fun p => noTL n p.2) = true := k
      have ne : b ≠ a := fun e => by subst e; rcases r with r | ⟨o, r⟩ <;> (rw [ha] at r; cases r)
      have hl : ks.length = ds.length := by have := l.length; rw [← e]; simpa using this
      exact .dk (rd_del r ne) e (denL_map l fun d hd v hv => by
        obtain ⟨kk, q⟩ := zip_snd hl d hd
        exact ih hv (List.all_eq_true.mp k2 _ q))
    | @dt b kvs ks ds r e l =>
      have k2 : (ks.zip ds).all (fun p => noTL n p.2) = true := k
      have ne : b ≠ a := fun e => by subst e; rcases r with r | ⟨o, r⟩ <;> (rw [ha] at r; cases r)
      have hl : ks.length = ds.length := by have := l.length; rw [← e]; simpa using this
      exact .dt (rd_del r ne) e (denL_map l fun d hd v hv => by
        obtain ⟨kk, q⟩ := zip_snd hl d hd
        exact ih hv (List.all_eq_true.mp k2 _ q))
    | @obj b dx C c fvs ks ds m r e l =>
      have k2 : (ks.zip ds).all (fun p => noTL n p.2) = true := k
      have ne : b ≠ a := fun e => by subst e; rw [ha] at r; cases r
      have hl : ks.length = ds.length := by have := l.length; rw [← e]; simpa using this
      exact .obj m (by rw [del_ne ne]; exact r) e (denL_map l fun d hd v hv => by
        obtain ⟨kk, q⟩ := zip_snd hl d hd
        exact ih hv (List.all_eq_true.mp k2 _ q))
    | exc0 _ _ => cases k
    | exc1 _ _ _ _ => cases k
end
section
variable {M : MK} {B : Hp × Hp} {ms : Modes} {Hs H : Hp} {σ : St} {ρ : Env} {Fp : Nat → List Addr}
/-- as freeze, what else is shared told -/
theorem Rel.freezeG {i : Nat} (R : Rel M B ms Hs H σ ρ Fp) (hi : i < ms.length) : Rel M B (ms.set i .S) (give Hs H (Fp i)) H σ ρ (fun j => if j = i then [] else Fp j) := by
  have n : ∀ a ∈ Fp i, Hs a = none := fun a ha => (R.has ha).1
  have e : Ext B.1 B.2 (give Hs H (Fp i)) H := R.ext.give n (R.fr i)
  refine ⟨e, R.len, by simpa using R.lm, fun j x q => ?_, fun j q => ?_, fun j => ?_, fun j a ha => ?_, fun j k hjk a ha => ?_⟩
  · obtain ⟨w, h1, h2⟩ := R.val j x q
    refine ⟨w, h1, ?_⟩
    by_cases z : j = i
    · subst z
      rw [md_set_self hi, if_pos rfl]
      exact .sh (h2.give R.sub)
    · rw [md_set_ne (Ne.symm z), if_neg z]
      refine h2.move (give_s1 n) (fun a ha => ?_) fun a o q _ => q
      rw [give_out fun y => R.dj j i z a ha y]
      exact (R.has ha).1
  · by_cases z : j = i
    · rw [if_pos z]
    · rw [if_neg z]; exact R.off j q
  · by_cases z : j = i
    · simp only [if_pos z]; exact .nil
    · simp only [if_neg z]; exact R.nd j
  · by_cases z : j = i
    · simp only [if_pos z] at ha; cases ha
    · simp only [if_neg z] at ha; exact R.fr j a ha
  · by_cases z : j = i
    · simp only [if_pos z] at ha; cases ha
    · simp only [if_neg z] at ha
      by_cases z2 : k = i
      · simp only [if_pos z2]; exact fun y => by cases y
      · simp only [if_neg z2]; exact R.dj j k hjk a ha
end
/-- the list in slot i is all tuples; what is told holds no such list -/
def lkN (i : Nat) (ev : Env → Rs D) : Env → Rs D := fun ρ => match ρ[i]? with
  | some (some (.lst ds)) => if ds.all isTup = true then (match ev ρ with
    | .ok d => if noTL 6 d = true then .ok d else .bad
    | _ => .bad) else .bad
  | _ => .bad
section
variable {X : Cx} {W : WX} {ms : Modes} {e : Expr} {ev : Env → Rs D}
theorem je_lookN (i : Nat) (hi : i < ms.length) (hm : md ms i = .O .S) (h : JG X W .s (ms.set i .S) e ev) : JG X W .s ms e (lkN i ev) := by
  obtain ⟨t, h1, h2⟩ := h
  refine ⟨t, h1, fun B Hs H σ ρ Fp Q R p => ?_⟩
  unfold lkN at p
  split at p
  · rename_i ds hρ
    split at p
    · rename_i i0
      obtain ⟨v, g1, g2⟩ := R.val i _ hρ
      rw [hm] at g2
      have R' := R.freezeG hi
      refine h2 B _ H σ ρ _ Q R' ?_
      cases z : ev ρ with
      | ok d =>
        rw [z] at p
        simp only at p
        split at p
        · rename_i k
          intro u Hs1 H1 e pb
          generalize hF : Fp i = F at g2
          cases g2 with
          | flat f _ => cases f
          | @lst _ a vs ds F' n0 hH l =>
            obtain ⟨dl, eF⟩ := l.den_S
            subst eF
            have nF : ∀ b ∈ [a], Hs b = none := fun b hb => by rw [List.mem_singleton.mp hb]; exact n0
            rw [hF] at e
            have ga : give Hs H [a] a = some (.lst vs) := by rw [give_in List.mem_cons_self]; exact hH
            have ha1 : Hs1 a = some (.lst vs) := e.s1 _ _ ga
            have dl1 : DenL (mkM X) Hs1 vs ds := dl.mono ((give_s1 nF).trans e.s1)
            have hd : Den (mkM X) (del Hs1 a) u d := den_del ha1 dl1 i0 6 pb.s k
            refine p u (del Hs1 a) H1 ⟨fun b o q => ?_, fun b o q => ?_, e.s3, fun b o q nk q2 => ?_⟩ (.of hd)
            · have ne : b ≠ a := fun y => by rw [y, n0] at q; cases q
              rw [del_ne ne]
              exact e.s1 _ _ (give_s1 nF _ _ q)
            · by_cases y : b = a
              · rw [y, del_self] at q; cases q
              · rw [del_ne y] at q; exact e.s2 _ _ q
            · by_cases y : b = a
              · rw [y]; exact del_self
              · rw [del_ne y]
                refine e.s4 b o q nk ?_
                rw [give_out (by simpa using y)]
                exact q2
        · exact p.elim
      | exc c fs => rw [z] at p; exact p.elim
      | bad => rw [z] at p; exact p.elim
    · exact p.elim
  · exact p.elim
end
end G
/-! G: sorted(list of tuples of numbers), of any length -/
namespace L2
open PySem PySem.Spec
open PyProof.Rows hiding St
abbrev tuE (r : List Int) : PyData := .tuple (r.map .int)
theorem dataLe_tuE {β : Type} (x : β → List Int) : PySem.W.dataLe false (fun b => tuE (x b)) = fun p q => decide (x p ≤ x q) := by
  funext p q
  show (!PySem.W.dataLt (.tuple ((x q).map .int)) (.tuple ((x p).map .int))) = _
  have e : PySem.W.dataLt (.tuple ((x q).map .int)) (.tuple ((x p).map .int)) = decide (x q < x p) := by
    rw [PySem.W.dataLt_tuple]
    exact PySem.W.dataLt_ints _ _
  rw [e]
  by_cases h : x q < x p
  · have : ¬ x p ≤ x q := fun h2 => h2 h
    simp [h]
  · have : x p ≤ x q := h
    simp [h, this]
def rSortTI (K : PySem.W.Frag) : List V → Hp → VK → Prop := fun vs H Q => ∃ (a : Addr) (xs : List V) (k : V → List Int), vs = [V.ref a] ∧ SqL K H a xs ∧ (∀ x ∈ xs, (∃ t, x = V.ref t ∧ H t = some (.tup ((k x).map V.int))) ∧ k x ≠ []) ∧
  ∀ p, H p = none → Q (.ref p) (upd H p (.lst (xs.mergeSort fun x y => decide (k x ≤ k y))))
theorem reads_ints {h : Heap} : ∀ {r : List Int} {us : List Value}, Vals (r.map V.int) us → ReadsAll h us (r.map .int) []
  | [], _, .nil => .nil
  | i :: r, _, .cons rv t => by
    obtain ⟨tk, rfl⟩ := rv
    exact .cons (as := []) (bs := []) (.int i tk) (reads_ints t)
theorem eachIs_vals : ∀ {xs : List V} {us : List Value}, Vals xs us → PySem.W.EachIs (fun u x => RelV x u) us xs
  | _, _, .nil => .nil
  | _, _, .cons r t => .cons r (eachIs_vals t)
theorem vals_eachIs : ∀ {xs : List V} {us : List Value}, PySem.W.EachIs (fun u x => RelV x u) us xs → Vals xs us
  | _, _, .nil => .nil
  | _, _, .cons r t => .cons r (vals_eachIs t)
section
variable {X : Cx}
theorem each_readsT {pins : List (Addr × Obj)} {σ : St} {H : Hp} {s : Shared} {k : V → List Int} (I : Inv X pins σ H s) : ∀ {xs : List V} {us : List Value}, Vals xs us → (∀ x ∈ xs, (∃ t, x = V.ref t ∧ H t = some (.tup ((k x).map V.int))) ∧ k x ≠ []) →
    PySem.W.EachIs (fun u x => ∃ as, Reads s.heap u (tuE (k x)) as) us xs
  | _, _, .nil, _ => .nil
  | x :: xs, u :: us, .cons r t, h => by
    refine .cons ?_ (each_readsT I t fun y hy => h y (List.mem_cons_of_mem _ hy))
    obtain ⟨⟨q, e, hq⟩, _⟩ := h x List.mem_cons_self
    rw [e] at r
    obtain rfl : u = Value.ref q := r
    obtain ⟨_, its, rv, o, ho, hc, n, hd⟩ := I.hok _ _ hq
    exact ⟨[], .tuple ho hc hd (reads_ints rv)⟩
theorem cr_sortTI (hu : X.A.units + 64 < cLine) : CallR X (.builtin "sorted") (rSortTI X.K) := by
  intro pins s σ H vs us Q I r h
  obtain ⟨a, xs, k, rfl, hs, hx, q⟩ := h
  obtain ⟨its, rv, hl, hz⟩ := I.list hs
  obtain ⟨u, rfl, ru⟩ := vals1 r
  obtain rfl : u = Value.ref a := ru
  have hlen := rv.length
  refine PySem.W.sorted_data (β := V) (bs := xs) (vs := its) (enc := fun x => tuE (k x)) (R := fun u x => RelV x u) hl.isList (eachIs_vals rv) (each_readsT I rv hx) (PySem.W.AllAlike.of fun b b' => ?_) ?_ hz (fun b _ => ?_) fun out hol ho => ?_
  · show PySem.W.alikeAll _ _ = true
    exact PySem.W.alike_ints _ _
  · refine .inl fun d hd => ?_
    obtain ⟨b, hb, rfl⟩ := List.mem_map.mp hd
    have := (hx b hb).2
    cases z : k b with
    | nil => exact absurd z this
    | cons i r => exact ⟨.int i, r.map .int, by simp [tuE, z]⟩
  · have : (tuE (k b)).depth ≤ 1 := by
      show PyData.depth (.tuple ((k b).map .int)) ≤ 1
      rw [PyData.depth, PySem.W.depth_ints]
      omega
    omega
  · rw [dataLe_tuE] at ho
    obtain ⟨e, he⟩ := sortedAll_at s.heap its out.toArray
    refine ⟨.ref (s.heap.objs.size + 1), upd H (s.heap.objs.size + 1) (.lst (xs.mergeSort fun x y => decide (k x ≤ k y))), I.laid (t' := s.toks) (fun b o hb => sortedAll_old hb) (Nat.le_succ _) ⟨?_, out, e, vals_eachIs ho, he⟩, rfl, q _ (I.hok.fresh (Nat.le_succ _))⟩
    rw [List.length_mergeSort]
    exact hz
end
end L2
namespace G
open PySem PySem.Spec L2
open PyProof.Rows hiding St
def rowD (r : List Int) : D := .tup (r.map .int)
def rowsOf : List D → Option (List (List Int))
  | [] => some []
  | d :: ds => match d with
    | .tup xs => (intsOf xs).bind fun r => (rowsOf ds).map (r :: ·)
    | _ => none
theorem rowsOf_some : ∀ {ds : List D} {ps : List (List Int)}, rowsOf ds = some ps → ds = ps.map rowD
  | [], _, h => by cases h; rfl
  | d :: ds, ps, h => by
    unfold rowsOf at h
    split at h
    · obtain ⟨r, h0, h⟩ := Option.bind_eq_some_iff.mp h
      obtain ⟨qs, h1, rfl⟩ := Option.map_eq_some_iff.mp h
      rw [rowsOf_some h1, intsOf_some h0]
      rfl
    · cases h
@[simp] theorem rowsOf_map : ∀ ps : List (List Int), rowsOf (ps.map rowD) = some ps
  | [] => rfl
  | r :: ps => by
    show (intsOf (r.map .int)).bind (fun r => (rowsOf (ps.map rowD)).map (r :: ·)) = _
    rw [intsOf_map, rowsOf_map ps]
    rfl
/-- the order of rows -/
def sortR (ps : List (List Int)) : List (List Int) := ps.mergeSort fun p q => decide (p ≤ q)
/-- sorted(list of tuples of numbers, none empty) -/
def dSortTI : List D → Rs D
  | [.lst ds] => match rowsOf ds with
    | some ps => if ps.all (fun r => !r.isEmpty) = true then .ok (.lst ((sortR ps).map rowD)) else .bad
    | none => .bad
  | _ => .bad
theorem dSortTI_map {ps : List (List Int)} (h : ps.all (fun r => !r.isEmpty) = true) : dSortTI [.lst (ps.map rowD)] = .ok (.lst ((sortR ps).map rowD)) := by
  show (match rowsOf (ps.map rowD) with
    | some ps => if ps.all (fun r => !r.isEmpty) = true then Rs.ok (D.lst ((sortR ps).map rowD)) else Rs.bad
    | none => Rs.bad) = _
  rw [rowsOf_map]
  simp only
  rw [if_pos h]
def toI : V → Int
  | .int i => i
  | _ => 0
def keyR (Hs : Hp) : V → List Int
  | .ref t => match Hs t with
    | some (.tup vs) => vs.map toI
    | _ => []
  | _ => []
theorem rows_den {M : MK} {Hs : Hp} : ∀ {vs : List V} {ps : List (List Int)}, DenL M Hs vs (ps.map rowD) → vs.map (keyR Hs) = ps ∧ ∀ x ∈ vs, ∃ t, x = .ref t ∧ Hs t = some (.tup ((keyR Hs x).map V.int))
  | _, [], .nil => ⟨rfl, fun _ h => by cases h⟩
  | _, p :: ps, .cons h t => by
    obtain ⟨h1, h2⟩ := rows_den t
    generalize hd : rowD p = d at h
    cases h with
    | @tup a vs ds hh ll =>
      unfold rowD at hd
      injection hd with hd
      subst hd
      have ev := ll.ints
      subst ev
      have e : keyR Hs (.ref a) = p := by
        show (match Hs a with | some (.tup vs) => vs.map toI | _ => []) = _
        rw [hh]
        simp only [List.map_map]
        exact (List.map_congr_left (g := id) fun _ _ => rfl).trans (List.map_id _)
      refine ⟨by rw [List.map_cons, e, h1], fun x hx => ?_⟩
      rcases List.mem_cons.mp hx with z | hx
      · subst z
        exact ⟨a, rfl, by rw [e]; exact hh⟩
      · exact h2 x hx
    | _ => cases hd
theorem den_rows {M : MK} {Hs : Hp} : ∀ {vs : List V}, (∀ x ∈ vs, ∃ t, x = .ref t ∧ Hs t = some (.tup ((keyR Hs x).map V.int))) → DenL M Hs vs ((vs.map (keyR Hs)).map rowD)
  | [], _ => .nil
  | x :: xs, h => by
    obtain ⟨t, rfl, ht⟩ := h x List.mem_cons_self
    exact .cons (.tup ht (DenL.of_ints _)) (den_rows fun y hy => h y (List.mem_cons_of_mem _ hy))
section
variable {X : Cx} {W : WX}
theorem oc_sortTI : OC X W .s .f (rSortTI X.K) dSortTI := by
  intro H0 Hs H σ xs ds Q s rx p
  unfold dSortTI at p
  split at p
  · rename_i ds
    obtain ⟨v, rfl, r⟩ := rx.one
    split at p
    · rename_i ps hps
      split at p
      · rename_i hc
        have dv := r.s
        cases dv with
        | @lst a vs _ hr ll =>
          rw [rowsOf_some hps] at ll
          obtain ⟨k1, k2⟩ := rows_den ll
          refine ⟨a, vs, keyR Hs, rfl, .inl (Same.rd s hr), fun x hx => ⟨?_, fun z => ?_⟩, fun q np => ?_⟩
          · obtain ⟨t, e, ht⟩ := k2 x hx
            exact ⟨t, e, s _ _ ht⟩
          · have hm : keyR Hs x ∈ ps := by rw [← k1]; exact List.mem_map_of_mem hx
            have := List.all_eq_true.mp hc _ hm
            rw [z] at this
            cases this
          · have e : (vs.mergeSort fun x y => decide (keyR Hs x ≤ keyR Hs y)).map (keyR Hs) = sortR ps := by
              rw [← k1]
              unfold sortR
              exact List.map_mergeSort (fun a _ b _ => rfl)
            have dl := den_rows (M := mkM X) (Hs := Hs) (vs := vs.mergeSort fun x y => decide (keyR Hs x ≤ keyR Hs y)) fun y hy => k2 y ((List.mergeSort_perm _ _).mem_iff.mp hy)
            rw [e] at dl
            exact p _ Hs _ (Ext.newO s np) (new_lst s np dl)
      · exact p.elim
    · exact p.elim
  · exact p.elim
end
/-- rows that rise stay as they are -/
theorem sortR_id {ps : List (List Int)} (h : ps.Pairwise (· ≤ ·)) : sortR ps = ps := by
  unfold sortR
  exact List.mergeSort_of_pairwise (h.imp fun h => by simpa using h)
end G
namespace G.T
open PySem PySem.Spec L2
open PyProof.Rows hiding St
def top (i : Nat) : Stmt := PySem.Challenge.pw_sparenext_k01_a_net_made.main.body.getD i (.Pass ⟨0, 0, 0, 0⟩)
def ev_look_house : Env → Out :=
 (sIf (bOr (evB (v2 dLt (eVar 1) (eC (.int 0)))) (evB (v2 dGe (eVar 1) (eVar 0))))
 (sRaise1 "NoHouse" "house" (eVar 1))
 sNext)
def F_look_house : List D → Rs D := runD 2 2 ev_look_house
theorem R_look_house (x0 x1 : D) : F_look_house [x0, x1] = outD (ev_look_house [some x0, some x1]) := rfl
def look_ties_b1 : Env → Out := (sSeq (sDrop (eFn F_look_house (aCons (eVar 0) (aCons (eVar 2) aNil))))
 (sDrop (eFn F_look_house (aCons (eVar 0) (aCons (eVar 3) aNil)))))
def look_ties_b2 : Env → Out := (sSeq (sIf (bOr (evB (v2 dEq (eVar 2) (eVar 3))) (bOr (evB (v2 dIn (eTup (aCons (eVar 2) (aCons (eVar 3) aNil))) (eVar 6))) (evB (v2 dIn (eTup (aCons (eVar 3) (aCons (eVar 2) aNil))) (eVar 6)))))
 (sRaise1 "NoTie" "place" (eVar 7))
 sNext)
 (sLm 6 (eTup (aCons (eVar 2) (aCons (eVar 3) aNil))) fAppend))
def look_ties_b3 : Env → Out := (sIf (bOr (evB (v2 dLt (eVar 4) (eC (.int 1)))) (evB (v2 dLt (eVar 5) (eC (.int 1)))))
 sBad
 sNext)
def ev_look_ties : Env → Out :=
 (sSeq (sForI (tTupN 4 (tsCons (tName 2) (tsCons (tName 3) (tsCons (tName 4) (tsCons (tName 5) tsNil))))) look_ties_b1 (iOf dItems (eVar 1)))
 (sSeq (sSet 6 (eLst aNil))
 (sSeq (sForI (tTupN 2 (tsCons (tName 7) (tsCons (tTupN 4 (tsCons (tName 2) (tsCons (tName 3) (tsCons (tName 4) (tsCons (tName 5) tsNil))))) tsNil))) look_ties_b2 (iOf dEnum (eVar 1)))
 (sForI (tTupN 2 (tsCons (tName 7) (tsCons (tTupN 4 (tsCons (tName 2) (tsCons (tName 3) (tsCons (tName 4) (tsCons (tName 5) tsNil))))) tsNil))) look_ties_b3 (iOf dEnum (eVar 1))))))
def F_look_ties : List D → Rs D := runD 2 8 ev_look_ties
theorem R_look_ties (x0 x1 : D) : F_look_ties [x0, x1] = outD (ev_look_ties [some x0, some x1, none, none, none, none, none, none]) := rfl
def sums_to_c1 : Env → Rs Bool := bYes
def sums_to_e1 : Env → Rs D := (eC .non)
def sums_to_b2 : Env → Out := (sIf (evB (v1 dNotN (v2 dIx (eVar 3) (eVar 7))))
 (sSeq (sSet 8 (v2 dPlus (v2 dIx (eVar 1) (eTup (aCons (eVar 6) (aCons (eVar 7) aNil)))) (v2 dIx (eVar 3) (eVar 7))))
 (sIf (bOr (evB (v1 dIsN (v2 dIx (eVar 3) (eVar 6)))) (evB (v2 dLt (eVar 8) (v2 dIx (eVar 3) (eVar 6)))))
 (sSeq (sSetIx 3 (eVar 6) (eVar 8))
 (sSet 5 (eC (.bl true))))
 sNext))
 sNext)
def sums_to_w3 : Env → Rs Bool := (evT (eVar 5))
def sums_to_b3 : Env → Out := (sSeq (sSet 5 (eC (.bl false)))
 (sForD 1 (tTupN 2 (tsCons (tName 6) (tsCons (tName 7) tsNil))) sums_to_b2))
def ev_sums_to : Env → Out :=
 (sSeq (sSet 3 (eLc (iOf dRange1 (eVar 0)) (tName 4) sums_to_c1 sums_to_e1 [4]))
 (sSeq (sSetIx 3 (eVar 2) (eC (.int 0)))
 (sSeq (sSet 5 (eC (.bl true)))
 (sSeq (sWhile sums_to_w3 sums_to_b3 1000000)
 (sRet (eVar 3))))))
def F_sums_to : List D → Rs D := runD 3 9 ev_sums_to
theorem R_sums_to (x0 x1 x2 : D) : F_sums_to [x0, x1, x2] = outD (ev_sums_to [some x0, some x1, some x2, none, none, none, none, none, none]) := rfl
def Net___init___b1 : Env → Out := (sSeq (sFldIx 0 "Net" "weights" 1 (eTup (aCons (eVar 4) (aCons (eVar 5) aNil))) (eVar 6))
 (sSeq (sFldIx 0 "Net" "weights" 1 (eTup (aCons (eVar 5) (aCons (eVar 4) aNil))) (eVar 7))
 (sLm 3 (eTup (aCons (eCall dMin2 (aCons (eVar 4) (aCons (eVar 5) aNil))) (aCons (eCall dMax2 (aCons (eVar 4) (aCons (eVar 5) aNil))) aNil))) fAppend)))
def Net___init___c2 : Env → Rs Bool := bYes
def Net___init___e2 : Env → Rs D := (eTup (aCons (eVar 4) (aCons (eVar 5) (aCons (v2 dIx (eFldN 0 "Net" "weights" 1) (eTup (aCons (eVar 4) (aCons (eVar 5) aNil)))) (aCons (v2 dIx (eFldN 0 "Net" "weights" 1) (eTup (aCons (eVar 5) (aCons (eVar 4) aNil)))) aNil)))))
def Net___init___c3 : Env → Rs Bool := bYes
def Net___init___e3 : Env → Rs D := (eFn F_sums_to (aCons (eVar 1) (aCons (eFldN 0 "Net" "weights" 1) (aCons (eVar 8) aNil))))
def ev_Net___init__ : Env → Out :=
 (sSeq (sIf (bOr (evB (v2 dLt (eVar 1) (eC (.int 2)))) (evB (v2 dGt (eVar 1) (eC (.int 12)))))
 sBad
 sNext)
 (sSeq (sDrop (eFn F_look_ties (aCons (eVar 1) (aCons (eVar 2) aNil))))
 (sSeq (sFldNew 0 "Net" "count" (eVar 1))
 (sSeq (sFldNew 0 "Net" "weights" (eC (.dt [])))
 (sSeq (sSet 3 (eLst aNil))
 (sSeq (sForI (tTupN 4 (tsCons (tName 4) (tsCons (tName 5) (tsCons (tName 6) (tsCons (tName 7) tsNil))))) Net___init___b1 (iOf dItems (eVar 2)))
 (sSeq (sFldNew 0 "Net" "ties" (eCall dTuple (aCons (eLc (iOf dItems (eCall dSortP (aCons (eVar 3) aNil))) (tTupN 2 (tsCons (tName 4) (tsCons (tName 5) tsNil))) Net___init___c2 Net___init___e2 [4, 5]) aNil)))
 (sFldNew 0 "Net" "sums" (eLc (iOf dRange1 (eVar 1)) (tName 8) Net___init___c3 Net___init___e3 [8])))))))))
def F_Net___init__ : List D → Rs D := runN "Net" 3 9 ev_Net___init__
theorem R_Net___init__ (x0 x1 : D) : F_Net___init__ [x0, x1] = outN (ev_Net___init__ [some (.obj "Net" []), some x0, some x1, none, none, none, none, none, none]) := rfl
def Net_neighbours_c1 : Env → Rs Bool := (evB (v2 dIn (eTup (aCons (eVar 1) (aCons (eVar 2) aNil))) (v1 (dFld "Net" "weights") (eVar 0))))
def Net_neighbours_e1 : Env → Rs D := (eVar 2)
def ev_Net_neighbours : Env → Out :=
 (sSeq (sDrop (eFn F_look_house (aCons (v1 (dFld "Net" "count") (eVar 0)) (aCons (eVar 1) aNil))))
 (sRet (eLc (iOf dRange1 (v1 (dFld "Net" "count") (eVar 0))) (tName 2) Net_neighbours_c1 Net_neighbours_e1 [2])))
def F_Net_neighbours : List D → Rs D := runD 2 3 ev_Net_neighbours
theorem R_Net_neighbours (x0 x1 : D) : F_Net_neighbours [x0, x1] = outD (ev_Net_neighbours [some x0, some x1, none]) := rfl
def ev_Net_weight : Env → Out :=
 (sSeq (sDrop (eFn F_look_house (aCons (v1 (dFld "Net" "count") (eVar 0)) (aCons (eVar 1) aNil))))
 (sSeq (sDrop (eFn F_look_house (aCons (v1 (dFld "Net" "count") (eVar 0)) (aCons (eVar 2) aNil))))
 (sRet (v3 dGet2 (v1 (dFld "Net" "weights") (eVar 0)) (eTup (aCons (eVar 1) (aCons (eVar 2) aNil))) (eC .non)))))
def F_Net_weight : List D → Rs D := runD 3 3 ev_Net_weight
theorem R_Net_weight (x0 x1 x2 : D) : F_Net_weight [x0, x1, x2] = outD (ev_Net_weight [some x0, some x1, some x2]) := rfl
def Net_look_fall_b1 : Env → Out := (sDrop (eFn F_look_house (aCons (v1 (dFld "Net" "count") (eVar 0)) (aCons (eVar 2) aNil))))
def ev_Net_look_fall : Env → Out :=
 (sSeq (sForI (tName 2) Net_look_fall_b1 (iOf dItems (eSl dCut (eVar 1) (oSome (eC (.int 1))) oNone)))
 (sIf (bAnd (evB (v2 dEq (v2 dIx (eVar 1) (eC (.int 0))) (eC (.str "tie")))) (evB (v2 dNotIn (eTup (aCons (v2 dIx (eVar 1) (eC (.int 1))) (aCons (v2 dIx (eVar 1) (eC (.int 2))) aNil))) (v1 (dFld "Net" "weights") (eVar 0)))))
 (sRaise1 "NoTie" "place" (eC .non))
 sNext))
def F_Net_look_fall : List D → Rs D := runD 2 3 ev_Net_look_fall
theorem R_Net_look_fall (x0 x1 : D) : F_Net_look_fall [x0, x1] = outD (ev_Net_look_fall [some x0, some x1, none]) := rfl
def Net_without_c1 : Env → Rs Bool := (evB (v2S true (eSl dCut (eVar 2) oNone (oSome (eC (.int 2)))) (eSl dCut (eVar 1) (oSome (eC (.int 1))) oNone)))
def Net_without_e1 : Env → Rs D := (eVar 2)
def Net_without_c2 : Env → Rs Bool := (evB (v2 dNotIn (v2 dIx (eVar 1) (eC (.int 1))) (eSl dCut (eVar 2) oNone (oSome (eC (.int 2))))))
def Net_without_e2 : Env → Rs D := (eVar 2)
def ev_Net_without : Env → Out :=
 (sSeq (sDrop (eMeth "Net" "look_fall" F_Net_look_fall (eVar 0) (aCons (eVar 1) aNil)))
 (sSeq (sIf (evB (v2 dEq (v2 dIx (eVar 1) (eC (.int 0))) (eC (.str "tie"))))
 (sRet (eFn F_Net___init__ (aCons (v1 (dFld "Net" "count") (eVar 0)) (aCons (eLc (iOf dItems (v1 (dFld "Net" "ties") (eVar 0))) (tName 2) Net_without_c1 Net_without_e1 [2]) aNil))))
 sNext)
 (sRet (eFn F_Net___init__ (aCons (v1 (dFld "Net" "count") (eVar 0)) (aCons (eLc (iOf dItems (v1 (dFld "Net" "ties") (eVar 0))) (tName 2) Net_without_c2 Net_without_e2 [2]) aNil))))))
def F_Net_without : List D → Rs D := runD 2 3 ev_Net_without
theorem R_Net_without (x0 x1 : D) : F_Net_without [x0, x1] = outD (ev_Net_without [some x0, some x1, none]) := rfl
def ev__law_cell_at : Env → Out :=
 (sSeq (sIf (evB (v2 dLt (eVar 1) (eCall dLen (aCons (eVar 0) aNil))))
 (sRet (v2 dIx (eVar 0) (eVar 1)))
 sNext)
 (sRet (eC (.int 0))))
def F__law_cell_at : List D → Rs D := runD 2 2 ev__law_cell_at
theorem R__law_cell_at (x0 x1 : D) : F__law_cell_at [x0, x1] = outD (ev__law_cell_at [some x0, some x1]) := rfl
def ev__law_mixed : Env → Out :=
 (sSeq (sSet 2 (v2 dMod (v2 dPlus (v2 dPlus (v2 dTimes (v2 dMod (eVar 0) (eC (.int 2147483629))) (eC (.int 16807))) (v2 dTimes (eC (.int 69621)) (eVar 1))) (eC (.int 11))) (eC (.int 2147483629))))
 (sSeq (sSet 2 (v2 dMod (v2 dPlus (v2 dPlus (v2 dTimes (eVar 2) (eVar 2)) (v2 dTimes (eC (.int 48271)) (eVar 1))) (eC (.int 7))) (eC (.int 2147483629))))
 (sRet (v2 dMod (v2 dPlus (v2 dTimes (eVar 2) (eVar 2)) (eC (.int 69621))) (eC (.int 2147483587))))))
def F__law_mixed : List D → Rs D := runD 2 3 ev__law_mixed
theorem R__law_mixed (x0 x1 : D) : F__law_mixed [x0, x1] = outD (ev__law_mixed [some x0, some x1, none]) := rfl
def ev__law_whole : Env → Out :=
 (sRet (eAnd (v1 (isiF isInt) (eVar 0)) (eNot (v1 (isiF isBool) (eVar 0)))))
def F__law_whole : List D → Rs D := runD 1 1 ev__law_whole
theorem R__law_whole (x0 : D) : F__law_whole [x0] = outD (ev__law_whole [some x0]) := rfl
def _law_same_b1 (g_ : List D → Rs D) : Env → Out := (sIf (bNot (evT (eFn g_ (aCons (v2 dIx (eVar 0) (eVar 2)) (aCons (v2 dIx (eVar 1) (eVar 2)) aNil)))))
 (sRet (eC (.bl false)))
 sNext)
def ev__law_same (g_ : List D → Rs D) : Env → Out :=
 (sSeq (sIf (bOr (evT (v1 (isiF isTuple) (eVar 1))) (evT (v1 (isiF isList) (eVar 1))))
 (sSeq (sIf (bOr (evB (v2 dNe (v1 (isiF isTuple) (eVar 0)) (v1 (isiF isTuple) (eVar 1)))) (evB (v2 dNe (v1 (isiF isList) (eVar 0)) (v1 (isiF isList) (eVar 1)))))
 (sRet (eC (.bl false)))
 sNext)
 (sSeq (sIf (evB (v2 dNe (eCall dLen (aCons (eVar 0) aNil)) (eCall dLen (aCons (eVar 1) aNil))))
 (sRet (eC (.bl false)))
 sNext)
 (sSeq (sForI (tName 2) (_law_same_b1 g_) (iOf dRange1 (eCall dLen (aCons (eVar 1) aNil))))
 (sRet (eC (.bl true))))))
 sNext)
 (sSeq (sIf (evT (v1 (isiF isBool) (eVar 1)))
 (sRet (eAnd (v1 (isiF isBool) (eVar 0)) (v2 dEq (eVar 0) (eVar 1))))
 sNext)
 (sSeq (sIf (evT (v1 (isiF isInt) (eVar 1)))
 (sRet (eAnd (v1 (isiF isInt) (eVar 0)) (eAnd (eNot (v1 (isiF isBool) (eVar 0))) (v2 dEq (eVar 0) (eVar 1)))))
 sNext)
 (sSeq (sIf (evT (v1 (isiF isStr) (eVar 1)))
 (sRet (eAnd (v1 (isiF isStr) (eVar 0)) (v2 dEq (eVar 0) (eVar 1))))
 sNext)
 (sRet (eAnd (v1 dIsN (eVar 1)) (v1 dIsN (eVar 0))))))))
def Fr__law_same : Nat → List D → Rs D
  | 0 => fun _ => .bad
  | n + 1 => runD 2 3 (ev__law_same (Fr__law_same n))
theorem Rr__law_same (n : Nat) (x0 x1 : D) : Fr__law_same (n + 1) [x0, x1] = outD (ev__law_same (Fr__law_same n) [some x0, some x1, none]) := rfl
def F__law_same : List D → Rs D := Fr__law_same 6
def _law_numbers_b1 : Env → Out := (sIf (evB (v2 dGe (eVar 3) (eC (.int 0))))
 (sSeq (sLm 2 (v2 dMod (eVar 3) (eC (.int 1000003))) fAppend)
 (sSet 3 (v2 dFdiv (eVar 3) (eC (.int 1000003)))))
 (sLm 2 (v2 dFdiv (eFn F__law_mixed (aCons (eVar 0) (aCons (eVar 4) aNil))) (eC (.int 64))) fAppend))
def ev__law_numbers : Env → Out :=
 (sSeq (sSet 2 (eLst aNil))
 (sSeq (sSet 3 (v2 dSub (eVar 0) (v2 dPow (eC (.int 10)) (eC (.int 18)))))
 (sSeq (sForI (tName 4) _law_numbers_b1 (iOf dRange1 (eVar 1)))
 (sRet (eVar 2)))))
def F__law_numbers : List D → Rs D := runD 2 5 ev__law_numbers
theorem R__law_numbers (x0 x1 : D) : F__law_numbers [x0, x1] = outD (ev__law_numbers [some x0, some x1, none, none, none]) := rfl
def ev__law_weight : Env → Out :=
 (sSeq (sIf (evB (v2 dEq (eVar 1) (eC (.int 0))))
 (sRet (eC (.int 1)))
 sNext)
 (sSeq (sIf (evB (v2 dEq (eVar 1) (eC (.int 5))))
 (sRet (v2 dPlus (eC (.int 1)) (v2 dTimes (eVar 0) (v2 dPow (eC (.int 10)) (eC (.int 28))))))
 sNext)
 (sRet (v2 dPlus (eC (.int 1)) (v2 dMod (eVar 0) (v2 dIx (eLst (aCons (eC (.int 1)) (aCons (eC (.int 2)) (aCons (eC (.int 3)) (aCons (eC (.int 9)) (aCons (eC (.int 60)) aNil)))))) (eVar 1)))))))
def F__law_weight : List D → Rs D := runD 2 2 ev__law_weight
theorem R__law_weight (x0 x1 : D) : F__law_weight [x0, x1] = outD (ev__law_weight [some x0, some x1]) := rfl
def _law_net_b1 : Env → Out := (sSeq (sSet 10 (v2 dIx (eVar 6) (eCall dLen (aCons (eVar 7) aNil))))
 (sSeq (sSet 11 (eFn F__law_weight (aCons (v2 dFdiv (eVar 10) (eC (.int 8))) (aCons (v2 dMod (eVar 3) (eC (.int 6))) aNil))))
 (sSeq (sSet 12 (v2 dMod (v2 dTimes (eVar 10) (eC (.int 7919))) (eC (.int 1000003))))
 (sSeq (sSet 13 (v2 dIx (eLst (aCons (eVar 11) (aCons (eFn F__law_weight (aCons (v2 dFdiv (eVar 12) (eC (.int 8))) (aCons (v2 dMod (eVar 3) (eC (.int 6))) aNil))) aNil))) (v2 dMod (v2 dFdiv (eVar 3) (eC (.int 6))) (eC (.int 2)))))
 (sSeq (sSet 14 (v2 dLt (v2 dMod (eVar 10) (eC (.int 8))) (v2 dIx (eLst (aCons (eC (.int 8)) (aCons (eC (.int 5)) (aCons (eC (.int 3)) (aCons (eC (.int 2)) aNil))))) (v2 dMod (eVar 4) (eC (.int 4))))))
 (sSeq (sSet 15 (eAnd (v2 dEq (v2 dMod (v2 dFdiv (eVar 4) (eC (.int 4))) (eC (.int 2))) (eC (.int 1))) (v2 dIn (v2 dSub (eVar 9) (eVar 8)) (eTup (aCons (eC (.int 1)) (aCons (v2 dSub (eVar 5) (eC (.int 1))) aNil))))))
 (sLm 7 (eIf (bOr (evT (eVar 14)) (evT (eVar 15))) (eTup (aCons (eVar 8) (aCons (eVar 9) (aCons (eVar 11) (aCons (eVar 13) aNil))))) (eC .non)) fAppend)))))))
def _law_net_b2 : Env → Out := (sForI (tName 9) _law_net_b1 (iOf2 dRange2 (v2 dPlus (eVar 8) (eC (.int 1))) (eVar 5)))
def _law_net_c3 : Env → Rs Bool := (evB (v1 dNotN (eVar 16)))
def _law_net_e3 : Env → Rs D := (eVar 16)
def ev__law_net : Env → Out :=
 (sSeq (sAsg (tTupN 3 (tsCons (tName 2) (tsCons (tName 3) (tsCons (tName 4) tsNil)))) (eFn F__law_numbers (aCons (eFn F__law_cell_at (aCons (eVar 0) (aCons (eVar 1) aNil))) (aCons (eC (.int 3)) aNil))))
 (sSeq (sSet 5 (v2 dIx (eLst (aCons (v2 dPlus (eC (.int 2)) (v2 dMod (v2 dFdiv (eVar 2) (eC (.int 4))) (eC (.int 5)))) (aCons (v2 dPlus (eC (.int 2)) (v2 dMod (v2 dFdiv (eVar 2) (eC (.int 4))) (eC (.int 11)))) aNil))) (eCall dInt (aCons (v2 dEq (v2 dMod (eVar 2) (eC (.int 4))) (eC (.int 1))) aNil))))
 (sSeq (sSet 6 (eFn F__law_numbers (aCons (eFn F__law_cell_at (aCons (eVar 0) (aCons (v2 dPlus (eVar 1) (eC (.int 1))) aNil))) (aCons (eC (.int 66)) aNil))))
 (sSeq (sSet 7 (eLst aNil))
 (sSeq (sForI (tName 8) _law_net_b2 (iOf dRange1 (eVar 5)))
 (sRet (eTup (aCons (eVar 5) (aCons (eLc (iOf dItems (eVar 7)) (tName 16) _law_net_c3 _law_net_e3 [16]) aNil)))))))))
def F__law_net : List D → Rs D := runD 2 17 ev__law_net
theorem R__law_net (x0 x1 : D) : F__law_net [x0, x1] = outD (ev__law_net [some x0, some x1, none, none, none, none, none, none, none, none, none, none, none, none, none, none, none]) := rfl
def _law_turned_b1 : Env → Out := (sLm 2 (v2 dIx (eLst (aCons (eTup (aCons (eVar 4) (aCons (eVar 5) (aCons (eVar 6) (aCons (eVar 7) aNil))))) (aCons (eTup (aCons (eVar 5) (aCons (eVar 4) (aCons (eVar 7) (aCons (eVar 6) aNil))))) aNil))) (v2 dBand (v2 dShr (v2 dIx (eVar 1) (v2 dMod (eVar 3) (eC (.int 3)))) (v2 dMod (eVar 3) (eC (.int 16)))) (eC (.int 1)))) fAppend)
def ev__law_turned : Env → Out :=
 (sSeq (sSet 2 (eLst aNil))
 (sSeq (sForI (tTupN 2 (tsCons (tName 3) (tsCons (tTupN 4 (tsCons (tName 4) (tsCons (tName 5) (tsCons (tName 6) (tsCons (tName 7) tsNil))))) tsNil))) _law_turned_b1 (iOf dEnum (eVar 0)))
 (sSeq (sSet 8 (v2 dMod (v2 dIx (eVar 1) (eC (.int 3))) (v2 dPlus (eCall dLen (aCons (eVar 2) aNil)) (eC (.int 1)))))
 (sRet (v2 dPlus (eSl dCutL (eVar 2) (oSome (eVar 8)) oNone) (eSl dCutL (eVar 2) oNone (oSome (eVar 8))))))))
def F__law_turned : List D → Rs D := runD 2 9 ev__law_turned
theorem R__law_turned (x0 x1 : D) : F__law_turned [x0, x1] = outD (ev__law_turned [some x0, some x1, none, none, none, none, none, none, none]) := rfl
def _law_right_c1 : Env → Rs Bool := (evB (v2 dEq (eVar 6) (eVar 3)))
def _law_right_e1 : Env → Rs D := (eVar 5)
def _law_right_c2 : Env → Rs Bool := (evB (v2 dEq (eVar 5) (eVar 3)))
def _law_right_e2 : Env → Rs D := (eVar 6)
def _law_right_b3 : Env → Out := (sSeq (sSet 4 (v2 dPlus (eLc (iOf dItems (eVar 2)) (tTupN 4 (tsCons (tName 5) (tsCons (tName 6) (tsCons (tName 7) (tsCons (tName 8) tsNil))))) _law_right_c1 _law_right_e1 [5, 6, 7, 8]) (eLc (iOf dItems (eVar 2)) (tTupN 4 (tsCons (tName 5) (tsCons (tName 6) (tsCons (tName 7) (tsCons (tName 8) tsNil))))) _law_right_c2 _law_right_e2 [5, 6, 7, 8])))
 (sIf (evB (v2 dNe (eMeth "Net" "neighbours" F_Net_neighbours (eVar 0) (aCons (eVar 3) aNil)) (eCall dSortI (aCons (eVar 4) aNil))))
 (sRet (eC (.bl false)))
 sNext))
def _law_right_b4 : Env → Out := (sIf (bOr (evB (v2 dNe (eMeth "Net" "weight" F_Net_weight (eVar 0) (aCons (eVar 5) (aCons (eVar 6) aNil))) (eVar 7))) (evB (v2 dNe (eMeth "Net" "weight" F_Net_weight (eVar 0) (aCons (eVar 6) (aCons (eVar 5) aNil))) (eVar 8))))
 (sRet (eC (.bl false)))
 sNext)
def _law_right_c5 : Env → Rs Bool := (evB (v2 dNotIn (eC (.int 0)) (eSl dCut (eVar 9) oNone (oSome (eC (.int 2))))))
def _law_right_e5 : Env → Rs D := (eVar 9)
def ev__law_right : Env → Out :=
 (sSeq (sForI (tName 3) _law_right_b3 (iOf dRange1 (eVar 1)))
 (sSeq (sForI (tTupN 4 (tsCons (tName 5) (tsCons (tName 6) (tsCons (tName 7) (tsCons (tName 8) tsNil))))) _law_right_b4 (iOf dItems (eVar 2)))
 (sSeq (sIf (evB (v2 dNe (v1 (dFld "Net" "ties") (eMeth "Net" "without" F_Net_without (eVar 0) (aCons (eTup (aCons (eC (.str "house")) (aCons (eC (.int 0)) aNil))) aNil))) (eCall dTuple (aCons (eCall dSortTI (aCons (eLc (iOf dItems (eVar 2)) (tName 9) _law_right_c5 _law_right_e5 [9]) aNil)) aNil))))
 (sRet (eC (.bl false)))
 sNext)
 (sRet (eAnd (eFn F__law_whole (aCons (v1 (dFld "Net" "count") (eVar 0)) aNil)) (eAnd (v2 dEq (v1 (dFld "Net" "count") (eVar 0)) (eVar 1)) (eFn F__law_same (aCons (v1 (dFld "Net" "ties") (eVar 0)) (aCons (eCall dTuple (aCons (eCall dSortTI (aCons (eVar 2) aNil)) aNil)) aNil)))))))))
def F__law_right : List D → Rs D := runD 3 10 ev__law_right
theorem R__law_right (x0 x1 x2 : D) : F__law_right [x0, x1, x2] = outD (ev__law_right [some x0, some x1, some x2, none, none, none, none, none, none, none]) := rfl
def law_b1 : Env → Out := (sSeq (sLm 3 uOk fClear)
 (sSeq (sLm 3 (eFn F__law_turned (aCons (v2 dIx (v2 dIx (eVar 1) (eVar 4)) (eC (.int 1))) (aCons (eFn F__law_numbers (aCons (eFn F__law_cell_at (aCons (eVar 0) (aCons (v2 dPlus (eC (.int 2)) (v2 dTimes (eC (.int 3)) (eVar 4))) aNil))) (aCons (eC (.int 4)) aNil))) aNil))) fExtend)
 (sSeq (sSet 5 (eCall dList (aCons (eVar 3) aNil)))
 (sSeq (sLm 2 (lkN 3 (eFn F_Net___init__ (aCons (v2 dIx (v2 dIx (eVar 1) (eVar 4)) (eC (.int 0))) (aCons (eVar 3) aNil)))) fAppend)
 (sSeq (sIf (bOr (evB (v2 dNe (eVar 3) (eVar 5))) (bNot (evT (eFn F__law_right (aCons (v2 dIx (eVar 2) (eVar 4)) (aCons (v2 dIx (v2 dIx (eVar 1) (eVar 4)) (eC (.int 0))) (aCons (v2 dIx (v2 dIx (eVar 1) (eVar 4)) (eC (.int 1))) aNil)))))))
 (sRet (eC (.bl false)))
 sNext)
 (sIf (bNot (evT (eFn F__law_right (aCons (v2 dIx (eVar 2) (eC (.int 0))) (aCons (v2 dIx (v2 dIx (eVar 1) (eC (.int 0))) (eC (.int 0))) (aCons (v2 dIx (v2 dIx (eVar 1) (eC (.int 0))) (eC (.int 1))) aNil))))))
 (sRet (eC (.bl false)))
 sNext))))))
def ev_law : Env → Out :=
 (sSeq (sSet 1 (eLst (aCons (eFn F__law_net (aCons (eVar 0) (aCons (eC (.int 0)) aNil))) (aCons (eFn F__law_net (aCons (eVar 0) (aCons (eC (.int 3)) aNil))) aNil))))
 (sSeq (sSet 2 (eLst aNil))
 (sSeq (sSet 3 (eLst aNil))
 (sSeq (sForI (tName 4) law_b1 (iOf dRange1 (eC (.int 2))))
 (sSeq (sLm 3 uOk fClear)
 (sSeq (sLm 3 (eTup (aCons (eC (.int 0)) (aCons (eC (.int 0)) (aCons (eC (.int 0)) (aCons (eC (.int 0)) aNil))))) fAppend)
 (sRet (eAnd (eFn F__law_right (aCons (v2 dIx (eVar 2) (eC (.int 0))) (aCons (v2 dIx (v2 dIx (eVar 1) (eC (.int 0))) (eC (.int 0))) (aCons (v2 dIx (v2 dIx (eVar 1) (eC (.int 0))) (eC (.int 1))) aNil)))) (eFn F__law_right (aCons (v2 dIx (eVar 2) (eC (.int 1))) (aCons (v2 dIx (v2 dIx (eVar 1) (eC (.int 1))) (eC (.int 0))) (aCons (v2 dIx (v2 dIx (eVar 1) (eC (.int 1))) (eC (.int 1))) aNil))))))))))))
def F_law : List D → Rs D := runD 1 6 ev_law
theorem R_law (x0 : D) : F_law [x0] = outD (ev_law [some x0, none, none, none, none, none]) := rfl
end G.T
namespace G.T
open PySem PySem.Spec L2
open PyProof.Rows hiding St
abbrev s_NoHouse___init__ : Stmt := inClass (top 3) 0
abbrev s_NoTie___init__ : Stmt := inClass (top 4) 0
abbrev s_look_house : Stmt := top 9
abbrev s_look_ties : Stmt := top 10
abbrev s_sums_to : Stmt := top 11
abbrev s_Net___init__ : Stmt := inClass (top 12) 0
abbrev s_Net_neighbours : Stmt := inClass (top 12) 1
abbrev s_Net_weight : Stmt := inClass (top 12) 2
abbrev s_Net_look_fall : Stmt := inClass (top 12) 3
abbrev s_Net_without : Stmt := inClass (top 12) 4
abbrev s__law_cell_at : Stmt := top 14
abbrev s__law_mixed : Stmt := top 15
abbrev s__law_whole : Stmt := top 16
abbrev s__law_same : Stmt := top 17
abbrev s__law_numbers : Stmt := top 18
abbrev s__law_weight : Stmt := top 19
abbrev s__law_net : Stmt := top 20
abbrev s__law_turned : Stmt := top 21
abbrev s__law_right : Stmt := top 22
abbrev s_law : Stmt := top 23
section
variable {P : Program} {w : World} {K : PySem.W.Frag} {mg : Str → Option Value} {base : Heap}
theorem sc_NoHouse___init__ : FnScope ["self", "house"] ["self", "house"] (defScope s_NoHouse___init__) := ⟨rfl, rfl, rfl, by decide +kernel, rfl, by decide +kernel, by decide +kernel⟩
theorem ok_NoHouse___init__ {f C : Addr} {fd : FuncData} (F : Fun K "__init__" "NoHouse.__init__" s_NoHouse___init__ f fd) (T : OexC K C) (hno : PySem.W.findIn K (.ref C) "house" = some none) : FnOk P w K mg base (L2.CX P w) 1 f fd ["self", "house"] (spO C "house") :=
  fn_okO F sc_NoHouse___init__ T hno fun cdv A outer s H E => pss_one (ps_ost (pv 0) (pv 1))
theorem sc_NoTie___init__ : FnScope ["self", "place"] ["self", "place"] (defScope s_NoTie___init__) := ⟨rfl, rfl, rfl, by decide +kernel, rfl, by decide +kernel, by decide +kernel⟩
theorem ok_NoTie___init__ {f C : Addr} {fd : FuncData} (F : Fun K "__init__" "NoTie.__init__" s_NoTie___init__ f fd) (T : OexC K C) (hno : PySem.W.findIn K (.ref C) "place" = some none) : FnOk P w K mg base (L2.CX P w) 1 f fd ["self", "place"] (spO C "place") :=
  fn_okO F sc_NoTie___init__ T hno fun cdv A outer s H E => pss_one (ps_ost (pv 0) (pv 1))
theorem sc_look_house : FnScope ["count", "house"] ["count", "house"] (defScope s_look_house) := ⟨rfl, rfl, rfl, by decide +kernel, rfl, by decide +kernel, by decide +kernel⟩
theorem ok_look_house {f : Addr} {fd : FuncData} (F : Fun K "look_house" "look_house" s_look_house f fd) {c_NoHouse : Addr} (m_NoHouse : mg "NoHouse" = some (.ref c_NoHouse)) {fI_NoHouse : Addr} {dI_NoHouse : FuncData} (ex_NoHouse : ExF K mg "NoHouse" c_NoHouse fI_NoHouse) (G_NoHouse : FnOk P w K mg base (L2.CX P w) 1 fI_NoHouse dI_NoHouse ["self", "house"] (spO c_NoHouse "house")) (b_NoHouse : Binds K dI_NoHouse ["self", "house"] []) : FnOk P w K mg base (L2.CX P w) 3 f fd ["count", "house"] (spD ⟨K, mg⟩ (.S) F_look_house) := by
  refine fn_okD (ms' := [.S, .S]) F sc_look_house (by decide) fun cdv A outer s H E hr => ?_
  have hu : (A.deeper (envOfC "look_house" (defScope s_look_house) s.heap.objs.size f cdv)).units + 64 < cLine := by have := (hr.mono (Nat.zero_le _)).un; omega
  have hu5 : (A.deeper (envOfC "look_house" (defScope s_look_house) s.heap.objs.size f cdv)).units + 65 < cLine := by have := (hr.mono (Nat.zero_le _)).un; omega
  have nd : (["count", "house"] : List Str).Nodup := sc_look_house.nd
  have tk : Takes (cxOf (L2.CX P w) P w K mg base ["count", "house"] "look_house" (defScope s_look_house) f cdv A outer s H E) (fun cls d _ H => E cls d H) := takes_of rfl rfl rfl rfl
  exact (jss_one (js_if (ms' := [.S, .S]) (.inl rfl) (jw_pt (jw_or (jt_cmp op_ltIS o_lt (nomark _) (je_varS 1) je_int) (jw_or1 (jt_cmp op_ge o_ge (nomark _) (je_varS 1) (je_varS 0)))))
 (jss_any (ms' := [.S, .S]) (jss_one (js_raise1 (.inl rfl) rfl ex_NoHouse G_NoHouse (hr.mono (by first | decide | omega | exact Nat.le_refl _)) b_NoHouse passX tk (je_varS 1))) nv_raise1)
 jss_nil))
theorem sc_look_ties : FnScope ["count", "ties", "a", "b", "there", "back", "seen", "place"] ["count", "ties"] (defScope s_look_ties) := ⟨rfl, rfl, rfl, by decide +kernel, rfl, by decide +kernel, by decide +kernel⟩
theorem ok_look_ties {f : Addr} {fd : FuncData} (F : Fun K "look_ties" "look_ties" s_look_ties f fd) {f_look_house : Addr} {d_look_house : FuncData} (G_look_house : FnOk P w K mg base (L2.CX P w) 3 f_look_house d_look_house ["count", "house"] (spD ⟨K, mg⟩ (.S) F_look_house)) (b_look_house : Binds K d_look_house ["count", "house"] []) (m_look_house : mg "look_house" = some (.ref f_look_house)) (k_look_house : PySem.W.keepIn K (.ref f_look_house) = true) (n_enumerate : mg "enumerate" = none) {c_NoTie : Addr} (m_NoTie : mg "NoTie" = some (.ref c_NoTie)) {fI_NoTie : Addr} {dI_NoTie : FuncData} (ex_NoTie : ExF K mg "NoTie" c_NoTie fI_NoTie) (G_NoTie : FnOk P w K mg base (L2.CX P w) 1 fI_NoTie dI_NoTie ["self", "place"] (spO c_NoTie "place")) (b_NoTie : Binds K dI_NoTie ["self", "place"] []) : FnOk P w K mg base (L2.CX P w) 4 f fd ["count", "ties"] (spD ⟨K, mg⟩ (.S) F_look_ties) := by
  refine fn_okD (ms' := [.S, .S, .S, .S, .S, .S, .O .S, .S]) F sc_look_ties (by decide) fun cdv A outer s H E hr => ?_
  have hu : (A.deeper (envOfC "look_ties" (defScope s_look_ties) s.heap.objs.size f cdv)).units + 64 < cLine := by have := (hr.mono (Nat.zero_le _)).un; omega
  have hu5 : (A.deeper (envOfC "look_ties" (defScope s_look_ties) s.heap.objs.size f cdv)).units + 65 < cLine := by have := (hr.mono (Nat.zero_le _)).un; omega
  have nd : (["count", "ties", "a", "b", "there", "back", "seen", "place"] : List Str).Nodup := sc_look_ties.nd
  have tk : Takes (cxOf (L2.CX P w) P w K mg base ["count", "ties", "a", "b", "there", "back", "seen", "place"] "look_ties" (defScope s_look_ties) f cdv A outer s H E) (fun cls d _ H => E cls d H) := takes_of rfl rfl rfl rfl
  exact (jss_cons (js_for (mh := [.S, .S, .S, .S, .S, .S, .S, .S]) (.inl rfl) (passes_of rfl) rfl (ji_seq (.inl rfl) (je_varS 1)) (jg_tup rfl (jgs_cons (jg_name 2 nd) (jgs_cons (jg_name 3 nd) (jgs_cons (jg_name 4 nd) (jgs_cons (jg_name 5 nd) jgs_nil)))))
 (jss_cons (js_drop (.inl rfl) (je_fn G_look_house (hr.mono (by first | decide | omega)) m_look_house k_look_house b_look_house tk (ja_cons rfl (je_varS 0) (ja_cons rfl (je_varS 2) ja_nil))))
 (jss_one (js_drop (.inl rfl) (je_fn G_look_house (hr.mono (by first | decide | omega)) m_look_house k_look_house b_look_house tk (ja_cons rfl (je_varS 0) (ja_cons rfl (je_varS 3) ja_nil)))))))
 (jss_cons (js_set 6 (.inl rfl) nd (je_lst ja_nil))
 (jss_cons (js_for (mh := [.S, .S, .S, .S, .S, .S, .O .S, .S]) (.inl rfl) (passes_of rfl) rfl (ji_enum n_enumerate (.inl rfl) (je_varS 1)) (jg_tup rfl (jgs_cons (jg_name 7 nd) (jgs_cons (jg_tup rfl (jgs_cons (jg_name 2 nd) (jgs_cons (jg_name 3 nd) (jgs_cons (jg_name 4 nd) (jgs_cons (jg_name 5 nd) jgs_nil))))) jgs_nil)))
 (jss_cons (js_if (ms' := [.S, .S, .S, .S, .S, .S, .O .S, .S]) (.inl rfl) (jw_pt (jw_or (jt_cmp (op_eq2 hu) o_eq (nomark _) (je_varS 2) (je_varS 3)) (jw_or (jt_cmp (op_in5 hu5) o_in rfl (je_tup (ja_cons rfl (je_varS 2) (ja_cons rfl (je_varS 3) ja_nil))) (je_var 6)) (jw_or1 (jt_cmp (op_in5 hu5) o_in rfl (je_tup (ja_cons rfl (je_varS 3) (ja_cons rfl (je_varS 2) ja_nil))) (je_var 6))))))
 (jss_any (ms' := [.S, .S, .S, .S, .S, .S, .O .S, .S]) (jss_one (js_raise1 (.inl rfl) rfl ex_NoTie G_NoTie (hr.mono (by first | decide | omega | exact Nat.le_refl _)) b_NoTie passX tk (je_varS 7))) nv_raise1)
 jss_nil)
 (jss_one (js_append 6 (.inl rfl) (fun _ _ h1 h2 => pe_bm PySem.F.plainAttrs_list PySem.F.slot_list_append PySem.F.type_list_append mt_append h1 (pa_cons h2 pa_nil)) (fun _ h => ps_expr h) (pv 6) (je_tup (ja_cons rfl (je_varS 2) (ja_cons rfl (je_varS 3) ja_nil)))))))
 (jss_one (js_for (mh := [.S, .S, .S, .S, .S, .S, .O .S, .S]) (.inl rfl) (passes_of rfl) rfl (ji_enum n_enumerate (.inl rfl) (je_varS 1)) (jg_tup rfl (jgs_cons (jg_name 7 nd) (jgs_cons (jg_tup rfl (jgs_cons (jg_name 2 nd) (jgs_cons (jg_name 3 nd) (jgs_cons (jg_name 4 nd) (jgs_cons (jg_name 5 nd) jgs_nil))))) jgs_nil)))
 (jss_one (js_if (ms' := [.S, .S, .S, .S, .S, .S, .O .S, .S]) (.inl rfl) (jw_pt (jw_or (jt_cmp op_ltIS o_lt (nomark _) (je_varS 4) je_int) (jw_or1 (jt_cmp op_ltIS o_lt (nomark _) (je_varS 5) je_int))))
 (jss_any (ms' := [.S, .S, .S, .S, .S, .S, .O .S, .S]) (jss_one js_bad) nv_bad)
 jss_nil)))))))
theorem sc_sums_to : FnScope ["count", "weights", "target", "found", "house", "turned", "a", "b", "through"] ["count", "weights", "target"] (defScope s_sums_to) := ⟨rfl, rfl, rfl, by decide +kernel, rfl, by decide +kernel, by decide +kernel⟩
theorem ok_sums_to {f : Addr} {fd : FuncData} (F : Fun K "sums_to" "sums_to" s_sums_to f fd) (n_range : mg "range" = none) : FnOk P w K mg base (L2.CX P w) 1 f fd ["count", "weights", "target"] (spD ⟨K, mg⟩ (.S) F_sums_to) := by
  refine fn_okD (ms' := [.S, .S, .S, .S, .S, .S, .S, .S, .S]) F sc_sums_to (by decide) fun cdv A outer s H E hr => ?_
  have hu : (A.deeper (envOfC "sums_to" (defScope s_sums_to) s.heap.objs.size f cdv)).units + 64 < cLine := by have := (hr.mono (Nat.zero_le _)).un; omega
  have hu5 : (A.deeper (envOfC "sums_to" (defScope s_sums_to) s.heap.objs.size f cdv)).units + 65 < cLine := by have := (hr.mono (Nat.zero_le _)).un; omega
  have nd : (["count", "weights", "target", "found", "house", "turned", "a", "b", "through"] : List Str).Nodup := sc_sums_to.nd
  have tk : Takes (cxOf (L2.CX P w) P w K mg base ["count", "weights", "target", "found", "house", "turned", "a", "b", "through"] "sums_to" (defScope s_sums_to) f cdv A outer s H E) (fun cls d _ H => E cls d H) := takes_of rfl rfl rfl rfl
  exact (jss_cons (js_setLc (own := [("house", 4)]) 3 (.inl rfl) rfl nd (ji_range1 n_range (je_varS 0)) (blkOk_by (by kernel_rfl)) (fun _ _ _ _ _ => (jg_name 4 nd)) (fun _ _ _ _ _ => jts_nil) (fun _ _ _ _ _ => je_non) (by decide) (sw_true rfl rfl rfl (by decide +kernel)))
 (jss_cons (js_setIx 3 (.inl rfl) (fun _ _ _ h1 h2 h3 => ps_asg h1 (pg_sub h2 h3 (set5 hu))) (pv 3) (je_varS 2) je_int)
 (jss_cons (js_set 5 (.inl rfl) nd je_bl)
 (jss_cons (js_while (mh := [.S, .S, .S, .O .S, .S, .S, .S, .S, .S]) 1000000 (.inl rfl) (passes_of rfl) (jt_tru (je_varS 5))
 (jss_cons (js_set 5 (.inl rfl) nd je_bl)
 (jss_one (js_forD (mh := [.S, .S, .S, .O .S, .S, .S, .S, .S, .S]) 1 (.inl rfl) (passes_of rfl) rfl (pv 1) (jgf_tup rfl (jgs_cons (jg_name 6 nd) (jgs_cons (jg_name 7 nd) jgs_nil)))
 (jss_one (js_if (ms' := [.S, .S, .S, .O .S, .S, .S, .S, .S, .S]) (.inl rfl) (jt_notN (je_ixG (ix5 hu) (o_ix rfl) (je_var 3) (je_varS 7) (fun _ _ => rfl)))
 (jss_cons (js_set 8 (.inl rfl) nd (je_op op_plus o_plus (je_ixG (ix5 hu) (o_ix rfl) (je_varS 1) (je_tup (ja_cons rfl (je_varS 6) (ja_cons rfl (je_varS 7) ja_nil))) (fun _ _ => rfl)) (je_ixG (ix5 hu) (o_ix rfl) (je_var 3) (je_varS 7) (fun _ _ => rfl))))
 (jss_one (js_if (ms' := [.S, .S, .S, .O .S, .S, .S, .S, .S, .S]) (.inl rfl) (jw_pt (jw_or (jt_isN (je_ixG (ix5 hu) (o_ix rfl) (je_var 3) (je_varS 6) (fun _ _ => rfl))) (jw_or1 (jt_cmp op_ltIS o_lt (nomark _) (je_varS 8) (je_ixG (ix5 hu) (o_ix rfl) (je_var 3) (je_varS 6) (fun _ _ => rfl))))))
 (jss_cons (js_setIx 3 (.inl rfl) (fun _ _ _ h1 h2 h3 => ps_asg h1 (pg_sub h2 h3 (set5 hu))) (pv 3) (je_varS 6) (je_varS 8))
 (jss_one (js_set 5 (.inl rfl) nd je_bl)))
 jss_nil)))
 jss_nil))))))
 (jss_one (js_pre 3 (by first | decide | simp) (js_ret (.inl rfl) (jr_of (je_varS 3)))))))))
theorem sc_Net___init__ : FnScope ["self", "count", "ties", "found", "a", "b", "there", "back", "target"] ["self", "count", "ties"] (defScope s_Net___init__) := ⟨rfl, rfl, rfl, by decide +kernel, rfl, by decide +kernel, by decide +kernel⟩
theorem ok_Net___init__ {f : Addr} {fd : FuncData} (F : Fun K "__init__" "Net.__init__" s_Net___init__ f fd) {c_Net : Addr} (m_Net : mg "Net" = some (.ref c_Net)) (cl_Net : Cls K c_Net) (na_Net_count : NoAttr K c_Net "count") (na_Net_weights : NoAttr K c_Net "weights") (na_Net_ties : NoAttr K c_Net "ties") (na_Net_sums : NoAttr K c_Net "sums") {f_look_ties : Addr} {d_look_ties : FuncData} (G_look_ties : FnOk P w K mg base (L2.CX P w) 4 f_look_ties d_look_ties ["count", "ties"] (spD ⟨K, mg⟩ (.S) F_look_ties)) (b_look_ties : Binds K d_look_ties ["count", "ties"] []) (m_look_ties : mg "look_ties" = some (.ref f_look_ties)) (k_look_ties : PySem.W.keepIn K (.ref f_look_ties) = true) {f_sums_to : Addr} {d_sums_to : FuncData} (G_sums_to : FnOk P w K mg base (L2.CX P w) 1 f_sums_to d_sums_to ["count", "weights", "target"] (spD ⟨K, mg⟩ (.S) F_sums_to)) (b_sums_to : Binds K d_sums_to ["count", "weights", "target"] []) (m_sums_to : mg "sums_to" = some (.ref f_sums_to)) (k_sums_to : PySem.W.keepIn K (.ref f_sums_to) = true) {t_LEAST : Tok} (g_LEAST : mg "LEAST" = some (.int 2 t_LEAST)) {t_MOST : Tok} (g_MOST : mg "MOST" = some (.int 12 t_MOST)) (n_min : mg "min" = none) (n_max : mg "max" = none) (n_sorted : mg "sorted" = none) (n_tuple : mg "tuple" = none) (n_range : mg "range" = none) : FnOk P w K mg base (L2.CX P w) 5 f fd ["self", "count", "ties"] (spN ⟨K, mg⟩ "Net" F_Net___init__) := by
  refine fn_okN F sc_Net___init__ (by decide) (by decide) fun cdv A outer s H E hr pp => ⟨[.S, .S, .S, .S], ?_⟩
  have hu : (A.deeper (envOfC "Net.__init__" (defScope s_Net___init__) s.heap.objs.size f cdv)).units + 64 < cLine := by have := (hr.mono (Nat.zero_le _)).un; omega
  have hu5 : (A.deeper (envOfC "Net.__init__" (defScope s_Net___init__) s.heap.objs.size f cdv)).units + 65 < cLine := by have := (hr.mono (Nat.zero_le _)).un; omega
  have nd : (["self", "count", "ties", "found", "a", "b", "there", "back", "target"] : List Str).Nodup := sc_Net___init__.nd
  have tk : Takes (cxOf (L2.CX P w) P w K mg base ["self", "count", "ties", "found", "a", "b", "there", "back", "target"] "Net.__init__" (defScope s_Net___init__) f cdv A outer s H E) (fun cls d _ H => E cls d H) := takes_of rfl rfl rfl rfl
  exact (jss_cons (js_if (ms' := [.N pp [], .S, .S, .S, .S, .S, .S, .S, .S]) (.inl rfl) (jw_pt (jw_or (jt_cmp op_ltIS o_lt (nomark _) (je_varS 1) (je_gint g_LEAST)) (jw_or1 (jt_cmp op_gt o_gt (nomark _) (je_varS 1) (je_gint g_MOST)))))
 (jss_any (ms' := [.N pp [], .S, .S, .S, .S, .S, .S, .S, .S]) (jss_one js_bad) nv_bad)
 jss_nil)
 (jss_cons (js_drop (.inl rfl) (je_fn G_look_ties (hr.mono (by first | decide | omega)) m_look_ties k_look_ties b_look_ties tk (ja_cons rfl (je_varS 1) (ja_cons rfl (je_varS 2) ja_nil))))
 (jss_cons (js_fldNew (pp := pp) (mts := []) (m := .S) 0 (.inl rfl) m_Net cl_Net na_Net_count (pv 0) (je_varS 1))
 (jss_cons (js_fldNew (pp := pp) (mts := [.S]) (m := .O .S) 0 (.inl rfl) m_Net cl_Net na_Net_weights (pv 0) je_dt0)
 (jss_cons (js_set 3 (.inl rfl) nd (je_lst ja_nil))
 (jss_cons (js_for (mh := [.N pp [.S, .O .S], .S, .S, .O .S, .S, .S, .S, .S, .S]) (.inl rfl) (passes_of rfl) rfl (ji_seq (.inl rfl) (je_varS 2)) (jg_tup rfl (jgs_cons (jg_name 4 nd) (jgs_cons (jg_name 5 nd) (jgs_cons (jg_name 6 nd) (jgs_cons (jg_name 7 nd) jgs_nil)))))
 (jss_cons (js_fldIx (pp := pp) (mts := [.S, .O .S]) 0 1 (.inl rfl) m_Net cl_Net na_Net_weights (fun _ _ _ h1 h2 h3 => ps_asg h1 (pg_sub h2 h3 (set5 hu))) (pv 0) (je_tup (ja_cons rfl (je_varS 4) (ja_cons rfl (je_varS 5) ja_nil))) (je_varS 6))
 (jss_cons (js_fldIx (pp := pp) (mts := [.S, .O .S]) 0 1 (.inl rfl) m_Net cl_Net na_Net_weights (fun _ _ _ h1 h2 h3 => ps_asg h1 (pg_sub h2 h3 (set5 hu))) (pv 0) (je_tup (ja_cons rfl (je_varS 5) (ja_cons rfl (je_varS 4) ja_nil))) (je_varS 7))
 (jss_one (js_append 3 (.inl rfl) (fun _ _ h1 h2 => pe_bm PySem.F.plainAttrs_list PySem.F.slot_list_append PySem.F.type_list_append mt_append h1 (pa_cons h2 pa_nil)) (fun _ h => ps_expr h) (pv 3) (je_tup (ja_cons rfl (je_callB (call_min2 rfl) oc_min2 n_min (by decide +kernel) (ja_cons rfl (je_varS 4) (ja_cons rfl (je_varS 5) ja_nil))) (ja_cons rfl (je_callB (call_max2 rfl) oc_max2 n_max (by decide +kernel) (ja_cons rfl (je_varS 4) (ja_cons rfl (je_varS 5) ja_nil))) ja_nil))))))))
 (jss_cons (js_pre 3 (by first | decide | simp) (js_fldNew (pp := pp) (mts := [.S, .O .S]) (m := .S) 0 (.inl rfl) m_Net cl_Net na_Net_ties (pv 0) (je_callTy call_tuple_of (oc_tuple rfl) n_tuple (by decide +kernel) (ja_one (JG.os (je_lc (own := [("a", 4), ("b", 5)]) rfl nd (ji_seq (.inl rfl) (JG.os (je_callB cr_sortedPO oc_sortP n_sorted (by decide +kernel) (ja_one (je_varS 3))))) (blkOk_by (by kernel_rfl)) (fun _ _ _ _ _ => (jg_tup rfl (jgs_cons (jg_name 4 nd) (jgs_cons (jg_name 5 nd) jgs_nil)))) (fun _ _ _ _ _ => jts_nil) (fun _ _ _ _ _ => (je_tup (ja_cons rfl (je_varS 4) (ja_cons rfl (je_varS 5) (ja_cons rfl (je_ixG (ix5 hu) (o_ix rfl) (je_fldN (pp := pp) (mts := [.S, .O .S]) 0 1 m_Net cl_Net na_Net_weights (pv 0)) (je_tup (ja_cons rfl (je_varS 4) (ja_cons rfl (je_varS 5) ja_nil))) (fun _ _ => rfl)) (ja_cons rfl (je_ixG (ix5 hu) (o_ix rfl) (je_fldN (pp := pp) (mts := [.S, .O .S]) 0 1 m_Net cl_Net na_Net_weights (pv 0)) (je_tup (ja_cons rfl (je_varS 5) (ja_cons rfl (je_varS 4) ja_nil))) (fun _ _ => rfl)) ja_nil)))))) (by decide)))))))
 (jss_one (js_preF (pp := pp) (mts := [.S, .O .S, .S]) 0 1 (js_fldNew (pp := pp) (mts := [.S, .S, .S]) (m := .S) 0 (.inl rfl) m_Net cl_Net na_Net_sums (pv 0) (JG.os (je_lc (own := [("target", 8)]) rfl nd (ji_range1 n_range (je_varS 1)) (blkOk_by (by kernel_rfl)) (fun _ _ _ _ _ => (jg_name 8 nd)) (fun _ _ _ _ _ => jts_nil) (fun _ _ _ _ _ => (je_fn G_sums_to (hr.mono (by first | decide | omega)) m_sums_to k_sums_to b_sums_to takes0 (ja_cons rfl (je_varS 1) (ja_cons rfl (JG.ts (je_fldN (pp := pp) (mts := [.S, .S, .S]) 0 1 m_Net cl_Net na_Net_weights (pv 0))) (ja_cons rfl (je_varS 8) ja_nil))))) (by decide)))))))))))))
theorem sc_Net_neighbours : FnScope ["self", "house", "other"] ["self", "house"] (defScope s_Net_neighbours) := ⟨rfl, rfl, rfl, by decide +kernel, rfl, by decide +kernel, by decide +kernel⟩
theorem ok_Net_neighbours {f : Addr} {fd : FuncData} (F : Fun K "neighbours" "Net.neighbours" s_Net_neighbours f fd) {c_Net : Addr} (m_Net : mg "Net" = some (.ref c_Net)) (cl_Net : Cls K c_Net) (na_Net_count : NoAttr K c_Net "count") (na_Net_weights : NoAttr K c_Net "weights") {f_look_house : Addr} {d_look_house : FuncData} (G_look_house : FnOk P w K mg base (L2.CX P w) 3 f_look_house d_look_house ["count", "house"] (spD ⟨K, mg⟩ (.S) F_look_house)) (b_look_house : Binds K d_look_house ["count", "house"] []) (m_look_house : mg "look_house" = some (.ref f_look_house)) (k_look_house : PySem.W.keepIn K (.ref f_look_house) = true) (n_range : mg "range" = none) : FnOk P w K mg base (L2.CX P w) 4 f fd ["self", "house"] (spD ⟨K, mg⟩ (.S) F_Net_neighbours) := by
  refine fn_okD (ms' := [.S, .S, .S]) F sc_Net_neighbours (by decide) fun cdv A outer s H E hr => ?_
  have hu : (A.deeper (envOfC "Net.neighbours" (defScope s_Net_neighbours) s.heap.objs.size f cdv)).units + 64 < cLine := by have := (hr.mono (Nat.zero_le _)).un; omega
  have hu5 : (A.deeper (envOfC "Net.neighbours" (defScope s_Net_neighbours) s.heap.objs.size f cdv)).units + 65 < cLine := by have := (hr.mono (Nat.zero_le _)).un; omega
  have nd : (["self", "house", "other"] : List Str).Nodup := sc_Net_neighbours.nd
  have tk : Takes (cxOf (L2.CX P w) P w K mg base ["self", "house", "other"] "Net.neighbours" (defScope s_Net_neighbours) f cdv A outer s H E) (fun cls d _ H => E cls d H) := takes_of rfl rfl rfl rfl
  exact (jss_cons (js_drop (.inl rfl) (je_fn G_look_house (hr.mono (by first | decide | omega)) m_look_house k_look_house b_look_house tk (ja_cons rfl (je_fld m_Net cl_Net na_Net_count (je_varS 0)) (ja_cons rfl (je_varS 1) ja_nil))))
 (jss_one (js_ret (.inl rfl) (jr_of (JG.os (je_lc (own := [("other", 2)]) rfl nd (ji_range1 n_range (je_fld m_Net cl_Net na_Net_count (je_varS 0))) (blkOk_by (by kernel_rfl)) (fun _ _ _ _ _ => (jg_name 2 nd)) (fun _ _ _ _ _ => (jts_one (jt_cmp (op_in5 hu5) o_in rfl (je_tup (ja_cons rfl (je_varS 1) (ja_cons rfl (je_varS 2) ja_nil))) (je_fld m_Net cl_Net na_Net_weights (je_varS 0))))) (fun _ _ _ _ _ => (je_varS 2)) (by decide)))))))
theorem sc_Net_weight : FnScope ["self", "a", "b"] ["self", "a", "b"] (defScope s_Net_weight) := ⟨rfl, rfl, rfl, by decide +kernel, rfl, by decide +kernel, by decide +kernel⟩
theorem ok_Net_weight {f : Addr} {fd : FuncData} (F : Fun K "weight" "Net.weight" s_Net_weight f fd) {c_Net : Addr} (m_Net : mg "Net" = some (.ref c_Net)) (cl_Net : Cls K c_Net) (na_Net_count : NoAttr K c_Net "count") (na_Net_weights : NoAttr K c_Net "weights") {f_look_house : Addr} {d_look_house : FuncData} (G_look_house : FnOk P w K mg base (L2.CX P w) 3 f_look_house d_look_house ["count", "house"] (spD ⟨K, mg⟩ (.S) F_look_house)) (b_look_house : Binds K d_look_house ["count", "house"] []) (m_look_house : mg "look_house" = some (.ref f_look_house)) (k_look_house : PySem.W.keepIn K (.ref f_look_house) = true) : FnOk P w K mg base (L2.CX P w) 4 f fd ["self", "a", "b"] (spD ⟨K, mg⟩ (.S) F_Net_weight) := by
  refine fn_okD (ms' := [.S, .S, .S]) F sc_Net_weight (by decide) fun cdv A outer s H E hr => ?_
  have hu : (A.deeper (envOfC "Net.weight" (defScope s_Net_weight) s.heap.objs.size f cdv)).units + 64 < cLine := by have := (hr.mono (Nat.zero_le _)).un; omega
  have hu5 : (A.deeper (envOfC "Net.weight" (defScope s_Net_weight) s.heap.objs.size f cdv)).units + 65 < cLine := by have := (hr.mono (Nat.zero_le _)).un; omega
  have nd : (["self", "a", "b"] : List Str).Nodup := sc_Net_weight.nd
  have tk : Takes (cxOf (L2.CX P w) P w K mg base ["self", "a", "b"] "Net.weight" (defScope s_Net_weight) f cdv A outer s H E) (fun cls d _ H => E cls d H) := takes_of rfl rfl rfl rfl
  exact (jss_cons (js_drop (.inl rfl) (je_fn G_look_house (hr.mono (by first | decide | omega)) m_look_house k_look_house b_look_house tk (ja_cons rfl (je_fld m_Net cl_Net na_Net_count (je_varS 0)) (ja_cons rfl (je_varS 1) ja_nil))))
 (jss_cons (js_drop (.inl rfl) (je_fn G_look_house (hr.mono (by first | decide | omega)) m_look_house k_look_house b_look_house tk (ja_cons rfl (je_fld m_Net cl_Net na_Net_count (je_varS 0)) (ja_cons rfl (je_varS 2) ja_nil))))
 (jss_one (js_ret (.inl rfl) (jr_of (je_get2 hu (je_fld m_Net cl_Net na_Net_weights (je_varS 0)) (je_tup (ja_cons rfl (je_varS 1) (ja_cons rfl (je_varS 2) ja_nil))) je_non ⟨rfl, rfl, rfl, rfl⟩))))))
theorem sc_Net_look_fall : FnScope ["self", "fall", "house"] ["self", "fall"] (defScope s_Net_look_fall) := ⟨rfl, rfl, rfl, by decide +kernel, rfl, by decide +kernel, by decide +kernel⟩
theorem ok_Net_look_fall {f : Addr} {fd : FuncData} (F : Fun K "look_fall" "Net.look_fall" s_Net_look_fall f fd) {c_Net : Addr} (m_Net : mg "Net" = some (.ref c_Net)) (cl_Net : Cls K c_Net) (na_Net_count : NoAttr K c_Net "count") (na_Net_weights : NoAttr K c_Net "weights") {f_look_house : Addr} {d_look_house : FuncData} (G_look_house : FnOk P w K mg base (L2.CX P w) 3 f_look_house d_look_house ["count", "house"] (spD ⟨K, mg⟩ (.S) F_look_house)) (b_look_house : Binds K d_look_house ["count", "house"] []) (m_look_house : mg "look_house" = some (.ref f_look_house)) (k_look_house : PySem.W.keepIn K (.ref f_look_house) = true) {c_NoTie : Addr} (m_NoTie : mg "NoTie" = some (.ref c_NoTie)) {fI_NoTie : Addr} {dI_NoTie : FuncData} (ex_NoTie : ExF K mg "NoTie" c_NoTie fI_NoTie) (G_NoTie : FnOk P w K mg base (L2.CX P w) 1 fI_NoTie dI_NoTie ["self", "place"] (spO c_NoTie "place")) (b_NoTie : Binds K dI_NoTie ["self", "place"] []) : FnOk P w K mg base (L2.CX P w) 4 f fd ["self", "fall"] (spD ⟨K, mg⟩ (.S) F_Net_look_fall) := by
  refine fn_okD (ms' := [.S, .S, .S]) F sc_Net_look_fall (by decide) fun cdv A outer s H E hr => ?_
  have hu : (A.deeper (envOfC "Net.look_fall" (defScope s_Net_look_fall) s.heap.objs.size f cdv)).units + 64 < cLine := by have := (hr.mono (Nat.zero_le _)).un; omega
  have hu5 : (A.deeper (envOfC "Net.look_fall" (defScope s_Net_look_fall) s.heap.objs.size f cdv)).units + 65 < cLine := by have := (hr.mono (Nat.zero_le _)).un; omega
  have nd : (["self", "fall", "house"] : List Str).Nodup := sc_Net_look_fall.nd
  have tk : Takes (cxOf (L2.CX P w) P w K mg base ["self", "fall", "house"] "Net.look_fall" (defScope s_Net_look_fall) f cdv A outer s H E) (fun cls d _ H => E cls d H) := takes_of rfl rfl rfl rfl
  exact (jss_cons (js_for (mh := [.S, .S, .S]) (.inl rfl) (passes_of rfl) rfl (ji_seq (.inl rfl) (je_cut (je_varS 1) (jp_some je_int) jp_none)) (jg_name 2 nd)
 (jss_one (js_drop (.inl rfl) (je_fn G_look_house (hr.mono (by first | decide | omega)) m_look_house k_look_house b_look_house tk (ja_cons rfl (je_fld m_Net cl_Net na_Net_count (je_varS 0)) (ja_cons rfl (je_varS 2) ja_nil))))))
 (jss_one (js_if (ms' := [.S, .S, .S]) (.inl rfl) (jw_pt (jw_and (jt_cmp (op_eq2 hu) o_eq (nomark _) (je_ixG (ix5 hu) (o_ix rfl) (je_varS 1) je_int (fun _ _ => rfl)) je_str) (jw_and1 (jt_cmp (op_notIn5 hu5) o_notIn rfl (je_tup (ja_cons rfl (je_ixG (ix5 hu) (o_ix rfl) (je_varS 1) je_int (fun _ _ => rfl)) (ja_cons rfl (je_ixG (ix5 hu) (o_ix rfl) (je_varS 1) je_int (fun _ _ => rfl)) ja_nil))) (je_fld m_Net cl_Net na_Net_weights (je_varS 0))))))
 (jss_any (ms' := [.S, .S, .S]) (jss_one (js_raise1 (.inl rfl) rfl ex_NoTie G_NoTie (hr.mono (by first | decide | omega | exact Nat.le_refl _)) b_NoTie passX tk je_non)) nv_raise1)
 jss_nil)))
theorem sc_Net_without : FnScope ["self", "fall", "tie"] ["self", "fall"] (defScope s_Net_without) := ⟨rfl, rfl, rfl, by decide +kernel, rfl, by decide +kernel, by decide +kernel⟩
theorem ok_Net_without {f : Addr} {fd : FuncData} (F : Fun K "without" "Net.without" s_Net_without f fd) {c_Net : Addr} (m_Net : mg "Net" = some (.ref c_Net)) (cl_Net : Cls K c_Net) (na_Net_count : NoAttr K c_Net "count") (na_Net_ties : NoAttr K c_Net "ties") {f_Net_look_fall : Addr} {d_Net_look_fall : FuncData} (G_Net_look_fall : FnOk P w K mg base (L2.CX P w) 4 f_Net_look_fall d_Net_look_fall ["self", "fall"] (spD ⟨K, mg⟩ (.S) F_Net_look_fall)) (b_Net_look_fall : Binds K d_Net_look_fall ["self", "fall"] []) {f_Net___init__ : Addr} {d_Net___init__ : FuncData} (G_Net___init__ : FnOk P w K mg base (L2.CX P w) 5 f_Net___init__ d_Net___init__ ["self", "count", "ties"] (spN ⟨K, mg⟩ "Net" F_Net___init__)) (b_Net___init__ : Binds K d_Net___init__ ["self", "count", "ties"] []) (mk_Net : Mk K c_Net f_Net___init__) (me_Net_look_fall : Meth K c_Net "look_fall" f_Net_look_fall) (n_set : mg "set" = none) : FnOk P w K mg base (L2.CX P w) 7 f fd ["self", "fall"] (spD ⟨K, mg⟩ (.S) F_Net_without) := by
  refine fn_okD (ms' := [.S, .S, .S]) F sc_Net_without (by decide) fun cdv A outer s H E hr => ?_
  have hu : (A.deeper (envOfC "Net.without" (defScope s_Net_without) s.heap.objs.size f cdv)).units + 64 < cLine := by have := (hr.mono (Nat.zero_le _)).un; omega
  have hu5 : (A.deeper (envOfC "Net.without" (defScope s_Net_without) s.heap.objs.size f cdv)).units + 65 < cLine := by have := (hr.mono (Nat.zero_le _)).un; omega
  have nd : (["self", "fall", "tie"] : List Str).Nodup := sc_Net_without.nd
  have tk : Takes (cxOf (L2.CX P w) P w K mg base ["self", "fall", "tie"] "Net.without" (defScope s_Net_without) f cdv A outer s H E) (fun cls d _ H => E cls d H) := takes_of rfl rfl rfl rfl
  exact (jss_cons (js_drop (.inl rfl) (je_meth m_Net cl_Net me_Net_look_fall G_Net_look_fall (hr.mono (by first | decide | omega | exact Nat.le_refl _)) b_Net_look_fall tk (je_varS 0) (ja_cons rfl (je_varS 1) ja_nil)))
 (jss_cons (js_if (ms' := [.S, .S, .S]) (.inl rfl) (jt_cmp (op_eq2 hu) o_eq (nomark _) (je_ixG (ix5 hu) (o_ix rfl) (je_varS 1) je_int (fun _ _ => rfl)) je_str)
 (jss_any (ms' := [.S, .S, .S]) (jss_one (js_ret (.inl rfl) (jr_of (je_make mk_Net G_Net___init__ (hr.mono (by first | decide | omega | exact Nat.le_refl _)) m_Net b_Net___init__ tk (ja_cons rfl (je_fld m_Net cl_Net na_Net_count (je_varS 0)) (ja_cons rfl (JG.os (je_lc (own := [("tie", 2)]) rfl nd (ji_seq (.inl rfl) (je_fld m_Net cl_Net na_Net_ties (je_varS 0))) (blkOk_by (by kernel_rfl)) (fun _ _ _ _ _ => (jg_name 2 nd)) (fun _ _ _ _ _ => (jts_one (jt_setNe rfl hu n_set (nomark _) (je_cut (je_varS 2) jp_none (jp_some je_int)) (je_cut (je_varS 1) (jp_some je_int) jp_none)))) (fun _ _ _ _ _ => (je_varS 2)) (by decide))) ja_nil)))))) nv_ret)
 jss_nil)
 (jss_one (js_ret (.inl rfl) (jr_of (je_make mk_Net G_Net___init__ (hr.mono (by first | decide | omega | exact Nat.le_refl _)) m_Net b_Net___init__ tk (ja_cons rfl (je_fld m_Net cl_Net na_Net_count (je_varS 0)) (ja_cons rfl (JG.os (je_lc (own := [("tie", 2)]) rfl nd (ji_seq (.inl rfl) (je_fld m_Net cl_Net na_Net_ties (je_varS 0))) (blkOk_by (by kernel_rfl)) (fun _ _ _ _ _ => (jg_name 2 nd)) (fun _ _ _ _ _ => (jts_one (jt_cmp (op_notIn5 hu5) o_notIn rfl (je_ixG (ix5 hu) (o_ix rfl) (je_varS 1) je_int (fun _ _ => rfl)) (je_cut (je_varS 2) jp_none (jp_some je_int))))) (fun _ _ _ _ _ => (je_varS 2)) (by decide))) ja_nil))))))))
theorem sc__law_cell_at : FnScope ["script", "k"] ["script", "k"] (defScope s__law_cell_at) := ⟨rfl, rfl, rfl, by decide +kernel, rfl, by decide +kernel, by decide +kernel⟩
theorem ok__law_cell_at {f : Addr} {fd : FuncData} (F : Fun K "_law_cell_at" "_law_cell_at" s__law_cell_at f fd) (n_len : mg "len" = none) : FnOk P w K mg base (L2.CX P w) 1 f fd ["script", "k"] (spD ⟨K, mg⟩ (.S) F__law_cell_at) := by
  refine fn_okD (ms' := [.S, .S]) F sc__law_cell_at (by decide) fun cdv A outer s H E hr => ?_
  have hu : (A.deeper (envOfC "_law_cell_at" (defScope s__law_cell_at) s.heap.objs.size f cdv)).units + 64 < cLine := by have := (hr.mono (Nat.zero_le _)).un; omega
  have hu5 : (A.deeper (envOfC "_law_cell_at" (defScope s__law_cell_at) s.heap.objs.size f cdv)).units + 65 < cLine := by have := (hr.mono (Nat.zero_le _)).un; omega
  have nd : (["script", "k"] : List Str).Nodup := sc__law_cell_at.nd
  have tk : Takes (cxOf (L2.CX P w) P w K mg base ["script", "k"] "_law_cell_at" (defScope s__law_cell_at) f cdv A outer s H E) (fun cls d _ H => E cls d H) := takes_of rfl rfl rfl rfl
  exact (jss_cons (js_if (ms' := [.S, .S]) (.inl rfl) (jt_cmp op_ltIS o_lt (nomark _) (je_varS 1) (je_callB call_len oc_len n_len (by decide +kernel) (ja_one (je_varS 0))))
 (jss_any (ms' := [.S, .S]) (jss_one (js_ret (.inl rfl) (jr_of (je_ixG (ix5 hu) (o_ix rfl) (je_varS 0) (je_varS 1) (fun _ _ => rfl))))) nv_ret)
 jss_nil)
 (jss_one (js_ret (.inl rfl) (jr_of je_int))))
theorem sc__law_mixed : FnScope ["cell", "place", "number"] ["cell", "place"] (defScope s__law_mixed) := ⟨rfl, rfl, rfl, by decide +kernel, rfl, by decide +kernel, by decide +kernel⟩
theorem ok__law_mixed {f : Addr} {fd : FuncData} (F : Fun K "_law_mixed" "_law_mixed" s__law_mixed f fd)  : FnOk P w K mg base (L2.CX P w) 1 f fd ["cell", "place"] (spD ⟨K, mg⟩ (.S) F__law_mixed) := by
  refine fn_okD (ms' := [.S, .S, .S]) F sc__law_mixed (by decide) fun cdv A outer s H E hr => ?_
  have hu : (A.deeper (envOfC "_law_mixed" (defScope s__law_mixed) s.heap.objs.size f cdv)).units + 64 < cLine := by have := (hr.mono (Nat.zero_le _)).un; omega
  have hu5 : (A.deeper (envOfC "_law_mixed" (defScope s__law_mixed) s.heap.objs.size f cdv)).units + 65 < cLine := by have := (hr.mono (Nat.zero_le _)).un; omega
  have nd : (["cell", "place", "number"] : List Str).Nodup := sc__law_mixed.nd
  have tk : Takes (cxOf (L2.CX P w) P w K mg base ["cell", "place", "number"] "_law_mixed" (defScope s__law_mixed) f cdv A outer s H E) (fun cls d _ H => E cls d H) := takes_of rfl rfl rfl rfl
  exact (jss_cons (js_set 2 (.inl rfl) nd (je_op op_mod o_mod (je_op op_plus o_plus (je_op op_plus o_plus (je_op op_times o_times (je_op op_mod o_mod (je_varS 0) je_int) je_int) (je_op op_times o_times je_int (je_varS 1))) je_int) je_int))
 (jss_cons (js_set 2 (.inl rfl) nd (je_op op_mod o_mod (je_op op_plus o_plus (je_op op_plus o_plus (je_op op_times o_times (je_varS 2) (je_varS 2)) (je_op op_times o_times je_int (je_varS 1))) je_int) je_int))
 (jss_one (js_ret (.inl rfl) (jr_of (je_op op_mod o_mod (je_op op_plus o_plus (je_op op_times o_times (je_varS 2) (je_varS 2)) je_int) je_int))))))
theorem sc__law_whole : FnScope ["found"] ["found"] (defScope s__law_whole) := ⟨rfl, rfl, rfl, by decide +kernel, rfl, by decide +kernel, by decide +kernel⟩
theorem ok__law_whole {f : Addr} {fd : FuncData} (F : Fun K "_law_whole" "_law_whole" s__law_whole f fd) (n_isinstance : mg "isinstance" = none) (n_int : mg "int" = none) (n_bool : mg "bool" = none) : FnOk P w K mg base (L2.CX P w) 1 f fd ["found"] (spD ⟨K, mg⟩ (.S) F__law_whole) := by
  refine fn_okD (ms' := [.S]) F sc__law_whole (by decide) fun cdv A outer s H E hr => ?_
  have hu : (A.deeper (envOfC "_law_whole" (defScope s__law_whole) s.heap.objs.size f cdv)).units + 64 < cLine := by have := (hr.mono (Nat.zero_le _)).un; omega
  have hu5 : (A.deeper (envOfC "_law_whole" (defScope s__law_whole) s.heap.objs.size f cdv)).units + 65 < cLine := by have := (hr.mono (Nat.zero_le _)).un; omega
  have nd : (["found"] : List Str).Nodup := sc__law_whole.nd
  have tk : Takes (cxOf (L2.CX P w) P w K mg base ["found"] "_law_whole" (defScope s__law_whole) f cdv A outer s H E) (fun cls d _ H => E cls d H) := takes_of rfl rfl rfl rfl
  exact (jss_one (js_ret (.inl rfl) (jr_of (je_and rfl (je_isi tt_int n_isinstance n_int (by decide +kernel) (je_varS 0)) (je_one (je_not (je_isi tt_bool n_isinstance n_bool (by decide +kernel) (je_varS 0))))))))
theorem sc__law_same : FnScope ["found", "due", "k"] ["found", "due"] (defScope s__law_same) := ⟨rfl, rfl, rfl, by decide +kernel, rfl, by decide +kernel, by decide +kernel⟩
theorem okr__law_same {f : Addr} {fd : FuncData} (F : Fun K "_law_same" "_law_same" s__law_same f fd) (n_isinstance : mg "isinstance" = none) (n_tuple : mg "tuple" = none) (n_list : mg "list" = none) (n_len : mg "len" = none) (n_range : mg "range" = none) (n_bool : mg "bool" = none) (n_int : mg "int" = none) (n_str : mg "str" = none) (m__law_same : mg "_law_same" = some (.ref f)) (k__law_same : PySem.W.keepIn K (.ref f) = true) (b__law_same : Binds K fd ["found", "due"] []) : ∀ n : Nat, FnOk P w K mg base (L2.CX P w) (0 + n) f fd ["found", "due"] (spD ⟨K, mg⟩ (.S) (Fr__law_same n)) := by
  intro n
  induction n with
  | zero => exact fn_none
  | succ n G__law_same =>
  refine fn_okD (ms' := [.S, .S, .S]) F sc__law_same (by decide) fun cdv A outer s H E hr => ?_
  have hu : (A.deeper (envOfC "_law_same" (defScope s__law_same) s.heap.objs.size f cdv)).units + 64 < cLine := by have := (hr.mono (Nat.zero_le _)).un; omega
  have hu5 : (A.deeper (envOfC "_law_same" (defScope s__law_same) s.heap.objs.size f cdv)).units + 65 < cLine := by have := (hr.mono (Nat.zero_le _)).un; omega
  have nd : (["found", "due", "k"] : List Str).Nodup := sc__law_same.nd
  have tk : Takes (cxOf (L2.CX P w) P w K mg base ["found", "due", "k"] "_law_same" (defScope s__law_same) f cdv A outer s H E) (fun cls d _ H => E cls d H) := takes_of rfl rfl rfl rfl
  exact (jss_cons (js_if (ms' := [.S, .S, .S]) (.inl rfl) (jw_pt (jw_or (jt_tru (je_isi tt_tuple n_isinstance n_tuple (by decide +kernel) (je_varS 1))) (jw_or1 (jt_tru (je_isi tt_list n_isinstance n_list (by decide +kernel) (je_varS 1))))))
 (jss_any (ms' := [.S, .S, .S]) (jss_cons (js_if (ms' := [.S, .S, .S]) (.inl rfl) (jw_pt (jw_or (jt_cmp (op_ne2 hu) o_ne (nomark _) (je_isi tt_tuple n_isinstance n_tuple (by decide +kernel) (je_varS 0)) (je_isi tt_tuple n_isinstance n_tuple (by decide +kernel) (je_varS 1))) (jw_or1 (jt_cmp (op_ne2 hu) o_ne (nomark _) (je_isi tt_list n_isinstance n_list (by decide +kernel) (je_varS 0)) (je_isi tt_list n_isinstance n_list (by decide +kernel) (je_varS 1))))))
 (jss_any (ms' := [.S, .S, .S]) (jss_one (js_ret (.inl rfl) (jr_of je_bl))) nv_ret)
 jss_nil)
 (jss_cons (js_if (ms' := [.S, .S, .S]) (.inl rfl) (jt_cmp (op_ne2 hu) o_ne (nomark _) (je_callB call_len oc_len n_len (by decide +kernel) (ja_one (je_varS 0))) (je_callB call_len oc_len n_len (by decide +kernel) (ja_one (je_varS 1))))
 (jss_any (ms' := [.S, .S, .S]) (jss_one (js_ret (.inl rfl) (jr_of je_bl))) nv_ret)
 jss_nil)
 (jss_cons (js_for (mh := [.S, .S, .S]) (.inl rfl) (passes_of rfl) rfl (ji_range1 n_range (je_callB call_len oc_len n_len (by decide +kernel) (ja_one (je_varS 1)))) (jg_name 2 nd)
 (jss_one (js_if (ms' := [.S, .S, .S]) (.inl rfl) (jt_not (jt_tru (je_fn G__law_same (hr.mono (by first | exact Nat.le_refl _ | exact Nat.le_trans (by decide) (Nat.le_add_right _ _) | omega)) m__law_same k__law_same b__law_same tk (ja_cons rfl (je_ixG (ix5 hu) (o_ix rfl) (je_varS 0) (je_varS 2) (fun _ _ => rfl)) (ja_cons rfl (je_ixG (ix5 hu) (o_ix rfl) (je_varS 1) (je_varS 2) (fun _ _ => rfl)) ja_nil)))))
 (jss_any (ms' := [.S, .S, .S]) (jss_one (js_ret (.inl rfl) (jr_of je_bl))) nv_ret)
 jss_nil)))
 (jss_one (js_ret (.inl rfl) (jr_of je_bl)))))) (nv_seq (nv_seq (nv_seq nv_ret))))
 jss_nil)
 (jss_cons (js_if (ms' := [.S, .S, .S]) (.inl rfl) (jt_tru (je_isi tt_bool n_isinstance n_bool (by decide +kernel) (je_varS 1)))
 (jss_any (ms' := [.S, .S, .S]) (jss_one (js_ret (.inl rfl) (jr_of (je_and rfl (je_isi tt_bool n_isinstance n_bool (by decide +kernel) (je_varS 0)) (je_one (je_cmp (op_eq2 hu) o_eq (nomark _) (je_varS 0) (je_varS 1))))))) nv_ret)
 jss_nil)
 (jss_cons (js_if (ms' := [.S, .S, .S]) (.inl rfl) (jt_tru (je_isi tt_int n_isinstance n_int (by decide +kernel) (je_varS 1)))
 (jss_any (ms' := [.S, .S, .S]) (jss_one (js_ret (.inl rfl) (jr_of (je_and rfl (je_isi tt_int n_isinstance n_int (by decide +kernel) (je_varS 0)) (je_and rfl (je_not (je_isi tt_bool n_isinstance n_bool (by decide +kernel) (je_varS 0))) (je_one (je_cmp (op_eq2 hu) o_eq (nomark _) (je_varS 0) (je_varS 1)))))))) nv_ret)
 jss_nil)
 (jss_cons (js_if (ms' := [.S, .S, .S]) (.inl rfl) (jt_tru (je_isi tt_str n_isinstance n_str (by decide +kernel) (je_varS 1)))
 (jss_any (ms' := [.S, .S, .S]) (jss_one (js_ret (.inl rfl) (jr_of (je_and rfl (je_isi tt_str n_isinstance n_str (by decide +kernel) (je_varS 0)) (je_one (je_cmp (op_eq2 hu) o_eq (nomark _) (je_varS 0) (je_varS 1))))))) nv_ret)
 jss_nil)
 (jss_one (js_ret (.inl rfl) (jr_of (je_and rfl (je_isN (je_varS 1)) (je_one (je_isN (je_varS 0)))))))))))
theorem ok__law_same {f : Addr} {fd : FuncData} (F : Fun K "_law_same" "_law_same" s__law_same f fd) (n_isinstance : mg "isinstance" = none) (n_tuple : mg "tuple" = none) (n_list : mg "list" = none) (n_len : mg "len" = none) (n_range : mg "range" = none) (n_bool : mg "bool" = none) (n_int : mg "int" = none) (n_str : mg "str" = none) (m__law_same : mg "_law_same" = some (.ref f)) (k__law_same : PySem.W.keepIn K (.ref f) = true) (b__law_same : Binds K fd ["found", "due"] []) : FnOk P w K mg base (L2.CX P w) 6 f fd ["found", "due"] (spD ⟨K, mg⟩ (.S) F__law_same) := okr__law_same F n_isinstance n_tuple n_list n_len n_range n_bool n_int n_str m__law_same k__law_same b__law_same 6
theorem sc__law_numbers : FnScope ["cell", "many", "found", "rest", "k"] ["cell", "many"] (defScope s__law_numbers) := ⟨rfl, rfl, rfl, by decide +kernel, rfl, by decide +kernel, by decide +kernel⟩
theorem ok__law_numbers {f : Addr} {fd : FuncData} (F : Fun K "_law_numbers" "_law_numbers" s__law_numbers f fd) {f__law_mixed : Addr} {d__law_mixed : FuncData} (G__law_mixed : FnOk P w K mg base (L2.CX P w) 1 f__law_mixed d__law_mixed ["cell", "place"] (spD ⟨K, mg⟩ (.S) F__law_mixed)) (b__law_mixed : Binds K d__law_mixed ["cell", "place"] []) (m__law_mixed : mg "_law_mixed" = some (.ref f__law_mixed)) (k__law_mixed : PySem.W.keepIn K (.ref f__law_mixed) = true) (n_range : mg "range" = none) : FnOk P w K mg base (L2.CX P w) 2 f fd ["cell", "many"] (spD ⟨K, mg⟩ (.S) F__law_numbers) := by
  refine fn_okD (ms' := [.S, .S, .S, .S, .S]) F sc__law_numbers (by decide) fun cdv A outer s H E hr => ?_
  have hu : (A.deeper (envOfC "_law_numbers" (defScope s__law_numbers) s.heap.objs.size f cdv)).units + 64 < cLine := by have := (hr.mono (Nat.zero_le _)).un; omega
  have hu5 : (A.deeper (envOfC "_law_numbers" (defScope s__law_numbers) s.heap.objs.size f cdv)).units + 65 < cLine := by have := (hr.mono (Nat.zero_le _)).un; omega
  have nd : (["cell", "many", "found", "rest", "k"] : List Str).Nodup := sc__law_numbers.nd
  have tk : Takes (cxOf (L2.CX P w) P w K mg base ["cell", "many", "found", "rest", "k"] "_law_numbers" (defScope s__law_numbers) f cdv A outer s H E) (fun cls d _ H => E cls d H) := takes_of rfl rfl rfl rfl
  exact (jss_cons (js_set 2 (.inl rfl) nd (je_lst ja_nil))
 (jss_cons (js_set 3 (.inl rfl) nd (je_op op_sub o_sub (je_varS 0) (je_op op_pow o_pow je_int je_int)))
 (jss_cons (js_for (mh := [.S, .S, .O .S, .S, .S]) (.inl rfl) (passes_of rfl) rfl (ji_range1 n_range (je_varS 1)) (jg_name 4 nd)
 (jss_one (js_if (ms' := [.S, .S, .O .S, .S, .S]) (.inl rfl) (jt_cmp op_ge o_ge (nomark _) (je_varS 3) je_int)
 (jss_cons (js_append 2 (.inl rfl) (fun _ _ h1 h2 => pe_bm PySem.F.plainAttrs_list PySem.F.slot_list_append PySem.F.type_list_append mt_append h1 (pa_cons h2 pa_nil)) (fun _ h => ps_expr h) (pv 2) (je_op op_mod o_mod (je_varS 3) je_int))
 (jss_one (js_set 3 (.inl rfl) nd (je_op op_fdivW o_fdiv (je_varS 3) je_int))))
 (jss_one (js_append 2 (.inl rfl) (fun _ _ h1 h2 => pe_bm PySem.F.plainAttrs_list PySem.F.slot_list_append PySem.F.type_list_append mt_append h1 (pa_cons h2 pa_nil)) (fun _ h => ps_expr h) (pv 2) (je_op op_fdivW o_fdiv (je_fn G__law_mixed (hr.mono (by first | decide | omega)) m__law_mixed k__law_mixed b__law_mixed tk (ja_cons rfl (je_varS 0) (ja_cons rfl (je_varS 4) ja_nil))) je_int))))))
 (jss_one (js_pre 2 (by first | decide | simp) (js_ret (.inl rfl) (jr_of (je_varS 2))))))))
theorem sc__law_weight : FnScope ["number", "kind"] ["number", "kind"] (defScope s__law_weight) := ⟨rfl, rfl, rfl, by decide +kernel, rfl, by decide +kernel, by decide +kernel⟩
theorem ok__law_weight {f : Addr} {fd : FuncData} (F : Fun K "_law_weight" "_law_weight" s__law_weight f fd)  : FnOk P w K mg base (L2.CX P w) 1 f fd ["number", "kind"] (spD ⟨K, mg⟩ (.S) F__law_weight) := by
  refine fn_okD (ms' := [.S, .S]) F sc__law_weight (by decide) fun cdv A outer s H E hr => ?_
  have hu : (A.deeper (envOfC "_law_weight" (defScope s__law_weight) s.heap.objs.size f cdv)).units + 64 < cLine := by have := (hr.mono (Nat.zero_le _)).un; omega
  have hu5 : (A.deeper (envOfC "_law_weight" (defScope s__law_weight) s.heap.objs.size f cdv)).units + 65 < cLine := by have := (hr.mono (Nat.zero_le _)).un; omega
  have nd : (["number", "kind"] : List Str).Nodup := sc__law_weight.nd
  have tk : Takes (cxOf (L2.CX P w) P w K mg base ["number", "kind"] "_law_weight" (defScope s__law_weight) f cdv A outer s H E) (fun cls d _ H => E cls d H) := takes_of rfl rfl rfl rfl
  exact (jss_cons (js_if (ms' := [.S, .S]) (.inl rfl) (jt_cmp (op_eq2 hu) o_eq (nomark _) (je_varS 1) je_int)
 (jss_any (ms' := [.S, .S]) (jss_one (js_ret (.inl rfl) (jr_of je_int))) nv_ret)
 jss_nil)
 (jss_cons (js_if (ms' := [.S, .S]) (.inl rfl) (jt_cmp (op_eq2 hu) o_eq (nomark _) (je_varS 1) je_int)
 (jss_any (ms' := [.S, .S]) (jss_one (js_ret (.inl rfl) (jr_of (je_op op_plus o_plus je_int (je_op op_times o_times (je_varS 0) (je_op op_pow o_pow je_int je_int)))))) nv_ret)
 jss_nil)
 (jss_one (js_ret (.inl rfl) (jr_of (je_op op_plus o_plus je_int (je_op op_mod o_mod (je_varS 0) (je_ixG (ix5 hu) (o_ix rfl) (JG.os (je_lst (ja_cons rfl je_int (ja_cons rfl je_int (ja_cons rfl je_int (ja_cons rfl je_int (ja_cons rfl je_int ja_nil))))))) (je_varS 1) (fun _ _ => rfl)))))))))
theorem sc__law_net : FnScope ["script", "at", "first", "kind", "share", "count", "numbers", "found", "u", "v", "number", "there", "other", "back", "near", "ring", "tie"] ["script", "at"] (defScope s__law_net) := ⟨rfl, rfl, rfl, by decide +kernel, rfl, by decide +kernel, by decide +kernel⟩
theorem ok__law_net {f : Addr} {fd : FuncData} (F : Fun K "_law_net" "_law_net" s__law_net f fd) {f__law_numbers : Addr} {d__law_numbers : FuncData} (G__law_numbers : FnOk P w K mg base (L2.CX P w) 2 f__law_numbers d__law_numbers ["cell", "many"] (spD ⟨K, mg⟩ (.S) F__law_numbers)) (b__law_numbers : Binds K d__law_numbers ["cell", "many"] []) (m__law_numbers : mg "_law_numbers" = some (.ref f__law_numbers)) (k__law_numbers : PySem.W.keepIn K (.ref f__law_numbers) = true) {f__law_cell_at : Addr} {d__law_cell_at : FuncData} (G__law_cell_at : FnOk P w K mg base (L2.CX P w) 1 f__law_cell_at d__law_cell_at ["script", "k"] (spD ⟨K, mg⟩ (.S) F__law_cell_at)) (b__law_cell_at : Binds K d__law_cell_at ["script", "k"] []) (m__law_cell_at : mg "_law_cell_at" = some (.ref f__law_cell_at)) (k__law_cell_at : PySem.W.keepIn K (.ref f__law_cell_at) = true) {f__law_weight : Addr} {d__law_weight : FuncData} (G__law_weight : FnOk P w K mg base (L2.CX P w) 1 f__law_weight d__law_weight ["number", "kind"] (spD ⟨K, mg⟩ (.S) F__law_weight)) (b__law_weight : Binds K d__law_weight ["number", "kind"] []) (m__law_weight : mg "_law_weight" = some (.ref f__law_weight)) (k__law_weight : PySem.W.keepIn K (.ref f__law_weight) = true) (n_int : mg "int" = none) (n_range : mg "range" = none) (n_len : mg "len" = none) : FnOk P w K mg base (L2.CX P w) 3 f fd ["script", "at"] (spD ⟨K, mg⟩ (.S) F__law_net) := by
  refine fn_okD (ms' := [.S, .S, .S, .S, .S, .S, .S, .S, .S, .S, .S, .S, .S, .S, .S, .S, .S]) F sc__law_net (by decide) fun cdv A outer s H E hr => ?_
  have hu : (A.deeper (envOfC "_law_net" (defScope s__law_net) s.heap.objs.size f cdv)).units + 64 < cLine := by have := (hr.mono (Nat.zero_le _)).un; omega
  have hu5 : (A.deeper (envOfC "_law_net" (defScope s__law_net) s.heap.objs.size f cdv)).units + 65 < cLine := by have := (hr.mono (Nat.zero_le _)).un; omega
  have nd : (["script", "at", "first", "kind", "share", "count", "numbers", "found", "u", "v", "number", "there", "other", "back", "near", "ring", "tie"] : List Str).Nodup := sc__law_net.nd
  have tk : Takes (cxOf (L2.CX P w) P w K mg base ["script", "at", "first", "kind", "share", "count", "numbers", "found", "u", "v", "number", "there", "other", "back", "near", "ring", "tie"] "_law_net" (defScope s__law_net) f cdv A outer s H E) (fun cls d _ H => E cls d H) := takes_of rfl rfl rfl rfl
  exact (jss_cons (js_asg (.inl rfl) (je_fn G__law_numbers (hr.mono (by first | decide | omega)) m__law_numbers k__law_numbers b__law_numbers tk (ja_cons rfl (je_fn G__law_cell_at (hr.mono (by first | decide | omega)) m__law_cell_at k__law_cell_at b__law_cell_at tk (ja_cons rfl (je_varS 0) (ja_cons rfl (je_varS 1) ja_nil))) (ja_cons rfl je_int ja_nil))) (jg_tup rfl (jgs_cons (jg_name 2 nd) (jgs_cons (jg_name 3 nd) (jgs_cons (jg_name 4 nd) jgs_nil)))))
 (jss_cons (js_set 5 (.inl rfl) nd (je_ixG (ix5 hu) (o_ix rfl) (JG.os (je_lst (ja_cons rfl (je_op op_plus o_plus je_int (je_op op_mod o_mod (je_op op_fdivW o_fdiv (je_varS 2) je_int) je_int)) (ja_cons rfl (je_op op_plus o_plus je_int (je_op op_mod o_mod (je_op op_fdivW o_fdiv (je_varS 2) je_int) je_int)) ja_nil)))) (je_callTy call_int1 oc_int n_int (by decide +kernel) (ja_one (je_cmp (op_eq2 hu) o_eq (nomark _) (je_op op_mod o_mod (je_varS 2) je_int) je_int))) (fun _ _ => rfl)))
 (jss_cons (js_set 6 (.inl rfl) nd (je_fn G__law_numbers (hr.mono (by first | decide | omega)) m__law_numbers k__law_numbers b__law_numbers tk (ja_cons rfl (je_fn G__law_cell_at (hr.mono (by first | decide | omega)) m__law_cell_at k__law_cell_at b__law_cell_at tk (ja_cons rfl (je_varS 0) (ja_cons rfl (je_op op_plus o_plus (je_varS 1) je_int) ja_nil))) (ja_cons rfl je_int ja_nil))))
 (jss_cons (js_set 7 (.inl rfl) nd (je_lst ja_nil))
 (jss_cons (js_for (mh := [.S, .S, .S, .S, .S, .S, .S, .O .S, .S, .S, .S, .S, .S, .S, .S, .S, .S]) (.inl rfl) (passes_of rfl) rfl (ji_range1 n_range (je_varS 5)) (jg_name 8 nd)
 (jss_one (js_for (mh := [.S, .S, .S, .S, .S, .S, .S, .O .S, .S, .S, .S, .S, .S, .S, .S, .S, .S]) (.inl rfl) (passes_of rfl) rfl (ji_range2 n_range (je_op op_plus o_plus (je_varS 8) je_int) (je_varS 5)) (jg_name 9 nd)
 (jss_cons (js_set 10 (.inl rfl) nd (je_ixG (ix5 hu) (o_ix rfl) (je_varS 6) (je_callB call_len oc_len n_len (by decide +kernel) (ja_one (je_var 7))) (fun _ _ => rfl)))
 (jss_cons (js_set 11 (.inl rfl) nd (je_fn G__law_weight (hr.mono (by first | decide | omega)) m__law_weight k__law_weight b__law_weight tk (ja_cons rfl (je_op op_fdivW o_fdiv (je_varS 10) je_int) (ja_cons rfl (je_op op_mod o_mod (je_varS 3) je_int) ja_nil))))
 (jss_cons (js_set 12 (.inl rfl) nd (je_op op_mod o_mod (je_op op_times o_times (je_varS 10) je_int) je_int))
 (jss_cons (js_set 13 (.inl rfl) nd (je_ixG (ix5 hu) (o_ix rfl) (JG.os (je_lst (ja_cons rfl (je_varS 11) (ja_cons rfl (je_fn G__law_weight (hr.mono (by first | decide | omega)) m__law_weight k__law_weight b__law_weight tk (ja_cons rfl (je_op op_fdivW o_fdiv (je_varS 12) je_int) (ja_cons rfl (je_op op_mod o_mod (je_varS 3) je_int) ja_nil))) ja_nil)))) (je_op op_mod o_mod (je_op op_fdivW o_fdiv (je_varS 3) je_int) je_int) (fun _ _ => rfl)))
 (jss_cons (js_set 14 (.inl rfl) nd (je_cmp op_ltIS o_lt (nomark _) (je_op op_mod o_mod (je_varS 10) je_int) (je_ixG (ix5 hu) (o_ix rfl) (JG.os (je_lst (ja_cons rfl je_int (ja_cons rfl je_int (ja_cons rfl je_int (ja_cons rfl je_int ja_nil)))))) (je_op op_mod o_mod (je_varS 4) je_int) (fun _ _ => rfl))))
 (jss_cons (js_set 15 (.inl rfl) nd (je_and rfl (je_cmp (op_eq2 hu) o_eq (nomark _) (je_op op_mod o_mod (je_op op_fdivW o_fdiv (je_varS 4) je_int) je_int) je_int) (je_one (je_cmp (op_in5 hu5) o_in rfl (je_op op_sub o_sub (je_varS 9) (je_varS 8)) (je_tup (ja_cons rfl je_int (ja_cons rfl (je_op op_sub o_sub (je_varS 5) je_int) ja_nil)))))))
 (jss_one (js_append 7 (.inl rfl) (fun _ _ h1 h2 => pe_bm PySem.F.plainAttrs_list PySem.F.slot_list_append PySem.F.type_list_append mt_append h1 (pa_cons h2 pa_nil)) (fun _ h => ps_expr h) (pv 7) (je_if (jw_pt (jw_or (jt_tru (je_varS 14)) (jw_or1 (jt_tru (je_varS 15))))) (je_tup (ja_cons rfl (je_varS 8) (ja_cons rfl (je_varS 9) (ja_cons rfl (je_varS 11) (ja_cons rfl (je_varS 13) ja_nil))))) je_non))))))))))))
 (jss_one (js_pre 7 (by first | decide | simp) (js_ret (.inl rfl) (jr_of (je_tup (ja_cons rfl (je_varS 5) (ja_cons rfl (JG.os (je_lc (own := [("tie", 16)]) rfl nd (ji_seq (.inl rfl) (je_varS 7)) (blkOk_by (by kernel_rfl)) (fun _ _ _ _ _ => (jg_name 16 nd)) (fun _ _ _ _ _ => (jts_one (jt_notN (je_varS 16)))) (fun _ _ _ _ _ => (je_varS 16)) (by decide))) ja_nil))))))))))))
theorem sc__law_turned : FnScope ["ties", "numbers", "found", "k", "a", "b", "there", "back", "turn"] ["ties", "numbers"] (defScope s__law_turned) := ⟨rfl, rfl, rfl, by decide +kernel, rfl, by decide +kernel, by decide +kernel⟩
theorem ok__law_turned {f : Addr} {fd : FuncData} (F : Fun K "_law_turned" "_law_turned" s__law_turned f fd) (n_enumerate : mg "enumerate" = none) (n_len : mg "len" = none) : FnOk P w K mg base (L2.CX P w) 1 f fd ["ties", "numbers"] (spD ⟨K, mg⟩ (.S) F__law_turned) := by
  refine fn_okD (ms' := [.S, .S, .O .S, .S, .S, .S, .S, .S, .S]) F sc__law_turned (by decide) fun cdv A outer s H E hr => ?_
  have hu : (A.deeper (envOfC "_law_turned" (defScope s__law_turned) s.heap.objs.size f cdv)).units + 64 < cLine := by have := (hr.mono (Nat.zero_le _)).un; omega
  have hu5 : (A.deeper (envOfC "_law_turned" (defScope s__law_turned) s.heap.objs.size f cdv)).units + 65 < cLine := by have := (hr.mono (Nat.zero_le _)).un; omega
  have nd : (["ties", "numbers", "found", "k", "a", "b", "there", "back", "turn"] : List Str).Nodup := sc__law_turned.nd
  have tk : Takes (cxOf (L2.CX P w) P w K mg base ["ties", "numbers", "found", "k", "a", "b", "there", "back", "turn"] "_law_turned" (defScope s__law_turned) f cdv A outer s H E) (fun cls d _ H => E cls d H) := takes_of rfl rfl rfl rfl
  exact (jss_cons (js_set 2 (.inl rfl) nd (je_lst ja_nil))
 (jss_cons (js_for (mh := [.S, .S, .O .S, .S, .S, .S, .S, .S, .S]) (.inl rfl) (passes_of rfl) rfl (ji_enum n_enumerate (.inl rfl) (je_varS 0)) (jg_tup rfl (jgs_cons (jg_name 3 nd) (jgs_cons (jg_tup rfl (jgs_cons (jg_name 4 nd) (jgs_cons (jg_name 5 nd) (jgs_cons (jg_name 6 nd) (jgs_cons (jg_name 7 nd) jgs_nil))))) jgs_nil)))
 (jss_one (js_append 2 (.inl rfl) (fun _ _ h1 h2 => pe_bm PySem.F.plainAttrs_list PySem.F.slot_list_append PySem.F.type_list_append mt_append h1 (pa_cons h2 pa_nil)) (fun _ h => ps_expr h) (pv 2) (je_ixG (ix5 hu) (o_ix rfl) (JG.os (je_lst (ja_cons rfl (je_tup (ja_cons rfl (je_varS 4) (ja_cons rfl (je_varS 5) (ja_cons rfl (je_varS 6) (ja_cons rfl (je_varS 7) ja_nil))))) (ja_cons rfl (je_tup (ja_cons rfl (je_varS 5) (ja_cons rfl (je_varS 4) (ja_cons rfl (je_varS 7) (ja_cons rfl (je_varS 6) ja_nil))))) ja_nil)))) (je_op op_and o_band (je_op op_shr o_shr (je_ixG (ix5 hu) (o_ix rfl) (je_varS 1) (je_op op_mod o_mod (je_varS 3) je_int) (fun _ _ => rfl)) (je_op op_mod o_mod (je_varS 3) je_int)) je_int) (fun _ _ => rfl)))))
 (jss_cons (js_set 8 (.inl rfl) nd (je_op op_mod o_mod (je_ixG (ix5 hu) (o_ix rfl) (je_varS 1) je_int (fun _ _ => rfl)) (je_op op_plus o_plus (je_callB call_len oc_len n_len (by decide +kernel) (ja_one (je_var 2))) je_int)))
 (jss_one (js_ret (.inl rfl) (jr_of (je_op op_plus o_plus (JG.os (je_sl rfl (je_var 2) (jp_some (je_varS 8)) jp_none)) (JG.os (je_sl rfl (je_var 2) jp_none (jp_some (je_varS 8)))))))))))
theorem sc__law_right : FnScope ["net", "count", "ties", "house", "near", "a", "b", "there", "back", "tie"] ["net", "count", "ties"] (defScope s__law_right) := ⟨rfl, rfl, rfl, by decide +kernel, rfl, by decide +kernel, by decide +kernel⟩
theorem ok__law_right {f : Addr} {fd : FuncData} (F : Fun K "_law_right" "_law_right" s__law_right f fd) {c_Net : Addr} (m_Net : mg "Net" = some (.ref c_Net)) (cl_Net : Cls K c_Net) (na_Net_ties : NoAttr K c_Net "ties") (na_Net_count : NoAttr K c_Net "count") {f_Net_neighbours : Addr} {d_Net_neighbours : FuncData} (G_Net_neighbours : FnOk P w K mg base (L2.CX P w) 4 f_Net_neighbours d_Net_neighbours ["self", "house"] (spD ⟨K, mg⟩ (.S) F_Net_neighbours)) (b_Net_neighbours : Binds K d_Net_neighbours ["self", "house"] []) {f_Net_weight : Addr} {d_Net_weight : FuncData} (G_Net_weight : FnOk P w K mg base (L2.CX P w) 4 f_Net_weight d_Net_weight ["self", "a", "b"] (spD ⟨K, mg⟩ (.S) F_Net_weight)) (b_Net_weight : Binds K d_Net_weight ["self", "a", "b"] []) {f_Net_without : Addr} {d_Net_without : FuncData} (G_Net_without : FnOk P w K mg base (L2.CX P w) 7 f_Net_without d_Net_without ["self", "fall"] (spD ⟨K, mg⟩ (.S) F_Net_without)) (b_Net_without : Binds K d_Net_without ["self", "fall"] []) {f__law_whole : Addr} {d__law_whole : FuncData} (G__law_whole : FnOk P w K mg base (L2.CX P w) 1 f__law_whole d__law_whole ["found"] (spD ⟨K, mg⟩ (.S) F__law_whole)) (b__law_whole : Binds K d__law_whole ["found"] []) (m__law_whole : mg "_law_whole" = some (.ref f__law_whole)) (k__law_whole : PySem.W.keepIn K (.ref f__law_whole) = true) {f__law_same : Addr} {d__law_same : FuncData} (G__law_same : FnOk P w K mg base (L2.CX P w) 6 f__law_same d__law_same ["found", "due"] (spD ⟨K, mg⟩ (.S) F__law_same)) (b__law_same : Binds K d__law_same ["found", "due"] []) (m__law_same : mg "_law_same" = some (.ref f__law_same)) (k__law_same : PySem.W.keepIn K (.ref f__law_same) = true) (me_Net_neighbours : Meth K c_Net "neighbours" f_Net_neighbours) (me_Net_weight : Meth K c_Net "weight" f_Net_weight) (me_Net_without : Meth K c_Net "without" f_Net_without) (n_range : mg "range" = none) (n_sorted : mg "sorted" = none) (n_tuple : mg "tuple" = none) : FnOk P w K mg base (L2.CX P w) 8 f fd ["net", "count", "ties"] (spD ⟨K, mg⟩ (.S) F__law_right) := by
  refine fn_okD (ms' := [.S, .S, .S, .S, .S, .S, .S, .S, .S, .S]) F sc__law_right (by decide) fun cdv A outer s H E hr => ?_
  have hu : (A.deeper (envOfC "_law_right" (defScope s__law_right) s.heap.objs.size f cdv)).units + 64 < cLine := by have := (hr.mono (Nat.zero_le _)).un; omega
  have hu5 : (A.deeper (envOfC "_law_right" (defScope s__law_right) s.heap.objs.size f cdv)).units + 65 < cLine := by have := (hr.mono (Nat.zero_le _)).un; omega
  have nd : (["net", "count", "ties", "house", "near", "a", "b", "there", "back", "tie"] : List Str).Nodup := sc__law_right.nd
  have tk : Takes (cxOf (L2.CX P w) P w K mg base ["net", "count", "ties", "house", "near", "a", "b", "there", "back", "tie"] "_law_right" (defScope s__law_right) f cdv A outer s H E) (fun cls d _ H => E cls d H) := takes_of rfl rfl rfl rfl
  exact (jss_cons (js_for (mh := [.S, .S, .S, .S, .S, .S, .S, .S, .S, .S]) (.inl rfl) (passes_of rfl) rfl (ji_range1 n_range (je_varS 1)) (jg_name 3 nd)
 (jss_cons (js_set 4 (.inl rfl) nd (je_op op_plus o_plus (JG.os (je_lc (own := [("a", 5), ("b", 6), ("there", 7), ("back", 8)]) rfl nd (ji_seq (.inl rfl) (je_varS 2)) (blkOk_by (by kernel_rfl)) (fun _ _ _ _ _ => (jg_tup rfl (jgs_cons (jg_name 5 nd) (jgs_cons (jg_name 6 nd) (jgs_cons (jg_name 7 nd) (jgs_cons (jg_name 8 nd) jgs_nil)))))) (fun _ _ _ _ _ => (jts_one (jt_cmp (op_eq2 hu) o_eq (nomark _) (je_varS 6) (je_varS 3)))) (fun _ _ _ _ _ => (je_varS 5)) (by decide))) (JG.os (je_lc (own := [("a", 5), ("b", 6), ("there", 7), ("back", 8)]) rfl nd (ji_seq (.inl rfl) (je_varS 2)) (blkOk_by (by kernel_rfl)) (fun _ _ _ _ _ => (jg_tup rfl (jgs_cons (jg_name 5 nd) (jgs_cons (jg_name 6 nd) (jgs_cons (jg_name 7 nd) (jgs_cons (jg_name 8 nd) jgs_nil)))))) (fun _ _ _ _ _ => (jts_one (jt_cmp (op_eq2 hu) o_eq (nomark _) (je_varS 5) (je_varS 3)))) (fun _ _ _ _ _ => (je_varS 6)) (by decide)))))
 (jss_one (js_if (ms' := [.S, .S, .S, .S, .S, .S, .S, .S, .S, .S]) (.inl rfl) (jt_cmp (op_ne2 hu) o_ne (nomark _) (je_meth m_Net cl_Net me_Net_neighbours G_Net_neighbours (hr.mono (by first | decide | omega | exact Nat.le_refl _)) b_Net_neighbours tk (je_varS 0) (ja_cons rfl (je_varS 3) ja_nil)) (JG.os (je_callB cr_sortedI oc_sortI n_sorted (by decide +kernel) (ja_one (je_varS 4)))))
 (jss_any (ms' := [.S, .S, .S, .S, .S, .S, .S, .S, .S, .S]) (jss_one (js_ret (.inl rfl) (jr_of je_bl))) nv_ret)
 jss_nil))))
 (jss_cons (js_for (mh := [.S, .S, .S, .S, .S, .S, .S, .S, .S, .S]) (.inl rfl) (passes_of rfl) rfl (ji_seq (.inl rfl) (je_varS 2)) (jg_tup rfl (jgs_cons (jg_name 5 nd) (jgs_cons (jg_name 6 nd) (jgs_cons (jg_name 7 nd) (jgs_cons (jg_name 8 nd) jgs_nil)))))
 (jss_one (js_if (ms' := [.S, .S, .S, .S, .S, .S, .S, .S, .S, .S]) (.inl rfl) (jw_pt (jw_or (jt_cmp (op_ne2 hu) o_ne (nomark _) (je_meth m_Net cl_Net me_Net_weight G_Net_weight (hr.mono (by first | decide | omega | exact Nat.le_refl _)) b_Net_weight tk (je_varS 0) (ja_cons rfl (je_varS 5) (ja_cons rfl (je_varS 6) ja_nil))) (je_varS 7)) (jw_or1 (jt_cmp (op_ne2 hu) o_ne (nomark _) (je_meth m_Net cl_Net me_Net_weight G_Net_weight (hr.mono (by first | decide | omega | exact Nat.le_refl _)) b_Net_weight tk (je_varS 0) (ja_cons rfl (je_varS 6) (ja_cons rfl (je_varS 5) ja_nil))) (je_varS 8)))))
 (jss_any (ms' := [.S, .S, .S, .S, .S, .S, .S, .S, .S, .S]) (jss_one (js_ret (.inl rfl) (jr_of je_bl))) nv_ret)
 jss_nil)))
 (jss_cons (js_if (ms' := [.S, .S, .S, .S, .S, .S, .S, .S, .S, .S]) (.inl rfl) (jt_cmp (op_ne2 hu) o_ne (nomark _) (je_fld m_Net cl_Net na_Net_ties (je_meth m_Net cl_Net me_Net_without G_Net_without (hr.mono (by first | decide | omega | exact Nat.le_refl _)) b_Net_without tk (je_varS 0) (ja_cons rfl (je_tup (ja_cons rfl je_str (ja_cons rfl je_int ja_nil))) ja_nil))) (je_callTy call_tuple_of (oc_tuple rfl) n_tuple (by decide +kernel) (ja_one (JG.os (je_callB (cr_sortTI hu) oc_sortTI n_sorted (by decide +kernel) (ja_one (JG.os (je_lc (own := [("tie", 9)]) rfl nd (ji_seq (.inl rfl) (je_varS 2)) (blkOk_by (by kernel_rfl)) (fun _ _ _ _ _ => (jg_name 9 nd)) (fun _ _ _ _ _ => (jts_one (jt_cmp (op_notIn5 hu5) o_notIn rfl je_int (je_cut (je_varS 9) jp_none (jp_some je_int))))) (fun _ _ _ _ _ => (je_varS 9)) (by decide)))))))))
 (jss_any (ms' := [.S, .S, .S, .S, .S, .S, .S, .S, .S, .S]) (jss_one (js_ret (.inl rfl) (jr_of je_bl))) nv_ret)
 jss_nil)
 (jss_one (js_ret (.inl rfl) (jr_of (je_and rfl (je_fn G__law_whole (hr.mono (by first | decide | omega)) m__law_whole k__law_whole b__law_whole tk (ja_cons rfl (je_fld m_Net cl_Net na_Net_count (je_varS 0)) ja_nil)) (je_and rfl (je_cmp (op_eq2 hu) o_eq (nomark _) (je_fld m_Net cl_Net na_Net_count (je_varS 0)) (je_varS 1)) (je_one (je_fn G__law_same (hr.mono (by first | decide | omega)) m__law_same k__law_same b__law_same tk (ja_cons rfl (je_fld m_Net cl_Net na_Net_ties (je_varS 0)) (ja_cons rfl (je_callTy call_tuple_of (oc_tuple rfl) n_tuple (by decide +kernel) (ja_one (JG.os (je_callB (cr_sortTI hu) oc_sortTI n_sorted (by decide +kernel) (ja_one (je_varS 2)))))) ja_nil))))))))))))
theorem sc_law : FnScope ["script", "rows", "nets", "handed", "k", "kept"] ["script"] (defScope s_law) := ⟨rfl, rfl, rfl, by decide +kernel, rfl, by decide +kernel, by decide +kernel⟩
theorem ok_law {f : Addr} {fd : FuncData} (F : Fun K "law" "law" s_law f fd) {c_Net : Addr} (m_Net : mg "Net" = some (.ref c_Net)) (cl_Net : Cls K c_Net) {f__law_net : Addr} {d__law_net : FuncData} (G__law_net : FnOk P w K mg base (L2.CX P w) 3 f__law_net d__law_net ["script", "at"] (spD ⟨K, mg⟩ (.S) F__law_net)) (b__law_net : Binds K d__law_net ["script", "at"] []) (m__law_net : mg "_law_net" = some (.ref f__law_net)) (k__law_net : PySem.W.keepIn K (.ref f__law_net) = true) {f__law_turned : Addr} {d__law_turned : FuncData} (G__law_turned : FnOk P w K mg base (L2.CX P w) 1 f__law_turned d__law_turned ["ties", "numbers"] (spD ⟨K, mg⟩ (.S) F__law_turned)) (b__law_turned : Binds K d__law_turned ["ties", "numbers"] []) (m__law_turned : mg "_law_turned" = some (.ref f__law_turned)) (k__law_turned : PySem.W.keepIn K (.ref f__law_turned) = true) {f__law_numbers : Addr} {d__law_numbers : FuncData} (G__law_numbers : FnOk P w K mg base (L2.CX P w) 2 f__law_numbers d__law_numbers ["cell", "many"] (spD ⟨K, mg⟩ (.S) F__law_numbers)) (b__law_numbers : Binds K d__law_numbers ["cell", "many"] []) (m__law_numbers : mg "_law_numbers" = some (.ref f__law_numbers)) (k__law_numbers : PySem.W.keepIn K (.ref f__law_numbers) = true) {f__law_cell_at : Addr} {d__law_cell_at : FuncData} (G__law_cell_at : FnOk P w K mg base (L2.CX P w) 1 f__law_cell_at d__law_cell_at ["script", "k"] (spD ⟨K, mg⟩ (.S) F__law_cell_at)) (b__law_cell_at : Binds K d__law_cell_at ["script", "k"] []) (m__law_cell_at : mg "_law_cell_at" = some (.ref f__law_cell_at)) (k__law_cell_at : PySem.W.keepIn K (.ref f__law_cell_at) = true) {f_Net___init__ : Addr} {d_Net___init__ : FuncData} (G_Net___init__ : FnOk P w K mg base (L2.CX P w) 5 f_Net___init__ d_Net___init__ ["self", "count", "ties"] (spN ⟨K, mg⟩ "Net" F_Net___init__)) (b_Net___init__ : Binds K d_Net___init__ ["self", "count", "ties"] []) {f__law_right : Addr} {d__law_right : FuncData} (G__law_right : FnOk P w K mg base (L2.CX P w) 8 f__law_right d__law_right ["net", "count", "ties"] (spD ⟨K, mg⟩ (.S) F__law_right)) (b__law_right : Binds K d__law_right ["net", "count", "ties"] []) (m__law_right : mg "_law_right" = some (.ref f__law_right)) (k__law_right : PySem.W.keepIn K (.ref f__law_right) = true) (mk_Net : Mk K c_Net f_Net___init__) (n_range : mg "range" = none) (n_list : mg "list" = none) : FnOk P w K mg base (L2.CX P w) 9 f fd ["script"] (spD ⟨K, mg⟩ (.S) F_law) := by
  refine fn_okD (ms' := [.S, .S, .O .S, .O .S, .S, .S]) F sc_law (by decide) fun cdv A outer s H E hr => ?_
  have hu : (A.deeper (envOfC "law" (defScope s_law) s.heap.objs.size f cdv)).units + 64 < cLine := by have := (hr.mono (Nat.zero_le _)).un; omega
  have hu5 : (A.deeper (envOfC "law" (defScope s_law) s.heap.objs.size f cdv)).units + 65 < cLine := by have := (hr.mono (Nat.zero_le _)).un; omega
  have nd : (["script", "rows", "nets", "handed", "k", "kept"] : List Str).Nodup := sc_law.nd
  have tk : Takes (cxOf (L2.CX P w) P w K mg base ["script", "rows", "nets", "handed", "k", "kept"] "law" (defScope s_law) f cdv A outer s H E) (fun cls d _ H => E cls d H) := takes_of rfl rfl rfl rfl
  exact (jss_cons (js_set 1 (.inl rfl) nd (JG.os (je_lst (ja_cons rfl (je_fn G__law_net (hr.mono (by first | decide | omega)) m__law_net k__law_net b__law_net tk (ja_cons rfl (je_varS 0) (ja_cons rfl je_int ja_nil))) (ja_cons rfl (je_fn G__law_net (hr.mono (by first | decide | omega)) m__law_net k__law_net b__law_net tk (ja_cons rfl (je_varS 0) (ja_cons rfl je_int ja_nil))) ja_nil)))))
 (jss_cons (js_set 2 (.inl rfl) nd (je_lst ja_nil))
 (jss_cons (js_set 3 (.inl rfl) nd (je_lst ja_nil))
 (jss_cons (js_for (mh := [.S, .S, .O .S, .O .S, .S, .S]) (.inl rfl) (passes_of rfl) rfl (ji_range1 n_range je_int) (jg_name 4 nd)
 (jss_post (ms' := [.S, .S, .O .S, .O .S, .S, .O .S]) 5 (by first | decide | simp) (jss_cons (js_clear 3 (fun _ h1 => pe_bm0 PySem.F.plainAttrs_list PySem.F.slot_list_clear PySem.F.type_list_clear mt_clear h1) (fun _ h => ps_expr h) (pv 3))
 (jss_cons (js_extend rfl 3 (.inl rfl) (fun _ _ h1 h2 => pe_bm PySem.F.plainAttrs_list PySem.F.slot_list_extend PySem.F.type_list_extend mt_extend2 h1 (pa_cons h2 pa_nil)) (fun _ h => ps_expr h) (pv 3) (je_fn G__law_turned (hr.mono (by first | decide | omega)) m__law_turned k__law_turned b__law_turned tk (ja_cons rfl (je_ixG (ix5 hu) (o_ix rfl) (je_ixG (ix5 hu) (o_ix rfl) (je_varS 1) (je_varS 4) (fun _ _ => rfl)) je_int (fun _ _ => rfl)) (ja_cons rfl (je_fn G__law_numbers (hr.mono (by first | decide | omega)) m__law_numbers k__law_numbers b__law_numbers tk (ja_cons rfl (je_fn G__law_cell_at (hr.mono (by first | decide | omega)) m__law_cell_at k__law_cell_at b__law_cell_at tk (ja_cons rfl (je_varS 0) (ja_cons rfl (je_op op_plus o_plus je_int (je_op op_times o_times je_int (je_varS 4))) ja_nil))) (ja_cons rfl je_int ja_nil))) ja_nil))))
 (jss_cons (js_set 5 (.inl rfl) nd (je_callTy call_list_of (oc_list rfl) n_list (by decide +kernel) (ja_one (je_var 3))))
 (jss_cons (js_append 2 (.inl rfl) (fun _ _ h1 h2 => pe_bm PySem.F.plainAttrs_list PySem.F.slot_list_append PySem.F.type_list_append mt_append h1 (pa_cons h2 pa_nil)) (fun _ h => ps_expr h) (pv 2) (je_lookN 3 (by first | decide | simp) rfl (je_make mk_Net G_Net___init__ (hr.mono (by first | decide | omega | exact Nat.le_refl _)) m_Net b_Net___init__ tk (ja_cons rfl (je_ixG (ix5 hu) (o_ix rfl) (je_ixG (ix5 hu) (o_ix rfl) (je_varS 1) (je_varS 4) (fun _ _ => rfl)) je_int (fun _ _ => rfl)) (ja_cons rfl (je_varS 3) ja_nil)))))
 (jss_cons (js_if (ms' := [.S, .S, .O .S, .O .S, .S, .O .S]) (.inl rfl) (jw_pt (jw_or (jt_cmp (op_ne2 hu) o_ne (nomark _) (je_var 3) (je_var 5)) (jw_or1 (jt_not (jt_tru (je_fn G__law_right (hr.mono (by first | decide | omega)) m__law_right k__law_right b__law_right tk (ja_cons rfl (je_ixG (ix5 hu) (o_ix rfl) (je_var 2) (je_varS 4) (fun _ _ => rfl)) (ja_cons rfl (je_ixG (ix5 hu) (o_ix rfl) (je_ixG (ix5 hu) (o_ix rfl) (je_varS 1) (je_varS 4) (fun _ _ => rfl)) je_int (fun _ _ => rfl)) (ja_cons rfl (je_ixG (ix5 hu) (o_ix rfl) (je_ixG (ix5 hu) (o_ix rfl) (je_varS 1) (je_varS 4) (fun _ _ => rfl)) je_int (fun _ _ => rfl)) ja_nil)))))))))
 (jss_any (ms' := [.S, .S, .O .S, .O .S, .S, .O .S]) (jss_one (js_ret (.inl rfl) (jr_of je_bl))) nv_ret)
 jss_nil)
 (jss_one (js_if (ms' := [.S, .S, .O .S, .O .S, .S, .O .S]) (.inl rfl) (jt_not (jt_tru (je_fn G__law_right (hr.mono (by first | decide | omega)) m__law_right k__law_right b__law_right tk (ja_cons rfl (je_ixG (ix5 hu) (o_ix rfl) (je_var 2) je_int (fun _ _ => rfl)) (ja_cons rfl (je_ixG (ix5 hu) (o_ix rfl) (je_ixG (ix5 hu) (o_ix rfl) (je_varS 1) je_int (fun _ _ => rfl)) je_int (fun _ _ => rfl)) (ja_cons rfl (je_ixG (ix5 hu) (o_ix rfl) (je_ixG (ix5 hu) (o_ix rfl) (je_varS 1) je_int (fun _ _ => rfl)) je_int (fun _ _ => rfl)) ja_nil))))))
 (jss_any (ms' := [.S, .S, .O .S, .O .S, .S, .O .S]) (jss_one (js_ret (.inl rfl) (jr_of je_bl))) nv_ret)
 jss_nil)))))))))
 (jss_cons (js_clear 3 (fun _ h1 => pe_bm0 PySem.F.plainAttrs_list PySem.F.slot_list_clear PySem.F.type_list_clear mt_clear h1) (fun _ h => ps_expr h) (pv 3))
 (jss_cons (js_append 3 (.inl rfl) (fun _ _ h1 h2 => pe_bm PySem.F.plainAttrs_list PySem.F.slot_list_append PySem.F.type_list_append mt_append h1 (pa_cons h2 pa_nil)) (fun _ h => ps_expr h) (pv 3) (je_tup (ja_cons rfl je_int (ja_cons rfl je_int (ja_cons rfl je_int (ja_cons rfl je_int ja_nil))))))
 (jss_one (js_ret (.inl rfl) (jr_of (je_and rfl (je_fn G__law_right (hr.mono (by first | decide | omega)) m__law_right k__law_right b__law_right tk (ja_cons rfl (je_ixG (ix5 hu) (o_ix rfl) (je_var 2) je_int (fun _ _ => rfl)) (ja_cons rfl (je_ixG (ix5 hu) (o_ix rfl) (je_ixG (ix5 hu) (o_ix rfl) (je_varS 1) je_int (fun _ _ => rfl)) je_int (fun _ _ => rfl)) (ja_cons rfl (je_ixG (ix5 hu) (o_ix rfl) (je_ixG (ix5 hu) (o_ix rfl) (je_varS 1) je_int (fun _ _ => rfl)) je_int (fun _ _ => rfl)) ja_nil)))) (je_one (je_fn G__law_right (hr.mono (by first | decide | omega)) m__law_right k__law_right b__law_right tk (ja_cons rfl (je_ixG (ix5 hu) (o_ix rfl) (je_var 2) je_int (fun _ _ => rfl)) (ja_cons rfl (je_ixG (ix5 hu) (o_ix rfl) (je_ixG (ix5 hu) (o_ix rfl) (je_varS 1) je_int (fun _ _ => rfl)) je_int (fun _ _ => rfl)) (ja_cons rfl (je_ixG (ix5 hu) (o_ix rfl) (je_ixG (ix5 hu) (o_ix rfl) (je_varS 1) je_int (fun _ _ => rfl)) je_int (fun _ _ => rfl)) ja_nil)))))))))))))))
end
end G.T
/-! least sums of weights: what a round over the ties does -/
namespace G.T
abbrev Wt := List (Nat × Nat × Int)
abbrev Fa := Nat → Option Int
def upd (f : Fa) (a : Nat) (v : Option Int) : Fa := fun x => if x = a then v else f x
def chg (f : Fa) (p : Nat × Nat × Int) : Bool := match f p.2.1 with
  | none => false
  | some y => match f p.1 with
    | none => true
    | some x => decide (p.2.2 + y < x)
def thr (f : Fa) (p : Nat × Nat × Int) : Option Int := (f p.2.1).map (p.2.2 + ·)
def rlx (f : Fa) (p : Nat × Nat × Int) : Fa := if chg f p then upd f p.1 (thr f p) else f
def rnd (W : Wt) (f : Fa) : Fa := W.foldl rlx f
/-- the least sums to t -/
structure Di (W : Wt) (t : Nat) (d : Fa) : Prop where
  zero : d t = some 0
  nn : ∀ a x, d a = some x → 0 ≤ x
  cl : ∀ a b w y, (a, b, w) ∈ W → d b = some y → ∃ x, d a = some x ∧ x ≤ w + y
  by_ : ∀ a x, d a = some x → a ≠ t → ∃ b w y, (a, b, w) ∈ W ∧ d b = some y ∧ x = w + y
def PosW (W : Wt) : Prop := ∀ a b w, (a, b, w) ∈ W → 1 ≤ w
theorem Di.le {W V : Wt} {t : Nat} {f g : Fa} (hp : PosW W) (hf : Di W t f) (hg : Di V t g) (hs : ∀ p, p ∈ W → p ∈ V) : ∀ (k : Nat) (a : Nat) (x : Int), x.toNat ≤ k → f a = some x → ∃ y, g a = some y ∧ y ≤ x := by
  intro k
  induction k with
  | zero =>
    intro a x hk h
    by_cases e : a = t
    · subst e; rw [hf.zero] at h; cases h; exact ⟨0, hg.zero, Int.le_refl _⟩
    · obtain ⟨b, w, y, m, hb, ex⟩ := hf.by_ a x h e
      have := hp _ _ _ m; have := hf.nn _ _ hb; omega
  | succ k ih =>
    intro a x hk h
    by_cases e : a = t
    · subst e; rw [hf.zero] at h; cases h; exact ⟨0, hg.zero, Int.le_refl _⟩
    · obtain ⟨b, w, y, m, hb, ex⟩ := hf.by_ a x h e
      have h1 := hp _ _ _ m
      have h2 := hf.nn _ _ hb
      obtain ⟨z, gz, hz⟩ := ih b y (by omega) hb
      obtain ⟨v, gv, hv⟩ := hg.cl _ _ _ _ (hs _ m) gz
      exact ⟨v, gv, by omega⟩
theorem Di.uniq {W V : Wt} {t : Nat} {f g : Fa} (hp : PosW W) (hf : Di W t f) (hg : Di V t g) (hs : ∀ p, p ∈ W ↔ p ∈ V) : f = g := by
  have hq : PosW V := fun a b w m => hp a b w ((hs _).mpr m)
  funext a
  cases h : f a with
  | none =>
    cases k : g a with
    | none => rfl
    | some y =>
      obtain ⟨z, e, _⟩ := hg.le hq hf (fun p => (hs p).mpr) y.toNat a y (Nat.le_refl _) k
      rw [h] at e; cases e
  | some x =>
    obtain ⟨y, e, l⟩ := hf.le hp hg (fun p => (hs p).mp) x.toNat a x (Nat.le_refl _) h
    obtain ⟨z, e2, l2⟩ := hg.le hq hf (fun p => (hs p).mpr) y.toNat a y (Nat.le_refl _) e
    rw [h] at e2; cases e2
    rw [e]; congr 1; omega
/-- sums of walks -/
inductive Wk (W : Wt) (t : Nat) : Nat → Int → Prop
  | here : Wk W t t 0
  | step {a b : Nat} {w y : Int} : (a, b, w) ∈ W → Wk W t b y → Wk W t a (w + y)
theorem least_nat {P : Nat → Prop} : ∀ n, P n → ∃ m, P m ∧ ∀ k, P k → m ≤ k := by
  intro n
  induction n using Nat.strongRecOn with
  | ind n ih =>
    intro h
    by_cases c : ∃ k, k < n ∧ P k
    · obtain ⟨k, hk, pk⟩ := c; exact ih k hk pk
    · exact ⟨n, h, fun k pk => Nat.le_of_not_lt fun l => c ⟨k, l, pk⟩⟩
theorem Wk.nn {W : Wt} {t a : Nat} {x : Int} (hp : PosW W) (h : Wk W t a x) : 0 ≤ x := by
  induction h with
  | here => exact Int.le_refl _
  | step m _ ih => have := hp _ _ _ m; omega
theorem Wk.least {W : Wt} {t a : Nat} (hp : PosW W) (h : ∃ x, Wk W t a x) : ∃ x, Wk W t a x ∧ ∀ y, Wk W t a y → x ≤ y := by
  obtain ⟨x, h⟩ := h
  obtain ⟨m, h1, h2⟩ := least_nat (P := fun n => Wk W t a (n : Int)) x.toNat (by show Wk W t a (x.toNat : Int); rw [Int.toNat_of_nonneg (h.nn hp)]; exact h)
  refine ⟨m, h1, fun y hy => ?_⟩
  have := h2 y.toNat (by show Wk W t a (y.toNat : Int); rw [Int.toNat_of_nonneg (hy.nn hp)]; exact hy)
  have := hy.nn hp
  omega
open Classical in
noncomputable def dst (W : Wt) (t : Nat) : Fa := fun a => if h : ∃ x, Wk W t a x ∧ ∀ y, Wk W t a y → x ≤ y then some h.choose else none
theorem dst_some {W : Wt} {t a : Nat} {x : Int} (hp : PosW W) : dst W t a = some x ↔ Wk W t a x ∧ ∀ y, Wk W t a y → x ≤ y := by
  unfold dst
  constructor
  · intro h
    split at h
    · rename_i c; cases h; exact c.choose_spec
    · cases h
  · intro h
    have c : ∃ x, Wk W t a x ∧ ∀ y, Wk W t a y → x ≤ y := ⟨x, h⟩
    rw [dif_pos c]
    have := c.choose_spec
    have h1 := this.2 x h.1
    have h2 := h.2 _ this.1
    congr 1; omega
theorem dst_of {W : Wt} {t a : Nat} {x : Int} (hp : PosW W) (h : Wk W t a x) : ∃ y, dst W t a = some y ∧ y ≤ x := by
  obtain ⟨y, h1, h2⟩ := Wk.least hp ⟨x, h⟩
  exact ⟨y, (dst_some hp).mpr ⟨h1, h2⟩, h2 _ h⟩
theorem dst_di {W : Wt} {t : Nat} (hp : PosW W) : Di W t (dst W t) where
  zero := (dst_some hp).mpr ⟨.here, fun y h => h.nn hp⟩
  nn := fun a x h => ((dst_some hp).mp h).1.nn hp
  cl := fun a b w y m h => dst_of hp (.step m ((dst_some hp).mp h).1)
  by_ := fun a x h ne => by
    obtain ⟨h1, h2⟩ := (dst_some hp).mp h
    cases h1 with
    | here => exact absurd rfl ne
    | @step _ b w y m h1 =>
      obtain ⟨z, e, l⟩ := dst_of hp h1
      have := h2 _ (.step m ((dst_some hp).mp e).1)
      exact ⟨b, w, y, m, by rw [e]; congr 1; omega, rfl⟩
theorem dst_in {W : Wt} {t n : Nat} (hp : PosW W) (ht : t < n) (hW : ∀ a b w, (a, b, w) ∈ W → a < n ∧ b < n) {a : Nat} (h : ¬ a < n) : dst W t a = none := by
  cases e : dst W t a with
  | none => rfl
  | some x =>
    by_cases c : a = t
    · omega
    · obtain ⟨b, w, y, m, _⟩ := (dst_di hp).by_ a x e c
      exact absurd (hW _ _ _ m).1 h
/-! ### a round -/
def Up (d f : Fa) : Prop := ∀ a x, f a = some x → ∃ y, d a = some y ∧ y ≤ x
section
variable {W : Wt} {t : Nat} {d f : Fa}
theorem rlx_up (hd : Di W t d) {p : Nat × Nat × Int} (m : p ∈ W) (u : Up d f) : Up d (rlx f p) := by
  obtain ⟨a, b, w⟩ := p
  unfold rlx
  split
  · intro c x h
    unfold upd at h
    split at h
    · rename_i e
      subst e
      unfold thr at h
      obtain ⟨y, hy, rfl⟩ := Option.map_eq_some_iff.mp h
      obtain ⟨z, hz, l⟩ := u b y hy
      obtain ⟨v, hv, l2⟩ := hd.cl _ _ _ _ m hz
      exact ⟨v, hv, by simp only; omega⟩
    · exact u c x h
  · exact u
theorem rlx_good (hd : Di W t d) {p : Nat × Nat × Int} (m : p ∈ W) (u : Up d f) {c : Nat} (g : f c = d c) : rlx f p c = d c := by
  obtain ⟨a, b, w⟩ := p
  unfold rlx
  split
  · rename_i k
    unfold upd
    split
    · rename_i e
      subst e
      exfalso
      unfold chg at k
      simp only at k
      split at k
      · cases k
      · rename_i y hy
        obtain ⟨z, hz, l⟩ := u b y hy
        obtain ⟨v, hv, l2⟩ := hd.cl _ _ _ _ m hz
        rw [g, hv] at k
        simp at k
        omega
    · exact g
  · exact g
theorem rlx_hit {a b : Nat} {w y : Int} (u : Up d f) (hb : f b = some y) (ha : d a = some (w + y)) : rlx f (a, b, w) a = some (w + y) := by
  unfold rlx
  split
  · unfold upd
    rw [if_pos rfl]
    unfold thr
    rw [hb]; rfl
  · rename_i k
    unfold chg at k
    simp only [hb] at k
    split at k
    · exact absurd rfl k
    · rename_i x hx
      obtain ⟨z, hz, l⟩ := u a x hx
      rw [ha] at hz; cases hz
      simp at k
      rw [hx]; congr 1; omega
theorem fold_up (hd : Di W t d) : ∀ (V : Wt) (f : Fa), (∀ p ∈ V, p ∈ W) → Up d f → Up d (V.foldl rlx f) := by
  intro V
  induction V with
  | nil => intro f _ u; exact u
  | cons p V ih => intro f s u; exact ih _ (fun q h => s q (List.mem_cons_of_mem _ h)) (rlx_up hd (s p List.mem_cons_self) u)
theorem fold_good (hd : Di W t d) {c : Nat} : ∀ (V : Wt) (f : Fa), (∀ p ∈ V, p ∈ W) → Up d f → f c = d c → V.foldl rlx f c = d c := by
  intro V
  induction V with
  | nil => intro f _ _ g; exact g
  | cons p V ih => intro f s u g; exact ih _ (fun q h => s q (List.mem_cons_of_mem _ h)) (rlx_up hd (s p List.mem_cons_self) u) (rlx_good hd (s p List.mem_cons_self) u g)
theorem fold_hit (hd : Di W t d) {a b : Nat} {w y : Int} (db : d b = some y) (da : d a = some (w + y)) : ∀ (V : Wt) (f : Fa), (∀ p ∈ V, p ∈ W) → Up d f → f b = d b → (a, b, w) ∈ V → V.foldl rlx f a = d a := by
  intro V
  induction V with
  | nil => intro f _ _ _ m; cases m
  | cons p V ih =>
    intro f s u g m
    have sp := s p List.mem_cons_self
    have sV := fun q h => s q (List.mem_cons_of_mem p h)
    rcases List.mem_cons.mp m with e | m
    · subst e
      exact fold_good hd V _ sV (rlx_up hd sp u) (by rw [da]; exact rlx_hit u (by rw [g, db]) da)
    · exact ih _ sV (rlx_up hd sp u) (rlx_good hd sp u g) m
end
/-- how many of the first n houses are right -/
def gdn (n : Nat) (d f : Fa) : Nat := ((List.range n).filter fun a => f a == d a).length
theorem gdn_le (n : Nat) (d f : Fa) : gdn n d f ≤ n := by
  have := List.length_filter_le (fun a => f a == d a) (List.range n)
  rw [List.length_range] at this
  exact this
theorem filter_len_le {α : Type} {p q : α → Bool} : ∀ {l : List α}, (∀ x ∈ l, p x = true → q x = true) → (l.filter p).length ≤ (l.filter q).length := by
  intro l
  induction l with
  | nil => intro _; exact Nat.le_refl _
  | cons a l ih =>
    intro h
    have := ih fun x hx => h x (List.mem_cons_of_mem _ hx)
    have ha := h a List.mem_cons_self
    cases pa : p a with
    | true => rw [List.filter_cons_of_pos pa, List.filter_cons_of_pos (ha pa)]; simp only [List.length_cons]; omega
    | false =>
      rw [List.filter_cons_of_neg (by simp [pa])]
      cases qa : q a with
      | true => rw [List.filter_cons_of_pos qa]; simp only [List.length_cons]; omega
      | false => rw [List.filter_cons_of_neg (by simp [qa])]; exact this
theorem filter_len_lt {α : Type} {p q : α → Bool} : ∀ {l : List α}, (∀ x ∈ l, p x = true → q x = true) → (∃ x ∈ l, p x = false ∧ q x = true) → (l.filter p).length < (l.filter q).length := by
  intro l
  induction l with
  | nil => intro _ h; obtain ⟨x, m, _⟩ := h; cases m
  | cons a l ih =>
    intro h e
    have hl := fun x hx => h x (List.mem_cons_of_mem a hx)
    have ha := h a List.mem_cons_self
    obtain ⟨x, m, px, qx⟩ := e
    rcases List.mem_cons.mp m with e | m
    · subst e
      rw [List.filter_cons_of_neg (by simp [px]), List.filter_cons_of_pos qx, List.length_cons]
      exact Nat.lt_succ_of_le (filter_len_le hl)
    · have := ih hl ⟨x, m, px, qx⟩
      cases pa : p a with
      | true => rw [List.filter_cons_of_pos pa, List.filter_cons_of_pos (ha pa)]; simp only [List.length_cons]; omega
      | false =>
        rw [List.filter_cons_of_neg (by simp [pa])]
        cases qa : q a with
        | true => rw [List.filter_cons_of_pos qa]; simp only [List.length_cons]; omega
        | false => rw [List.filter_cons_of_neg (by simp [qa])]; exact this
section
variable {W : Wt} {t n : Nat} {d f : Fa}
/-- a house that is not right yet: the nearest such has a right one ahead -/
theorem bad_next (hp : PosW W) (hd : Di W t d) (u : Up d f) (h0 : f t = some 0) : ∀ (k : Nat) (a : Nat) (x : Int), x.toNat ≤ k → d a = some x → f a ≠ d a → ∃ a b w y, (a, b, w) ∈ W ∧ d b = some y ∧ d a = some (w + y) ∧ f b = d b ∧ f a ≠ d a := by
  intro k
  induction k with
  | zero =>
    intro a x hk h ne
    by_cases e : a = t
    · subst e; rw [h0, hd.zero] at ne; exact absurd rfl ne
    · obtain ⟨b, w, y, m, hb, ex⟩ := hd.by_ a x h e
      have := hp _ _ _ m; have := hd.nn _ _ hb; omega
  | succ k ih =>
    intro a x hk h ne
    by_cases e : a = t
    · subst e; rw [h0, hd.zero] at ne; exact absurd rfl ne
    · obtain ⟨b, w, y, m, hb, ex⟩ := hd.by_ a x h e
      have h1 := hp _ _ _ m
      have h2 := hd.nn _ _ hb
      by_cases c : f b = d b
      · exact ⟨a, b, w, y, m, hb, by rw [h, ex], c, ne⟩
      · exact ih b y (by omega) hb c
theorem rnd_more (hp : PosW W) (hd : Di W t d) (hn : ∀ a, ¬ a < n → d a = none) (u : Up d f) (h0 : f t = some 0) (h : ¬ f = d) : gdn n d f < gdn n d (rnd W f) := by
  have : ∃ a, f a ≠ d a := by
    apply Classical.byContradiction
    intro c
    exact h (funext fun a => Classical.byContradiction fun k => c ⟨a, k⟩)
  obtain ⟨a, ha⟩ := this
  have : ∃ x, d a = some x := by
    cases e : d a with
    | some x => exact ⟨x, rfl⟩
    | none =>
      cases k : f a with
      | none => rw [e, k] at ha; exact absurd rfl ha
      | some y => obtain ⟨z, hz, _⟩ := u a y k; rw [e] at hz; cases hz
  obtain ⟨x, hx⟩ := this
  obtain ⟨a, b, w, y, m, hb, da, fb, ne⟩ := bad_next hp hd u h0 x.toNat a x (Nat.le_refl _) hx ha
  refine filter_len_lt (fun c _ hc => ?_) ⟨a, ?_, ?_, ?_⟩
  · rw [beq_iff_eq] at hc ⊢
    exact fold_good hd W f (fun _ h => h) u hc
  · rw [List.mem_range]
    apply Classical.byContradiction
    intro c
    rw [hn a c] at da; cases da
  · simp [ne]
  · rw [beq_iff_eq]
    exact fold_hit hd hb da W f (fun _ h => h) u fb m
theorem rnd_up (hd : Di W t d) (u : Up d f) : Up d (rnd W f) := fold_up hd W f (fun _ h => h) u
theorem rnd_zero (hd : Di W t d) (u : Up d f) (h0 : f t = some 0) : rnd W f t = some 0 := by
  rw [← hd.zero]; exact fold_good hd W f (fun _ h => h) u (by rw [h0, hd.zero])
theorem rnd_self (hd : Di W t d) : rnd W d = d := funext fun a => fold_good hd W d (fun _ h => h) (fun a x h => ⟨x, h, Int.le_refl _⟩) rfl
def far0 (t : Nat) : Fa := fun a => if a = t then some 0 else none
theorem far0_up (hd : Di W t d) : Up d (far0 t) := by
  intro a x h
  unfold far0 at h
  split at h
  · rename_i e; subst e; cases h; exact ⟨0, hd.zero, Int.le_refl _⟩
  · cases h
def rnds (W : Wt) : Nat → Fa → Fa
  | 0, f => f
  | k + 1, f => rnds W k (rnd W f)
theorem gdn_full (hn : ∀ a, ¬ a < n → d a = none) (u : Up d f) (h : n ≤ gdn n d f) : f = d := by
  funext a
  by_cases c : a < n
  · apply Classical.byContradiction
    intro ne
    have : gdn n d f < ((List.range n).filter fun _ => true).length := filter_len_lt (fun _ _ _ => rfl) ⟨a, List.mem_range.mpr c, by simp [ne], rfl⟩
    have l := List.length_filter_le (fun _ => true) (List.range n)
    rw [List.length_range] at l
    omega
  · rw [hn a c]
    cases e : f a with
    | none => rfl
    | some x => obtain ⟨y, hy, _⟩ := u a x e; rw [hn a c] at hy; cases hy
theorem rnds_all (hp : PosW W) (hd : Di W t d) (hn : ∀ a, ¬ a < n → d a = none) : ∀ (k : Nat) (f : Fa), Up d f → f t = some 0 → n ≤ gdn n d f + k → rnds W k f = d := by
  intro k
  induction k with
  | zero => intro f u h0 h; exact gdn_full hn u h
  | succ k ih =>
    intro f u h0 h
    by_cases c : f = d
    · subst c
      show rnds W k (rnd W f) = f
      rw [rnd_self hd]
      exact ih f u h0 (by
        have : gdn n f f = n := by
          unfold gdn
          rw [List.filter_eq_self.mpr (fun _ _ => beq_self_eq_true _), List.length_range]
        omega)
    · have := rnd_more hp hd hn u h0 c
      exact ih _ (rnd_up hd u) (rnd_zero hd u h0) (by omega)
end
/-! ### a round that tells whether it changed something -/
def rlx2 (s : Fa × Bool) (p : Nat × Nat × Int) : Fa × Bool := (rlx s.1 p, s.2 || chg s.1 p)
theorem fold2 : ∀ (V : Wt) (s : Fa × Bool), (V.foldl rlx2 s).1 = V.foldl rlx s.1 := by
  intro V
  induction V with
  | nil => intro s; rfl
  | cons p V ih => intro s; exact ih _
theorem fold2_true : ∀ (V : Wt) (f : Fa), (V.foldl rlx2 (f, true)).2 = true := by
  intro V
  induction V with
  | nil => intro s; rfl
  | cons p V ih => intro f; show (V.foldl rlx2 (rlx2 (f, true) p)).2 = true; unfold rlx2; exact ih _
theorem fold2_false : ∀ (V : Wt) (f : Fa), (V.foldl rlx2 (f, false)).2 = false → V.foldl rlx f = f := by
  intro V
  induction V with
  | nil => intro f _; rfl
  | cons p V ih =>
    intro f h
    have h' : (V.foldl rlx2 (rlx f p, false || chg f p)).2 = false := h
    cases c : chg f p with
    | true => rw [c] at h'; simp only [Bool.or_true] at h'; rw [fold2_true] at h'; cases h'
    | false =>
      rw [c] at h'
      have e : rlx f p = f := by unfold rlx; rw [c]; rfl
      rw [e] at h'
      show V.foldl rlx (rlx f p) = f
      rw [e]
      exact ih f h'
theorem fold2_self {W : Wt} {t : Nat} {d : Fa} (hd : Di W t d) : ∀ (V : Wt), (∀ p ∈ V, p ∈ W) → (V.foldl rlx2 (d, false)) = (d, false) := by
  intro V
  induction V with
  | nil => intro _; rfl
  | cons p V ih =>
    intro s
    have m := s p List.mem_cons_self
    have c : chg d p = false := by
      obtain ⟨a, b, w⟩ := p
      unfold chg
      simp only
      split
      · rfl
      · rename_i y hy
        obtain ⟨x, hx, l⟩ := hd.cl _ _ _ _ m hy
        rw [hx]
        simp
        omega
    show V.foldl rlx2 (rlx d p, false || chg d p) = _
    rw [c]
    have e : rlx d p = d := by unfold rlx; rw [c]; rfl
    rw [e]
    exact ih fun q h => s q (List.mem_cons_of_mem _ h)
end G.T
/-! weights as a dict, sums as a list; sums_to -/
namespace G.T
open PySem PySem.Spec L2
open PyProof.Rows hiding St
def wk (W : Wt) : List (List Key × D) := W.map fun p => ([.inl (p.1 : Int), .inl (p.2.1 : Int)], .int p.2.2)
def wd (W : Wt) : D := .dt (wk W)
def prD (a b : Nat) : D := .tup [.int a, .int b]
def wt (W : Wt) (a b : Nat) : Option Int := (W.find? fun p => decide (p.1 = a ∧ p.2.1 = b)).map (·.2.2)
theorem look_wk {a b : Nat} : ∀ {W : Wt}, look (wk W) [.inl (a : Int), .inl (b : Int)] = (wt W a b).map .int
  | [] => rfl
  | (c, d, w) :: W => by
    have ih := look_wk (a := a) (b := b) (W := W)
    unfold look wt wk at *
    rw [List.map_cons, List.find?_cons, List.find?_cons]
    by_cases e : c = a ∧ d = b
    · obtain ⟨rfl, rfl⟩ := e
      simp
    · have e2 : ¬ ([.inl (c : Int), .inl (d : Int)] : List Key) = [.inl (a : Int), .inl (b : Int)] := fun z => e (by
        simp only [List.cons.injEq, Sum.inl.injEq, and_true] at z
        omega)
      simp only [e, e2, decide_false]
      exact ih
theorem dLook_wd {W : Wt} {a b : Nat} : dLook (wd W) (prD a b) = some ((wt W a b).map .int) := by
  show some (look (wk W) [.inl (a : Int), .inl (b : Int)]) = _
  rw [look_wk]
theorem dIx_wd {W : Wt} {a b : Nat} {w : Int} (e : wt W a b = some w) : dIx (wd W) (.tup [.int a, .int b]) = .ok (.int w) := by
  show (match dLook (wd W) (prD a b) with | some (some x) => Rs.ok x | _ => .bad) = _
  rw [dLook_wd, e] <;> rfl
theorem dIn_wd {W : Wt} {a b : Nat} : dIn (.tup [.int a, .int b]) (wd W) = .ok (.bl (wt W a b).isSome) := by
  have : inB (.tup [.int a, .int b]) (wd W) = some (wt W a b).isSome := by
    show ((dLook (wd W) (prD a b)).map Option.isSome) = _
    rw [dLook_wd]
    cases wt W a b <;> rfl
  unfold dIn
  rw [this]
theorem wt_none {W : Wt} {a b : Nat} : wt W a b = none ↔ ∀ p ∈ W, ¬ (p.1 = a ∧ p.2.1 = b) := by
  unfold wt
  rw [Option.map_eq_none_iff, List.find?_eq_none]
  simp
theorem wt_mem {W : Wt} {a b : Nat} {w : Int} (h : wt W a b = some w) : (a, b, w) ∈ W := by
  unfold wt at h
  obtain ⟨p, h1, h2⟩ := Option.map_eq_some_iff.mp h
  have m := List.mem_of_find?_eq_some h1
  have q := List.find?_some h1
  obtain ⟨c, d, v⟩ := p
  simp at q h2
  obtain ⟨rfl, rfl⟩ := q
  subst h2
  exact m
/-- one weight for a key -/
def OneW (W : Wt) : Prop := ∀ a b w v, (a, b, w) ∈ W → (a, b, v) ∈ W → w = v
theorem wt_of {W : Wt} (o : OneW W) {a b : Nat} {w : Int} (m : (a, b, w) ∈ W) : wt W a b = some w := by
  cases h : wt W a b with
  | none => exact absurd ⟨rfl, rfl⟩ (wt_none.mp h _ m)
  | some v => rw [o _ _ _ _ m (wt_mem h)]
theorem set_wd {W : Wt} {a b : Nat} {w : Int} (e : wt W a b = none) (c : W.length < cap) : fSetIx (wd W) (.tup [.int a, .int b]) (.int w) = some (wd (W ++ [(a, b, w)])) := by
  show (if (wk W).length < cap then some (D.dt (put (wk W) [.inl (a : Int), .inl (b : Int)] (.int w))) else none) = _
  have hl : (wk W).length = W.length := by simp [wk]
  rw [hl, if_pos c]
  unfold put
  have : ((wk W).any fun kv => decide (kv.1 = ([.inl (a : Int), .inl (b : Int)] : List Key))) = false := by
    rw [List.any_eq_false]
    intro kv hkv
    obtain ⟨p, hp, rfl⟩ := List.mem_map.mp hkv
    have := wt_none.mp e p hp
    simp only [decide_eq_true_eq]
    intro z
    simp only [List.cons.injEq, Sum.inl.injEq, and_true] at z
    omega
  rw [this, if_neg (by decide)]
  unfold wd wk
  rw [List.map_append]
  rfl
theorem keys_wk {W : Wt} : dKeysT (wk W) = W.map fun p => prD p.1 p.2.1 := by
  unfold dKeysT wk
  rw [List.map_map]
  rfl
def oD : Option Int → D
  | none => .non
  | some i => .int i
@[simp] theorem oD_some {i : Int} : oD (some i) = .int i := rfl
@[simp] theorem oD_none : oD none = .non := rfl
def fd (n : Nat) (f : Fa) : D := .lst ((List.range n).map fun a => oD (f a))
theorem dIx_fd {n : Nat} {f : Fa} {a : Nat} (h : a < n) : dIx (fd n f) (.int a) = .ok (oD (f a)) := by
  unfold fd
  rw [dIx_lst, atI_nat', List.getElem?_map, List.getElem?_range h]
  rfl
theorem set_fd {n : Nat} {f : Fa} {a : Nat} {v : Option Int} (h : a < n) : fSetIx (fd n f) (.int a) (oD v) = some (fd n (upd f a v)) := by
  unfold fd fSetIx
  simp only
  have : ixN ((List.range n).map fun a => oD (f a)).length (a : Int) = some a := by
    unfold ixN
    simp
    omega
  rw [this]
  simp only [Option.map_some]
  congr 2
  apply List.ext_getElem
  · simp
  · intro i h1 h2
    simp only [List.length_set, List.length_map, List.length_range] at h1
    rw [List.getElem_set]
    simp only [List.getElem_map, List.getElem_range]
    unfold upd
    by_cases e : a = i
    · subst e; simp
    · have : ¬ i = a := fun z => e z.symm
      simp [e, this]
/-- what the ties are -/
structure OkW (n : Nat) (W : Wt) : Prop where
  lt : ∀ a b w, (a, b, w) ∈ W → a < n ∧ b < n
  pos : PosW W
  one : OneW W
def E3 (n : Nat) (W : Wt) (t : Nat) (o4 : Option D) (f : Fa) (b : Bool) (o6 o7 o8 : Option D) : Env := [some (.int n), some (wd W), some (.int t), some (fd n f), o4, some (.bl b), o6, o7, o8]
theorem st_body {n : Nat} {W : Wt} (ok : OkW n W) {t : Nat} {o4 : Option D} {p : Nat × Nat × Int} (m : p ∈ W) (f : Fa) (b : Bool) (o8 : Option D) :
    ∃ o8', sums_to_b2 (E3 n W t o4 f b (some (.int p.1)) (some (.int p.2.1)) o8) = .nx (E3 n W t o4 (rlx f p) (b || chg f p) (some (.int p.1)) (some (.int p.2.1)) o8') := by
  obtain ⟨a, c, w⟩ := p
  obtain ⟨ha, hc⟩ := ok.lt _ _ _ m
  have e1 := dIx_fd (f := f) ha
  have e2 := dIx_fd (f := f) hc
  have e3 := dIx_wd (wt_of ok.one m)
  unfold sums_to_b2 E3 rlx chg thr
  cases hy : f c with
  | none => exact ⟨o8, by simp [e1, e2, hy]⟩
  | some y =>
    refine ⟨some (.int (w + y)), ?_⟩
    have hs := set_fd (n := n) (f := f) (v := some (w + y)) ha
    rw [oD_some] at hs
    cases hx : f a with
    | none => simp [e1, e2, e3, hy, hx, hs]
    | some x =>
      by_cases l : w + y < x
      · simp [e1, e2, e3, hy, hx, hs, l]
      · simp [e1, e2, e3, hy, hx, l]
theorem st_round {n : Nat} {W : Wt} (ok : OkW n W) {t : Nat} {o4 : Option D} : ∀ (V : Wt) (f : Fa) (b : Bool) (o6 o7 o8 : Option D), (∀ p ∈ V, p ∈ W) →
    ∃ o6' o7' o8', sFor (tTupN 2 (tsCons (tName 6) (tsCons (tName 7) tsNil))) sums_to_b2 (V.map fun p => prD p.1 p.2.1) (E3 n W t o4 f b o6 o7 o8) = .nx (E3 n W t o4 (V.foldl rlx2 (f, b)).1 (V.foldl rlx2 (f, b)).2 o6' o7' o8') := by
  intro V
  induction V with
  | nil => intro f b o6 o7 o8 _; exact ⟨o6, o7, o8, rfl⟩
  | cons p V ih =>
    intro f b o6 o7 o8 s
    obtain ⟨x8, hb⟩ := st_body ok (t := t) (o4 := o4) (s p List.mem_cons_self) f b o8
    obtain ⟨y6, y7, y8, h⟩ := ih (rlx f p) (b || chg f p) (some (.int p.1)) (some (.int p.2.1)) x8 fun q h => s q (List.mem_cons_of_mem _ h)
    refine ⟨y6, y7, y8, ?_⟩
    rw [List.map_cons, sFor_cons (ρ1 := E3 n W t o4 f b (some (.int p.1)) (some (.int p.2.1)) o8) (by simp [prD, E3]), hb]
    exact h
theorem st_b3 {n : Nat} {W : Wt} (ok : OkW n W) {t : Nat} {o4 : Option D} (f : Fa) (b : Bool) (o6 o7 o8 : Option D) :
    ∃ o6' o7' o8', sums_to_b3 (E3 n W t o4 f b o6 o7 o8) = .nx (E3 n W t o4 (W.foldl rlx2 (f, false)).1 (W.foldl rlx2 (f, false)).2 o6' o7' o8') := by
  obtain ⟨y6, y7, y8, h⟩ := st_round ok (t := t) (o4 := o4) W f false o6 o7 o8 fun _ h => h
  refine ⟨y6, y7, y8, ?_⟩
  have h2 : sForD 1 (tTupN 2 (tsCons (tName 6) (tsCons (tName 7) tsNil))) sums_to_b2 (E3 n W t o4 f false o6 o7 o8) = .nx (E3 n W t o4 (W.foldl rlx2 (f, false)).1 (W.foldl rlx2 (f, false)).2 y6 y7 y8) := by
    show (match sFor _ sums_to_b2 (dKeysT (wk W)) (E3 n W t o4 f false o6 o7 o8) with | .exc _ _ _ => Out.bad | o => o) = _
    rw [keys_wk, h] <;> rfl
  unfold sums_to_b3
  rw [sSeq_ap]
  have e : sSet 5 (eC (.bl false)) (E3 n W t o4 f b o6 o7 o8) = .nx (E3 n W t o4 f false o6 o7 o8) := by simp [E3]
  rw [e, Out.seq_nx]
  exact h2
theorem st_w3 {n : Nat} {W : Wt} {t : Nat} {o4 : Option D} (f : Fa) (b : Bool) (o6 o7 o8 : Option D) : sums_to_w3 (E3 n W t o4 f b o6 o7 o8) = .ok b := by
  unfold sums_to_w3 E3
  simp
theorem sWhile_go {ec : Env → Rs Bool} {s : Env → Out} {n : Nat} {ρ ρ1 : Env} (h : ec ρ = .ok true) (k : s ρ = .nx ρ1) : sWhile ec s (n + 1) ρ = sWhile ec s n ρ1 := by
  show sBind (ec ρ) ρ (fun k => if k then (match s ρ with | .nx ρ' => sWhile ec s n ρ' | .ct ρ' => sWhile ec s n ρ' | .bk ρ' => .nx ρ' | o => o) else .nx ρ) = _
  rw [h, sBind_ok, if_pos rfl, k]
theorem sWhile_end {ec : Env → Rs Bool} {s : Env → Out} {n : Nat} {ρ : Env} (h : ec ρ = .ok false) : sWhile ec s (n + 1) ρ = .nx ρ := by
  show sBind (ec ρ) ρ (fun k => if k then (match s ρ with | .nx ρ' => sWhile ec s n ρ' | .ct ρ' => sWhile ec s n ρ' | .bk ρ' => .nx ρ' | o => o) else .nx ρ) = _
  rw [h, sBind_ok]; rfl
theorem st_while {n : Nat} {W : Wt} (ok : OkW n W) {t : Nat} (ht : t < n) {o4 : Option D} : ∀ (k : Nat) (f : Fa) (o6 o7 o8 : Option D), Up (dst W t) f → f t = some 0 → n + 2 ≤ gdn n (dst W t) f + k →
    ∃ o6' o7' o8', sWhile sums_to_w3 sums_to_b3 k (E3 n W t o4 f true o6 o7 o8) = .nx (E3 n W t o4 (dst W t) false o6' o7' o8') := by
  have hd := dst_di (t := t) ok.pos
  have hn := fun a (h : ¬ a < n) => dst_in ok.pos ht ok.lt (a := a) h
  intro k
  induction k with
  | zero => intro f o6 o7 o8 u h0 h; have := gdn_le n (dst W t) f; omega
  | succ k ih =>
    intro f o6 o7 o8 u h0 h
    obtain ⟨y6, y7, y8, hb⟩ := st_b3 ok (t := t) (o4 := o4) f true o6 o7 o8
    rw [sWhile_go (st_w3 f true o6 o7 o8) hb]
    by_cases c : f = dst W t
    · subst c
      rw [fold2_self hd W fun _ h => h]
      have := gdn_le n (dst W t) (dst W t)
      obtain ⟨k, rfl⟩ : ∃ j, k = j + 1 := ⟨k - 1, by omega⟩
      exact ⟨y6, y7, y8, sWhile_end (st_w3 _ _ _ _ _)⟩
    · have hm := rnd_more ok.pos hd hn u h0 c
      have e1 : (W.foldl rlx2 (f, false)).1 = rnd W f := fold2 W (f, false)
      have e2 : (W.foldl rlx2 (f, false)).2 = true := by
        cases z : (W.foldl rlx2 (f, false)).2 with
        | true => rfl
        | false =>
          have : rnd W f = f := fold2_false W f z
          rw [this] at hm; omega
      rw [e1, e2]
      exact ih _ _ _ _ (rnd_up hd u) (rnd_zero hd u h0) (by omega)
theorem fd_const {n : Nat} : D.lst ((List.range n).map fun _ => D.non) = fd n fun _ => none := rfl
theorem sums_ok {n : Nat} (hn : n ≤ 1000) {W : Wt} (ok : OkW n W) {t : Nat} (ht : t < n) : F_sums_to [.int n, wd W, .int t] = .ok (fd n (dst W t)) := by
  rw [R_sums_to, ev_sums_to]
  have hr : (-1000000 ≤ (n : Int) ∧ (n : Int) ≤ 1000000) := by omega
  have hl : lcGo (tName 4) sums_to_c1 sums_to_e1 [some (.int n), some (wd W), some (.int t), none, none, none, none, none, none] (rgD 0 n) = .ok ((List.range n).map fun _ => D.non) := by
    rw [rgD_map, lcGo_map (α := Unit) (fun _ => true) (fun _ => D.non) (List.range n) fun b _ => ⟨_, rfl, by simp [sums_to_c1], fun _ => by simp [sums_to_e1]⟩]
    congr 2
    exact List.filter_eq_self.mpr fun _ _ => rfl
  have hset := set_fd (n := n) (f := fun _ => none) (v := some 0) ht
  have hf : upd (fun _ => none) t (some 0) = far0 t := rfl
  rw [hf] at hset
  obtain ⟨y6, y7, y8, h⟩ := st_while ok ht (o4 := none) 1000000 (far0 t) none none none (far0_up (dst_di ok.pos)) (by simp [far0]) (by omega)
  have hc : n < cap := by show n < 1000000; omega
  simp only [E3] at h
  simp [eLc_ap, wipeE, hr, hl, hc, fd_const, -oD_some] at *
  rw [show D.int 0 = oD (some 0) from rfl, hset]
  simp [h]
end G.T
/-! look_house, look_ties, a net made -/
namespace G.T
open PySem PySem.Spec L2
open PyProof.Rows hiding St
abbrev Ti := List (Nat × Nat × Int × Int)
def tieD (p : Nat × Nat × Int × Int) : D := .tup [.int p.1, .int p.2.1, .int p.2.2.1, .int p.2.2.2]
def tiD (T : Ti) : D := .lst (T.map tieD)
def unl (p q : Nat × Nat × Int × Int) : Prop := ¬ (p.1 = q.1 ∧ p.2.1 = q.2.1) ∧ ¬ (p.1 = q.2.1 ∧ p.2.1 = q.1)
structure OkT (n : Nat) (T : Ti) : Prop where
  it : ∀ p ∈ T, p.1 < n ∧ p.2.1 < n ∧ p.1 ≠ p.2.1 ∧ 1 ≤ p.2.2.1 ∧ 1 ≤ p.2.2.2
  pw : T.Pairwise unl
theorem house_ok {n a : Nat} (h : a < n) : F_look_house [.int n, .int a] = .ok .non := by
  rw [R_look_house, ev_look_house]
  have h1 : ¬ ((a : Int) < 0) := by omega
  have h2 : ¬ ((n : Int) ≤ a) := by omega
  simp [h1, h2]
def pD (p : Int × Int) : D := .tup [.int p.1, .int p.2]
theorem dIn_pairs {a b : Int} {ps : List (Int × Int)} : dIn (.tup [.int a, .int b]) (.lst (ps.map pD)) = .ok (.bl (decide ((a, b) ∈ ps))) := by
  have h1 : okD 1 (.tup [.int a, .int b]) = true := rfl
  have h2 : okD 2 (.lst (ps.map pD)) = true := by
    show (ps.map pD).all (okD 1) = true
    rw [List.all_eq_true]
    intro x hx
    obtain ⟨p, _, rfl⟩ := List.mem_map.mp hx
    rfl
  have p1 := (okD_py h1).1
  have s1 := okD_shaped (by decide) h1
  have p2 := (okD_py h2).1
  have s2 := okD_shaped (by decide) h2
  have e : inB (.tup [.int a, .int b]) (.lst (ps.map pD)) = some (decide ((a, b) ∈ ps)) := by
    have p2' : toPys (ps.map pD) = some ((ps.map pD).map (toP 1)) := by
      cases z : toPys (ps.map pD) with
      | none =>
        have : toPy (.lst (ps.map pD)) = none := by show (toPys (ps.map pD)).map PyData.list = none; rw [z]; rfl
        rw [this] at p2; cases p2
      | some q =>
        have : toPy (.lst (ps.map pD)) = some (.list q) := by show (toPys (ps.map pD)).map PyData.list = _; rw [z]; rfl
        rw [this] at p2
        have p3 : PyData.list q = .list ((ps.map pD).map (toP 1)) := Option.some.inj p2
        cases p3
        rfl
    show (match toPy (.tup [.int a, .int b]), toPys (ps.map pD) with
      | some p, some qs => if (SeqAt.shaped p && SeqAt.shaped (.list qs)) = true then some (qs.any fun z => PyData.eqv z p) else none
      | _, _ => none) = _
    rw [p1, p2']
    simp only
    have s2' : SeqAt.shaped (.list ((ps.map pD).map (toP 1))) = true := s2
    rw [s1, s2', Bool.and_self, if_pos rfl]
    congr 1
    rw [Bool.eq_iff_iff]
    simp only [List.any_eq_true, decide_eq_true_eq]
    constructor
    · rintro ⟨x, hx, hy⟩
      obtain ⟨d, hd, rfl⟩ := List.mem_map.mp hx
      obtain ⟨p, hp, rfl⟩ := List.mem_map.mp hd
      have hy' : ((p.1 == a) && ((p.2 == b) && true)) = true := hy
      simp at hy'
      obtain ⟨e1, e2⟩ := hy'
      subst e1 e2
      exact hp
    · intro m
      refine ⟨_, List.mem_map.mpr ⟨_, List.mem_map.mpr ⟨_, m, rfl⟩, rfl⟩, ?_⟩
      show ((a == a) && ((b == b) && true)) = true
      simp
  unfold dIn
  rw [e]
def wOf (T : Ti) : Wt := T.flatMap fun p => [(p.1, p.2.1, p.2.2.1), (p.2.1, p.1, p.2.2.2)]
theorem mem_wOf {T : Ti} {a b : Nat} {w : Int} : (a, b, w) ∈ wOf T ↔ ∃ p ∈ T, (p.1 = a ∧ p.2.1 = b ∧ p.2.2.1 = w) ∨ (p.2.1 = a ∧ p.1 = b ∧ p.2.2.2 = w) := by
  unfold wOf
  rw [List.mem_flatMap]
  constructor
  · rintro ⟨p, m, h⟩
    rcases List.mem_cons.mp h with h | h
    · cases h; exact ⟨p, m, .inl ⟨rfl, rfl, rfl⟩⟩
    · have h := List.mem_singleton.mp h
      cases h; exact ⟨p, m, .inr ⟨rfl, rfl, rfl⟩⟩
  · rintro ⟨p, m, ⟨rfl, rfl, rfl⟩ | ⟨rfl, rfl, rfl⟩⟩
    · exact ⟨p, m, by simp⟩
    · exact ⟨p, m, by simp⟩
theorem OkT.uniq {n : Nat} {T : Ti} (ok : OkT n T) {p q : Nat × Nat × Int × Int} (hp : p ∈ T) (hq : q ∈ T) (h : ¬ unl p q) : p = q := by
  have := ok.pw
  clear ok
  induction T with
  | nil => cases hp
  | cons r T ih =>
    rw [List.pairwise_cons] at this
    have sym : ∀ {p q : Nat × Nat × Int × Int}, unl p q → unl q p := fun {p q} u => ⟨fun z => u.1 ⟨z.1.symm, z.2.symm⟩, fun z => u.2 ⟨z.2.symm, z.1.symm⟩⟩
    rcases List.mem_cons.mp hp with e1 | e1 <;> rcases List.mem_cons.mp hq with e2 | e2
    · rw [e1, e2]
    · subst e1; exact absurd (this.1 _ e2) h
    · subst e2; exact absurd (sym (this.1 _ e1)) h
    · exact ih e1 e2 this.2
theorem okW_of {n : Nat} {T : Ti} (ok : OkT n T) : OkW n (wOf T) where
  lt := fun a b w m => by
    obtain ⟨p, hp, ⟨rfl, rfl, rfl⟩ | ⟨rfl, rfl, rfl⟩⟩ := mem_wOf.mp m
    · have := ok.it p hp; exact ⟨this.1, this.2.1⟩
    · have := ok.it p hp; exact ⟨this.2.1, this.1⟩
  pos := fun a b w m => by
    obtain ⟨p, hp, ⟨rfl, rfl, rfl⟩ | ⟨rfl, rfl, rfl⟩⟩ := mem_wOf.mp m
    · exact (ok.it p hp).2.2.2.1
    · exact (ok.it p hp).2.2.2.2
  one := fun a b w v m k => by
    obtain ⟨p, hp, h1⟩ := mem_wOf.mp m
    obtain ⟨q, hq, h2⟩ := mem_wOf.mp k
    have e : p = q := ok.uniq hp hq fun u => by
      rcases h1 with ⟨rfl, rfl, rfl⟩ | ⟨rfl, rfl, rfl⟩ <;> rcases h2 with ⟨h3, h4, h5⟩ | ⟨h3, h4, h5⟩
      · exact u.1 ⟨h3.symm, h4.symm⟩
      · exact u.2 ⟨h3.symm, h4.symm⟩
      · exact u.2 ⟨h4.symm, h3.symm⟩
      · exact u.1 ⟨h4.symm, h3.symm⟩
    subst e
    have ne := (ok.it p hp).2.2.1
    rcases h1 with ⟨rfl, rfl, rfl⟩ | ⟨rfl, rfl, rfl⟩ <;> rcases h2 with ⟨h3, h4, h5⟩ | ⟨h3, h4, h5⟩ <;> first | exact h5 | omega
theorem wOf_sym {T : Ti} {a b : Nat} {w : Int} (m : (a, b, w) ∈ wOf T) : ∃ v, (b, a, v) ∈ wOf T := by
  obtain ⟨p, hp, ⟨rfl, rfl, rfl⟩ | ⟨rfl, rfl, rfl⟩⟩ := mem_wOf.mp m
  · exact ⟨_, mem_wOf.mpr ⟨p, hp, .inr ⟨rfl, rfl, rfl⟩⟩⟩
  · exact ⟨_, mem_wOf.mpr ⟨p, hp, .inl ⟨rfl, rfl, rfl⟩⟩⟩
def T4 (i j k l : Nat) : TgtD := tTupN 4 (tsCons (tName i) (tsCons (tName j) (tsCons (tName k) (tsCons (tName l) tsNil))))
theorem lt_b1 {n : Nat} {c o6 o7 : Option D} {x1 : D} : ∀ (V : Ti), (∀ p ∈ V, p.1 < n ∧ p.2.1 < n) → ∀ o2 o3 o4 o5, ∃ a2 a3 a4 a5, sFor (T4 2 3 4 5) look_ties_b1 (V.map tieD) [some (.int n), some x1, o2, o3, o4, o5, o6, o7] = .nx [some (.int n), some x1, a2, a3, a4, a5, o6, o7] := by
  intro V
  induction V with
  | nil => intro _ o2 o3 o4 o5; exact ⟨_, _, _, _, rfl⟩
  | cons p V ih =>
    intro s o2 o3 o4 o5
    obtain ⟨h1, h2⟩ := s p List.mem_cons_self
    obtain ⟨a2, a3, a4, a5, h⟩ := ih (fun q h => s q (List.mem_cons_of_mem _ h)) (some (.int p.1)) (some (.int p.2.1)) (some (.int p.2.2.1)) (some (.int p.2.2.2))
    refine ⟨a2, a3, a4, a5, ?_⟩
    rw [List.map_cons, sFor_cons (ρ1 := [some (.int n), some x1, some (.int p.1), some (.int p.2.1), some (.int p.2.2.1), some (.int p.2.2.2), o6, o7]) (by simp [tieD, T4])]
    have e : look_ties_b1 [some (.int n), some x1, some (.int p.1), some (.int p.2.1), some (.int p.2.2.1), some (.int p.2.2.2), o6, o7] = .nx [some (.int n), some x1, some (.int p.1), some (.int p.2.1), some (.int p.2.2.1), some (.int p.2.2.2), o6, o7] := by
      unfold look_ties_b1
      simp [house_ok h1, house_ok h2]
    rw [e]
    exact h
def ab (p : Nat × Nat × Int × Int) : Int × Int := (p.1, p.2.1)
def T42 (r i j k l : Nat) : TgtD := tTupN 2 (tsCons (tName r) (tsCons (T4 i j k l) tsNil))
def eti (p : (Nat × Nat × Int × Int) × Nat) : D := D.tup [.int (p.2 : Nat), tieD p.1]
theorem lt_b2 {n : Nat} {T : Ti} (ok : OkT n T) (hc : T.length < 1000) {x1 : D} : ∀ (V P : Ti) (k : Nat), T = P ++ V → ∀ o2 o3 o4 o5 o7, ∃ a2 a3 a4 a5 a7, sFor (T42 7 2 3 4 5) look_ties_b2 ((V.zipIdx k).map eti) [some (.int n), some x1, o2, o3, o4, o5, some (.lst ((P.map ab).map pD)), o7] = .nx [some (.int n), some x1, a2, a3, a4, a5, some (.lst ((T.map ab).map pD)), a7] := by
  intro V
  induction V with
  | nil => intro P k e o2 o3 o4 o5 o7; rw [List.append_nil] at e; subst e; exact ⟨_, _, _, _, _, rfl⟩
  | cons p V ih =>
    intro P k e o2 o3 o4 o5 o7
    have hm : p ∈ T := by rw [e]; simp
    have hp := ok.it p hm
    obtain ⟨a2, a3, a4, a5, a7, h⟩ := ih (P ++ [p]) (k + 1) (by rw [e]; simp) (some (.int p.1)) (some (.int p.2.1)) (some (.int p.2.2.1)) (some (.int p.2.2.2)) (some (.int k))
    refine ⟨a2, a3, a4, a5, a7, ?_⟩
    rw [List.zipIdx_cons, List.map_cons, sFor_cons (ρ1 := [some (.int n), some x1, some (.int p.1), some (.int p.2.1), some (.int p.2.2.1), some (.int p.2.2.2), some (.lst ((P.map ab).map pD)), some (.int k)]) (by simp [eti, tieD, T42, T4])]
    have pw := ok.pw
    rw [e, List.pairwise_append] at pw
    have nn : ∀ q ∈ P, unl q p := fun q hq => pw.2.2 q hq p List.mem_cons_self
    have e1 : ¬ ((p.1 : Int), (p.2.1 : Int)) ∈ P.map ab := fun z => by
      obtain ⟨q, hq, e⟩ := List.mem_map.mp z
      unfold ab at e
      simp only [Prod.mk.injEq] at e
      exact (nn q hq).1 ⟨by omega, by omega⟩
    have e2 : ¬ ((p.2.1 : Int), (p.1 : Int)) ∈ P.map ab := fun z => by
      obtain ⟨q, hq, e⟩ := List.mem_map.mp z
      unfold ab at e
      simp only [Prod.mk.injEq] at e
      exact (nn q hq).2 ⟨by omega, by omega⟩
    have e3 : ¬ ((p.1 : Int) = p.2.1) := by omega
    have hl : P.length < 1000000 := by have := congrArg List.length e; simp at this; omega
    have eb : look_ties_b2 [some (.int n), some x1, some (.int p.1), some (.int p.2.1), some (.int p.2.2.1), some (.int p.2.2.2), some (.lst ((P.map ab).map pD)), some (.int k)] = .nx [some (.int n), some x1, some (.int p.1), some (.int p.2.1), some (.int p.2.2.1), some (.int p.2.2.2), some (.lst (((P ++ [p]).map ab).map pD)), some (.int k)] := by
      unfold look_ties_b2
      have i1 := dIn_pairs (a := p.1) (b := p.2.1) (ps := P.map ab)
      have i2 := dIn_pairs (a := p.2.1) (b := p.1) (ps := P.map ab)
      rw [decide_eq_false e1] at i1
      rw [decide_eq_false e2] at i2
      generalize hX : (P.map ab).map pD = X at *
      have hX' : X.length < cap := by show X.length < 1000000; rw [← hX]; simpa using hl
      have : ((P ++ [p]).map ab).map pD = X ++ [pD (ab p)] := by rw [List.map_append, List.map_append, hX]; rfl
      rw [this]
      simp [e3, i1, i2, hX', pD, ab]
    rw [eb]
    exact h
theorem lt_b3 {n : Nat} {x1 : D} {o6 : Option D} : ∀ (V : Ti) (k : Nat), (∀ p ∈ V, 1 ≤ p.2.2.1 ∧ 1 ≤ p.2.2.2) → ∀ o2 o3 o4 o5 o7, ∃ a2 a3 a4 a5 a7, sFor (T42 7 2 3 4 5) look_ties_b3 ((V.zipIdx k).map eti) [some (.int n), some x1, o2, o3, o4, o5, o6, o7] = .nx [some (.int n), some x1, a2, a3, a4, a5, o6, a7] := by
  intro V
  induction V with
  | nil => intro k _ o2 o3 o4 o5 o7; exact ⟨_, _, _, _, _, rfl⟩
  | cons p V ih =>
    intro k s o2 o3 o4 o5 o7
    obtain ⟨h1, h2⟩ := s p List.mem_cons_self
    obtain ⟨a2, a3, a4, a5, a7, h⟩ := ih (k + 1) (fun q h => s q (List.mem_cons_of_mem _ h)) (some (.int p.1)) (some (.int p.2.1)) (some (.int p.2.2.1)) (some (.int p.2.2.2)) (some (.int k))
    refine ⟨a2, a3, a4, a5, a7, ?_⟩
    rw [List.zipIdx_cons, List.map_cons, sFor_cons (ρ1 := [some (.int n), some x1, some (.int p.1), some (.int p.2.1), some (.int p.2.2.1), some (.int p.2.2.2), o6, some (.int k)]) (by simp [eti, tieD, T42, T4])]
    have h1' : ¬ (p.2.2.1 < 1) := by omega
    have h2' : ¬ (p.2.2.2 < 1) := by omega
    have e : look_ties_b3 [some (.int n), some x1, some (.int p.1), some (.int p.2.1), some (.int p.2.2.1), some (.int p.2.2.2), o6, some (.int k)] = .nx [some (.int n), some x1, some (.int p.1), some (.int p.2.1), some (.int p.2.2.1), some (.int p.2.2.2), o6, some (.int k)] := by
      unfold look_ties_b3
      simp [h1', h2']
    rw [e]
    exact h
theorem ties_look {n : Nat} {T : Ti} (ok : OkT n T) (hc : T.length < 1000) : F_look_ties [.int n, tiD T] = .ok .non := by
  rw [R_look_ties, ev_look_ties]
  obtain ⟨a2, a3, a4, a5, h1⟩ := lt_b1 (n := n) (c := none) (o6 := none) (o7 := none) (x1 := tiD T) T (fun p h => ⟨(ok.it p h).1, (ok.it p h).2.1⟩) none none none none
  obtain ⟨b2, b3, b4, b5, b7, h2⟩ := lt_b2 ok hc (x1 := tiD T) T [] 0 rfl a2 a3 a4 a5 none
  obtain ⟨c2, c3, c4, c5, c7, h3⟩ := lt_b3 (n := n) (x1 := tiD T) (o6 := some (.lst ((T.map ab).map pD))) T 0 (fun p h => (ok.it p h).2.2.2) b2 b3 b4 b5 b7
  have he : enumD (T.map tieD) = (T.zipIdx 0).map eti := enumD_map
  have e0 : ((([] : Ti).map ab).map pD) = [] := rfl
  rw [e0] at h2
  simp only [T4, T42] at h1 h2 h3
  unfold tiD at *
  simp [he, h1, h2, h3, -List.map_map]
end G.T
/-! a net is made -/
namespace G.T
open PySem PySem.Spec L2
open PyProof.Rows hiding St
def mm (p : Nat × Nat × Int × Int) : Int × Int := (((min p.1 p.2.1 : Nat) : Int), ((max p.1 p.2.1 : Nat) : Int))
def wi (W : Wt) (i j : Int) : Int := (wt W i.toNat j.toNat).getD 0
def tiesD (T : Ti) : List D := (sortP (T.map mm)).map fun p => .tup [.int p.1, .int p.2, .int (wi (wOf T) p.1 p.2), .int (wi (wOf T) p.2 p.1)]
noncomputable def sumsD (n : Nat) (W : Wt) : D := .lst ((List.range n).map fun t => fd n (dst W t))
noncomputable def netD (n : Nat) (T : Ti) : D := .obj "Net" [("count", .int n), ("weights", wd (wOf T)), ("ties", .tup (tiesD T)), ("sums", sumsD n (wOf T))]
@[simp] theorem s_wc : ((Str.ofString "weights" : Str) = Str.ofString "count") = False := eq_false (by decide)
@[simp] theorem s_tc : ((Str.ofString "ties" : Str) = Str.ofString "count") = False := eq_false (by decide)
@[simp] theorem s_tw : ((Str.ofString "ties" : Str) = Str.ofString "weights") = False := eq_false (by decide)
@[simp] theorem s_sc : ((Str.ofString "sums" : Str) = Str.ofString "count") = False := eq_false (by decide)
@[simp] theorem s_sw : ((Str.ofString "sums" : Str) = Str.ofString "weights") = False := eq_false (by decide)
@[simp] theorem s_st : ((Str.ofString "sums" : Str) = Str.ofString "ties") = False := eq_false (by decide)
@[simp] theorem b_wc : ((Str.ofString "weights" : Str) == Str.ofString "count") = false := by decide
@[simp] theorem b_tc : ((Str.ofString "ties" : Str) == Str.ofString "count") = false := by decide
@[simp] theorem b_tw : ((Str.ofString "ties" : Str) == Str.ofString "weights") = false := by decide
@[simp] theorem b_sc : ((Str.ofString "sums" : Str) == Str.ofString "count") = false := by decide
@[simp] theorem b_sw : ((Str.ofString "sums" : Str) == Str.ofString "weights") = false := by decide
@[simp] theorem b_st : ((Str.ofString "sums" : Str) == Str.ofString "ties") = false := by decide
@[simp] theorem sFldIx_ap {i : Nat} {c f : Str} {j : Nat} {ek ev : Env → Rs D} {ρ : Env} : sFldIx i c f j ek ev ρ = sBind (ev ρ) ρ fun d => match ρ[i]? with
  | some (some (.obj c' fs)) => if c' = c then (match lookJ fs f j with
    | some o => sBind (ek ρ) ρ fun k => match fSetIx o k d with
      | some o' => .nx (ρ.set i (some (.obj c' (fs.set j (f, o')))))
      | none => .bad
    | none => .bad) else .bad
  | _ => .bad := rfl
@[simp] theorem sFldNew_ap {i : Nat} {c f : Str} {ev : Env → Rs D} {ρ : Env} : sFldNew i c f ev ρ = sBind (ev ρ) ρ fun d => match ρ[i]? with
  | some (some (.obj c' fs)) => if c' = c ∧ fs.lookup f = none ∧ fs.length < 1000 then .nx (ρ.set i (some (.obj c' (fs ++ [(f, d)])))) else .bad
  | _ => .bad := rfl
@[simp] theorem eFldN_ap {i : Nat} {c f : Str} {j : Nat} {ρ : Env} : eFldN i c f j ρ = match ρ[i]? with
  | some (some (.obj c' fs)) => if c' = c then (match lookJ fs f j with
    | some d => .ok d
    | none => .bad) else .bad
  | _ => .bad := rfl
def o2 (n : Nat) (W : Wt) : D := .obj "Net" [("count", .int n), ("weights", wd W)]
theorem wOf_app {P : Ti} {p : Nat × Nat × Int × Int} : wOf (P ++ [p]) = wOf P ++ [(p.1, p.2.1, p.2.2.1)] ++ [(p.2.1, p.1, p.2.2.2)] := by
  unfold wOf
  rw [List.flatMap_append]
  simp
theorem wOf_len {P : Ti} : (wOf P).length = 2 * P.length := by
  induction P with
  | nil => rfl
  | cons p P ih =>
    have : wOf (p :: P) = [(p.1, p.2.1, p.2.2.1), (p.2.1, p.1, p.2.2.2)] ++ wOf P := rfl
    rw [this, List.length_append, ih, List.length_cons]
    simp
    omega
theorem ni_b1 {n : Nat} {T : Ti} (ok : OkT n T) (hc : T.length < 1000) {x2 : D} {o8 : Option D} : ∀ (V P : Ti), T = P ++ V → ∀ a4 a5 a6 a7, ∃ b4 b5 b6 b7, sFor (T4 4 5 6 7) Net___init___b1 (V.map tieD) [some (o2 n (wOf P)), some (.int n), some x2, some (.lst ((P.map mm).map pD)), a4, a5, a6, a7, o8] = .nx [some (o2 n (wOf T)), some (.int n), some x2, some (.lst ((T.map mm).map pD)), b4, b5, b6, b7, o8] := by
  intro V
  induction V with
  | nil => intro P e a4 a5 a6 a7; rw [List.append_nil] at e; subst e; exact ⟨_, _, _, _, rfl⟩
  | cons p V ih =>
    intro P e a4 a5 a6 a7
    have hm : p ∈ T := by rw [e]; simp
    have hp := ok.it p hm
    obtain ⟨b4, b5, b6, b7, h⟩ := ih (P ++ [p]) (by rw [e]; simp) (some (.int p.1)) (some (.int p.2.1)) (some (.int p.2.2.1)) (some (.int p.2.2.2))
    refine ⟨b4, b5, b6, b7, ?_⟩
    rw [List.map_cons, sFor_cons (ρ1 := [some (o2 n (wOf P)), some (.int n), some x2, some (.lst ((P.map mm).map pD)), some (.int p.1), some (.int p.2.1), some (.int p.2.2.1), some (.int p.2.2.2), o8]) (by simp [tieD, T4])]
    have pw := ok.pw
    rw [e, List.pairwise_append] at pw
    have nn : ∀ q ∈ P, unl q p := fun q hq => pw.2.2 q hq p List.mem_cons_self
    have e1 : wt (wOf P) p.1 p.2.1 = none := by
      rw [wt_none]
      rintro ⟨a, b, w⟩ m ⟨h1, h2⟩
      obtain ⟨q, hq, ⟨rfl, rfl, rfl⟩ | ⟨rfl, rfl, rfl⟩⟩ := mem_wOf.mp m
      · exact (nn q hq).1 ⟨h1, h2⟩
      · exact (nn q hq).2 ⟨h2, h1⟩
    have e2 : wt (wOf P ++ [(p.1, p.2.1, p.2.2.1)]) p.2.1 p.1 = none := by
      rw [wt_none]
      rintro ⟨a, b, w⟩ m ⟨h1, h2⟩
      rcases List.mem_append.mp m with m | m
      · obtain ⟨q, hq, ⟨rfl, rfl, rfl⟩ | ⟨rfl, rfl, rfl⟩⟩ := mem_wOf.mp m
        · exact (nn q hq).2 ⟨h1, h2⟩
        · exact (nn q hq).1 ⟨h2, h1⟩
      · have m := List.mem_singleton.mp m
        cases m
        simp only at h1
        omega
    have hl : P.length < 1000 := by have := congrArg List.length e; simp at this; omega
    have s1 := set_wd (w := p.2.2.1) e1 (by show (wOf P).length < 1000000; rw [wOf_len]; omega)
    have s2 := set_wd (w := p.2.2.2) e2 (by show (wOf P ++ _).length < 1000000; rw [List.length_append, wOf_len]; simp; omega)
    rw [← wOf_app] at s2
    have eb : Net___init___b1 [some (o2 n (wOf P)), some (.int n), some x2, some (.lst ((P.map mm).map pD)), some (.int p.1), some (.int p.2.1), some (.int p.2.2.1), some (.int p.2.2.2), o8] = .nx [some (o2 n (wOf (P ++ [p]))), some (.int n), some x2, some (.lst (((P ++ [p]).map mm).map pD)), some (.int p.1), some (.int p.2.1), some (.int p.2.2.1), some (.int p.2.2.2), o8] := by
      unfold Net___init___b1
      generalize hX : (P.map mm).map pD = X at *
      have hX' : X.length < cap := by show X.length < 1000000; rw [← hX]; simp; omega
      have : ((P ++ [p]).map mm).map pD = X ++ [pD (mm p)] := by rw [List.map_append, List.map_append, hX]; rfl
      rw [this]
      have emn : (if (p.2.1 : Int) < p.1 then (p.2.1 : Int) else p.1) = ((min p.1 p.2.1 : Nat) : Int) := by split <;> omega
      have emx : (if (p.1 : Int) < p.2.1 then (p.2.1 : Int) else p.1) = ((max p.1 p.2.1 : Nat) : Int) := by split <;> omega
      simp [o2, lookJ, s1, s2, hX', pD, mm]
      constructor <;> (split <;> omega)
    rw [eb]
    exact h
theorem pD_pairD : pD = pairD := rfl
theorem net_ok {n : Nat} (h2 : 2 ≤ n) (h12 : n ≤ 12) {T : Ti} (ok : OkT n T) (hc : T.length < 1000) : F_Net___init__ [.int n, tiD T] = .ok (netD n T) := by
  rw [R_Net___init__, ev_Net___init__]
  have c1 : ¬ ((n : Int) < 2) := by omega
  have c2 : ¬ (12 < (n : Int)) := by omega
  have okw := okW_of ok
  obtain ⟨b4, b5, b6, b7, h⟩ := ni_b1 ok hc (x2 := tiD T) (o8 := none) T [] rfl none none none none
  have e0 : ((([] : Ti).map mm).map pD) = [] := rfl
  rw [e0, pD_pairD] at h
  have ew0 : wOf [] = [] := rfl
  rw [ew0] at h
  have hl1 : ∀ ρ4 ρ5, lcGo (tTupN 2 (tsCons (tName 4) (tsCons (tName 5) tsNil))) Net___init___c2 Net___init___e2 [some (o2 n (wOf T)), some (.int n), some (tiD T), some (.lst ((T.map mm).map pairD)), ρ4, ρ5, b6, b7, none] ((sortP (T.map mm)).map pairD) = .ok (tiesD T) := by
    intro ρ4 ρ5
    rw [lcGo_map (α := Unit) (fun _ => true) (fun p : Int × Int => .tup [.int p.1, .int p.2, .int (wi (wOf T) p.1 p.2), .int (wi (wOf T) p.2 p.1)]) (sortP (T.map mm)) fun p hp => ?_]
    · congr 2
      exact List.filter_eq_self.mpr fun _ _ => rfl
    · refine ⟨[some (o2 n (wOf T)), some (.int n), some (tiD T), some (.lst ((T.map mm).map pairD)), some (.int p.1), some (.int p.2), b6, b7, none], by simp [pairD], by simp [Net___init___c2], fun _ => ?_⟩
      have m := (sortP_perm (T.map mm)).mem_iff.mp hp
      obtain ⟨q, hq, rfl⟩ := List.mem_map.mp m
      have : ∃ (a b : Nat) (w v : Int), mm q = ((a : Int), (b : Int)) ∧ (a, b, w) ∈ wOf T ∧ (b, a, v) ∈ wOf T := by
        by_cases l : q.1 ≤ q.2.1
        · refine ⟨q.1, q.2.1, q.2.2.1, q.2.2.2, by simp only [mm, Prod.mk.injEq]; omega, mem_wOf.mpr ⟨q, hq, .inl ⟨rfl, rfl, rfl⟩⟩, mem_wOf.mpr ⟨q, hq, .inr ⟨rfl, rfl, rfl⟩⟩⟩
        · refine ⟨q.2.1, q.1, q.2.2.2, q.2.2.1, by simp only [mm, Prod.mk.injEq]; omega, mem_wOf.mpr ⟨q, hq, .inr ⟨rfl, rfl, rfl⟩⟩, mem_wOf.mpr ⟨q, hq, .inl ⟨rfl, rfl, rfl⟩⟩⟩
      obtain ⟨a, b, w, v, e, m1, m2⟩ := this
      rw [e]
      have d1 := wt_of okw.one m1
      have d2 := wt_of okw.one m2
      unfold Net___init___e2
      simp [o2, lookJ, dIx_wd d1, dIx_wd d2, wi, d1, d2]
  have hl2 : ∀ ρ4 ρ5 ρ8, lcGo (tName 8) Net___init___c3 Net___init___e3 [some (.obj "Net" [("count", .int n), ("weights", wd (wOf T)), ("ties", .tup (tiesD T))]), some (.int n), some (tiD T), some (.lst ((T.map mm).map pairD)), ρ4, ρ5, b6, b7, ρ8] (rgD 0 n) = .ok ((List.range n).map fun t => fd n (dst (wOf T) t)) := by
    intro ρ4 ρ5 ρ8
    rw [rgD_map, lcGo_map (α := Unit) (fun _ => true) (fun t => fd n (dst (wOf T) t)) (List.range n) fun t ht => ?_]
    · congr 2
      exact List.filter_eq_self.mpr fun _ _ => rfl
    · refine ⟨_, rfl, by simp [Net___init___c3], fun _ => ?_⟩
      have := sums_ok (n := n) (by omega) okw (t := t) (List.mem_range.mp ht)
      unfold Net___init___e3
      simp [lookJ, this]
  have hs : dSortP [.lst ((T.map mm).map pairD)] = .ok (.lst ((sortP (T.map mm)).map pairD)) := by
    unfold dSortP
    simp only [pairsOf_map]
  have hls : (sortP (T.map mm)).length < 1000000 := by rw [(sortP_perm _).length_eq]; simp; omega
  have hcap : (1000000 : Nat) = cap := rfl
  have hr : (-1000000 ≤ (n : Int) ∧ (n : Int) ≤ 1000000) := by omega
  have hnc : n < cap := by show n < 1000000; omega
  rw [hcap] at hls
  simp only [T4] at h
  have ewd : (D.dt []) = wd [] := rfl
  simp only [tiD, o2] at h hl1 hl2
  have htl := ties_look ok hc
  simp only [tiD] at htl
  simp [c1, c2, htl, tiD, ewd, h, hs, hls, eLc_ap, wipeE, hl1, hl2, hr, hnc, dTuple, -List.map_map]
  rfl
end G.T
/-! neighbours, next houses, least ways -/
namespace G.T
open PySem PySem.Spec L2
open PyProof.Rows hiding St
structure OkN (n : Nat) (T : Ti) : Prop where
  lo : 2 ≤ n
  hi : n ≤ 12
  t : OkT n T
  len : T.length < 1000
def ilN (xs : List Nat) : D := .lst (xs.map fun b => .int (b : Nat))
@[simp] theorem eMeth_ap {c m : Str} {g : List D → Rs D} {eo : Env → Rs D} {ea : Env → Rs (List D)} {ρ : Env} : eMeth c m g eo ea ρ = (eo ρ).bind fun d => match d with
  | .obj c' fs => if c' = c ∧ fs.lookup m = none then (ea ρ).bind fun ds => g (.obj c' fs :: ds) else .bad
  | _ => .bad := rfl
theorem dFld_count {n : Nat} {T : Ti} : dFld "Net" "count" (netD n T) = .ok (.int n) := rfl
theorem dFld_weights {n : Nat} {T : Ti} : dFld "Net" "weights" (netD n T) = .ok (wd (wOf T)) := rfl
theorem dFld_ties {n : Nat} {T : Ti} : dFld "Net" "ties" (netD n T) = .ok (.tup (tiesD T)) := rfl
theorem dFld_sums {n : Nat} {T : Ti} : dFld "Net" "sums" (netD n T) = .ok (sumsD n (wOf T)) := rfl
theorem meth_net {n : Nat} {T : Ti} {m : Str} {g : List D → Rs D} {ea : Env → Rs (List D)} {i : Nat} {ρ : Env} (h : ρ[i]? = some (some (netD n T))) (hm : m ≠ "count" ∧ m ≠ "weights" ∧ m ≠ "ties" ∧ m ≠ "sums") : eMeth "Net" m g (eVar i) ea ρ = (ea ρ).bind fun ds => g (netD n T :: ds) := by
  rw [eMeth_ap, eVar_ap, h]
  unfold netD
  simp only [Rs.bind_ok]
  rw [if_pos]
  refine ⟨by trivial, ?_⟩
  have b1 : (m == ("count" : Str)) = false := beq_eq_false_iff_ne.mpr hm.1
  have b2 : (m == ("weights" : Str)) = false := beq_eq_false_iff_ne.mpr hm.2.1
  have b3 : (m == ("ties" : Str)) = false := beq_eq_false_iff_ne.mpr hm.2.2.1
  have b4 : (m == ("sums" : Str)) = false := beq_eq_false_iff_ne.mpr hm.2.2.2
  simp only [List.lookup, b1, b2, b3, b4]
def nbs (n : Nat) (T : Ti) (a : Nat) : List Nat := (List.range n).filter fun b => (wt (wOf T) a b).isSome
theorem nbs_ok {n : Nat} {T : Ti} (ok : OkN n T) {a : Nat} (h : a < n) : F_Net_neighbours [netD n T, .int a] = .ok (ilN (nbs n T a)) := by
  rw [R_Net_neighbours, ev_Net_neighbours]
  have hh := ok.hi
  have hr : (-1000000 ≤ (n : Int) ∧ (n : Int) ≤ 1000000) := by omega
  have hnc : n < cap := by show n < 1000000; omega
  have hl : lcGo (tName 2) Net_neighbours_c1 Net_neighbours_e1 [some (netD n T), some (.int a), none] (rgD 0 n) = .ok ((nbs n T a).map fun b => D.int (b : Nat)) := by
    rw [rgD_map, lcGo_map (α := Unit) (fun b => (wt (wOf T) a b).isSome) (fun b => D.int (b : Nat)) (List.range n) fun b hb => ?_]
    · rfl
    · refine ⟨_, rfl, ?_, fun _ => by simp [Net_neighbours_e1]⟩
      unfold Net_neighbours_c1
      simp [dFld_weights, dIn_wd]
  simp [dFld_count, house_ok h, hr, hnc, eLc_ap, wipeE, hl]
  rfl
def stp (W : Wt) (f : Fa) (a b : Nat) : Bool := match wt W a b, f b, f a with
  | some w, some y, some x => decide (w + y = x)
  | _, _, _ => false
def gon (n : Nat) (T : Ti) (f : Fa) (a t : Nat) : List Nat := if a = t ∨ f a = none then [] else (List.range n).filter (stp (wOf T) f a)
theorem wOf_fin {n : Nat} {T : Ti} (ok : OkT n T) {t a b : Nat} {x : Int} (h : dst (wOf T) t a = some x) (hw : (wt (wOf T) a b).isSome = true) : ∃ y, dst (wOf T) t b = some y := by
  obtain ⟨w, e⟩ := Option.isSome_iff_exists.mp hw
  obtain ⟨v, m⟩ := wOf_sym (wt_mem e)
  obtain ⟨y, hy, _⟩ := (dst_di (okW_of ok).pos).cl _ _ _ _ m h
  exact ⟨y, hy⟩
/-- the way by the first that is told, k steps -/
inductive WayR (g : Nat → List Nat) (t : Nat) : Nat → List Nat → List Nat → Prop
  | done {xs : List Nat} : xs.getLast? = some t → WayR g t 0 xs xs
  | go {xs : List Nat} {a b : Nat} {r : List Nat} {k : Nat} : xs.getLast? = some a → a ≠ t → (g a).head? = some b → WayR g t k (xs ++ [b]) r → WayR g t (k + 1) xs r
theorem WayR.last {g : Nat → List Nat} {t k : Nat} {xs r : List Nat} (h : WayR g t k xs r) : r.getLast? = some t := by
  induction h with
  | done h => exact h
  | go _ _ _ _ ih => exact ih
theorem WayR.pre {g : Nat → List Nat} {t k : Nat} {xs r : List Nat} (h : WayR g t k xs r) : ∃ ys, r = xs ++ ys := by
  induction h with
  | done h => exact ⟨[], by simp⟩
  | go _ _ _ _ ih => obtain ⟨ys, e⟩ := ih; exact ⟨_, by rw [e, List.append_assoc]⟩
theorem WayR.len {g : Nat → List Nat} {t k : Nat} {xs r : List Nat} (h : WayR g t k xs r) : r.length = xs.length + k := by
  induction h with
  | done h => rfl
  | go _ _ _ _ ih => rw [ih]; simp; omega
/-- houses nearer than a -/
def rk (n : Nat) (d : Fa) (x : Int) : Nat := ((List.range n).filter fun b => match d b with | some y => decide (y < x) | none => false).length
theorem rk_le (n : Nat) (d : Fa) (x : Int) : rk n d x ≤ n := by
  have := List.length_filter_le (fun b => match d b with | some y => decide (y < x) | none => false) (List.range n)
  rw [List.length_range] at this
  exact this
theorem rk_lt {n : Nat} {d : Fa} {b : Nat} {x y : Int} (hb : b < n) (e : d b = some y) (l : y < x) : rk n d y < rk n d x := by
  refine filter_len_lt (fun c _ h => ?_) ⟨b, List.mem_range.mpr hb, by simp [e], by simp [e, l]⟩
  split at h
  · simp only [decide_eq_true_eq] at h ⊢; omega
  · cases h
theorem gon_head {n : Nat} {T : Ti} (ok : OkN n T) {a t : Nat} {x : Int} (ht : t < n) (hx : dst (wOf T) t a = some x) (ne : a ≠ t) : ∃ b y, (gon n T (dst (wOf T) t) a t).head? = some b ∧ b < n ∧ dst (wOf T) t b = some y ∧ y < x := by
  have okw := okW_of ok.t
  have hd := dst_di (t := t) okw.pos
  obtain ⟨c, w, y, m, hc, e⟩ := hd.by_ a x hx ne
  have hcn := (okw.lt _ _ _ m).2
  unfold gon
  rw [if_neg (by rw [hx]; simp [ne])]
  cases z : (List.range n).filter (stp (wOf T) (dst (wOf T) t) a) with
  | nil =>
    exfalso
    have : c ∈ (List.range n).filter (stp (wOf T) (dst (wOf T) t) a) := by
      rw [List.mem_filter]
      refine ⟨List.mem_range.mpr hcn, ?_⟩
      unfold stp
      rw [wt_of okw.one m, hc, hx]
      simp [e]
    rw [z] at this
    cases this
  | cons b bs =>
    have : b ∈ (List.range n).filter (stp (wOf T) (dst (wOf T) t) a) := by rw [z]; exact List.mem_cons_self
    obtain ⟨h1, h2⟩ := List.mem_filter.mp this
    unfold stp at h2
    split at h2
    · rename_i w' y' x' e1 e2 e3
      rw [hx] at e3
      cases e3
      have := okw.pos _ _ _ (wt_mem e1)
      simp only [decide_eq_true_eq] at h2
      exact ⟨b, y', rfl, List.mem_range.mp h1, e2, by omega⟩
    · cases h2
theorem way_ex {n : Nat} {T : Ti} (ok : OkN n T) {t : Nat} (ht : t < n) : ∀ (m : Nat) (a : Nat) (x : Int) (xs : List Nat), dst (wOf T) t a = some x → xs.getLast? = some a → rk n (dst (wOf T) t) x ≤ m → ∃ k r, k ≤ m ∧ WayR (fun a => gon n T (dst (wOf T) t) a t) t k xs r := by
  intro m
  induction m with
  | zero =>
    intro a x xs hx hl h
    by_cases c : a = t
    · subst c; exact ⟨0, xs, Nat.le_refl _, .done hl⟩
    · obtain ⟨b, y, e1, hb, e2, l⟩ := gon_head ok ht hx c
      have := rk_lt hb e2 l
      omega
  | succ m ih =>
    intro a x xs hx hl h
    by_cases c : a = t
    · subst c; exact ⟨0, xs, Nat.zero_le _, .done hl⟩
    · obtain ⟨b, y, e1, hb, e2, l⟩ := gon_head ok ht hx c
      have := rk_lt hb e2 l
      obtain ⟨k, r, hk, w⟩ := ih b y (xs ++ [b]) e2 (by simp) (by omega)
      exact ⟨k + 1, r, by omega, .go hl c e1 w⟩
end G.T
/-! the law's net by numbers -/
namespace G.T
open PySem PySem.Spec L2
open PyProof.Rows hiding St
def cellP (ns : List Int) (k : Nat) : Int := (ns[k]?).getD 0
theorem cell_ok (ns : List Int) (k : Nat) : F__law_cell_at [.kl (ns.map .int), .int k] = .ok (.int (cellP ns k)) := by
  rw [R__law_cell_at, ev__law_cell_at]
  simp [atI_nat']
  by_cases h : k < ns.length
  · simp [h, cellP]
  · simp [h, cellP]
def Sm (x : Int) : Prop := 0 ≤ x ∧ x < 2147483648
theorem mixed_ok (u : Int) (k : Nat) (hk : k < 1000) : ∃ x, Sm x ∧ F__law_mixed [.int u, .int k] = .ok (.int x) := by
  rw [R__law_mixed, ev__law_mixed]
  have b1 : Bd (u % 2147483629) 31 := by unfold Bd; omega
  have m1 : CMulW (u % 2147483629) 16807 := b1.mulOk (b := 15) (by unfold Bd; decide) (by decide)
  have bk : Bd (k : Int) 10 := by unfold Bd; omega
  have m2 : CMulW 69621 (k : Int) := Bd.mulOk (a := 17) (b := 10) (by unfold Bd; decide) bk (by decide)
  simp [m1, m2]
  generalize hn : (u % 2147483629 * 16807 + 69621 * (k : Int) + 11) % 2147483629 = n
  have b2 : Bd n 31 := by unfold Bd; omega
  have m3 := b2.mulOk b2 (by decide)
  have m4 : CMulW 48271 (k : Int) := Bd.mulOk (a := 17) (b := 10) (by unfold Bd; decide) bk (by decide)
  simp [m3, m4]
  generalize hm : (n * n + 48271 * (k : Int) + 7) % 2147483629 = m
  have b3 : Bd m 31 := by unfold Bd; omega
  have m5 := b3.mulOk b3 (by decide)
  simp [m5]
  unfold Sm
  omega
def inum (xs : List Int) : D := .lst (xs.map .int)
theorem num_loop (u : Int) (x1 : D) : ∀ (m k : Nat), k + m ≤ 1000 → ∀ (xs : List Int) (r : Int) (o4 : Option D), xs.length + m ≤ 1000 → (∀ x ∈ xs, Sm x) → ∃ ys r' o4', sFor (tName 4) _law_numbers_b1 ((List.range' k m).map fun i => D.int (i : Nat)) [some (.int u), some x1, some (inum xs), some (.int r), o4] = .nx [some (.int u), some x1, some (inum ys), some (.int r'), o4'] ∧ ys.length = xs.length + m ∧ ∀ x ∈ ys, Sm x := by
  intro m
  induction m with
  | zero => intro k _ xs r o4 _ h; exact ⟨xs, r, o4, rfl, rfl, h⟩
  | succ m ih =>
    intro k hk xs r o4 hl h
    have hx : xs.length < cap := by show _ < 1000000; omega
    have key : ∃ y r', Sm y ∧ _law_numbers_b1 [some (.int u), some x1, some (inum xs), some (.int r), some (.int k)] = .nx [some (.int u), some x1, some (inum (xs ++ [y])), some (.int r'), some (.int k)] := by
      by_cases c : 0 ≤ r
      · refine ⟨r % 1000003, r / 1000003, by unfold Sm; omega, ?_⟩
        unfold _law_numbers_b1 inum
        simp [c, hx]
      · obtain ⟨y, hy, e⟩ := mixed_ok u k (by omega)
        refine ⟨y / 64, r, by unfold Sm at *; omega, ?_⟩
        unfold _law_numbers_b1 inum
        simp [c, hx, e]
    obtain ⟨y, r1, hy, eb⟩ := key
    obtain ⟨ys, r', o4', e, e2, e3⟩ := ih (k + 1) (by omega) (xs ++ [y]) r1 (some (.int k)) (by simp; omega) (fun x hx => by
      rcases List.mem_append.mp hx with h1 | h1
      · exact h x h1
      · rw [List.mem_singleton.mp h1]; exact hy)
    refine ⟨ys, r', o4', ?_, by rw [e2]; simp; omega, e3⟩
    rw [List.range'_succ, List.map_cons, sFor_cons (ρ1 := [some (.int u), some x1, some (inum xs), some (.int r), some (.int k)]) (by simp), eb]
    exact e
theorem rgD_range' {n : Nat} : rgD 0 n = (List.range' 0 n).map fun i => D.int (i : Nat) := by rw [rgD_map, List.range_eq_range']
theorem numbers_ok (u : Int) (m : Nat) (hm : m ≤ 1000) : ∃ xs : List Int, xs.length = m ∧ (∀ x ∈ xs, Sm x) ∧ F__law_numbers [.int u, .int m] = .ok (inum xs) := by
  rw [R__law_numbers, ev__law_numbers]
  obtain ⟨ys, r', o4', e, e2, e3⟩ := num_loop u (.int m) m 0 (by omega) [] (u - 10 ^ 18) none (by simp; omega) (fun _ h => nomatch h)
  refine ⟨ys, by simpa using e2, e3, ?_⟩
  have p1 : CPow 10 18 := by decide
  have hr : (-1000000 ≤ (m : Int) ∧ (m : Int) ≤ 1000000) := by omega
  have e0 : inum [] = D.lst [] := rfl
  rw [e0] at e
  simp only [Int.reducePow] at e
  simp [p1, hr, rgD_range', e]
theorem inum_ix {xs : List Int} {k : Nat} (h : k < xs.length) : dIx (inum xs) (.int k) = .ok (.int (xs[k])) := by
  unfold inum
  rw [dIx_lst, atI_nat', List.getElem?_map, List.getElem?_eq_getElem h]
  rfl
theorem inum_i {xs : List Int} {k : Int} (h0 : 0 ≤ k) (h : k < xs.length) (hs : ∀ x ∈ xs, Sm x) : ∃ x, Sm x ∧ dIx (inum xs) (.int k) = .ok (.int x) := by
  obtain ⟨j, rfl⟩ := Int.eq_ofNat_of_zero_le h0
  exact ⟨_, hs _ (List.getElem_mem (by omega)), inum_ix (by omega)⟩
theorem weight_ok (number kind : Int) (h : Sm number) (hk : 0 ≤ kind ∧ kind < 6) : ∃ w, 1 ≤ w ∧ F__law_weight [.int number, .int kind] = .ok (.int w) := by
  rw [R__law_weight, ev__law_weight]
  have hb : Bd number 32 := by unfold Bd Sm at *; omega
  have p1 : CPow 10 28 := by decide
  have m1 : CMulW number (10 ^ 28) := hb.mulOk (b := 100) (by unfold Bd; decide) (by decide)
  simp only [Int.reducePow] at m1
  have hc : kind = 0 ∨ kind = 1 ∨ kind = 2 ∨ kind = 3 ∨ kind = 4 ∨ kind = 5 := by omega
  rcases hc with rfl | rfl | rfl | rfl | rfl | rfl
  · exact ⟨1, by omega, by simp⟩
  · exact ⟨1 + number % 2, by omega, by simp⟩
  · exact ⟨1 + number % 3, by omega, by simp⟩
  · exact ⟨1 + number % 9, by omega, by simp⟩
  · exact ⟨1 + number % 60, by omega, by simp⟩
  · unfold Sm at h
    exact ⟨1 + number * 10000000000000000000000000000, by omega, by simp [p1, m1]⟩
end G.T
/-! the law's net -/
namespace G.T
open PySem PySem.Spec L2
open PyProof.Rows hiding St
abbrev Tie := Nat × Nat × Int × Int
def oT : Option Tie → D
  | none => .non
  | some p => tieD p
theorem ix2 (a b i : Int) (h : 0 ≤ i ∧ i < 2) : ∃ w, (w = a ∨ w = b) ∧ atI [D.int a, D.int b] i = some (.int w) := by
  have : i = 0 ∨ i = 1 := by omega
  rcases this with rfl | rfl
  · exact ⟨a, .inl rfl, by simp⟩
  · exact ⟨b, .inr rfl, by simp⟩
theorem ix4 (a b c d i : Int) (h : 0 ≤ i ∧ i < 4) : ∃ w, atI [D.int a, D.int b, D.int c, D.int d] i = some (.int w) := by
  have : i = 0 ∨ i = 1 ∨ i = 2 ∨ i = 3 := by omega
  rcases this with rfl | rfl | rfl | rfl
  · exact ⟨a, by simp⟩
  · exact ⟨b, by simp⟩
  · exact ⟨c, by simp⟩
  · exact ⟨d, by simp⟩
theorem dIn_tup2 (k a b : Int) : ∃ c, dIn (.int k) (.tup [.int a, .int b]) = .ok (.bl c) := ⟨_, rfl⟩
theorem net_b1 {x0 x1 x2 o16 : Option D} {kind share : Int} {n u v : Nat} {nums : List Int} (hn : nums.length = 66) (hs : ∀ x ∈ nums, Sm x) (F : List (Option Tie)) (hF : F.length < 66) (o10 o11 o12 o13 o14 o15 : Option D) :
    ∃ o y10 y11 y12 y13 y14 y15, (∀ p, o = some p → p.1 = u ∧ p.2.1 = v ∧ 1 ≤ p.2.2.1 ∧ 1 ≤ p.2.2.2) ∧ _law_net_b1 [x0, x1, x2, some (.int kind), some (.int share), some (.int n), some (inum nums), some (.lst (F.map oT)), some (.int u), some (.int v), o10, o11, o12, o13, o14, o15, o16] = .nx [x0, x1, x2, some (.int kind), some (.int share), some (.int n), some (inum nums), some (.lst ((F ++ [o]).map oT)), some (.int u), some (.int v), y10, y11, y12, y13, y14, y15, o16] := by
  obtain ⟨num, hnum, e1⟩ := inum_i (xs := nums) (k := (F.length : Int)) (by omega) (by omega) hs
  have hS8 : Sm (num / 8) := by unfold Sm at *; omega
  obtain ⟨w1, hw1, e2⟩ := weight_ok (num / 8) (kind % 6) hS8 (by omega)
  have m1 : CMulW num 7919 := Bd.mulOk (a := 32) (b := 20) (by unfold Bd Sm at *; omega) (by unfold Bd; decide) (by decide)
  have hS9 : Sm (num * 7919 % 1000003 / 8) := by unfold Sm at *; omega
  obtain ⟨w2, hw2, e3⟩ := weight_ok (num * 7919 % 1000003 / 8) (kind % 6) hS9 (by omega)
  obtain ⟨w3, hw3, e4⟩ := ix2 w1 w2 (kind / 6 % 2) (by omega)
  obtain ⟨q, e5⟩ := ix4 8 5 3 2 (share % 4) (by omega)
  have hX : (F.map oT).length < cap := by show _ < 1000000; rw [List.length_map]; omega
  have hw3' : 1 ≤ w3 := by rcases hw3 with rfl | rfl <;> assumption
  have key : ∀ b : Bool, ∃ o : Option Tie, (∀ p, o = some p → p.1 = u ∧ p.2.1 = v ∧ 1 ≤ p.2.2.1 ∧ 1 ≤ p.2.2.2) ∧ oT o = if b then .tup [.int u, .int v, .int w1, .int w3] else .non := fun b => by
    cases b with
    | true => exact ⟨some (u, v, w1, w3), fun p hp => by cases hp; exact ⟨rfl, rfl, hw1, hw3'⟩, rfl⟩
    | false => exact ⟨none, (fun p hp => by cases hp), rfl⟩
  have happ : ∀ o, (F ++ [o]).map oT = F.map oT ++ [oT o] := fun o => by rw [List.map_append]; rfl
  have fin : ∀ b1 b2 : Bool, ∃ o : Option Tie, (∀ p, o = some p → p.1 = u ∧ p.2.1 = v ∧ 1 ≤ p.2.2.1 ∧ 1 ≤ p.2.2.2) ∧ oT o = if b1 || b2 then .tup [.int u, .int v, .int w1, .int w3] else .non := fun b1 b2 => key _
  obtain ⟨bb, e6⟩ := dIn_tup2 ((v : Int) - u) 1 ((n : Int) - 1)
  by_cases c : share / 4 % 2 = 1
  · obtain ⟨o, ho, eo⟩ := fin (decide (num % 8 < q)) bb
    refine ⟨o, some (.int num), some (.int w1), some (.int (num * 7919 % 1000003)), some (.int w3), some (.bl (decide (num % 8 < q))), some (.bl bb), ho, ?_⟩
    rw [happ, eo]
    generalize hG : F.map oT = X at *
    have hL : X.length = F.length := by rw [← hG, List.length_map]
    rw [← hL] at e1
    unfold _law_net_b1
    by_cases b1 : num % 8 < q <;> cases bb <;> simp [e1, e2, e3, e4, e5, m1, c, e6, hX, b1]
  · obtain ⟨o, ho, eo⟩ := fin (decide (num % 8 < q)) false
    refine ⟨o, some (.int num), some (.int w1), some (.int (num * 7919 % 1000003)), some (.int w3), some (.bl (decide (num % 8 < q))), some (.bl false), ho, ?_⟩
    rw [happ, eo]
    generalize hG : F.map oT = X at *
    have hL : X.length = F.length := by rw [← hG, List.length_map]
    rw [← hL] at e1
    unfold _law_net_b1
    by_cases b1 : num % 8 < q <;> simp [e1, e2, e3, e4, e5, m1, c, hX, b1]
end G.T
/-! the law's net: its loops -/
namespace G.T
open PySem PySem.Spec L2
open PyProof.Rows hiding St
def off (n : Nat) : Nat → Nat
  | 0 => 0
  | u + 1 => off n u + (n - 1 - u)
theorem off_le : ∀ n, n < 13 → ∀ u, u < n → off n u + (n - 1 - u) ≤ 66 := by decide
def lexT (p q : Tie) : Prop := p.1 < q.1 ∨ (p.1 = q.1 ∧ p.2.1 < q.2.1)
def unlx (p q : Tie) : Prop := unl p q ∧ lexT p q
structure Bf (n : Nat) (F : List (Option Tie)) (u v : Nat) : Prop where
  it : ∀ p, some p ∈ F → p.1 < p.2.1 ∧ p.2.1 < n ∧ 1 ≤ p.2.2.1 ∧ 1 ≤ p.2.2.2 ∧ (p.1 < u ∨ (p.1 = u ∧ p.2.1 < v))
  pw : (F.filterMap id).Pairwise unlx
theorem Bf.add {n : Nat} {F : List (Option Tie)} {u v : Nat} (h : Bf n F u v) (huv : u < v) (hv : v < n) {o : Option Tie} (ho : ∀ p, o = some p → p.1 = u ∧ p.2.1 = v ∧ 1 ≤ p.2.2.1 ∧ 1 ≤ p.2.2.2) : Bf n (F ++ [o]) u (v + 1) := by
  refine ⟨fun p hp => ?_, ?_⟩
  · rcases List.mem_append.mp hp with hp | hp
    · obtain ⟨a, b, c, d, e⟩ := h.it p hp
      exact ⟨a, b, c, d, by omega⟩
    · obtain ⟨a, b, c, d⟩ := ho p (List.mem_singleton.mp hp).symm
      exact ⟨by omega, by omega, c, d, by omega⟩
  · rw [List.filterMap_append]
    cases o with
    | none => simpa using h.pw
    | some p =>
      obtain ⟨a, b, c, d⟩ := ho p rfl
      have : ([some p].filterMap id : List Tie) = [p] := rfl
      rw [this, List.pairwise_append]
      refine ⟨h.pw, List.pairwise_singleton _ _, fun q hq r hr => ?_⟩
      rw [List.mem_singleton.mp hr]
      have hq' : some q ∈ F := by
        obtain ⟨x, hx, e⟩ := List.mem_filterMap.mp hq
        cases x with
        | none => cases e
        | some y => cases e; exact hx
      obtain ⟨a', b', _, _, e'⟩ := h.it q hq'
      exact ⟨⟨fun z => by omega, fun z => by omega⟩, by unfold lexT; omega⟩
theorem Bf.row {n : Nat} {F : List (Option Tie)} {u v w : Nat} (h : Bf n F u v) : Bf n F (u + 1) w :=
  ⟨fun p hp => by obtain ⟨a, b, c, d, e⟩ := h.it p hp; exact ⟨a, b, c, d, by omega⟩, h.pw⟩
theorem rgD_nat {a b : Nat} : rgD a b = (List.range' a (b - a)).map fun i => D.int (i : Nat) := by
  unfold rgD
  have : ((b : Int) - a).toNat = b - a := by omega
  rw [this, List.range'_eq_map_range, List.map_map]
  apply List.map_congr_left
  intro i _
  show D.int ((a : Int) + i) = D.int ((a + i : Nat) : Int)
  congr 1
section
variable {x0 x1 x2 o16 : Option D} {kind share : Int} {n : Nat} {nums : List Int}
def LE (x0 x1 x2 o16 : Option D) (kind share : Int) (n : Nat) (nums : List Int) (F : List (Option Tie)) (o8 o9 o10 o11 o12 o13 o14 o15 : Option D) : Env := [x0, x1, x2, some (.int kind), some (.int share), some (.int n), some (inum nums), some (.lst (F.map oT)), o8, o9, o10, o11, o12, o13, o14, o15, o16]
theorem net_row (hn : nums.length = 66) (hs : ∀ x ∈ nums, Sm x) {u : Nat} : ∀ (m v : Nat), u < v → v + m = n → ∀ (F : List (Option Tie)), F.length + m ≤ 66 → Bf n F u v → ∀ o9 o10 o11 o12 o13 o14 o15,
    ∃ F' p9 p10 p11 p12 p13 p14 p15, sFor (tName 9) _law_net_b1 ((List.range' v m).map fun i => D.int (i : Nat)) (LE x0 x1 x2 o16 kind share n nums F (some (.int u)) o9 o10 o11 o12 o13 o14 o15) = .nx (LE x0 x1 x2 o16 kind share n nums F' (some (.int u)) p9 p10 p11 p12 p13 p14 p15) ∧ F'.length = F.length + m ∧ Bf n F' u n := by
  intro m
  induction m with
  | zero => intro v _ e F _ h o9 o10 o11 o12 o13 o14 o15; rw [Nat.add_zero] at e; subst e; exact ⟨F, _, _, _, _, _, _, _, rfl, rfl, h⟩
  | succ m ih =>
    intro v huv e F hl h o9 o10 o11 o12 o13 o14 o15
    obtain ⟨o, y10, y11, y12, y13, y14, y15, ho, hb⟩ := net_b1 (x0 := x0) (x1 := x1) (x2 := x2) (o16 := o16) (kind := kind) (share := share) (n := n) (u := u) (v := v) hn hs F (by omega) o10 o11 o12 o13 o14 o15
    obtain ⟨F', p9, p10, p11, p12, p13, p14, p15, e1, e2, e3⟩ := ih (v + 1) (by omega) (by omega) (F ++ [o]) (by simp; omega) (h.add huv (by omega) ho) (some (.int v)) y10 y11 y12 y13 y14 y15
    refine ⟨F', p9, p10, p11, p12, p13, p14, p15, ?_, by rw [e2]; simp; omega, e3⟩
    rw [List.range'_succ, List.map_cons, sFor_cons (ρ1 := LE x0 x1 x2 o16 kind share n nums F (some (.int u)) (some (.int v)) o10 o11 o12 o13 o14 o15) (by simp [LE])]
    unfold LE at *
    rw [hb]
    exact e1
theorem iOf2_row {ρ : Env} {i b : Int} {L : List D} (h8 : ρ[8]? = some (some (.int i))) (h5 : ρ[5]? = some (some (.int b))) (h : dRange2 (.int (i + 1)) (.int b) = .ok L) : iOf2 dRange2 (v2 dPlus (eVar 8) (eC (.int 1))) (eVar 5) ρ = .ok L := by
  rw [iOf2_ap, v2_ap, eVar_ap, h8, eVar_ap, h5]
  exact h
theorem net_rows (hn : nums.length = 66) (hs : ∀ x ∈ nums, Sm x) (hh : n < 13) : ∀ (m u : Nat), u + m = n → ∀ (F : List (Option Tie)), F.length = off n u → Bf n F u 0 → ∀ o8 o9 o10 o11 o12 o13 o14 o15,
    ∃ F' p8 p9 p10 p11 p12 p13 p14 p15, sFor (tName 8) _law_net_b2 ((List.range' u m).map fun i => D.int (i : Nat)) (LE x0 x1 x2 o16 kind share n nums F o8 o9 o10 o11 o12 o13 o14 o15) = .nx (LE x0 x1 x2 o16 kind share n nums F' p8 p9 p10 p11 p12 p13 p14 p15) ∧ F'.length = off n n ∧ Bf n F' n 0 := by
  intro m
  induction m with
  | zero => intro u e F hl h o8 o9 o10 o11 o12 o13 o14 o15; rw [Nat.add_zero] at e; subst e; exact ⟨F, _, _, _, _, _, _, _, _, rfl, hl, h⟩
  | succ m ih =>
    intro u e F hl h o8 o9 o10 o11 o12 o13 o14 o15
    have hof := off_le n hh u (by omega)
    have h' : Bf n F u (u + 1) := ⟨fun p hp => by obtain ⟨a, b, c, d, e⟩ := h.it p hp; exact ⟨a, b, c, d, by omega⟩, h.pw⟩
    obtain ⟨F1, q9, q10, q11, q12, q13, q14, q15, e1, e2, e3⟩ := net_row (x0 := x0) (x1 := x1) (x2 := x2) (o16 := o16) (kind := kind) (share := share) hn hs (u := u) (n - (u + 1)) (u + 1) (by omega) (by omega) F (by omega) h' o9 o10 o11 o12 o13 o14 o15
    obtain ⟨F', p8, p9, p10, p11, p12, p13, p14, p15, e4, e5, e6⟩ := ih (u + 1) (by omega) F1 (by rw [e2, hl]; show _ = off n u + (n - 1 - u); omega) e3.row (some (.int u)) q9 q10 q11 q12 q13 q14 q15
    refine ⟨F', p8, p9, p10, p11, p12, p13, p14, p15, ?_, e5, e6⟩
    rw [List.range'_succ, List.map_cons, sFor_cons (ρ1 := LE x0 x1 x2 o16 kind share n nums F (some (.int u)) o9 o10 o11 o12 o13 o14 o15) (by simp [LE])]
    have hb : _law_net_b2 (LE x0 x1 x2 o16 kind share n nums F (some (.int u)) o9 o10 o11 o12 o13 o14 o15) = .nx (LE x0 x1 x2 o16 kind share n nums F1 (some (.int u)) q9 q10 q11 q12 q13 q14 q15) := by
      unfold _law_net_b2
      have hr : (-1000000 ≤ (u : Int) + 1 ∧ (u : Int) + 1 ≤ 1000000) := by omega
      have hr2 : (-1000000 ≤ (n : Int) ∧ (n : Int) ≤ 1000000) := by omega
      have hg : rgD ((u : Int) + 1) n = (List.range' (u + 1) (n - (u + 1))).map fun i => D.int (i : Nat) := by
        have e : ((u : Int) + 1) = ((u + 1 : Nat) : Int) := by omega
        rw [e]
        exact rgD_nat
      have hd : dRange2 (.int ((u : Int) + 1)) (.int n) = .ok ((List.range' (u + 1) (n - (u + 1))).map fun i => D.int (i : Nat)) := by
        rw [dRange2_int, if_pos ⟨hr, hr2⟩, hg]
      have hi : iOf2 dRange2 (v2 dPlus (eVar 8) (eC (.int 1))) (eVar 5) (LE x0 x1 x2 o16 kind share n nums F (some (.int u)) o9 o10 o11 o12 o13 o14 o15) = .ok ((List.range' (u + 1) (n - (u + 1))).map fun i => D.int (i : Nat)) := iOf2_row rfl rfl hd
      rw [sForI_ap, hi, sBind_ok, e1]
    rw [hb]
    exact e4
end
end G.T
namespace G.T
open PySem PySem.Spec L2
open PyProof.Rows hiding St
theorem law_net_ok (ns : List Int) (k : Nat) : ∃ n T, 2 ≤ n ∧ n ≤ 12 ∧ OkT n T ∧ T.length ≤ 66 ∧ (T.Pairwise lexT ∧ ∀ p ∈ T, p.1 < p.2.1) ∧ F__law_net [.kl (ns.map .int), .int k] = .ok (.tup [.int n, tiD T]) := by
  rw [R__law_net, ev__law_net]
  obtain ⟨hd, hd1, hd2, hd3⟩ := numbers_ok (cellP ns k) 3 (by decide)
  obtain ⟨first, kind, share, rfl⟩ : ∃ a b c, hd = [a, b, c] := by
    match hd, hd1 with
    | [a, b, c], _ => exact ⟨a, b, c, rfl⟩
  obtain ⟨nums, n1, n2, n3⟩ := numbers_ok (cellP ns (k + 1)) 66 (by decide)
  have hf : Sm first := hd2 _ (by simp)
  obtain ⟨cnt, hc, e1⟩ : ∃ n : Nat, (2 ≤ n ∧ n ≤ 12) ∧ atI [D.int (2 + first / 4 % 5), D.int (2 + first / 4 % 11)] (if first % 4 = 1 then 1 else 0) = some (.int n) := by
    by_cases c : first % 4 = 1
    · exact ⟨(2 + first / 4 % 11).toNat, by omega, by simp [c]; omega⟩
    · exact ⟨(2 + first / 4 % 5).toNat, by omega, by simp [c]; omega⟩
  have c0 : Bf cnt [] 0 0 := ⟨fun p hp => (nomatch hp), .nil⟩
  obtain ⟨F, p8, p9, p10, p11, p12, p13, p14, p15, e2, e3, e4⟩ := net_rows (x0 := some (.kl (ns.map .int))) (x1 := some (.int k)) (x2 := some (.int first)) (o16 := none) (kind := kind) (share := share) (nums := nums) n1 n2 (by omega) cnt 0 (by omega) [] rfl c0 none none none none none none none none
  have hFl : F.length ≤ 66 := by
    rw [e3]
    obtain ⟨u, rfl⟩ : ∃ u, cnt = u + 1 := ⟨cnt - 1, by omega⟩
    exact off_le (u + 1) (by omega) u (by omega)
  refine ⟨cnt, F.filterMap id, hc.1, hc.2, ⟨fun p hp => ?_, e4.pw.imp fun h => h.1⟩, Nat.le_trans (List.length_filterMap_le _ _) hFl, ⟨e4.pw.imp fun h => h.2, fun p hp => ?_⟩, ?_⟩
  · obtain ⟨x, hx, e⟩ := List.mem_filterMap.mp hp
    cases x with
    | none => cases e
    | some y => cases e; obtain ⟨a, b, c, d, _⟩ := e4.it _ hx; exact ⟨by omega, b, by omega, c, d⟩
  · obtain ⟨x, hx, e⟩ := List.mem_filterMap.mp hp
    cases x with
    | none => cases e
    | some y => cases e; exact (e4.it _ hx).1
  · have hr2 : (-1000000 ≤ (cnt : Int) ∧ (cnt : Int) ≤ 1000000) := by omega
    have ck := cell_ok ns k
    have ck1 := cell_ok ns (k + 1)
    rw [Int.natCast_add] at ck1
    have hF : ∀ o16, lcGo (tName 16) _law_net_c3 _law_net_e3 [some (.kl (ns.map .int)), some (.int k), some (.int first), some (.int kind), some (.int share), some (.int cnt), some (inum nums), some (.lst (F.map oT)), p8, p9, p10, p11, p12, p13, p14, p15, o16] (F.map oT) = .ok ((F.filterMap id).map tieD) := by
      intro o16
      rw [lcGo_map (α := Unit) (fun o : Option Tie => o.isSome) oT F fun o _ => ⟨_, rfl, by cases o <;> simp [_law_net_c3, oT, tieD], fun _ => by simp [_law_net_e3]⟩]
      congr 1
      generalize F = F
      induction F with
      | nil => rfl
      | cons o F ih => cases o with
        | none => simpa using ih
        | some p => simp [ih]; rfl
    have hl : F.length < cap := by show _ < 1000000; omega
    have hd3' : F__law_numbers [D.int (cellP ns k), D.int 3] = Rs.ok (inum [first, kind, share]) := hd3
    have n3' : F__law_numbers [D.int (cellP ns (k + 1)), D.int 66] = Rs.ok (inum nums) := n3
    have ei : inum [first, kind, share] = .lst [.int first, .int kind, .int share] := rfl
    rw [ei] at hd3'
    have hg : rgD 0 cnt = (List.range' 0 cnt).map fun i => D.int (i : Nat) := rgD_range'
    unfold LE at e2
    have e0 : (([] : List (Option Tie)).map oT) = [] := rfl
    rw [e0] at e2
    simp at ck1 e1
    simp [ck, ck1, hd3', n3', e1, hr2, hg, e2, eLc_ap, wipeE, hF, hl, tiD, -List.map_map]
end G.T
/-! ties handed in another way, weights, far, on -/
namespace G.T
open PySem PySem.Spec L2
open PyProof.Rows hiding St
def swp (p : Tie) : Tie := (p.2.1, p.1, p.2.2.2, p.2.2.1)
inductive Fl : Ti → Ti → Prop
  | nil : Fl [] []
  | cons {p q : Tie} {T Q : Ti} : q = p ∨ q = swp p → Fl T Q → Fl (p :: T) (q :: Q)
theorem Fl.len {T Q : Ti} (h : Fl T Q) : Q.length = T.length := by
  induction h with
  | nil => rfl
  | cons _ _ ih => simp [ih]
theorem Fl.mem {T Q : Ti} (h : Fl T Q) : ∀ q ∈ Q, ∃ p ∈ T, q = p ∨ q = swp p := by
  induction h with
  | nil => intro q h; cases h
  | cons c _ ih =>
    intro q h
    rcases List.mem_cons.mp h with rfl | h
    · exact ⟨_, List.mem_cons_self, c⟩
    · obtain ⟨p, hp, e⟩ := ih q h; exact ⟨p, List.mem_cons_of_mem _ hp, e⟩
theorem Fl.mem' {T Q : Ti} (h : Fl T Q) : ∀ p ∈ T, ∃ q ∈ Q, q = p ∨ q = swp p := by
  induction h with
  | nil => intro q h; cases h
  | cons c _ ih =>
    intro q h
    rcases List.mem_cons.mp h with rfl | h
    · exact ⟨_, List.mem_cons_self, c⟩
    · obtain ⟨p, hp, e⟩ := ih q h; exact ⟨p, List.mem_cons_of_mem _ hp, e⟩
theorem Fl.okT {n : Nat} {T Q : Ti} (h : Fl T Q) (ok : OkT n T) : OkT n Q where
  it := fun q hq => by
    obtain ⟨p, hp, e⟩ := h.mem q hq
    obtain ⟨a, b, c, d, f⟩ := ok.it p hp
    rcases e with rfl | rfl
    · exact ⟨a, b, c, d, f⟩
    · exact ⟨b, a, fun z => c z.symm, f, d⟩
  pw := by
    have pw := ok.pw
    clear ok
    induction h with
    | nil => exact .nil
    | @cons p q T Q c h ih =>
      rw [List.pairwise_cons] at pw ⊢
      refine ⟨fun r hr => ?_, ih pw.2⟩
      obtain ⟨s, hs, e⟩ := h.mem r hr
      have u := pw.1 s hs
      unfold unl swp at *
      rcases c with rfl | rfl <;> rcases e with rfl | rfl <;> (try simp only at u ⊢) <;> omega
theorem Fl.wOf {T Q : Ti} (h : Fl T Q) (x : Nat × Nat × Int) : x ∈ wOf Q ↔ x ∈ wOf T := by
  obtain ⟨a, b, w⟩ := x
  rw [mem_wOf, mem_wOf]
  constructor
  · rintro ⟨q, hq, e⟩
    obtain ⟨p, hp, rfl | rfl⟩ := h.mem q hq
    · exact ⟨q, hp, e⟩
    · exact ⟨p, hp, by unfold swp at e; simp only at e; omega⟩
  · rintro ⟨p, hp, e⟩
    obtain ⟨q, hq, rfl | rfl⟩ := h.mem' p hp
    · exact ⟨q, hq, e⟩
    · exact ⟨_, hq, by unfold swp; simp only; omega⟩
theorem unl_sym {p q : Tie} (u : unl p q) : unl q p := ⟨fun z => u.1 ⟨z.1.symm, z.2.symm⟩, fun z => u.2 ⟨z.2.symm, z.1.symm⟩⟩
theorem perm_okT {n : Nat} {T Q : Ti} (h : Q.Perm T) (ok : OkT n T) : OkT n Q := ⟨fun p hp => ok.it p (h.mem_iff.mp hp), (h.pairwise_iff unl_sym).mpr ok.pw⟩
theorem perm_wOf {T Q : Ti} (h : Q.Perm T) (x : Nat × Nat × Int) : x ∈ wOf Q ↔ x ∈ wOf T := by
  obtain ⟨a, b, w⟩ := x
  rw [mem_wOf, mem_wOf]
  constructor <;> rintro ⟨q, hq, e⟩
  · exact ⟨q, h.mem_iff.mp hq, e⟩
  · exact ⟨q, h.mem_iff.mpr hq, e⟩
theorem tu_body {x0 o8 : Option D} {nums : List Int} (hn : 3 ≤ nums.length) (acc : Ti) (ha : acc.length < 1000) (p : Tie) (k : Nat) : ∃ q, (q = p ∨ q = swp p) ∧ _law_turned_b1 [x0, some (inum nums), some (.lst (acc.map tieD)), some (.int k), some (.int p.1), some (.int p.2.1), some (.int p.2.2.1), some (.int p.2.2.2), o8] = .nx [x0, some (inum nums), some (.lst ((acc ++ [q]).map tieD)), some (.int k), some (.int p.1), some (.int p.2.1), some (.int p.2.2.1), some (.int p.2.2.2), o8] := by
  have hk : ((k : Int) % 3).toNat < nums.length := by omega
  have e1 : dIx (inum nums) (.int ((k : Int) % 3)) = .ok (.int (nums[((k : Int) % 3).toNat])) := by
    have := inum_ix hk
    rw [Int.toNat_of_nonneg (by omega)] at this
    exact this
  generalize nums[((k : Int) % 3).toNat] = m at e1
  have c2 : CShr m ((k : Int) % 16) := by unfold CShr; omega
  have hX : (acc.map tieD).length < cap := by show _ < 1000000; rw [List.length_map]; omega
  have happ : ∀ o, (acc ++ [o]).map tieD = acc.map tieD ++ [tieD o] := fun o => by rw [List.map_append]; rfl
  have hb : ∀ i : Int, (i = 0 ∨ i = 1) → ∃ q, (q = p ∨ q = swp p) ∧ atI [tieD p, tieD (swp p)] i = some (tieD q) := by
    rintro i (rfl | rfl)
    · exact ⟨p, .inl rfl, by simp⟩
    · exact ⟨swp p, .inr rfl, by simp⟩
  obtain ⟨q, hq, e2⟩ := hb (m / 2 ^ ((k : Int) % 16).toNat % 2) (by omega)
  refine ⟨q, hq, ?_⟩
  rw [happ]
  generalize acc.map tieD = X at *
  unfold _law_turned_b1
  have e3 : Builtin.bitAnd (m / 2 ^ ((k : Int) % 16).toNat) 1 = m / 2 ^ ((k : Int) % 16).toNat % 2 := bitAnd_m1 _
  simp only [tieD, swp] at e2
  simp [e1, dShr, dBand, c2, e3, e2, hX, tieD]
theorem tu_loop {x0 o8 : Option D} {nums : List Int} (hn : 3 ≤ nums.length) : ∀ (V : Ti) (k : Nat) (acc : Ti), acc.length + V.length ≤ 1000 → ∀ o3 o4 o5 o6 o7, ∃ Q p3 p4 p5 p6 p7, Fl V Q ∧ sFor (T42 3 4 5 6 7) _law_turned_b1 ((V.zipIdx k).map eti) [x0, some (inum nums), some (.lst (acc.map tieD)), o3, o4, o5, o6, o7, o8] = .nx [x0, some (inum nums), some (.lst ((acc ++ Q).map tieD)), p3, p4, p5, p6, p7, o8] := by
  intro V
  induction V with
  | nil => intro k acc _ o3 o4 o5 o6 o7; exact ⟨[], _, _, _, _, _, .nil, by rw [List.append_nil]; rfl⟩
  | cons p V ih =>
    intro k acc hl o3 o4 o5 o6 o7
    obtain ⟨q, hq, hb⟩ := tu_body (x0 := x0) (o8 := o8) hn acc (by simp at hl; omega) p k
    obtain ⟨Q, p3, p4, p5, p6, p7, f, e⟩ := ih (k + 1) (acc ++ [q]) (by simp at hl ⊢; omega) (some (.int k)) (some (.int p.1)) (some (.int p.2.1)) (some (.int p.2.2.1)) (some (.int p.2.2.2))
    refine ⟨q :: Q, p3, p4, p5, p6, p7, .cons hq f, ?_⟩
    rw [List.zipIdx_cons, List.map_cons, sFor_cons (ρ1 := [x0, some (inum nums), some (.lst (acc.map tieD)), some (.int k), some (.int p.1), some (.int p.2.1), some (.int p.2.2.1), some (.int p.2.2.2), o8]) (by simp [eti, tieD, T42, T4]), hb]
    rw [List.append_assoc] at e
    exact e
/-- the same ties, told another way -/
structure Alike (n : Nat) (T Q : Ti) : Prop where
  ok : OkT n Q
  len : Q.length = T.length
  mem : ∀ x, x ∈ wOf Q ↔ x ∈ wOf T
theorem cutD_take {xs : List D} {k : Nat} : cutD xs none (some (k : Int)) = xs.take k := by
  unfold cutD
  rw [HT.sIx_none, HT.sIx_nat]
  simp
theorem cutD_drop {xs : List D} {k : Nat} : cutD xs (some (k : Int)) none = xs.drop k := by
  unfold cutD
  rw [HT.sIx_none, HT.sIx_nat]
  by_cases h : k ≤ xs.length
  · rw [Nat.min_eq_left h]
    exact List.take_of_length_le (by rw [List.length_drop]; exact Nat.le_refl _)
  · rw [Nat.min_eq_right (by omega)]
    simp
    omega
theorem turned_ok {n : Nat} {T : Ti} (ok : OkT n T) (hl : T.length ≤ 66) {nums : List Int} (hn : nums.length = 4) (hs : ∀ x ∈ nums, Sm x) : ∃ Q, Alike n T Q ∧ F__law_turned [tiD T, inum nums] = .ok (tiD Q) := by
  rw [R__law_turned, ev__law_turned]
  obtain ⟨Q, p3, p4, p5, p6, p7, f, e⟩ := tu_loop (x0 := some (tiD T)) (o8 := none) (nums := nums) (by omega) T 0 [] (by simp; omega) none none none none none
  have e0 : (([] : Ti).map tieD) = [] := rfl
  rw [e0, List.nil_append] at e
  have hQ := f.len
  have e1 := inum_ix (xs := nums) (k := 3) (by omega)
  generalize nums[3] = m at e1
  have h0 : 0 ≤ m % ((Q.length : Int) + 1) ∧ m % ((Q.length : Int) + 1) < (Q.length : Int) + 1 := ⟨Int.emod_nonneg _ (by omega), Int.emod_lt_of_pos _ (by omega)⟩
  obtain ⟨j, hj⟩ := Int.eq_ofNat_of_zero_le h0.1
  rw [hj] at h0
  have hp : (Q.drop j ++ Q.take j).Perm Q := by
    have := List.perm_append_comm (l₁ := Q.drop j) (l₂ := Q.take j)
    rwa [List.take_append_drop] at this
  refine ⟨Q.drop j ++ Q.take j, ⟨perm_okT hp (f.okT ok), by rw [hp.length_eq, hQ], fun x => (perm_wOf hp x).trans (f.wOf x)⟩, ?_⟩
  have he : enumD (T.map tieD) = (T.zipIdx 0).map eti := enumD_map
  have hlen : ((Q.map tieD).length : Int) = Q.length := by rw [List.length_map]
  have cd : cutD (Q.map tieD) (some (j : Int)) none = (Q.drop j).map tieD := by rw [cutD_drop, List.map_drop]
  have ct : cutD (Q.map tieD) none (some (j : Int)) = (Q.take j).map tieD := by rw [cutD_take, List.map_take]
  have hcap : ((Q.drop j).map tieD).length + ((Q.take j).map tieD).length ≤ cap := by
    show _ ≤ 1000000
    rw [List.length_map, List.length_map, List.length_drop, List.length_take]
    omega
  have e1' : dIx (inum nums) (.int 3) = .ok (.int m) := e1
  simp only [T42, T4] at e
  unfold tiD at *
  rw [List.map_append]
  generalize hA : (Q.drop j).map tieD = A at *
  generalize hB : (Q.take j).map tieD = B at *
  have pos : (0 : Int) < (Q.length : Int) + 1 := by omega
  simp [he, e, e1', hj, cd, ct, hcap, pos, -List.map_map]
end G.T
/-! the law's weights, far, on, way, same -/
namespace G.T
open PySem PySem.Spec L2
open PyProof.Rows hiding St
def E4 (n : Nat) (W : Wt) (t : Nat) (f : Fa) (o4 o5 o6 o7 : Option D) : Env := [some (.int n), some (wd W), some (.int t), some (fd n f), o4, o5, o6, o7]
theorem rep_none {n : Nat} (h : n ≤ 1000) : dRep (.lst [.non]) (.int n) = .ok (fd n fun _ => none) := by
  have e : (List.replicate n [D.non]).flatten = (List.range n).map fun _ => D.non := by
    clear h
    induction n with
    | zero => rfl
    | succ n ih => rw [List.replicate_succ, List.flatten_cons, ih, List.range_succ_eq_map]; simp [Function.comp_def]
  have c : ([D.non] : List D).length * (n : Int).toNat ≤ cap := by show 1 * n ≤ 1000000; omega
  have h1 : (-1000000 : Int) ≤ (n : Int) := by omega
  have h2 : (n : Int) ≤ 1000000 := by omega
  show (if -1000000 ≤ (n : Int) ∧ (n : Int) ≤ 1000000 ∧ ([D.non] : List D).length * (n : Int).toNat ≤ cap then Rs.ok (D.lst (List.replicate (n : Int).toNat [D.non]).flatten) else Rs.bad) = _
  rw [if_pos ⟨h1, h2, c⟩, Int.toNat_natCast, e]
  rfl
theorem sorted_ext : ∀ {as bs : List Int}, as.Pairwise (· < ·) → bs.Pairwise (· < ·) → (∀ x, x ∈ as ↔ x ∈ bs) → as = bs
  | [], [], _, _, _ => rfl
  | [], b :: bs, _, _, h => by have := (h b).mpr List.mem_cons_self; cases this
  | a :: as, [], _, _, h => by have := (h a).mp List.mem_cons_self; cases this
  | a :: as, b :: bs, p, q, h => by
    rw [List.pairwise_cons] at p q
    have e : a = b := by
      rcases List.mem_cons.mp ((h a).mp List.mem_cons_self) with e | m
      · exact e
      · rcases List.mem_cons.mp ((h b).mpr List.mem_cons_self) with e2 | m2
        · exact e2.symm
        · have := q.1 a m; have := p.1 b m2; omega
    subst e
    rw [sorted_ext p.2 q.2 fun x => ⟨fun m => by
      rcases List.mem_cons.mp ((h x).mp (List.mem_cons_of_mem _ m)) with e | m2
      · subst e; have := p.1 x m; omega
      · exact m2, fun m => by
      rcases List.mem_cons.mp ((h x).mpr (List.mem_cons_of_mem _ m)) with e | m2
      · subst e; have := q.1 x m; omega
      · exact m2⟩]
theorem sortI_ext {L : List Int} (nd : L.Nodup) {bs : List Int} (hb : bs.Pairwise (· < ·)) (h : ∀ x, x ∈ L ↔ x ∈ bs) : sortI L = bs := by
  refine sorted_ext ?_ hb fun x => ((sortI_perm L).mem_iff).trans (h x)
  have p := sortI_sorted L
  have q : (sortI L).Pairwise (· ≠ ·) := (sortI_perm L).nodup_iff.mpr nd
  exact (p.and q).imp fun h => by omega
def keyNe (p q : Nat × Nat × Int) : Prop := ¬ (p.1 = q.1 ∧ p.2.1 = q.2.1)
theorem wOf_pw {n : Nat} {T : Ti} (ok : OkT n T) : (wOf T).Pairwise keyNe := by
  obtain ⟨it, pw⟩ := ok
  induction T with
  | nil => exact .nil
  | cons p T ih =>
    rw [List.pairwise_cons] at pw
    have ih := ih (fun q hq => it q (List.mem_cons_of_mem _ hq)) pw.2
    have hp := it p List.mem_cons_self
    have hu : ∀ x ∈ wOf T, ¬ (p.1 = x.1 ∧ p.2.1 = x.2.1) ∧ ¬ (p.2.1 = x.1 ∧ p.1 = x.2.1) := by
      rintro ⟨a, b, w⟩ m
      obtain ⟨q, hq, ⟨rfl, rfl, rfl⟩ | ⟨rfl, rfl, rfl⟩⟩ := mem_wOf.mp m
      · have u := pw.1 q hq; unfold unl at u; simp only; omega
      · have u := pw.1 q hq; unfold unl at u; simp only; omega
    show ((p.1, p.2.1, p.2.2.1) :: (p.2.1, p.1, p.2.2.2) :: wOf T).Pairwise keyNe
    rw [List.pairwise_cons, List.pairwise_cons]
    refine ⟨fun x hx => ?_, fun x hx => (hu x hx).2, ih⟩
    rcases List.mem_cons.mp hx with rfl | hx
    · unfold keyNe; simp only; omega
    · exact (hu x hx).1
def onp (W : Wt) (f : Fa) (a : Nat) (p : Nat × Nat × Int) : Bool := decide (p.1 = a) && stp W f a p.2.1
theorem dSortI_ilN {xs : List Nat} : dSortI [ilN xs] = .ok (.lst ((sortI (xs.map fun b => ((b : Nat) : Int))).map .int)) := by
  have : ilN xs = .lst ((xs.map fun b => ((b : Nat) : Int)).map .int) := by unfold ilN; rw [List.map_map]; rfl
  rw [this]
  show (match intsOf ((xs.map fun b => ((b : Nat) : Int)).map D.int) with | some ns => _ | none => _) = _
  rw [intsOf_map]
end G.T
/-! the law's targets, ways, and what it holds as right -/
namespace G.T
open PySem PySem.Spec L2
open PyProof.Rows hiding St
theorem isT_int : isTuple "int" = false := by decide
theorem isL_int : isList "int" = false := by decide
theorem isT_non : isTuple "NoneType" = false := by decide
theorem isL_non : isList "NoneType" = false := by decide
theorem isB_non : isBool "NoneType" = false := by decide
theorem isI_non : isInt "NoneType" = false := by decide
theorem isS_non : isStr "NoneType" = false := by decide
theorem isT_lst : isTuple "list" = false := by decide
theorem same_int (k : Nat) (i : Int) : Fr__law_same (k + 1) [.int i, .int i] = .ok (.bl true) := by
  rw [Rr__law_same, ev__law_same]
  simp [isT_int, isL_int]
theorem same_non (k : Nat) : Fr__law_same (k + 1) [.non, .non] = .ok (.bl true) := by
  rw [Rr__law_same, ev__law_same]
  simp [isT_non, isL_non, isB_non, isI_non, isS_non]
theorem same_lst {k : Nat} {xs : List D} (hn : xs.length < 1000) (h : ∀ x ∈ xs, Fr__law_same k [x, x] = .ok (.bl true)) : Fr__law_same (k + 1) [.lst xs, .lst xs] = .ok (.bl true) := by
  rw [Rr__law_same, ev__law_same]
  have hr : (-1000000 ≤ (xs.length : Int) ∧ (xs.length : Int) ≤ 1000000) := by omega
  have loop : ∀ (m j : Nat) (o2 : Option D), j + m = xs.length → ∃ p2, sFor (tName 2) (_law_same_b1 (Fr__law_same k)) ((List.range' j m).map fun i => D.int (i : Nat)) [some (.lst xs), some (.lst xs), o2] = .nx [some (.lst xs), some (.lst xs), p2] := by
    intro m
    induction m with
    | zero => intro j o2 _; exact ⟨_, rfl⟩
    | succ m ih =>
      intro j o2 e
      obtain ⟨p2, h2⟩ := ih (j + 1) (some (.int j)) (by omega)
      refine ⟨p2, ?_⟩
      rw [List.range'_succ, List.map_cons, sFor_cons (ρ1 := [some (.lst xs), some (.lst xs), some (.int j)]) (by simp)]
      have hx : dIx (.lst xs) (.int j) = .ok xs[j] := by rw [dIx_lst, atI_nat', List.getElem?_eq_getElem (by omega)]
      have hb : _law_same_b1 (Fr__law_same k) [some (.lst xs), some (.lst xs), some (.int j)] = .nx [some (.lst xs), some (.lst xs), some (.int j)] := by
        unfold _law_same_b1
        simp [-dIx_lst, hx, h xs[j] (List.getElem_mem _)]
      rw [hb]
      exact h2
  obtain ⟨p2, hl⟩ := loop xs.length 0 none (by omega)
  simp [isT_lst, hr, rgD_range', hl]
theorem same_ilN {xs : List Nat} (hn : xs.length < 1000) : F__law_same [ilN xs, ilN xs] = .ok (.bl true) := by
  refine same_lst (by rw [List.length_map]; exact hn) fun x hx => ?_
  obtain ⟨b, _, rfl⟩ := List.mem_map.mp hx
  exact same_int _ _
theorem same_oD (o : Option Int) : F__law_same [oD o, oD o] = .ok (.bl true) := by
  cases o with
  | none => exact same_non _
  | some i => exact same_int _ _
/-! ### the same ties in another order -/
theorem alike_wt {n : Nat} {T Q : Ti} (ok : OkT n T) (al : Alike n T Q) (a b : Nat) : wt (wOf Q) a b = wt (wOf T) a b := by
  cases h : wt (wOf T) a b with
  | some w => exact wt_of (okW_of al.ok).one ((al.mem _).mpr (wt_mem h))
  | none =>
    cases k : wt (wOf Q) a b with
    | none => rfl
    | some v => rw [wt_of (okW_of ok).one ((al.mem _).mp (wt_mem k))] at h; cases h
theorem alike_dst {n : Nat} {T Q : Ti} (ok : OkT n T) (al : Alike n T Q) (t : Nat) : dst (wOf Q) t = dst (wOf T) t :=
  (dst_di (okW_of al.ok).pos).uniq (okW_of al.ok).pos (dst_di (okW_of ok).pos) al.mem
theorem alike_gon {n : Nat} {T Q : Ti} (ok : OkT n T) (al : Alike n T Q) (f : Fa) (a t : Nat) : gon n Q f a t = gon n T f a t := by
  unfold gon
  split
  · rfl
  · apply List.filter_congr
    intro b _
    unfold stp
    rw [alike_wt ok al]
theorem gon_len (n : Nat) (T : Ti) (f : Fa) (a t : Nat) : (gon n T f a t).length ≤ n := by
  unfold gon
  split
  · exact Nat.zero_le _
  · have := List.length_filter_le (stp (wOf T) f a) (List.range n)
    rwa [List.length_range] at this
end G.T
/-! falls, nets without -/
namespace G.T
open PySem PySem.Spec L2
open PyProof.Rows hiding St
theorem isT_str : isTuple "str" = false := by decide
theorem isL_str : isList "str" = false := by decide
theorem isB_str : isBool "str" = false := by decide
theorem isI_str : isInt "str" = false := by decide
theorem isS_str : isStr "str" = true := by decide
theorem isT_tup : isTuple "tuple" = true := by decide
theorem isL_tup : isList "tuple" = false := by decide
theorem same_str (k : Nat) (s : Str) : Fr__law_same (k + 1) [.str s, .str s] = .ok (.bl true) := by
  rw [Rr__law_same, ev__law_same]
  simp [isT_str, isL_str, isB_str, isI_str, isS_str]
theorem same_tup {k : Nat} {xs : List D} (hn : xs.length < 1000) (h : ∀ x ∈ xs, Fr__law_same k [x, x] = .ok (.bl true)) : Fr__law_same (k + 1) [.tup xs, .tup xs] = .ok (.bl true) := by
  rw [Rr__law_same, ev__law_same]
  have hr : (-1000000 ≤ (xs.length : Int) ∧ (xs.length : Int) ≤ 1000000) := by omega
  have loop : ∀ (m j : Nat) (o2 : Option D), j + m = xs.length → ∃ p2, sFor (tName 2) (_law_same_b1 (Fr__law_same k)) ((List.range' j m).map fun i => D.int (i : Nat)) [some (.tup xs), some (.tup xs), o2] = .nx [some (.tup xs), some (.tup xs), p2] := by
    intro m
    induction m with
    | zero => intro j o2 _; exact ⟨_, rfl⟩
    | succ m ih =>
      intro j o2 e
      obtain ⟨p2, h2⟩ := ih (j + 1) (some (.int j)) (by omega)
      refine ⟨p2, ?_⟩
      rw [List.range'_succ, List.map_cons, sFor_cons (ρ1 := [some (.tup xs), some (.tup xs), some (.int j)]) (by simp)]
      have hx : dIx (.tup xs) (.int j) = .ok xs[j] := by rw [dIx_tup, atI_nat', List.getElem?_eq_getElem (by omega)]
      have hb : _law_same_b1 (Fr__law_same k) [some (.tup xs), some (.tup xs), some (.int j)] = .nx [some (.tup xs), some (.tup xs), some (.int j)] := by
        unfold _law_same_b1
        simp [-dIx_tup, hx, h xs[j] (List.getElem_mem _)]
      rw [hb]
      exact h2
  obtain ⟨p2, hl⟩ := loop xs.length 0 none (by omega)
  simp [isT_tup, isL_tup, hr, rgD_range', hl]
section
variable {n : Nat} {T Q : Ti}
/-! ### the ties as the net tells them -/
theorem mem_mm {p : Tie} (okn : p.1 ≠ p.2.1) {i j : Nat} : mm p = ((i : Int), (j : Int)) ↔ (p.1 = i ∧ p.2.1 = j ∧ i < j) ∨ (p.1 = j ∧ p.2.1 = i ∧ i < j) := by
  unfold mm
  rw [Prod.mk.injEq]
  omega
theorem ties_same (ok : OkT n T) (al : Alike n T Q) (hs : T.Pairwise lexT) (hl : ∀ p ∈ T, p.1 < p.2.1) : tiesD Q = T.map tieD := by
  have okQ := al.ok
  have one := (okW_of okQ).one
  -- the pairs
  have nd : ∀ {S : Ti}, OkT n S → (S.map mm).Nodup := fun {S} ok => by
    unfold List.Nodup
    rw [List.pairwise_map]
    refine ok.pw.imp_of_mem fun {p q} hp hq u e => ?_
    unfold mm at e
    unfold unl at u
    rw [Prod.mk.injEq] at e
    omega
  have mem : ∀ {S : Ti}, OkT n S → ∀ x, x ∈ S.map mm ↔ ∃ i j w, x = (((i : Nat) : Int), ((j : Nat) : Int)) ∧ i < j ∧ (i, j, w) ∈ wOf S := fun {S} ok x => by
    constructor
    · intro hx
      obtain ⟨p, hp, rfl⟩ := List.mem_map.mp hx
      have hne := (ok.it p hp).2.2.1
      by_cases c : p.1 < p.2.1
      · exact ⟨p.1, p.2.1, p.2.2.1, (mem_mm hne).mpr (.inl ⟨rfl, rfl, c⟩), c, mem_wOf.mpr ⟨p, hp, .inl ⟨rfl, rfl, rfl⟩⟩⟩
      · exact ⟨p.2.1, p.1, p.2.2.2, (mem_mm hne).mpr (.inr ⟨rfl, rfl, by omega⟩), by omega, mem_wOf.mpr ⟨p, hp, .inr ⟨rfl, rfl, rfl⟩⟩⟩
    · rintro ⟨i, j, w, rfl, hij, m⟩
      obtain ⟨p, hp, h⟩ := mem_wOf.mp m
      have hne := (ok.it p hp).2.2.1
      refine List.mem_map.mpr ⟨p, hp, (mem_mm hne).mpr ?_⟩
      rcases h with ⟨h1, h2, _⟩ | ⟨h1, h2, _⟩
      · exact .inl ⟨h1, h2, hij⟩
      · exact .inr ⟨h2, h1, hij⟩
  have perm : (Q.map mm).Perm (T.map mm) := (List.perm_ext_iff_of_nodup (nd okQ) (nd ok)).mpr fun x => by
    rw [mem okQ, mem ok]
    constructor <;> rintro ⟨i, j, w, e, h, m⟩
    · exact ⟨i, j, w, e, h, (al.mem _).mp m⟩
    · exact ⟨i, j, w, e, h, (al.mem _).mpr m⟩
  have sorted : sortP (Q.map mm) = T.map mm := by
    refine sortedP_same ((sortP_perm _).trans perm) (sortP_sorted _) ?_
    rw [List.pairwise_map]
    refine hs.imp_of_mem fun {p q} hp hq h => ?_
    have h1 := hl p hp
    have h2 := hl q hq
    unfold leP mm
    unfold lexT at h
    simp only
    omega
  unfold tiesD
  rw [sorted, List.map_map]
  apply List.map_congr_left
  intro p hp
  have h1 := hl p hp
  have m1 : (p.1, p.2.1, p.2.2.1) ∈ wOf Q := (al.mem _).mpr (mem_wOf.mpr ⟨p, hp, .inl ⟨rfl, rfl, rfl⟩⟩)
  have m2 : (p.2.1, p.1, p.2.2.2) ∈ wOf Q := (al.mem _).mpr (mem_wOf.mpr ⟨p, hp, .inr ⟨rfl, rfl, rfl⟩⟩)
  have e : mm p = ((p.1 : Int), (p.2.1 : Int)) := (mem_mm (by omega)).mpr (.inl ⟨rfl, rfl, h1⟩)
  simp only [Function.comp, e, wi, Int.toNat_natCast, wt_of one m1, wt_of one m2, Option.getD_some]
  rfl
theorem okD_ties (T : Ti) : okD 3 (.tup (T.map tieD)) = true := by
  show (T.map tieD).all (okD 2) = true
  rw [List.all_eq_true]
  intro x hx
  obtain ⟨p, _, rfl⟩ := List.mem_map.mp hx
  rfl
end
def inH (c i : Int) : Prop := 0 ≤ i ∧ i < c
instance {c i : Int} : Decidable (inH c i) := by unfold inH; infer_instance
theorem house_z {c i : Int} : F_look_house [.int c, .int i] = if inH c i then .ok .non else .exc "NoHouse" [("house", .int i)] := by
  rw [R_look_house, ev_look_house]
  unfold inH
  by_cases h1 : i < 0
  · have : ¬ (0 ≤ i ∧ i < c) := by omega
    simp [h1, this]
  · by_cases h2 : c ≤ i
    · have : ¬ (0 ≤ i ∧ i < c) := by omega
      simp [h1, h2, this]
    · have : (0 ≤ i ∧ i < c) := by omega
      simp [h1, h2, this]
def pL (p : Int × Int) : D := .lst [.int p.1, .int p.2]
def srt (q : Int × Int) : Int × Int := if q.1 ≤ q.2 then q else (q.2, q.1)
theorem sort_two {a b : Int} : sortI [a, b] = [(srt (a, b)).1, (srt (a, b)).2] := by
  have p := sortI_perm [a, b]
  have s := sortI_sorted [a, b]
  unfold srt
  by_cases h : a ≤ b
  · rw [if_pos h]
    exact (sorted_same p s (by simp [h]))
  · rw [if_neg h]
    exact (sorted_same (p.trans (List.Perm.swap _ _ _)) s (by simp; omega))
theorem sortT {a b : Int} : dSortIT [.tup [.int a, .int b]] = .ok (pL (srt (a, b))) := by
  show Rs.ok (D.lst ((sortI [a, b]).map .int)) = _
  rw [sort_two]
  rfl
inductive Fall
  | tie (a b : Int)
  | house (a : Int)
def Fall.d : Fall → D
  | .tie a b => .tup [.str "tie", .int a, .int b]
  | .house a => .tup [.str "house", .int a]
def Fall.hs : Fall → List Int
  | .tie a b => [a, b]
  | .house a => [a]
/-- what stays -/
def kp : Fall → Tie → Bool
  | .tie a b, p => !setEqI [(p.1 : Int), (p.2.1 : Int)] [a, b]
  | .house a, p => !decide (a = p.1 ∨ a = p.2.1)
def badF (n : Nat) : Fall → Option Int
  | .tie a b => if inH n a then (if inH n b then none else some b) else some a
  | .house a => if inH n a then none else some a
theorem badF_t {n : Nat} {a b : Int} : badF n (.tie a b) = if inH n a then (if inH n b then none else some b) else some a := rfl
theorem badF_h {n : Nat} {a : Int} : badF n (.house a) = if inH n a then none else some a := rfl
theorem kp_t {a b : Int} {p : Tie} : kp (.tie a b) p = !setEqI [(p.1 : Int), (p.2.1 : Int)] [a, b] := rfl
theorem kp_h {a : Int} {p : Tie} : kp (.house a) p = !decide (a = p.1 ∨ a = p.2.1) := rfl
theorem setEqI_two {x y a b : Int} (h : x ≠ y) : setEqI [x, y] [a, b] = true ↔ (a = x ∧ b = y) ∨ (a = y ∧ b = x) := by
  unfold setEqI
  rw [Bool.and_eq_true, decide_eq_true_eq, decide_eq_true_eq]
  simp
  omega
theorem srt_two {x y a b : Int} (h : x ≠ y) : srt (x, y) = srt (a, b) ↔ (a = x ∧ b = y) ∨ (a = y ∧ b = x) := by
  unfold srt
  simp only
  split <;> split <;> rw [Prod.mk.injEq] <;> omega
/-- no tie there -/
def noTie (T : Ti) : Fall → Prop
  | .tie a b => ∀ p ∈ T, ¬ (((p.1 : Int) = a ∧ (p.2.1 : Int) = b) ∨ ((p.1 : Int) = b ∧ (p.2.1 : Int) = a))
  | .house _ => False
section
variable {n : Nat} {T Q : Ti}
theorem kp_tie {a b : Int} {p : Tie} (h : p.1 ≠ p.2.1) : kp (.tie a b) p = true ↔ ¬ (((p.1 : Int) = a ∧ (p.2.1 : Int) = b) ∨ ((p.1 : Int) = b ∧ (p.2.1 : Int) = a)) := by
  rw [kp_t]
  have hne : (p.1 : Int) ≠ (p.2.1 : Int) := by omega
  have := setEqI_two (a := a) (b := b) hne
  rw [Bool.not_eq_true', Bool.eq_false_iff, ne_eq, this]
  omega
theorem noTie_all (ok : OkT n T) {a b : Int} : noTie T (.tie a b) ↔ ∀ p ∈ T, kp (.tie a b) p = true := by
  unfold noTie
  constructor
  · intro h p hp; exact (kp_tie (ok.it p hp).2.2.1).mpr (h p hp)
  · intro h p hp; exact (kp_tie (ok.it p hp).2.2.1).mp (h p hp)
theorem noTie_wt (ok : OkT n T) {a b : Nat} : noTie T (.tie a b) ↔ wt (wOf T) a b = none := by
  rw [wt_none]
  unfold noTie
  constructor
  · rintro h ⟨x, y, w⟩ m ⟨rfl, rfl⟩
    obtain ⟨p, hp, ⟨h1, h2, _⟩ | ⟨h1, h2, _⟩⟩ := mem_wOf.mp m
    · exact h p hp (.inl ⟨by show (p.1 : Int) = (x : Int); omega, by show (p.2.1 : Int) = (y : Int); omega⟩)
    · exact h p hp (.inr ⟨by show (p.1 : Int) = (y : Int); omega, by show (p.2.1 : Int) = (x : Int); omega⟩)
  · intro h p hp z
    rcases z with ⟨h1, h2⟩ | ⟨h1, h2⟩
    · exact h (p.1, p.2.1, p.2.2.1) (mem_wOf.mpr ⟨p, hp, .inl ⟨rfl, rfl, rfl⟩⟩) ⟨by simp only; omega, by simp only; omega⟩
    · exact h (p.2.1, p.1, p.2.2.2) (mem_wOf.mpr ⟨p, hp, .inr ⟨rfl, rfl, rfl⟩⟩) ⟨by simp only; omega, by simp only; omega⟩
theorem okT_filter (ok : OkT n T) (f : Tie → Bool) : OkT n (T.filter f) := ⟨fun p hp => ok.it p (List.mem_filter.mp hp).1, ok.pw.sublist List.filter_sublist⟩
/-- a net whose ties are told in this order -/
structure Told (n : Nat) (T Q : Ti) : Prop where
  lo : 2 ≤ n
  hi : n ≤ 12
  t : OkT n T
  al : Alike n T Q
  len : T.length < 400
  td : T.Pairwise lexT
  lt : ∀ p ∈ T, p.1 < p.2.1
theorem Told.ties (h : Told n T Q) : tiesD Q = T.map tieD := ties_same h.t h.al h.td h.lt
theorem Told.okN (h : Told n T Q) : OkN n Q := ⟨h.lo, h.hi, h.al.ok, by have := h.al.len; have := h.len; omega⟩
theorem Told.filter (h : Told n T Q) (f : Tie → Bool) : Told n (T.filter f) (T.filter f) := ⟨h.lo, h.hi, okT_filter h.t f, ⟨okT_filter h.t f, rfl, fun x => Iff.rfl⟩, Nat.lt_of_le_of_lt (List.length_filter_le _ _) h.len, h.td.sublist List.filter_sublist, fun p hp => h.lt p (List.mem_filter.mp hp).1⟩
theorem cutF {f : Fall} : dCut f.d (some 1) none = .ok (.tup (f.hs.map .int)) := by cases f <;> rfl
theorem cut2t {p : Tie} : dCut (tieD p) none (some 2) = .ok (.tup [.int p.1, .int p.2.1]) := rfl
theorem nTie : ¬ (("house" : Str) = "tie") := by decide
theorem b1_fall {i : Int} {x1 : D} : Net_look_fall_b1 [some (netD n Q), some x1, some (.int i)] = if inH n i then .nx [some (netD n Q), some x1, some (.int i)] else .exc "NoHouse" [("house", .int i)] [some (netD n Q), some x1, some (.int i)] := by
  have h := house_z (c := n) (i := i)
  unfold Net_look_fall_b1
  by_cases c : inH n i
  · rw [if_pos c] at h ⊢; simp [dFld_count, h]
  · rw [if_neg c] at h ⊢; simp [dFld_count, h]
theorem dNotIn_wd {W : Wt} {a b : Nat} : dNotIn (.tup [.int a, .int b]) (wd W) = .ok (.bl (!(wt W a b).isSome)) := by
  have : inB (.tup [.int a, .int b]) (wd W) = some (wt W a b).isSome := by
    show ((dLook (wd W) (prD a b)).map Option.isSome) = _
    rw [dLook_wd]
    cases wt W a b <;> rfl
  unfold dNotIn
  rw [this]
theorem look_fall (f : Fall) : (∀ i, badF n f = some i → F_Net_look_fall [netD n Q, f.d] = .exc "NoHouse" [("house", .int i)]) ∧
    (badF n f = none → OkT n Q → (noTie Q f → F_Net_look_fall [netD n Q, f.d] = .exc "NoTie" [("place", .non)]) ∧ (¬ noTie Q f → F_Net_look_fall [netD n Q, f.d] = .ok .non)) := by
  have hc := cutF (f := f)
  cases f with
  | house a =>
    have hit : iOf dItems (eSl dCut (eVar 1) (oSome (eC (.int 1))) oNone) [some (netD n Q), some (Fall.house a).d, none] = .ok [.int a] := by simp [hc, Fall.hs]
    refine ⟨fun i h => ?_, fun h ok => ⟨fun z => z.elim, fun _ => ?_⟩⟩
    · rw [badF_h] at h
      by_cases c : inH n a
      · rw [if_pos c] at h; cases h
      · rw [if_neg c] at h; cases h
        rw [R_Net_look_fall, ev_Net_look_fall, sSeq_ap, sForI_ap, hit, sBind_ok, sFor_cons (ρ1 := [some (netD n Q), some (Fall.house a).d, some (.int a)]) (by simp), b1_fall, if_neg c]
        rfl
    · rw [badF_h] at h
      have c : inH n a := by by_cases c : inH n a; exact c; rw [if_neg c] at h; cases h
      have x0 : dIx (Fall.house a).d (.int 0) = .ok (.str "house") := rfl
      rw [R_Net_look_fall, ev_Net_look_fall, sSeq_ap, sForI_ap, hit, sBind_ok, sFor_cons (ρ1 := [some (netD n Q), some (Fall.house a).d, some (.int a)]) (by simp), b1_fall, if_pos c]
      simp [x0, nTie]
  | tie a b =>
    have hit : iOf dItems (eSl dCut (eVar 1) (oSome (eC (.int 1))) oNone) [some (netD n Q), some (Fall.tie a b).d, none] = .ok [.int a, .int b] := by simp [hc, Fall.hs]
    refine ⟨fun i h => ?_, fun h ok => ?_⟩
    · rw [badF_t] at h
      by_cases c : inH n a
      · rw [if_pos c] at h
        by_cases c2 : inH n b
        · rw [if_pos c2] at h; cases h
        · rw [if_neg c2] at h; cases h
          rw [R_Net_look_fall, ev_Net_look_fall, sSeq_ap, sForI_ap, hit, sBind_ok, sFor_cons (ρ1 := [some (netD n Q), some (Fall.tie a b).d, some (.int a)]) (by simp), b1_fall, if_pos c]
          simp only
          rw [sFor_cons (ρ1 := [some (netD n Q), some (Fall.tie a b).d, some (.int b)]) (by simp), b1_fall, if_neg c2]
          rfl
      · rw [if_neg c] at h; cases h
        rw [R_Net_look_fall, ev_Net_look_fall, sSeq_ap, sForI_ap, hit, sBind_ok, sFor_cons (ρ1 := [some (netD n Q), some (Fall.tie a b).d, some (.int a)]) (by simp), b1_fall, if_neg c]
        rfl
    · rw [badF_t] at h
      have c : inH n a := by by_cases c : inH n a; exact c; rw [if_neg c] at h; cases h
      rw [if_pos c] at h
      have c2 : inH n b := by by_cases c2 : inH n b; exact c2; rw [if_neg c2] at h; cases h
      have cc := c
      have cc2 := c2
      unfold inH at c c2
      obtain ⟨a, rfl⟩ := Int.eq_ofNat_of_zero_le c.1
      obtain ⟨b, rfl⟩ := Int.eq_ofNat_of_zero_le c2.1
      have x0 : dIx (Fall.tie a b).d (.int 0) = .ok (.str "tie") := rfl
      have x1 : dIx (Fall.tie a b).d (.int 1) = .ok (.int a) := rfl
      have x2 : dIx (Fall.tie a b).d (.int 2) = .ok (.int b) := rfl
      have hw := noTie_wt ok (a := a) (b := b)
      constructor
      · intro z
        have hz := hw.mp z
        rw [R_Net_look_fall, ev_Net_look_fall, sSeq_ap, sForI_ap, hit, sBind_ok, sFor_cons (ρ1 := [some (netD n Q), some (Fall.tie a b).d, some (.int a)]) (by simp), b1_fall, if_pos cc]
        simp only
        rw [sFor_cons (ρ1 := [some (netD n Q), some (Fall.tie a b).d, some (.int b)]) (by simp), b1_fall, if_pos cc2]
        simp [x0, x1, x2, dFld_weights, dNotIn_wd, hz]
      · intro z
        have hz : (wt (wOf Q) a b).isSome = true := by
          cases q : wt (wOf Q) a b with
          | none => exact absurd (hw.mpr q) z
          | some w => rfl
        rw [R_Net_look_fall, ev_Net_look_fall, sSeq_ap, sForI_ap, hit, sBind_ok, sFor_cons (ρ1 := [some (netD n Q), some (Fall.tie a b).d, some (.int a)]) (by simp), b1_fall, if_pos cc]
        simp only
        rw [sFor_cons (ρ1 := [some (netD n Q), some (Fall.tie a b).d, some (.int b)]) (by simp), b1_fall, if_pos cc2]
        simp [x0, x1, x2, dFld_weights, dNotIn_wd, hz]
theorem noTie_al (h : Told n T Q) {f : Fall} (hb : badF n f = none) : noTie Q f ↔ noTie T f := by
  cases f with
  | house a => exact Iff.rfl
  | tie a b =>
    rw [badF_t] at hb
    have c : inH n a := by by_cases c : inH n a; exact c; rw [if_neg c] at hb; cases hb
    rw [if_pos c] at hb
    have c2 : inH n b := by by_cases c2 : inH n b; exact c2; rw [if_neg c2] at hb; cases hb
    unfold inH at c c2
    obtain ⟨a, rfl⟩ := Int.eq_ofNat_of_zero_le c.1
    obtain ⟨b, rfl⟩ := Int.eq_ofNat_of_zero_le c2.1
    rw [noTie_wt h.al.ok, noTie_wt h.t, alike_wt h.t h.al]
theorem dNotIn_two {a x y : Int} : dNotIn (.int a) (.tup [.int x, .int y]) = .ok (.bl (!decide (a = x ∨ a = y))) := by
  have : inB (.int a) (.tup [.int x, .int y]) = some (decide (a = x ∨ a = y)) := by
    show some ((x == a) || ((y == a) || false)) = _
    congr 1
    rw [Bool.eq_iff_iff]
    simp
    omega
  unfold dNotIn
  rw [this]
theorem without_c {f : Fall} {x0 : D} {p : Tie} : (∀ a b, f = .tie a b → Net_without_c1 [some x0, some f.d, some (tieD p)] = .ok (kp f p)) ∧ (∀ a, f = .house a → Net_without_c2 [some x0, some f.d, some (tieD p)] = .ok (kp f p)) := by
  have hc := cutF (f := f)
  constructor
  · rintro a b rfl
    have t1 : tupI (.tup [.int (p.1 : Int), .int (p.2.1 : Int)]) = some [(p.1 : Int), (p.2.1 : Int)] := rfl
    have t2 : tupI (.tup [.int a, .int b]) = some [a, b] := rfl
    have t2' : (Fall.tie a b).hs.map D.int = [.int a, .int b] := rfl
    rw [t2'] at hc
    rw [kp_t]
    unfold Net_without_c1
    have hv : v2S true (eSl dCut (eVar 2) oNone (oSome (eC (.int 2)))) (eSl dCut (eVar 1) (oSome (eC (.int 1))) oNone) [some x0, some (Fall.tie a b).d, some (tieD p)] = .ok (.bl (!setEqI [(p.1 : Int), (p.2.1 : Int)] [a, b])) := by
      unfold v2S
      simp [cut2t, hc, t1, t2]
    simp [hv]
  · rintro a rfl
    have x1 : dIx (Fall.house a).d (.int 1) = .ok (.int a) := rfl
    rw [kp_h]
    unfold Net_without_c2
    simp [x1, cut2t, dNotIn_two]
theorem without_ok (h : Told n T Q) {f : Fall} (hb : badF n f = none) (hn : ¬ noTie T f) : F_Net_without [netD n Q, f.d] = .ok (netD n (T.filter (kp f))) := by
  have hl := (look_fall (Q := Q) f).2 hb h.al.ok |>.2 fun z => hn ((noTie_al h hb).mp z)
  have hm : eMeth "Net" "look_fall" F_Net_look_fall (eVar 0) (aCons (eVar 1) aNil) [some (netD n Q), some f.d, none] = .ok .non := by
    rw [meth_net (n := n) (T := Q) rfl (by decide)]
    simp [hl]
  have hk := net_ok h.lo h.hi (h.filter (kp f)).t (by have := (h.filter (kp f)).len; omega)
  have hcap : (T.map tieD).length < cap := by show _ < 1000000; rw [List.length_map]; have := h.len; omega
  have htd : tiD (T.filter (kp f)) = .lst ((T.filter (kp f)).map tieD) := rfl
  rw [htd] at hk
  rw [R_Net_without, ev_Net_without]
  cases f with
  | tie a b =>
    have x0 : dIx (Fall.tie a b).d (.int 0) = .ok (.str "tie") := rfl
    have hlc : lcGo (tName 2) Net_without_c1 Net_without_e1 [some (netD n Q), some (Fall.tie a b).d, none] (T.map tieD) = .ok ((T.filter (kp (.tie a b))).map tieD) := by
      rw [lcGo_map (α := Unit) (kp (.tie a b)) tieD T fun p hp => ?_]
      exact ⟨_, rfl, without_c.1 a b rfl, fun _ => by simp [Net_without_e1]⟩
    generalize (T.filter (kp (.tie a b))).map tieD = X at *
    have ht := h.ties
    generalize T.map tieD = Y at *
    simp [-eMeth_ap, hm, x0, dFld_ties, dFld_count, ht, eLc_ap, wipeE, hlc, hcap, hk]
  | house a =>
    have x0 : dIx (Fall.house a).d (.int 0) = .ok (.str "house") := rfl
    have hlc : lcGo (tName 2) Net_without_c2 Net_without_e2 [some (netD n Q), some (Fall.house a).d, none] (T.map tieD) = .ok ((T.filter (kp (.house a))).map tieD) := by
      rw [lcGo_map (α := Unit) (kp (.house a)) tieD T fun p hp => ?_]
      exact ⟨_, rfl, without_c.2 a rfl, fun _ => by simp [Net_without_e2]⟩
    generalize (T.filter (kp (.house a))).map tieD = X at *
    have ht := h.ties
    generalize T.map tieD = Y at *
    simp [-eMeth_ap, hm, x0, nTie, dFld_ties, dFld_count, ht, eLc_ap, wipeE, hlc, hcap, hk]
theorem without_exc {c : Str} {fs : List (Str × D)} {f : Fall} (h : F_Net_look_fall [netD n Q, f.d] = .exc c fs) : F_Net_without [netD n Q, f.d] = .exc c fs := by
  have hm : eMeth "Net" "look_fall" F_Net_look_fall (eVar 0) (aCons (eVar 1) aNil) [some (netD n Q), some f.d, none] = .exc c fs := by
    rw [meth_net (n := n) (T := Q) rfl (by decide)]
    simp [h]
  rw [R_Net_without, ev_Net_without]
  simp [-eMeth_ap, hm]
theorem dNe_pL {x y : Int × Int} : dNe (pL x) (pL y) = .ok (.bl (!decide (x = y))) := by
  have : eqB (pL x) (pL y) = some (decide (x = y)) := by
    show some ((x.1 == y.1) && ((x.2 == y.2) && true)) = _
    congr 1
    rw [Bool.eq_iff_iff]
    simp [Prod.ext_iff]
  show (match eqB (pL x) (pL y) with | some b => Rs.ok (D.bl !b) | none => .bad) = _
  rw [this]
end
end G.T
/-! due, asked, alike -/
namespace G.T
open PySem PySem.Spec L2
open PyProof.Rows hiding St
theorem dIn_ties {q : Tie} {ps : List Tie} : dIn (tieD q) (.lst (ps.map tieD)) = .ok (.bl (decide (q ∈ ps))) := by
  have h1 : okD 1 (tieD q) = true := rfl
  have h2 : okD 2 (.lst (ps.map tieD)) = true := by
    show (ps.map tieD).all (okD 1) = true
    rw [List.all_eq_true]
    intro x hx
    obtain ⟨p, _, rfl⟩ := List.mem_map.mp hx
    rfl
  have p1 := (okD_py h1).1
  have s1 := okD_shaped (by decide) h1
  have p2 := (okD_py h2).1
  have s2 := okD_shaped (by decide) h2
  have e : inB (tieD q) (.lst (ps.map tieD)) = some (decide (q ∈ ps)) := by
    have p2' : toPys (ps.map tieD) = some ((ps.map tieD).map (toP 1)) := by
      cases z : toPys (ps.map tieD) with
      | none =>
        have : toPy (.lst (ps.map tieD)) = none := by show (toPys (ps.map tieD)).map PyData.list = none; rw [z]; rfl
        rw [this] at p2; cases p2
      | some q =>
        have : toPy (.lst (ps.map tieD)) = some (.list q) := by show (toPys (ps.map tieD)).map PyData.list = _; rw [z]; rfl
        rw [this] at p2
        have p3 : PyData.list q = .list ((ps.map tieD).map (toP 1)) := Option.some.inj p2
        cases p3
        rfl
    show (match toPy (tieD q), toPys (ps.map tieD) with
      | some p, some qs => if (SeqAt.shaped p && SeqAt.shaped (.list qs)) = true then some (qs.any fun z => PyData.eqv z p) else none
      | _, _ => none) = _
    rw [p1, p2']
    simp only
    have s2' : SeqAt.shaped (.list ((ps.map tieD).map (toP 1))) = true := s2
    rw [s1, s2', Bool.and_self, if_pos rfl]
    congr 1
    rw [Bool.eq_iff_iff]
    simp only [List.any_eq_true, decide_eq_true_eq]
    constructor
    · rintro ⟨x, hx, hy⟩
      obtain ⟨d, hd, rfl⟩ := List.mem_map.mp hx
      obtain ⟨p, hp, rfl⟩ := List.mem_map.mp hd
      have hy' : (((p.1 : Int) == (q.1 : Int)) && (((p.2.1 : Int) == (q.2.1 : Int)) && ((p.2.2.1 == q.2.2.1) && ((p.2.2.2 == q.2.2.2) && true)))) = true := hy
      simp at hy'
      obtain ⟨e1, e2, e3, e4⟩ := hy'
      have : p = q := by
        obtain ⟨a, b, c, d⟩ := p
        obtain ⟨a2, b2, c2, d2⟩ := q
        simp only at e1 e2 e3 e4
        simp only [Prod.mk.injEq]
        omega
      subst this
      exact hp
    · intro m
      refine ⟨_, List.mem_map.mpr ⟨_, List.mem_map.mpr ⟨_, m, rfl⟩, rfl⟩, ?_⟩
      show (((q.1 : Int) == (q.1 : Int)) && (((q.2.1 : Int) == (q.2.1 : Int)) && ((q.2.2.1 == q.2.2.1) && ((q.2.2.2 == q.2.2.2) && true)))) = true
      simp
  unfold dIn
  rw [e]
theorem get_wd {W : Wt} {a b : Nat} : dGet2 (wd W) (.tup [.int a, .int b]) .non = .ok (oD (wt W a b)) := by
  unfold dGet2
  have h := dLook_wd (W := W) (a := a) (b := b)
  unfold prD at h
  rw [h]
  cases wt W a b <;> rfl
theorem isDD_wd {W : Wt} : isDD (wd W) = true := rfl
@[simp] theorem v3_ap {g : D → D → D → Rs D} {ea eb ec : Env → Rs D} {ρ : Env} : v3 g ea eb ec ρ = (ea ρ).bind fun d => if isDD d then (eb ρ).bind fun e => (ec ρ).bind fun f => g d e f else .bad := rfl
theorem oD_flat (x : Option Int) : (oD x).flat = true := by cases x <;> rfl
section
variable {n : Nat} {T Q : Ti}
theorem wei_ok {a b : Nat} (ha : a < n) (hb : b < n) : F_Net_weight [netD n T, .int a, .int b] = .ok (oD (wt (wOf T) a b)) := by
  rw [R_Net_weight, ev_Net_weight]
  simp [dFld_count, dFld_weights, house_ok ha, house_ok hb, isDD_wd, get_wd, oD_flat]
end
section
variable {n : Nat} {T Q : Ti}
def rf (w : Str) (d : D) : D := .tup [.str w, d]
def Tup (T : Ti) : D := .tup (T.map tieD)
open Classical in
noncomputable def dueF (n : Nat) (T : Ti) (f : Fall) : D := match badF n f with
  | some i => rf "NoHouse" (.int i)
  | none => if noTie T f then rf "NoTie" .non else rf "" (.tup [.int n, Tup (T.filter (kp f))])
theorem filt_all {f : Tie → Bool} : (T.filter f).length = T.length ↔ ∀ p ∈ T, f p = true := List.length_filter_eq_length_iff
theorem len_ti {T : Ti} : dLen [tiD T] = .ok (.int T.length) := by unfold tiD; simp
def askT : Env → Out := sSet 3 (eMeth "Net" "without" F_Net_without (eVar 0) (aCons (eVar 1) aNil))
theorem same_ties {k : Nat} (S : Ti) (h : S.length < 1000) : Fr__law_same (k + 3) [Tup S, Tup S] = .ok (.bl true) := by
  refine same_tup (k := k + 2) (by rw [List.length_map]; exact h) fun y hy => ?_
  obtain ⟨p, _, rfl⟩ := List.mem_map.mp hy
  refine same_tup (k := k + 1) (by simp) fun y hy => ?_
  simp only [List.mem_cons, List.not_mem_nil, or_false] at hy
  rcases hy with rfl | rfl | rfl | rfl <;> exact same_int k _
theorem same_rf {w : Str} {d : D} (hd : Fr__law_same 5 [d, d] = .ok (.bl true)) : F__law_same [rf w d, rf w d] = .ok (.bl true) := by
  refine same_tup (k := 5) (by simp) fun y hy => ?_
  rcases List.mem_cons.mp hy with rfl | hy
  · exact same_str 4 _
  · rw [List.mem_singleton.mp hy]; exact hd
theorem same_due (hl : T.length < 400) (f : Fall) : F__law_same [dueF n T f, dueF n T f] = .ok (.bl true) := by
  unfold dueF
  cases z : badF n f with
  | some i => exact same_rf (same_int 4 _)
  | none =>
    simp only
    by_cases c : noTie T f
    · rw [if_pos c]; exact same_rf (same_non 4)
    · rw [if_neg c]
      refine same_rf (same_tup (k := 4) (by simp) fun y hy => ?_)
      rcases List.mem_cons.mp hy with rfl | hy
      · exact same_int 3 _
      · rw [List.mem_singleton.mp hy]
        exact same_ties (k := 1) _ (by have := List.length_filter_le (kp f) T; omega)
/-! ### a net is as told -/
theorem nbs_len {a : Nat} : (nbs n T a).length ≤ n := by
  unfold nbs
  have := List.length_filter_le (fun b => (wt (wOf T) a b).isSome) (List.range n)
  rwa [List.length_range] at this
def nearL (T : Ti) (h : Nat) : List Int := ((T.filter fun p => decide (p.1 = h)).map fun p => (p.2.1 : Int)) ++ ((T.filter fun p => decide (p.2.1 = h)).map fun p => (p.1 : Int))
theorem near_nodup (ok : OkT n T) (h : Nat) : (nearL T h).Nodup := by
  unfold nearL
  rw [List.nodup_append]
  have pw := ok.pw
  refine ⟨?_, ?_, ?_⟩
  · unfold List.Nodup
    rw [List.pairwise_map]
    refine (pw.sublist List.filter_sublist).imp_of_mem fun {p q} hp hq u e => ?_
    have h1 := (List.mem_filter.mp hp).2
    have h2 := (List.mem_filter.mp hq).2
    simp only [decide_eq_true_eq] at h1 h2
    unfold unl at u
    omega
  · unfold List.Nodup
    rw [List.pairwise_map]
    refine (pw.sublist List.filter_sublist).imp_of_mem fun {p q} hp hq u e => ?_
    have h1 := (List.mem_filter.mp hp).2
    have h2 := (List.mem_filter.mp hq).2
    simp only [decide_eq_true_eq] at h1 h2
    unfold unl at u
    omega
  · intro x hx y hy e
    obtain ⟨p, hp, rfl⟩ := List.mem_map.mp hx
    obtain ⟨q, hq, rfl⟩ := List.mem_map.mp hy
    obtain ⟨hp1, hp2⟩ := List.mem_filter.mp hp
    obtain ⟨hq1, hq2⟩ := List.mem_filter.mp hq
    simp only [decide_eq_true_eq] at hp2 hq2
    have hpn := (ok.it p hp1).2.2.1
    have key : p ≠ q := fun z => by subst z; omega
    have sym : ∀ {S : Ti}, S.Pairwise unl → ∀ p ∈ S, ∀ q ∈ S, p ≠ q → unl p q := fun {S} pw p hp q hq hne => by
      induction S with
      | nil => cases hp
      | cons a S ih =>
        rw [List.pairwise_cons] at pw
        rcases List.mem_cons.mp hp with e1 | hp1
        · rcases List.mem_cons.mp hq with e2 | hq1
          · exact absurd (e1.trans e2.symm) hne
          · rw [e1]; exact pw.1 q hq1
        · rcases List.mem_cons.mp hq with e2 | hq1
          · have := pw.1 p hp1; rw [e2]; unfold unl at *; omega
          · exact ih pw.2 hp1 hq1
    have := sym pw p hp1 q hq1 key
    unfold unl at this
    omega
theorem near_mem (ok : OkT n T) (h : Nat) (x : Int) : x ∈ nearL T h ↔ x ∈ (nbs n T h).map fun b : Nat => (b : Int) := by
  unfold nearL nbs
  rw [List.mem_append, List.mem_map, List.mem_map, List.mem_map]
  constructor
  · rintro (⟨p, hp, rfl⟩ | ⟨p, hp, rfl⟩)
    · obtain ⟨hp1, hp2⟩ := List.mem_filter.mp hp
      simp only [decide_eq_true_eq] at hp2
      refine ⟨p.2.1, List.mem_filter.mpr ⟨List.mem_range.mpr (ok.it p hp1).2.1, ?_⟩, rfl⟩
      rw [wt_of (okW_of ok).one (mem_wOf.mpr ⟨p, hp1, .inl ⟨hp2, rfl, rfl⟩⟩)]; rfl
    · obtain ⟨hp1, hp2⟩ := List.mem_filter.mp hp
      simp only [decide_eq_true_eq] at hp2
      refine ⟨p.1, List.mem_filter.mpr ⟨List.mem_range.mpr (ok.it p hp1).1, ?_⟩, rfl⟩
      rw [wt_of (okW_of ok).one (mem_wOf.mpr ⟨p, hp1, .inr ⟨hp2, rfl, rfl⟩⟩)]; rfl
  · rintro ⟨b, hb, rfl⟩
    obtain ⟨hb1, hb2⟩ := List.mem_filter.mp hb
    obtain ⟨w, hw⟩ := Option.isSome_iff_exists.mp hb2
    obtain ⟨p, hp, ⟨h1, h2, _⟩ | ⟨h1, h2, _⟩⟩ := mem_wOf.mp (wt_mem hw)
    · exact .inl ⟨p, List.mem_filter.mpr ⟨hp, by simp [h1]⟩, by rw [h2]⟩
    · exact .inr ⟨p, List.mem_filter.mpr ⟨hp, by simp [h1]⟩, by rw [h2]⟩
theorem near_sort (ok : OkT n T) (h : Nat) : dSortI [.lst ((nearL T h).map .int)] = .ok (ilN (nbs n T h)) := by
  have e : sortI (nearL T h) = (nbs n T h).map fun b : Nat => (b : Int) := by
    refine sortI_ext (near_nodup ok h) ?_ (near_mem ok h)
    rw [List.pairwise_map]
    unfold nbs
    exact ((List.pairwise_lt_range (n := n)).sublist List.filter_sublist).imp fun h => by omega
  show (match intsOf ((nearL T h).map .int) with | some ns => Rs.ok (D.lst ((sortI ns).map .int)) | none => .bad) = _
  rw [intsOf_map]
  show Rs.ok (D.lst ((sortI (nearL T h)).map .int)) = _
  rw [e, List.map_map]
  rfl
end
end G.T
/-! the law -/
namespace G.T
open PySem PySem.Spec L2
open PyProof.Rows hiding St
section
variable {n : Nat} {T Q : Ti}
theorem nbs_al (ok : OkT n T) (al : Alike n T Q) {a : Nat} : nbs n Q a = nbs n T a := by
  unfold nbs
  apply List.filter_congr
  intro b _
  rw [alike_wt ok al]
def nearM (T : Ti) (h : Nat) : List Int := ((T.filter fun p => decide (p.2.1 = h)).map fun p => (p.1 : Int)) ++ ((T.filter fun p => decide (p.1 = h)).map fun p => (p.2.1 : Int))
theorem nearM_perm {h : Nat} : (nearM T h).Perm (nearL T h) := List.perm_append_comm
theorem nearM_sort (ok : OkT n T) (h : Nat) : dSortI [.lst ((nearM T h).map .int)] = .ok (ilN (nbs n T h)) := by
  have e : sortI (nearM T h) = (nbs n T h).map fun b : Nat => (b : Int) := by
    refine sortI_ext (nearM_perm.symm.nodup (near_nodup ok h)) ?_ (fun x => (nearM_perm.mem_iff).trans (near_mem ok h x))
    rw [List.pairwise_map]
    unfold nbs
    exact ((List.pairwise_lt_range (n := n)).sublist List.filter_sublist).imp fun h => by omega
  show (match intsOf ((nearM T h).map .int) with | some ns => Rs.ok (D.lst ((sortI ns).map .int)) | none => .bad) = _
  rw [intsOf_map]
  show Rs.ok (D.lst ((sortI (nearM T h)).map .int)) = _
  rw [e, List.map_map]
  rfl
theorem okD_il (L : List Nat) : okD 2 (ilN L) = true := by
  show (L.map fun b : Nat => D.int b).all (okD 1) = true
  rw [List.all_eq_true]
  intro x hx
  obtain ⟨p, _, rfl⟩ := List.mem_map.mp hx
  rfl
theorem ne_ilN {L : List Nat} : dNe (ilN L) (ilN L) = .ok (.bl false) := dNe_self (n := 2) (by decide) (okD_il L)
theorem tup_ne (S : Ti) : dNe (.tup (S.map tieD)) (.tup (S.map tieD)) = .ok (.bl false) := dNe_self (n := 3) (by decide) (okD_ties S)
theorem okD_tiD (S : Ti) : okD 3 (tiD S) = true := okD_ties S
def rowT (p : Tie) : List Int := [(p.1 : Int), (p.2.1 : Int), p.2.2.1, p.2.2.2]
theorem sort_ties {S : Ti} (h : S.Pairwise lexT) : dSortTI [.lst (S.map tieD)] = .ok (.lst (S.map tieD)) := by
  have e : S.map tieD = (S.map rowT).map rowD := by rw [List.map_map]; rfl
  have a : ((S.map rowT).all fun r => !r.isEmpty) = true := by
    rw [List.all_eq_true]
    intro r hr
    obtain ⟨p, _, rfl⟩ := List.mem_map.mp hr
    rfl
  rw [e, dSortTI_map a, sortR_id]
  rw [List.pairwise_map]
  refine h.imp fun {p q} h => ?_
  have : rowT p < rowT q := by
    unfold rowT
    rcases h with h | ⟨h1, h2⟩
    · exact List.Lex.rel (by omega)
    · rw [h1]
      exact List.Lex.cons (List.Lex.rel (by omega))
  exact List.le_of_lt this
theorem kp0 {p : Tie} : kp (.house 0) p = !decide ((0 : Int) = p.1 ∨ (0 : Int) = p.2.1) := rfl
theorem right_ok (h : Told n T Q) : F__law_right [netD n Q, .int n, tiD T] = .ok (.bl true) := by
  rw [R__law_right, ev__law_right]
  have ok := h.t
  have hh := h.hi
  have hlo := h.lo
  have hle := h.len
  have hcap : (T.map tieD).length < cap := by show _ < 1000000; rw [List.length_map]; omega
  have l1 : ∀ (a : Nat) o4 o5 o6 o7 o8 o9, lcGo (tTupN 4 (tsCons (tName 5) (tsCons (tName 6) (tsCons (tName 7) (tsCons (tName 8) tsNil))))) _law_right_c1 _law_right_e1 [some (netD n Q), some (.int n), some (tiD T), some (.int a), o4, o5, o6, o7, o8, o9] (T.map tieD) = .ok (((T.filter fun p => decide (p.2.1 = a)).map fun p => (p.1 : Int)).map .int) := by
    intro a o4 o5 o6 o7 o8 o9
    rw [lcGo_map (α := Unit) (fun p => decide (p.2.1 = a)) (fun p : Tie => D.int (p.1 : Int)) T fun p hp => ?_]
    · rw [List.map_map]; rfl
    · refine ⟨_, rfl, ?_, fun _ => by simp [_law_right_e1]⟩
      unfold _law_right_c1
      by_cases c : p.2.1 = a
      · simp [c]
      · have c' : ¬ (p.2.1 : Int) = (a : Int) := by omega
        simp [c, c']
  have l2 : ∀ (a : Nat) o4 o5 o6 o7 o8 o9, lcGo (tTupN 4 (tsCons (tName 5) (tsCons (tName 6) (tsCons (tName 7) (tsCons (tName 8) tsNil))))) _law_right_c2 _law_right_e2 [some (netD n Q), some (.int n), some (tiD T), some (.int a), o4, o5, o6, o7, o8, o9] (T.map tieD) = .ok (((T.filter fun p => decide (p.1 = a)).map fun p => (p.2.1 : Int)).map .int) := by
    intro a o4 o5 o6 o7 o8 o9
    rw [lcGo_map (α := Unit) (fun p => decide (p.1 = a)) (fun p : Tie => D.int (p.2.1 : Int)) T fun p hp => ?_]
    · rw [List.map_map]; rfl
    · refine ⟨_, rfl, ?_, fun _ => by simp [_law_right_e2]⟩
      unfold _law_right_c2
      by_cases c : p.1 = a
      · simp [c]
      · have c' : ¬ (p.1 : Int) = (a : Int) := by omega
        simp [c, c']
  have b3 : ∀ (a : Nat), a < n → ∀ o4, ∃ p4, _law_right_b3 [some (netD n Q), some (.int n), some (tiD T), some (.int a), o4, none, none, none, none, none] = .nx [some (netD n Q), some (.int n), some (tiD T), some (.int a), p4, none, none, none, none, none] := by
    intro a ha o4
    refine ⟨some (.lst ((nearM T a).map .int)), ?_⟩
    have hA := l1 a o4 none none none none none
    have hB := l2 a o4 none none none none none
    have hs := nearM_sort ok a
    have hn := nbs_ok h.okN ha
    rw [nbs_al ok h.al] at hn
    have hne := ne_ilN (L := nbs n T a)
    have hm : ∀ o4, eMeth "Net" "neighbours" F_Net_neighbours (eVar 0) (aCons (eVar 3) aNil) [some (netD n Q), some (.int n), some (tiD T), some (.int a), o4, none, none, none, none, none] = .ok (ilN (nbs n T a)) := by
      intro o4
      rw [meth_net (n := n) (T := Q) rfl (by decide)]
      simp [hn]
    have hpl : (((T.filter fun p => decide (p.2.1 = a)).map fun p => (p.1 : Int)).map D.int).length + (((T.filter fun p => decide (p.1 = a)).map fun p => (p.2.1 : Int)).map D.int).length ≤ cap := by
      show _ ≤ 1000000
      rw [List.length_map, List.length_map, List.length_map, List.length_map]
      have q1 : ∀ f : Tie → Bool, (T.filter f).length ≤ T.length := fun f => List.length_filter_le f T
      exact Nat.le_trans (Nat.add_le_add (q1 _) (q1 _)) (by omega)
    have hcat : (nearM T a).map D.int = ((T.filter fun p => decide (p.2.1 = a)).map fun p => (p.1 : Int)).map D.int ++ ((T.filter fun p => decide (p.1 = a)).map fun p => (p.2.1 : Int)).map D.int := by unfold nearM; rw [List.map_append]
    rw [hcat] at hs ⊢
    have hit : dItems (tiD T) = .ok (T.map tieD) := rfl
    unfold _law_right_b3
    generalize ((T.filter fun p => decide (p.2.1 = a)).map fun p => (p.1 : Int)).map D.int = X at *
    generalize ((T.filter fun p => decide (p.1 = a)).map fun p => (p.2.1 : Int)).map D.int = Y at *
    generalize ilN (nbs n T a) = NB at *
    generalize T.map tieD = Z at *
    simp [-eMeth_ap, eLc_ap, wipeE, hit, hA, hB, hcap, hpl, hs, hm, hne]
  have loop1 : ∀ (m k : Nat), k + m ≤ n → ∀ o3 o4, ∃ p3 p4, sFor (tName 3) _law_right_b3 ((List.range' k m).map fun i => D.int (i : Nat)) [some (netD n Q), some (.int n), some (tiD T), o3, o4, none, none, none, none, none] = .nx [some (netD n Q), some (.int n), some (tiD T), p3, p4, none, none, none, none, none] := by
    intro m
    induction m with
    | zero => intro k _ o3 o4; exact ⟨_, _, rfl⟩
    | succ m ih =>
      intro k hk o3 o4
      obtain ⟨q4, hb⟩ := b3 k (by omega) o4
      obtain ⟨r3, r4, hr⟩ := ih (k + 1) (by omega) (some (.int k)) q4
      refine ⟨r3, r4, ?_⟩
      rw [List.range'_succ, List.map_cons, sFor_cons (ρ1 := [some (netD n Q), some (.int n), some (tiD T), some (.int k), o4, none, none, none, none, none]) (by simp), hb]
      exact hr
  have b4 : ∀ p ∈ T, ∀ o3 o4, _law_right_b4 [some (netD n Q), some (.int n), some (tiD T), o3, o4, some (.int p.1), some (.int p.2.1), some (.int p.2.2.1), some (.int p.2.2.2), none] = .nx [some (netD n Q), some (.int n), some (tiD T), o3, o4, some (.int p.1), some (.int p.2.1), some (.int p.2.2.1), some (.int p.2.2.2), none] := by
    intro p hp o3 o4
    obtain ⟨i1, i2, i3, i4, i5⟩ := ok.it p hp
    have w1 := wei_ok (T := Q) i1 i2
    have w2 := wei_ok (T := Q) i2 i1
    rw [alike_wt ok h.al, wt_of (okW_of ok).one (mem_wOf.mpr ⟨p, hp, .inl ⟨rfl, rfl, rfl⟩⟩)] at w1
    rw [alike_wt ok h.al, wt_of (okW_of ok).one (mem_wOf.mpr ⟨p, hp, .inr ⟨rfl, rfl, rfl⟩⟩)] at w2
    have hm : ∀ (e : Env → Rs (List D)) (x1 x2 x3 x4 x5 x6 x7 x8 x9 : Option D), eMeth "Net" "weight" F_Net_weight (eVar 0) e [some (netD n Q), x1, x2, x3, x4, x5, x6, x7, x8, x9] = (e [some (netD n Q), x1, x2, x3, x4, x5, x6, x7, x8, x9]).bind fun ds => F_Net_weight (netD n Q :: ds) := fun e x1 x2 x3 x4 x5 x6 x7 x8 x9 => meth_net rfl (by decide)
    unfold _law_right_b4
    simp [-eMeth_ap, hm, w1, w2]
  have loop2 : ∀ (S : Ti), (∀ p ∈ S, p ∈ T) → ∀ o3 o4 o5 o6 o7 o8, ∃ p5 p6 p7 p8, sFor (tTupN 4 (tsCons (tName 5) (tsCons (tName 6) (tsCons (tName 7) (tsCons (tName 8) tsNil))))) _law_right_b4 (S.map tieD) [some (netD n Q), some (.int n), some (tiD T), o3, o4, o5, o6, o7, o8, none] = .nx [some (netD n Q), some (.int n), some (tiD T), o3, o4, p5, p6, p7, p8, none] := by
    intro S
    induction S with
    | nil => intro _ o3 o4 o5 o6 o7 o8; exact ⟨_, _, _, _, rfl⟩
    | cons p S ih =>
      intro hs o3 o4 o5 o6 o7 o8
      obtain ⟨r5, r6, r7, r8, hr⟩ := ih (fun q hq => hs q (List.mem_cons_of_mem _ hq)) o3 o4 (some (.int p.1)) (some (.int p.2.1)) (some (.int p.2.2.1)) (some (.int p.2.2.2))
      refine ⟨r5, r6, r7, r8, ?_⟩
      rw [List.map_cons, sFor_cons (ρ1 := [some (netD n Q), some (.int n), some (tiD T), o3, o4, some (.int p.1), some (.int p.2.1), some (.int p.2.2.1), some (.int p.2.2.2), none]) (by simp [tieD]), b4 p (hs p List.mem_cons_self)]
      exact hr
  obtain ⟨p3, p4, hl1⟩ := loop1 n 0 (by omega) none none
  obtain ⟨p5, p6, p7, p8, hl2⟩ := loop2 T (fun p hp => hp) p3 p4 none none none none
  have hr : (-1000000 ≤ (n : Int) ∧ (n : Int) ≤ 1000000) := by omega
  have hit : dItems (tiD T) = .ok (T.map tieD) := rfl
  -- without the house 0
  have hw : ∀ x1 x2 x3 x4 x5 x6 x7 x8 x9, eMeth "Net" "without" F_Net_without (eVar 0) (aCons (eTup (aCons (eC (.str "house")) (aCons (eC (.int 0)) aNil))) aNil) [some (netD n Q), x1, x2, x3, x4, x5, x6, x7, x8, x9] = .ok (netD n (T.filter (kp (.house 0)))) := by
    intro x1 x2 x3 x4 x5 x6 x7 x8 x9
    rw [meth_net (n := n) (T := Q) rfl (by decide)]
    have := without_ok h (f := .house 0) (by rw [badF_h, if_pos ⟨by omega, by omega⟩]) (fun z => z)
    have hd : (Fall.house 0).d = .tup [.str "house", .int 0] := rfl
    rw [hd] at this
    simp [this]
  have hf : dFld "Net" "ties" (netD n (T.filter (kp (.house 0)))) = .ok (.tup ((T.filter (kp (.house 0))).map tieD)) := by
    rw [dFld_ties, (h.filter _).ties]
  have l5 : ∀ x1 x3 x4 x5 x6 x7 x8, lcGo (tName 9) _law_right_c5 _law_right_e5 [some (netD n Q), x1, some (tiD T), x3, x4, x5, x6, x7, x8, none] (T.map tieD) = .ok ((T.filter (kp (.house 0))).map tieD) := by
    intro x1 x3 x4 x5 x6 x7 x8
    refine lcGo_map (α := Unit) (kp (.house 0)) tieD T fun p hp => ⟨_, rfl, ?_, fun _ => rfl⟩
    have x0 := cut2t (p := p)
    have x9 := dNotIn_two (a := 0) (x := (p.1 : Int)) (y := (p.2.1 : Int))
    unfold _law_right_c5
    rw [kp0]
    generalize tieD p = PD at *
    generalize decide ((0 : Int) = p.1 ∨ (0 : Int) = p.2.1) = bb at *
    simp [oSome, oNone, dOInt, x0, x9]
  have s5 := sort_ties (h.filter (kp (.house 0))).td
  have n5 := tup_ne (T.filter (kp (.house 0)))
  have s6 := sort_ties h.td
  have f6 : dFld "Net" "ties" (netD n Q) = .ok (.tup (T.map tieD)) := by rw [dFld_ties, h.ties]
  have f7 : F__law_whole [.int n] = .ok (.bl true) := by rw [R__law_whole, ev__law_whole]; simp [isiF, tyD, isInt, isBool, nox]; try rfl
  have f8 : F__law_same [.tup (T.map tieD), .tup (T.map tieD)] = .ok (.bl true) := same_ties (k := 3) T (by omega)
  have hcap5 : ((T.filter (kp (.house 0))).map tieD).length < cap := by
    show _ < 1000000
    rw [List.length_map]
    have := List.length_filter_le (kp (.house 0)) T
    omega
  have tu1 : ∀ xs : List D, dTuple [.lst xs] = .ok (.tup xs) := fun _ => rfl
  have hiT : iOf dItems (eVar 2) [some (netD n Q), some (.int n), some (tiD T), p3, p4, p5, p6, p7, p8, none] = .ok (T.map tieD) := rfl
  unfold tiD at *
  generalize (T.filter (kp (.house 0))).map tieD = Z5 at *
  generalize netD n (T.filter (kp (.house 0))) = N5 at *
  generalize T.map tieD = Z at *
  simp [-eMeth_ap, hr, rgD_range', hl1, hl2, dFld_count, hw, hf, eLc_ap, wipeE, l5, hcap, hcap5, s5, n5, s6, f6, f7, f8, tu1]
theorem noTL_int (k : Nat) (i : Int) : noTL k (.int i) = true := by cases k <;> rfl
theorem noTL_oD (k : Nat) (o : Option Int) : noTL k (oD o) = true := by cases o <;> cases k <;> rfl
theorem isTup_oD (o : Option Int) : isTup (oD o) = false := by cases o <;> rfl
theorem noTL_net (hn : 0 < n) : noTL 6 (netD n Q) = true := by
  have h1 : noTL 5 (.int (n : Int)) = true := noTL_int _ _
  have h2 : noTL 5 (wd (wOf Q)) = true := by
    show (wk (wOf Q)).all (fun p => noTL 4 p.2) = true
    rw [List.all_eq_true]
    intro x hx
    obtain ⟨p, _, rfl⟩ := List.mem_map.mp hx
    exact noTL_int _ _
  have h3 : noTL 5 (.tup (tiesD Q)) = true := by
    show (tiesD Q).all (noTL 4) = true
    rw [List.all_eq_true]
    intro x hx
    obtain ⟨p, _, rfl⟩ := List.mem_map.mp hx
    show [D.int _, D.int _, D.int _, D.int _].all (noTL 3) = true
    simp [noTL_int]
  have h4 : noTL 5 (sumsD n (wOf Q)) = true := by
    show (((List.range n).map fun t => fd n (dst (wOf Q) t)).any (fun x => !isTup x) && ((List.range n).map fun t => fd n (dst (wOf Q) t)).all (noTL 4)) = true
    rw [Bool.and_eq_true]
    constructor
    · rw [List.any_eq_true]
      exact ⟨fd n (dst (wOf Q) 0), List.mem_map.mpr ⟨0, List.mem_range.mpr hn, rfl⟩, rfl⟩
    · rw [List.all_eq_true]
      intro x hx
      obtain ⟨t, _, rfl⟩ := List.mem_map.mp hx
      show (((List.range n).map fun a => oD (dst (wOf Q) t a)).any (fun x => !isTup x) && ((List.range n).map fun a => oD (dst (wOf Q) t a)).all (noTL 3)) = true
      rw [Bool.and_eq_true]
      constructor
      · rw [List.any_eq_true]
        exact ⟨oD (dst (wOf Q) t 0), List.mem_map.mpr ⟨0, List.mem_range.mpr hn, rfl⟩, by rw [isTup_oD]; rfl⟩
      · rw [List.all_eq_true]
        intro x hx
        obtain ⟨a, _, rfl⟩ := List.mem_map.mp hx
        exact noTL_oD _ _
  show [(Str.ofString "count", D.int n), ("weights", wd (wOf Q)), ("ties", .tup (tiesD Q)), ("sums", sumsD n (wOf Q))].all (fun p => noTL 5 p.2) = true
  simp [h1, h2, h3, h4]
theorem tups_ti (S : Ti) : (S.map tieD).all isTup = true := by
  rw [List.all_eq_true]
  intro x hx
  obtain ⟨p, _, rfl⟩ := List.mem_map.mp hx
  rfl
theorem look_net (hn : 0 < n) {i : Nat} {ev : Env → Rs D} {ρ : Env} (h1 : ρ[i]? = some (some (tiD Q))) (h2 : ev ρ = .ok (netD n Q)) : lkN i ev ρ = .ok (netD n Q) := by
  unfold lkN
  rw [h1]
  unfold tiD
  simp only
  rw [if_pos (tups_ti Q), h2]
  simp only
  rw [if_pos (noTL_net hn)]
end
theorem law_plain (ns : List Int) (hns : ns.length ≤ 63) : F_law [.kl (ns.map .int)] = .ok (.bl true) := by
  rw [R_law, ev_law]
  obtain ⟨n, T, h2, h12, okT, hTl, ⟨hlex, hlt⟩, hnet⟩ := law_net_ok ns 0
  obtain ⟨m, S, g2, g12, okS, hSl, ⟨glex, glt⟩, gnet⟩ := law_net_ok ns 3
  obtain ⟨nums, n1, n2, n3⟩ := numbers_ok (cellP ns 2) 4 (by decide)
  obtain ⟨nums5, m1, m2, m3⟩ := numbers_ok (cellP ns 5) 4 (by decide)
  have c2 : F__law_cell_at [.kl (ns.map .int), .int 2] = .ok (.int (cellP ns 2)) := cell_ok ns 2
  have c5 : F__law_cell_at [.kl (ns.map .int), .int 5] = .ok (.int (cellP ns 5)) := cell_ok ns 5
  obtain ⟨Q, alQ, eQ⟩ := turned_ok okT hTl n1 n2
  obtain ⟨R, alR, eR⟩ := turned_ok okS hSl m1 m2
  have lQ : Q.length ≤ 66 := by have := alQ.len; omega
  have lR : R.length ≤ 66 := by have := alR.len; omega
  have tQ : Told n T Q := ⟨h2, h12, okT, alQ, by omega, hlex, hlt⟩
  have tR : Told m S R := ⟨g2, g12, okS, alR, by omega, glex, glt⟩
  have nQ := net_ok h2 h12 alQ.ok tQ.okN.len
  have nR := net_ok g2 g12 alR.ok tR.okN.len
  have rQ := right_ok tQ
  have rR := right_ok tR
  have n3' : F__law_numbers [.int (cellP ns 2), .int 4] = .ok (inum nums) := n3
  have m3' : F__law_numbers [.int (cellP ns 5), .int 4] = .ok (inum nums5) := m3
  have hnet' : F__law_net [.kl (ns.map .int), .int 0] = .ok (.tup [.int n, tiD T]) := hnet
  have gnet' : F__law_net [.kl (ns.map .int), .int 3] = .ok (.tup [.int m, tiD S]) := gnet
  have eqQ : dNe (tiD Q) (tiD Q) = .ok (.bl false) := dNe_self (n := 3) (by decide) (okD_tiD Q)
  have eqR : dNe (tiD R) (tiD R) = .ok (.bl false) := dNe_self (n := 3) (by decide) (okD_tiD R)
  obtain ⟨x0, hx0⟩ : ∃ x0, x0 = D.kl (ns.map .int) := ⟨_, rfl⟩
  rw [← hx0] at c2 c5 hnet' gnet' ⊢
  have cap0 : (0 : Nat) < cap := by show 0 < 1000000; omega
  have cap1 : (1 : Nat) < cap := by show 1 < 1000000; omega
  have xQ : fExtend [] (tiD Q) = some (Q.map tieD) := by
    show (if 0 + (Q.map tieD).length ≤ cap then some ([] ++ Q.map tieD) else none) = _
    rw [if_pos (by rw [List.length_map]; show _ ≤ 1000000; omega)]; rfl
  have xR : fExtend [] (tiD R) = some (R.map tieD) := by
    show (if 0 + (R.map tieD).length ≤ cap then some ([] ++ R.map tieD) else none) = _
    rw [if_pos (by rw [List.length_map]; show _ ≤ 1000000; omega)]; rfl
  have lQ2 : dList [tiD Q] = .ok (tiD Q) := rfl
  have lR2 : dList [tiD R] = .ok (tiD R) := rfl
  have kQ : lkN 3 (eFn F_Net___init__ (aCons (v2 dIx (v2 dIx (eVar 1) (eVar 4)) (eC (.int 0))) (aCons (eVar 3) aNil))) [some x0, some (.lst [.tup [.int n, tiD T], .tup [.int m, tiD S]]), some (.lst []), some (tiD Q), some (.int 0), some (tiD Q)] = .ok (netD n Q) := by
    refine look_net (by omega) rfl ?_
    generalize tiD T = TT at *
    generalize tiD S = SS at *
    generalize tiD Q = QQ at *
    simp [nQ]
  have kR : ∀ o5, lkN 3 (eFn F_Net___init__ (aCons (v2 dIx (v2 dIx (eVar 1) (eVar 4)) (eC (.int 0))) (aCons (eVar 3) aNil))) [some x0, some (.lst [.tup [.int n, tiD T], .tup [.int m, tiD S]]), some (.lst [netD n Q]), some (tiD R), some (.int 1), o5] = .ok (netD m R) := by
    intro o5
    refine look_net (by omega) rfl ?_
    generalize tiD T = TT at *
    generalize tiD S = SS at *
    generalize tiD R = RR at *
    simp [nR]
  have b0 : law_b1 [some x0, some (.lst [.tup [.int n, tiD T], .tup [.int m, tiD S]]), some (.lst []), some (.lst []), some (.int 0), none] = .nx [some x0, some (.lst [.tup [.int n, tiD T], .tup [.int m, tiD S]]), some (.lst [netD n Q]), some (tiD Q), some (.int 0), some (tiD Q)] := by
    have fc : ∀ u, fClear [] u = some [] := fun _ => rfl
    have mw : CMulW 3 0 := by decide
    unfold law_b1
    unfold tiD at *
    generalize Q.map tieD = QQ at *
    generalize T.map tieD = TT at *
    generalize S.map tieD = SS at *
    simp [mw, uOk, fc, c2, n3', eQ, xQ, lQ2, kQ, cap0, eqQ, rQ]
  have b1 : law_b1 [some x0, some (.lst [.tup [.int n, tiD T], .tup [.int m, tiD S]]), some (.lst [netD n Q]), some (tiD Q), some (.int 1), some (tiD Q)] = .nx [some x0, some (.lst [.tup [.int n, tiD T], .tup [.int m, tiD S]]), some (.lst [netD n Q, netD m R]), some (tiD R), some (.int 1), some (tiD R)] := by
    have fc : ∀ xs u, fClear xs u = some [] := fun _ _ => rfl
    have mw : CMulW 3 1 := by decide
    unfold law_b1
    unfold tiD at *
    generalize Q.map tieD = QQ at *
    generalize R.map tieD = RR at *
    generalize T.map tieD = TT at *
    generalize S.map tieD = SS at *
    simp [mw, uOk, fc, c5, m3', eR, xR, lR2, kR, cap1, eqR, rQ, rR]
  have hit : ∀ ρ : Env, iOf dRange1 (eC (.int 2)) ρ = .ok [.int 0, .int 1] := fun _ => rfl
  have s1 : sSet 1 (eLst (aCons (eFn F__law_net (aCons (eVar 0) (aCons (eC (.int 0)) aNil))) (aCons (eFn F__law_net (aCons (eVar 0) (aCons (eC (.int 3)) aNil))) aNil))) [some x0, none, none, none, none, none] = .nx [some x0, some (.lst [.tup [.int n, tiD T], .tup [.int m, tiD S]]), none, none, none, none] := by
    generalize tiD T = TT at *
    generalize tiD S = SS at *
    simp [hnet', gnet']
  have s4 : sForI (tName 4) law_b1 (iOf dRange1 (eC (.int 2))) [some x0, some (.lst [.tup [.int n, tiD T], .tup [.int m, tiD S]]), some (.lst []), some (.lst []), none, none] = .nx [some x0, some (.lst [.tup [.int n, tiD T], .tup [.int m, tiD S]]), some (.lst [netD n Q, netD m R]), some (tiD R), some (.int 1), some (tiD R)] := by
    rw [sForI_ap, hit, sBind_ok]
    rw [sFor_cons (ρ1 := [some x0, some (.lst [.tup [.int n, tiD T], .tup [.int m, tiD S]]), some (.lst []), some (.lst []), some (.int 0), none]) (by simp), b0]
    simp only
    rw [sFor_cons (ρ1 := [some x0, some (.lst [.tup [.int n, tiD T], .tup [.int m, tiD S]]), some (.lst [netD n Q]), some (tiD Q), some (.int 1), some (tiD Q)]) (by simp), b1]
    rfl
  rw [sSeq_ap, s1, Out.seq_nx]
  have s23 : ∀ k : Env → Out, sSeq (sSet 2 (eLst aNil)) (sSeq (sSet 3 (eLst aNil)) k) [some x0, some (.lst [.tup [.int n, tiD T], .tup [.int m, tiD S]]), none, none, none, none] = k [some x0, some (.lst [.tup [.int n, tiD T], .tup [.int m, tiD S]]), some (.lst []), some (.lst []), none, none] := by
    intro k
    generalize tiD T = TT at *
    generalize tiD S = SS at *
    simp
  rw [s23, sSeq_ap, s4, Out.seq_nx]
  have fc : ∀ xs u, fClear xs u = some [] := fun _ _ => rfl
  unfold tiD at *
  generalize R.map tieD = RR at *
  generalize T.map tieD = TT at *
  generalize S.map tieD = SS at *
  simp [uOk, fc, cap0, rQ, rR, fAppend]
end G.T
namespace G.T
open PySem PySem.Spec L2
open PyProof.Rows hiding St
set_option maxHeartbeats 8000000 in
theorem all_mk {l : PySem.W.OpenLaw} {w : World} {K : PySem.W.Frag} {h : Heap} {mg : Str → Option Value} {fa : Addr} (X : K.In h) (G : h.Ns mainGlobals mg) (hfa : mg "law" = some (.ref fa))
    {c_Net : Addr} (aC_Net : PySem.W.nsIn K mainGlobals "Net" = some (some (.ref c_Net))) (pg_Net : PySem.W.plainGet K c_Net Str.empty = true) (hd_Net : PySem.W.hasDictIn K c_Net = true) (po_Net : PySem.W.plainOver K c_Net = true) (sa_Net : PySem.W.findIn K (.ref c_Net) "__setattr__" = some (some (.builtin "object.__setattr__")))
    {c_NoHouse : Addr}
    (aX_NoHouse : PySem.W.nsIn K mainGlobals "NoHouse" = some (some (.ref c_NoHouse)))
    {c_NoTie : Addr}
    (aX_NoTie : PySem.W.nsIn K mainGlobals "NoTie" = some (some (.ref c_NoTie)))
    (xga_NoHouse : PySem.W.findIn K (.ref c_NoHouse) "__getattribute__" = some (some (.builtin "BaseException.__getattribute__")))
    (xgg_NoHouse : PySem.W.findIn K (.ref c_NoHouse) "__getattr__" = some none)
    (xeC_NoHouse : PySem.W.subIn K (.ref c_NoHouse) (.type "BaseException") = some true)
    (xhd_NoHouse : PySem.W.hasDictIn K c_NoHouse = true)
    (xty_NoHouse : PySem.W.typeIn K (.ref c_NoHouse) = some (.type "type"))
    (xkC_NoHouse : PySem.W.keepIn K (.ref c_NoHouse) = true)
    (xga_NoTie : PySem.W.findIn K (.ref c_NoTie) "__getattribute__" = some (some (.builtin "BaseException.__getattribute__")))
    (xgg_NoTie : PySem.W.findIn K (.ref c_NoTie) "__getattr__" = some none)
    (xeC_NoTie : PySem.W.subIn K (.ref c_NoTie) (.type "BaseException") = some true)
    (xhd_NoTie : PySem.W.hasDictIn K c_NoTie = true)
    (xty_NoTie : PySem.W.typeIn K (.ref c_NoTie) = some (.type "type"))
    (xkC_NoTie : PySem.W.keepIn K (.ref c_NoTie) = true)
    (xsa_NoHouse : PySem.W.findIn K (.ref c_NoHouse) "__setattr__" = some (some (.builtin "object.__setattr__")))
    (xno_NoHouse_house : PySem.W.findIn K (.ref c_NoHouse) "house" = some none)
    {c_SpareError : Addr}
    (aX_SpareError : PySem.W.nsIn K mainGlobals "SpareError" = some (some (.ref c_SpareError)))
    {nm_NoHouse q_NoHouse : Str} {N_NoHouse : Addr} {bs_NoHouse : List Value} {sn_NoHouse : List Str} {sub_NoHouse : List Value} {ab_NoHouse : Bool} {col_NoHouse : Option Bool} {dd_NoHouse : Option Addr} {m0_NoHouse m1_NoHouse m2_NoHouse m3_NoHouse m5_NoHouse : Option Value}
    (xL_NoHouse : K.lookup c_NoHouse = some (excClassObj nm_NoHouse q_NoHouse c_NoHouse N_NoHouse bs_NoHouse [.ref c_SpareError, .type "ValueError", .type "Exception", .type "BaseException", .type "object"] true sn_NoHouse sub_NoHouse ab_NoHouse col_NoHouse dd_NoHouse m0_NoHouse m1_NoHouse m2_NoHouse m3_NoHouse m5_NoHouse "ValueError.__new__"))
    {fI_NoHouse : Addr} {odI_NoHouse anI_NoHouse : Option Addr} {slI_NoHouse : Array (Option Value)} {ocI_NoHouse kVI_NoHouse dcI_NoHouse pmI_NoHouse cdI_NoHouse ctI_NoHouse : Value}
    (xaI_NoHouse : PySem.W.findIn K (.ref c_NoHouse) "__init__" = some (some (.ref fI_NoHouse)))
    (xtI_NoHouse : PySem.W.typeIn K (.ref fI_NoHouse) = some (.type "function"))
    (xlI_NoHouse : K.lookup fI_NoHouse = some ⟨ocI_NoHouse, odI_NoHouse, .func (PySem.W.fnOf "__init__" "NoHouse.__init__" (defArgs s_NoHouse___init__) (defBody s_NoHouse___init__) (defScope s_NoHouse___init__) .none kVI_NoHouse dcI_NoHouse pmI_NoHouse anI_NoHouse cdI_NoHouse ctI_NoHouse), slI_NoHouse⟩)
    (xcI_NoHouse : PySem.W.codeIn K cdI_NoHouse "NoHouse.__init__" = true)
    (xkI_NoHouse : PySem.W.keepIn K (.ref fI_NoHouse) = true)
    (xsa_NoTie : PySem.W.findIn K (.ref c_NoTie) "__setattr__" = some (some (.builtin "object.__setattr__")))
    (xno_NoTie_place : PySem.W.findIn K (.ref c_NoTie) "place" = some none)
    {nm_NoTie q_NoTie : Str} {N_NoTie : Addr} {bs_NoTie : List Value} {sn_NoTie : List Str} {sub_NoTie : List Value} {ab_NoTie : Bool} {col_NoTie : Option Bool} {dd_NoTie : Option Addr} {m0_NoTie m1_NoTie m2_NoTie m3_NoTie m5_NoTie : Option Value}
    (xL_NoTie : K.lookup c_NoTie = some (excClassObj nm_NoTie q_NoTie c_NoTie N_NoTie bs_NoTie [.ref c_SpareError, .type "ValueError", .type "Exception", .type "BaseException", .type "object"] true sn_NoTie sub_NoTie ab_NoTie col_NoTie dd_NoTie m0_NoTie m1_NoTie m2_NoTie m3_NoTie m5_NoTie "ValueError.__new__"))
    {fI_NoTie : Addr} {odI_NoTie anI_NoTie : Option Addr} {slI_NoTie : Array (Option Value)} {ocI_NoTie kVI_NoTie dcI_NoTie pmI_NoTie cdI_NoTie ctI_NoTie : Value}
    (xaI_NoTie : PySem.W.findIn K (.ref c_NoTie) "__init__" = some (some (.ref fI_NoTie)))
    (xtI_NoTie : PySem.W.typeIn K (.ref fI_NoTie) = some (.type "function"))
    (xlI_NoTie : K.lookup fI_NoTie = some ⟨ocI_NoTie, odI_NoTie, .func (PySem.W.fnOf "__init__" "NoTie.__init__" (defArgs s_NoTie___init__) (defBody s_NoTie___init__) (defScope s_NoTie___init__) .none kVI_NoTie dcI_NoTie pmI_NoTie anI_NoTie cdI_NoTie ctI_NoTie), slI_NoTie⟩)
    (xcI_NoTie : PySem.W.codeIn K cdI_NoTie "NoTie.__init__" = true)
    (xkI_NoTie : PySem.W.keepIn K (.ref fI_NoTie) = true)
    {f0 : Addr} {od0 an0 : Option Addr} {sl0 : Array (Option Value)} {oc0 kV0 dc0 pm0 cd0 ct0 : Value}
    (a0 : PySem.W.nsIn K mainGlobals "look_house" = some (some (.ref f0))) (l0 : K.lookup f0 = some ⟨oc0, od0, .func (PySem.W.fnOf "look_house" "look_house" (defArgs s_look_house) (defBody s_look_house) (defScope s_look_house) .none kV0 dc0 pm0 an0 cd0 ct0), sl0⟩) (c0 : PySem.W.codeIn K cd0 "look_house" = true) (k0 : PySem.W.keepIn K (.ref f0) = true)
    {f1 : Addr} {od1 an1 : Option Addr} {sl1 : Array (Option Value)} {oc1 kV1 dc1 pm1 cd1 ct1 : Value}
    (a1 : PySem.W.nsIn K mainGlobals "look_ties" = some (some (.ref f1))) (l1 : K.lookup f1 = some ⟨oc1, od1, .func (PySem.W.fnOf "look_ties" "look_ties" (defArgs s_look_ties) (defBody s_look_ties) (defScope s_look_ties) .none kV1 dc1 pm1 an1 cd1 ct1), sl1⟩) (c1 : PySem.W.codeIn K cd1 "look_ties" = true) (k1 : PySem.W.keepIn K (.ref f1) = true)
    {f2 : Addr} {od2 an2 : Option Addr} {sl2 : Array (Option Value)} {oc2 kV2 dc2 pm2 cd2 ct2 : Value}
    (a2 : PySem.W.nsIn K mainGlobals "sums_to" = some (some (.ref f2))) (l2 : K.lookup f2 = some ⟨oc2, od2, .func (PySem.W.fnOf "sums_to" "sums_to" (defArgs s_sums_to) (defBody s_sums_to) (defScope s_sums_to) .none kV2 dc2 pm2 an2 cd2 ct2), sl2⟩) (c2 : PySem.W.codeIn K cd2 "sums_to" = true) (k2 : PySem.W.keepIn K (.ref f2) = true)
    {f3 : Addr} {od3 an3 : Option Addr} {sl3 : Array (Option Value)} {oc3 kV3 dc3 pm3 cd3 ct3 : Value}
    (a3 : PySem.W.findIn K (.ref c_Net) "__init__" = some (some (.ref f3))) (i3 : PySem.W.isFn K (.ref f3) = true) (l3 : K.lookup f3 = some ⟨oc3, od3, .func (PySem.W.fnOf "__init__" "Net.__init__" (defArgs s_Net___init__) (defBody s_Net___init__) (defScope s_Net___init__) .none kV3 dc3 pm3 an3 cd3 ct3), sl3⟩) (c3 : PySem.W.codeIn K cd3 "Net.__init__" = true) (k3 : PySem.W.keepIn K (.ref f3) = true)
    {f4 : Addr} {od4 an4 : Option Addr} {sl4 : Array (Option Value)} {oc4 kV4 dc4 pm4 cd4 ct4 : Value}
    (a4 : PySem.W.findIn K (.ref c_Net) "neighbours" = some (some (.ref f4))) (i4 : PySem.W.isFn K (.ref f4) = true) (l4 : K.lookup f4 = some ⟨oc4, od4, .func (PySem.W.fnOf "neighbours" "Net.neighbours" (defArgs s_Net_neighbours) (defBody s_Net_neighbours) (defScope s_Net_neighbours) .none kV4 dc4 pm4 an4 cd4 ct4), sl4⟩) (c4 : PySem.W.codeIn K cd4 "Net.neighbours" = true) (k4 : PySem.W.keepIn K (.ref f4) = true)
    {f5 : Addr} {od5 an5 : Option Addr} {sl5 : Array (Option Value)} {oc5 kV5 dc5 pm5 cd5 ct5 : Value}
    (a5 : PySem.W.findIn K (.ref c_Net) "weight" = some (some (.ref f5))) (i5 : PySem.W.isFn K (.ref f5) = true) (l5 : K.lookup f5 = some ⟨oc5, od5, .func (PySem.W.fnOf "weight" "Net.weight" (defArgs s_Net_weight) (defBody s_Net_weight) (defScope s_Net_weight) .none kV5 dc5 pm5 an5 cd5 ct5), sl5⟩) (c5 : PySem.W.codeIn K cd5 "Net.weight" = true) (k5 : PySem.W.keepIn K (.ref f5) = true)
    {f6 : Addr} {od6 an6 : Option Addr} {sl6 : Array (Option Value)} {oc6 kV6 dc6 pm6 cd6 ct6 : Value}
    (a6 : PySem.W.findIn K (.ref c_Net) "look_fall" = some (some (.ref f6))) (i6 : PySem.W.isFn K (.ref f6) = true) (l6 : K.lookup f6 = some ⟨oc6, od6, .func (PySem.W.fnOf "look_fall" "Net.look_fall" (defArgs s_Net_look_fall) (defBody s_Net_look_fall) (defScope s_Net_look_fall) .none kV6 dc6 pm6 an6 cd6 ct6), sl6⟩) (c6 : PySem.W.codeIn K cd6 "Net.look_fall" = true) (k6 : PySem.W.keepIn K (.ref f6) = true)
    {f7 : Addr} {od7 an7 : Option Addr} {sl7 : Array (Option Value)} {oc7 kV7 dc7 pm7 cd7 ct7 : Value}
    (a7 : PySem.W.findIn K (.ref c_Net) "without" = some (some (.ref f7))) (i7 : PySem.W.isFn K (.ref f7) = true) (l7 : K.lookup f7 = some ⟨oc7, od7, .func (PySem.W.fnOf "without" "Net.without" (defArgs s_Net_without) (defBody s_Net_without) (defScope s_Net_without) .none kV7 dc7 pm7 an7 cd7 ct7), sl7⟩) (c7 : PySem.W.codeIn K cd7 "Net.without" = true) (k7 : PySem.W.keepIn K (.ref f7) = true)
    {f8 : Addr} {od8 an8 : Option Addr} {sl8 : Array (Option Value)} {oc8 kV8 dc8 pm8 cd8 ct8 : Value}
    (a8 : PySem.W.nsIn K mainGlobals "_law_cell_at" = some (some (.ref f8))) (l8 : K.lookup f8 = some ⟨oc8, od8, .func (PySem.W.fnOf "_law_cell_at" "_law_cell_at" (defArgs s__law_cell_at) (defBody s__law_cell_at) (defScope s__law_cell_at) .none kV8 dc8 pm8 an8 cd8 ct8), sl8⟩) (c8 : PySem.W.codeIn K cd8 "_law_cell_at" = true) (k8 : PySem.W.keepIn K (.ref f8) = true)
    {f9 : Addr} {od9 an9 : Option Addr} {sl9 : Array (Option Value)} {oc9 kV9 dc9 pm9 cd9 ct9 : Value}
    (a9 : PySem.W.nsIn K mainGlobals "_law_mixed" = some (some (.ref f9))) (l9 : K.lookup f9 = some ⟨oc9, od9, .func (PySem.W.fnOf "_law_mixed" "_law_mixed" (defArgs s__law_mixed) (defBody s__law_mixed) (defScope s__law_mixed) .none kV9 dc9 pm9 an9 cd9 ct9), sl9⟩) (c9 : PySem.W.codeIn K cd9 "_law_mixed" = true) (k9 : PySem.W.keepIn K (.ref f9) = true)
    {f10 : Addr} {od10 an10 : Option Addr} {sl10 : Array (Option Value)} {oc10 kV10 dc10 pm10 cd10 ct10 : Value}
    (a10 : PySem.W.nsIn K mainGlobals "_law_whole" = some (some (.ref f10))) (l10 : K.lookup f10 = some ⟨oc10, od10, .func (PySem.W.fnOf "_law_whole" "_law_whole" (defArgs s__law_whole) (defBody s__law_whole) (defScope s__law_whole) .none kV10 dc10 pm10 an10 cd10 ct10), sl10⟩) (c10 : PySem.W.codeIn K cd10 "_law_whole" = true) (k10 : PySem.W.keepIn K (.ref f10) = true)
    {f11 : Addr} {od11 an11 : Option Addr} {sl11 : Array (Option Value)} {oc11 kV11 dc11 pm11 cd11 ct11 : Value}
    (a11 : PySem.W.nsIn K mainGlobals "_law_same" = some (some (.ref f11))) (l11 : K.lookup f11 = some ⟨oc11, od11, .func (PySem.W.fnOf "_law_same" "_law_same" (defArgs s__law_same) (defBody s__law_same) (defScope s__law_same) .none kV11 dc11 pm11 an11 cd11 ct11), sl11⟩) (c11 : PySem.W.codeIn K cd11 "_law_same" = true) (k11 : PySem.W.keepIn K (.ref f11) = true)
    {f12 : Addr} {od12 an12 : Option Addr} {sl12 : Array (Option Value)} {oc12 kV12 dc12 pm12 cd12 ct12 : Value}
    (a12 : PySem.W.nsIn K mainGlobals "_law_numbers" = some (some (.ref f12))) (l12 : K.lookup f12 = some ⟨oc12, od12, .func (PySem.W.fnOf "_law_numbers" "_law_numbers" (defArgs s__law_numbers) (defBody s__law_numbers) (defScope s__law_numbers) .none kV12 dc12 pm12 an12 cd12 ct12), sl12⟩) (c12 : PySem.W.codeIn K cd12 "_law_numbers" = true) (k12 : PySem.W.keepIn K (.ref f12) = true)
    {f13 : Addr} {od13 an13 : Option Addr} {sl13 : Array (Option Value)} {oc13 kV13 dc13 pm13 cd13 ct13 : Value}
    (a13 : PySem.W.nsIn K mainGlobals "_law_weight" = some (some (.ref f13))) (l13 : K.lookup f13 = some ⟨oc13, od13, .func (PySem.W.fnOf "_law_weight" "_law_weight" (defArgs s__law_weight) (defBody s__law_weight) (defScope s__law_weight) .none kV13 dc13 pm13 an13 cd13 ct13), sl13⟩) (c13 : PySem.W.codeIn K cd13 "_law_weight" = true) (k13 : PySem.W.keepIn K (.ref f13) = true)
    {f14 : Addr} {od14 an14 : Option Addr} {sl14 : Array (Option Value)} {oc14 kV14 dc14 pm14 cd14 ct14 : Value}
    (a14 : PySem.W.nsIn K mainGlobals "_law_net" = some (some (.ref f14))) (l14 : K.lookup f14 = some ⟨oc14, od14, .func (PySem.W.fnOf "_law_net" "_law_net" (defArgs s__law_net) (defBody s__law_net) (defScope s__law_net) .none kV14 dc14 pm14 an14 cd14 ct14), sl14⟩) (c14 : PySem.W.codeIn K cd14 "_law_net" = true) (k14 : PySem.W.keepIn K (.ref f14) = true)
    {f15 : Addr} {od15 an15 : Option Addr} {sl15 : Array (Option Value)} {oc15 kV15 dc15 pm15 cd15 ct15 : Value}
    (a15 : PySem.W.nsIn K mainGlobals "_law_turned" = some (some (.ref f15))) (l15 : K.lookup f15 = some ⟨oc15, od15, .func (PySem.W.fnOf "_law_turned" "_law_turned" (defArgs s__law_turned) (defBody s__law_turned) (defScope s__law_turned) .none kV15 dc15 pm15 an15 cd15 ct15), sl15⟩) (c15 : PySem.W.codeIn K cd15 "_law_turned" = true) (k15 : PySem.W.keepIn K (.ref f15) = true)
    {f16 : Addr} {od16 an16 : Option Addr} {sl16 : Array (Option Value)} {oc16 kV16 dc16 pm16 cd16 ct16 : Value}
    (a16 : PySem.W.nsIn K mainGlobals "_law_right" = some (some (.ref f16))) (l16 : K.lookup f16 = some ⟨oc16, od16, .func (PySem.W.fnOf "_law_right" "_law_right" (defArgs s__law_right) (defBody s__law_right) (defScope s__law_right) .none kV16 dc16 pm16 an16 cd16 ct16), sl16⟩) (c16 : PySem.W.codeIn K cd16 "_law_right" = true) (k16 : PySem.W.keepIn K (.ref f16) = true)
    {f17 : Addr} {od17 an17 : Option Addr} {sl17 : Array (Option Value)} {oc17 kV17 dc17 pm17 cd17 ct17 : Value}
    (a17 : PySem.W.nsIn K mainGlobals "law" = some (some (.ref f17))) (l17 : K.lookup f17 = some ⟨oc17, od17, .func (PySem.W.fnOf "law" "law" (defArgs s_law) (defBody s_law) (defScope s_law) .none kV17 dc17 pm17 an17 cd17 ct17), sl17⟩) (c17 : PySem.W.codeIn K cd17 "law" = true) (k17 : PySem.W.keepIn K (.ref f17) = true)
    (mkC_Net : PySem.W.makesIn K c_Net = true) (kcC_Net : PySem.W.keepIn K (.ref c_Net) = true)
    (nf_Net_count : PySem.W.findIn K (.ref c_Net) "count" = some none)
    (nf_Net_weights : PySem.W.findIn K (.ref c_Net) "weights" = some none)
    (nf_Net_ties : PySem.W.findIn K (.ref c_Net) "ties" = some none)
    (nf_Net_sums : PySem.W.findIn K (.ref c_Net) "sums" = some none)
    {t_LEAST : Tok} (q_LEAST : PySem.W.nsIn K mainGlobals "LEAST" = some (some (.int 2 t_LEAST)))
    {t_MOST : Tok} (q_MOST : PySem.W.nsIn K mainGlobals "MOST" = some (some (.int 12 t_MOST)))
    (z0 : PySem.W.nsIn K mainGlobals "enumerate" = some none)
    (z1 : PySem.W.nsIn K mainGlobals "range" = some none)
    (z2 : PySem.W.nsIn K mainGlobals "min" = some none)
    (z3 : PySem.W.nsIn K mainGlobals "max" = some none)
    (z4 : PySem.W.nsIn K mainGlobals "sorted" = some none)
    (z5 : PySem.W.nsIn K mainGlobals "tuple" = some none)
    (z6 : PySem.W.nsIn K mainGlobals "set" = some none)
    (z7 : PySem.W.nsIn K mainGlobals "len" = some none)
    (z8 : PySem.W.nsIn K mainGlobals "isinstance" = some none)
    (z9 : PySem.W.nsIn K mainGlobals "int" = some none)
    (z10 : PySem.W.nsIn K mainGlobals "bool" = some none)
    (z11 : PySem.W.nsIn K mainGlobals "list" = some none)
    (z12 : PySem.W.nsIn K mainGlobals "str" = some none)
    : ∃ fd : FuncData, (∀ (s : Shared) (v : Value), BindsTo s fd ⟨[v], []⟩ [("script", v)]) ∧ ∀ base : Heap, K.In base → base.Ns mainGlobals mg → FnOk l.prog w K mg base (L2.CX l.prog w) 9 fa fd ["script"] (spD ⟨K, mg⟩ .S F_law) := by
  have e := hfa.symm.trans (PySem.W.mg_of X G a17)
  cases e
  have mC_Net := PySem.W.mg_of X G aC_Net
  have cl_Net : Cls K c_Net := ⟨pg_Net, hd_Net, po_Net, sa_Net⟩
  have Fn0 := fun_mk (st := s_look_house) l0 c0 k0
  have b0 := Fn0.binds (ps := ["count", "house"]) fun _ _ _ _ _ _ us hl => match us, hl with | [_, _], _ => rfl
  have m0 := PySem.W.mg_of X G a0
  have Fn1 := fun_mk (st := s_look_ties) l1 c1 k1
  have b1 := Fn1.binds (ps := ["count", "ties"]) fun _ _ _ _ _ _ us hl => match us, hl with | [_, _], _ => rfl
  have m1 := PySem.W.mg_of X G a1
  have Fn2 := fun_mk (st := s_sums_to) l2 c2 k2
  have b2 := Fn2.binds (ps := ["count", "weights", "target"]) fun _ _ _ _ _ _ us hl => match us, hl with | [_, _, _], _ => rfl
  have m2 := PySem.W.mg_of X G a2
  have Fn3 := fun_mk (st := s_Net___init__) l3 c3 k3
  have b3 := Fn3.binds (ps := ["self", "count", "ties"]) fun _ _ _ _ _ _ us hl => match us, hl with | [_, _, _], _ => rfl
  have Fn4 := fun_mk (st := s_Net_neighbours) l4 c4 k4
  have b4 := Fn4.binds (ps := ["self", "house"]) fun _ _ _ _ _ _ us hl => match us, hl with | [_, _], _ => rfl
  have Fn5 := fun_mk (st := s_Net_weight) l5 c5 k5
  have b5 := Fn5.binds (ps := ["self", "a", "b"]) fun _ _ _ _ _ _ us hl => match us, hl with | [_, _, _], _ => rfl
  have Fn6 := fun_mk (st := s_Net_look_fall) l6 c6 k6
  have b6 := Fn6.binds (ps := ["self", "fall"]) fun _ _ _ _ _ _ us hl => match us, hl with | [_, _], _ => rfl
  have Fn7 := fun_mk (st := s_Net_without) l7 c7 k7
  have b7 := Fn7.binds (ps := ["self", "fall"]) fun _ _ _ _ _ _ us hl => match us, hl with | [_, _], _ => rfl
  have Fn8 := fun_mk (st := s__law_cell_at) l8 c8 k8
  have b8 := Fn8.binds (ps := ["script", "k"]) fun _ _ _ _ _ _ us hl => match us, hl with | [_, _], _ => rfl
  have m8 := PySem.W.mg_of X G a8
  have Fn9 := fun_mk (st := s__law_mixed) l9 c9 k9
  have b9 := Fn9.binds (ps := ["cell", "place"]) fun _ _ _ _ _ _ us hl => match us, hl with | [_, _], _ => rfl
  have m9 := PySem.W.mg_of X G a9
  have Fn10 := fun_mk (st := s__law_whole) l10 c10 k10
  have b10 := Fn10.binds (ps := ["found"]) fun _ _ _ _ _ _ us hl => match us, hl with | [_], _ => rfl
  have m10 := PySem.W.mg_of X G a10
  have Fn11 := fun_mk (st := s__law_same) l11 c11 k11
  have b11 := Fn11.binds (ps := ["found", "due"]) fun _ _ _ _ _ _ us hl => match us, hl with | [_, _], _ => rfl
  have m11 := PySem.W.mg_of X G a11
  have Fn12 := fun_mk (st := s__law_numbers) l12 c12 k12
  have b12 := Fn12.binds (ps := ["cell", "many"]) fun _ _ _ _ _ _ us hl => match us, hl with | [_, _], _ => rfl
  have m12 := PySem.W.mg_of X G a12
  have Fn13 := fun_mk (st := s__law_weight) l13 c13 k13
  have b13 := Fn13.binds (ps := ["number", "kind"]) fun _ _ _ _ _ _ us hl => match us, hl with | [_, _], _ => rfl
  have m13 := PySem.W.mg_of X G a13
  have Fn14 := fun_mk (st := s__law_net) l14 c14 k14
  have b14 := Fn14.binds (ps := ["script", "at"]) fun _ _ _ _ _ _ us hl => match us, hl with | [_, _], _ => rfl
  have m14 := PySem.W.mg_of X G a14
  have Fn15 := fun_mk (st := s__law_turned) l15 c15 k15
  have b15 := Fn15.binds (ps := ["ties", "numbers"]) fun _ _ _ _ _ _ us hl => match us, hl with | [_, _], _ => rfl
  have m15 := PySem.W.mg_of X G a15
  have Fn16 := fun_mk (st := s__law_right) l16 c16 k16
  have b16 := Fn16.binds (ps := ["net", "count", "ties"]) fun _ _ _ _ _ _ us hl => match us, hl with | [_, _, _], _ => rfl
  have m16 := PySem.W.mg_of X G a16
  have Fn17 := fun_mk (st := s_law) l17 c17 k17
  have g_LEAST := PySem.W.mg_of X G q_LEAST
  have g_MOST := PySem.W.mg_of X G q_MOST
  have n0 : mg "enumerate" = none := PySem.W.mg_none_of X G z0
  have n1 : mg "range" = none := PySem.W.mg_none_of X G z1
  have n2 : mg "min" = none := PySem.W.mg_none_of X G z2
  have n3 : mg "max" = none := PySem.W.mg_none_of X G z3
  have n4 : mg "sorted" = none := PySem.W.mg_none_of X G z4
  have n5 : mg "tuple" = none := PySem.W.mg_none_of X G z5
  have n6 : mg "set" = none := PySem.W.mg_none_of X G z6
  have n7 : mg "len" = none := PySem.W.mg_none_of X G z7
  have n8 : mg "isinstance" = none := PySem.W.mg_none_of X G z8
  have n9 : mg "int" = none := PySem.W.mg_none_of X G z9
  have n10 : mg "bool" = none := PySem.W.mg_none_of X G z10
  have n11 : mg "list" = none := PySem.W.mg_none_of X G z11
  have n12 : mg "str" = none := PySem.W.mg_none_of X G z12
  have mX_NoHouse := PySem.W.mg_of X G aX_NoHouse
  have mX_NoTie := PySem.W.mg_of X G aX_NoTie
  have mX_SpareError := PySem.W.mg_of X G aX_SpareError
  have xfC_NoHouse : XfC K c_NoHouse := ⟨xga_NoHouse, xgg_NoHouse, xeC_NoHouse, xhd_NoHouse⟩
  have xfC_NoTie : XfC K c_NoTie := ⟨xga_NoTie, xgg_NoTie, xeC_NoTie, xhd_NoTie⟩
  have xoe_NoHouse : OexC K c_NoHouse := ⟨⟨_, _, _, _, _, _, _, _, _, _, _, _, _, _, _, xL_NoHouse, by first | decide +kernel | rfl⟩, xsa_NoHouse, xeC_NoHouse, xty_NoHouse, xkC_NoHouse⟩
  have xFn_NoHouse := fun_mk (st := s_NoHouse___init__) xlI_NoHouse xcI_NoHouse xkI_NoHouse
  have xb_NoHouse := xFn_NoHouse.binds (ps := ["self", "house"]) fun _ _ _ _ _ _ us hl => match us, hl with | [_, _], _ => rfl
  have xef_NoHouse : ExF K mg "NoHouse" c_NoHouse fI_NoHouse := ⟨mX_NoHouse, xoe_NoHouse, xaI_NoHouse, xtI_NoHouse⟩
  have xoe_NoTie : OexC K c_NoTie := ⟨⟨_, _, _, _, _, _, _, _, _, _, _, _, _, _, _, xL_NoTie, by first | decide +kernel | rfl⟩, xsa_NoTie, xeC_NoTie, xty_NoTie, xkC_NoTie⟩
  have xFn_NoTie := fun_mk (st := s_NoTie___init__) xlI_NoTie xcI_NoTie xkI_NoTie
  have xb_NoTie := xFn_NoTie.binds (ps := ["self", "place"]) fun _ _ _ _ _ _ us hl => match us, hl with | [_, _], _ => rfl
  have xef_NoTie : ExF K mg "NoTie" c_NoTie fI_NoTie := ⟨mX_NoTie, xoe_NoTie, xaI_NoTie, xtI_NoTie⟩
  refine ⟨PySem.W.fnOf "law" "law" (defArgs s_law) (defBody s_law) (defScope s_law) .none kV17 dc17 pm17 an17 cd17 ct17, fun s v => .of_eq rfl, fun base _ _ => ?_⟩
  have GI_NoHouse := ok_NoHouse___init__ (P := l.prog) (w := w) (mg := mg) (base := base) xFn_NoHouse xoe_NoHouse xno_NoHouse_house
  have GI_NoTie := ok_NoTie___init__ (P := l.prog) (w := w) (mg := mg) (base := base) xFn_NoTie xoe_NoTie xno_NoTie_place
  have G0 := ok_look_house (P := l.prog) (w := w) (mg := mg) (base := base) Fn0 mX_NoHouse xef_NoHouse GI_NoHouse xb_NoHouse
  have G1 := ok_look_ties (P := l.prog) (w := w) (mg := mg) (base := base) Fn1 G0 b0 m0 k0 n0 mX_NoTie xef_NoTie GI_NoTie xb_NoTie
  have G2 := ok_sums_to (P := l.prog) (w := w) (mg := mg) (base := base) Fn2 n1
  have G3 := ok_Net___init__ (P := l.prog) (w := w) (mg := mg) (base := base) Fn3 mC_Net cl_Net nf_Net_count nf_Net_weights nf_Net_ties nf_Net_sums G1 b1 m1 k1 G2 b2 m2 k2 g_LEAST g_MOST n2 n3 n4 n5 n1
  have G4 := ok_Net_neighbours (P := l.prog) (w := w) (mg := mg) (base := base) Fn4 mC_Net cl_Net nf_Net_count nf_Net_weights G0 b0 m0 k0 n1
  have G5 := ok_Net_weight (P := l.prog) (w := w) (mg := mg) (base := base) Fn5 mC_Net cl_Net nf_Net_count nf_Net_weights G0 b0 m0 k0
  have G6 := ok_Net_look_fall (P := l.prog) (w := w) (mg := mg) (base := base) Fn6 mC_Net cl_Net nf_Net_count nf_Net_weights G0 b0 m0 k0 mX_NoTie xef_NoTie GI_NoTie xb_NoTie
  have G7 := ok_Net_without (P := l.prog) (w := w) (mg := mg) (base := base) Fn7 mC_Net cl_Net nf_Net_count nf_Net_ties G6 b6 G3 b3 ⟨mkC_Net, a3, i3, kcC_Net⟩ ⟨a6, i6, k6⟩ n6
  have G8 := ok__law_cell_at (P := l.prog) (w := w) (mg := mg) (base := base) Fn8 n7
  have G9 := ok__law_mixed (P := l.prog) (w := w) (mg := mg) (base := base) Fn9 
  have G10 := ok__law_whole (P := l.prog) (w := w) (mg := mg) (base := base) Fn10 n8 n9 n10
  have G11 := ok__law_same (P := l.prog) (w := w) (mg := mg) (base := base) Fn11 n8 n5 n11 n7 n1 n10 n9 n12 m11 k11 b11
  have G12 := ok__law_numbers (P := l.prog) (w := w) (mg := mg) (base := base) Fn12 G9 b9 m9 k9 n1
  have G13 := ok__law_weight (P := l.prog) (w := w) (mg := mg) (base := base) Fn13 
  have G14 := ok__law_net (P := l.prog) (w := w) (mg := mg) (base := base) Fn14 G12 b12 m12 k12 G8 b8 m8 k8 G13 b13 m13 k13 n9 n1 n7
  have G15 := ok__law_turned (P := l.prog) (w := w) (mg := mg) (base := base) Fn15 n0 n7
  have G16 := ok__law_right (P := l.prog) (w := w) (mg := mg) (base := base) Fn16 mC_Net cl_Net nf_Net_ties nf_Net_count G4 b4 G5 b5 G7 b7 G10 b10 m10 k10 G11 b11 m11 k11 ⟨a4, i4, k4⟩ ⟨a5, i5, k5⟩ ⟨a7, i7, k7⟩ n1 n4 n5
  have G17 := ok_law (P := l.prog) (w := w) (mg := mg) (base := base) Fn17 mC_Net cl_Net G14 b14 m14 k14 G15 b15 m15 k15 G12 b12 m12 k12 G8 b8 m8 k8 G3 b3 G16 b16 m16 k16 ⟨mkC_Net, a3, i3, kcC_Net⟩ n1 n11
  exact G17
theorem walk {l : PySem.W.OpenLaw} {q : Program} {loose : List Str} {XP : (Str → Option Value) → Heap → Prop} {YP : World → Heap → Prop} {d : DefRec} {K : Params → PySem.W.Frag} (hn : l.most = some 63) (hdf : d.params.defaults = [])
    (hY : ∀ (w : World) (h : Heap), YP w h → (K w.params).In h)
    (hL : ∀ ns : List Int, ns.length ≤ 63 → F_law [.kl (ns.map .int)] = .ok (.bl true))
    (F : ∀ (w : World) (mg : Str → Option Value) (fa : Addr) (h : Heap), (K w.params).In h → h.Ns mainGlobals mg → mg d.name = some (.ref fa) →
      ∃ fd : FuncData, (∀ (s : Shared) (u : Value), BindsTo s fd ⟨[u], []⟩ [("script", u)]) ∧ ∀ base : Heap, (K w.params).In base → base.Ns mainGlobals mg → FnOk l.prog w (K w.params) mg base (L2.CX l.prog w) 9 fa fd ["script"] (spD ⟨K w.params, mg⟩ .S F_law)) :
    PySem.W.WalkO q loose XP YP l.row.toRowW d [] (fun f vs => PySem.call f vs) :=
  walk_ofD hn (by decide) hdf ⟨rfl, by decide, by decide⟩ hY F hL
end G.T
open PySem PySem.W PyProof.Rows
set_option maxRecDepth 100000 in
set_option maxHeartbeats 0 in
theorem PySem.Challenge.cw_sparenext_k01_a_net_made_holds : PySem.Challenge.rw_sparenext_k01_a_net_made.Holds := by
  w_on; o_law; k_head; (case hw => w_witness2)
  k_fill
  refine G.T.walk (l := PySem.Challenge.rw_sparenext_k01_a_net_made) rfl rfl (fun w h Y => PySem.W.kIn_of Y) G.T.law_plain ?F
  case F =>
    intro w mg fa h KX G hmg
    refine' _root_.G.T.all_mk KX G hmg ?aC_Net ?pg_Net ?hd_Net ?po_Net ?sa_Net ?aX_NoHouse ?aX_NoTie ?xga_NoHouse ?xgg_NoHouse ?xeC_NoHouse ?xhd_NoHouse ?xty_NoHouse ?xkC_NoHouse ?xga_NoTie ?xgg_NoTie ?xeC_NoTie ?xhd_NoTie ?xty_NoTie ?xkC_NoTie ?xsa_NoHouse ?xno_NoHouse_house ?aX_SpareError ?xL_NoHouse ?xaI_NoHouse ?xtI_NoHouse ?xlI_NoHouse ?xcI_NoHouse ?xkI_NoHouse ?xsa_NoTie ?xno_NoTie_place ?xL_NoTie ?xaI_NoTie ?xtI_NoTie ?xlI_NoTie ?xcI_NoTie ?xkI_NoTie ?a0 ?l0 ?c0 ?k0 ?a1 ?l1 ?c1 ?k1 ?a2 ?l2 ?c2 ?k2 ?a3 ?i3 ?l3 ?c3 ?k3 ?a4 ?i4 ?l4 ?c4 ?k4 ?a5 ?i5 ?l5 ?c5 ?k5 ?a6 ?i6 ?l6 ?c6 ?k6 ?a7 ?i7 ?l7 ?c7 ?k7 ?a8 ?l8 ?c8 ?k8 ?a9 ?l9 ?c9 ?k9 ?a10 ?l10 ?c10 ?k10 ?a11 ?l11 ?c11 ?k11 ?a12 ?l12 ?c12 ?k12 ?a13 ?l13 ?c13 ?k13 ?a14 ?l14 ?c14 ?k14 ?a15 ?l15 ?c15 ?k15 ?a16 ?l16 ?c16 ?k16 ?a17 ?l17 ?c17 ?k17 ?mkC_Net ?kcC_Net ?nf_Net_count ?nf_Net_weights ?nf_Net_ties ?nf_Net_sums ?q_LEAST ?q_MOST ?z0 ?z1 ?z2 ?z3 ?z4 ?z5 ?z6 ?z7 ?z8 ?z9 ?z10 ?z11 ?z12
    (case aC_Net => k_is); (case pg_Net => k_is); (case hd_Net => k_is); (case po_Net => k_is); (case sa_Net => k_is); (case aX_NoHouse => k_is); (case aX_NoTie => k_is); (case xga_NoHouse => k_is)
    (case xgg_NoHouse => k_is); (case xeC_NoHouse => k_is); (case xhd_NoHouse => k_is); (case xty_NoHouse => k_is); (case xkC_NoHouse => k_is); (case xga_NoTie => k_is); (case xgg_NoTie => k_is); (case xeC_NoTie => k_is)
    (case xhd_NoTie => k_is); (case xty_NoTie => k_is); (case xkC_NoTie => k_is); (case xsa_NoHouse => k_is); (case xno_NoHouse_house => k_is); (case aX_SpareError => k_is); (case xL_NoHouse => k_is); (case xaI_NoHouse => k_is)
    (case xtI_NoHouse => k_is); (case xlI_NoHouse => k_is); (case xcI_NoHouse => k_is); (case xkI_NoHouse => k_is); (case xsa_NoTie => k_is); (case xno_NoTie_place => k_is); (case xL_NoTie => k_is); (case xaI_NoTie => k_is)
    (case xtI_NoTie => k_is); (case xlI_NoTie => k_is); (case xcI_NoTie => k_is); (case xkI_NoTie => k_is); (case a0 => k_is); (case l0 => k_is); (case c0 => k_is); (case k0 => k_is)
    (case a1 => k_is); (case l1 => k_is); (case c1 => k_is); (case k1 => k_is); (case a2 => k_is); (case l2 => k_is); (case c2 => k_is); (case k2 => k_is)
    (case a3 => k_is); (case i3 => k_is); (case l3 => k_is); (case c3 => k_is); (case k3 => k_is); (case a4 => k_is); (case i4 => k_is); (case l4 => k_is)
    (case c4 => k_is); (case k4 => k_is); (case a5 => k_is); (case i5 => k_is); (case l5 => k_is); (case c5 => k_is); (case k5 => k_is); (case a6 => k_is)
    (case i6 => k_is); (case l6 => k_is); (case c6 => k_is); (case k6 => k_is); (case a7 => k_is); (case i7 => k_is); (case l7 => k_is); (case c7 => k_is)
    (case k7 => k_is); (case a8 => k_is); (case l8 => k_is); (case c8 => k_is); (case k8 => k_is); (case a9 => k_is); (case l9 => k_is); (case c9 => k_is)
    (case k9 => k_is); (case a10 => k_is); (case l10 => k_is); (case c10 => k_is); (case k10 => k_is); (case a11 => k_is); (case l11 => k_is); (case c11 => k_is)
    (case k11 => k_is); (case a12 => k_is); (case l12 => k_is); (case c12 => k_is); (case k12 => k_is); (case a13 => k_is); (case l13 => k_is); (case c13 => k_is)
    (case k13 => k_is); (case a14 => k_is); (case l14 => k_is); (case c14 => k_is); (case k14 => k_is); (case a15 => k_is); (case l15 => k_is); (case c15 => k_is)
    (case k15 => k_is); (case a16 => k_is); (case l16 => k_is); (case c16 => k_is); (case k16 => k_is); (case a17 => k_is); (case l17 => k_is); (case c17 => k_is)
    (case k17 => k_is); (case mkC_Net => k_is); (case kcC_Net => k_is); (case nf_Net_count => k_is); (case nf_Net_weights => k_is); (case nf_Net_ties => k_is); (case nf_Net_sums => k_is); (case q_LEAST => k_is)
    (case q_MOST => k_is); (case z0 => k_is); (case z1 => k_is); (case z2 => k_is); (case z3 => k_is); (case z4 => k_is); (case z5 => k_is); (case z6 => k_is)
    (case z7 => k_is); (case z8 => k_is); (case z9 => k_is); (case z10 => k_is); (case z11 => k_is); (case z12 => k_is)
