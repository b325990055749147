import PyProof.Rows.All
import Wide.All
import OpenK.AllK
import Wide.FinOn
import HandS.ForMost
import HandS.ForExc
import HandS.DictComp
import HandS.Deep
import HandS.Wide
import HandS.IsInst
import HandS.Flow
import HandS.Lambda
import HandS.HeadHook4
import KE.SortData
import KE.SortKeyHeap
import KE.KDictKeyed
import HandS.TupAny
import HandS.TupLe
import HandS.Zip
import HandS.Style
import HandS.Defaults
import HandS.TupSets
import KE.KDictCopyH
import KE.KDictSum
import HandS.Head0
import HandS.Head1
import HandS.Head2
import HandS.HeadEnd
import HandS.HeadHook1
import HandS.HeadHook2
import HandS.Text
import HandS.RaiseMore
import HandS.ExcOwn
import HandS.EndTab
import HandS.HeadWalk
import PySem.Challenge.RW_farhands_k02_pasts
set_option Elab.async false
set_option linter.all false
set_option maxRecDepth 100000
set_option maxHeartbeats 4000000
namespace FH
open L2 PySem PySem.Spec
abbrev D := PyData
/-- a lambda that was made: where it stands, its code object, its name, what it has caught -/
structure LamId where
  f : Addr
  c : Addr
  q : Str
  cv : List V
/-- abstract values: data that never changes, a place of the store, a def of the module -/
inductive Val where
  | d (x : D)
  | ref (n : Nat)
  | fn (f : Str)
  | scr (ns : List Int)
  | ty (n : String)
  | lam (i : LamId) (cd : List D)
/-- objects of the store -/
inductive Ob where
  | lst (xs : List Val)
  | dic (kvs : List (D × Val))
  | ins (c : Str) (fs : List (Str × Val))
  | lk (o : Ob)
  | gone
  | tab (x : Str × Option Str) (q : Str)
def Ob.live : Ob → Bool
  | .lst _ => true
  | .dic _ => true
  | .ins _ _ => true
  | .lk _ => true
  | .gone => false
  | .tab _ _ => true
abbrev Store := List Ob
abbrev Loc := List (Option Val)
inductive Res (α : Type) where
  | ok (a : α) (S : Store)
  | exc (c : Str) (S : Store)
  | stuck
@[inline, simp] def Res.bind {α β : Type} (r : Res α) (f : α → Store → Res β) : Res β := match r with
  | .ok a S => f a S
  | .exc c S => .exc c S
  | .stuck => .stuck
abbrev Ev := Loc → Store → Res Val

structure Ty where
  w : World
  K : PySem.W.Frag
  mg : Str → Option Value

mutual
def toKey : D → Option NestedKey
  | .none => some .none
  | .int i => some (.num i)
  | .str x => some (.text x)
  | .tuple xs => (toKeys xs).map .tup
  | .bool _ => none
  | .list _ => none
  | .dict _ => none
def toKeys : List D → Option (List NestedKey)
  | [] => some []
  | x :: r => match toKey x, toKeys r with
    | some k, some ks => some (k :: ks)
    | _, _ => none
end
/-- a dict's object, pinned -/
def dHO (a : Addr) (o : Obj) : HO := .ext fun h => h.get? a = some o
inductive Ents (w : World) : List DictEntry → List V → List D → List V → Prop
  | nil : Ents w [] [] [] []
  | cons {e : DictEntry} {es : List DictEntry} {k : D} {nk : NestedKey} {kv vv : V} {kvs vvs : List V} {ks : List D} : toKey k = some nk → nk.depth ≤ 8 → RelV kv e.key → RelV vv e.val → e.hash = nk.hash w → Ents w es kvs ks vvs →
      Ents w (e :: es) (kv :: kvs) (k :: ks) (vv :: vvs)
structure DObj (w : World) (a : Addr) (o : Obj) (kvs : List V) (ks : List D) (vvs : List V) : Prop where
  ex : o.ExactDict
  dat : ∃ es ep, o.data = .dict es ep ∧ Ents w es.toList kvs ks vvs
  nd : ks.Nodup
  sm : (a == sysModules) = false
  len : ks.length ≤ sizeLine
mutual
/-- v stands for the data d in the heap F -/
inductive Rep (T : Ty) (F : Hp) : V → D → Prop
  | non : Rep T F .non .none
  | bl (b : Bool) : Rep T F (.bl b) (.bool b)
  | int (i : Int) : Rep T F (.int i) (.int i)
  | str (x : Str) : Rep T F (.str x) (.str x)
  | lst {a : Addr} {xs : List V} {ds : List D} : F a = some (.lst xs) → RepAll T F xs ds → Rep T F (.ref a) (.list ds)
  | tup {a : Addr} {xs : List V} {ds : List D} : F a = some (.tup xs) → RepAll T F xs ds → Rep T F (.ref a) (.tuple ds)
  | dic {a : Addr} {o : Obj} {kvs vvs : List V} {m : List (D × D)} : F a = some (dHO a o) → DObj T.w a o kvs (m.map (·.1)) vvs → RepAll T F kvs (m.map (·.1)) → RepAll T F vvs (m.map (·.2)) → Rep T F (.ref a) (.dict m)
inductive RepAll (T : Ty) (F : Hp) : List V → List D → Prop
  | nil : RepAll T F [] []
  | cons {v : V} {vs : List V} {d : D} {ds : List D} : Rep T F v d → RepAll T F vs ds → RepAll T F (v :: vs) (d :: ds)
end
def Le (F G : Hp) : Prop := ∀ a o, F a = some o → G a = some o
theorem Le.refl (F : Hp) : Le F F := fun _ _ e => e
theorem Le.trans {F G H : Hp} (a : Le F G) (b : Le G H) : Le F H := fun c o e => b c o (a c o e)
theorem Le.sqL {K : PySem.W.Frag} {F G : Hp} {a : Addr} {xs : List V} (l : Le F G) (h : SqL K F a xs) : SqL K G a xs := Same.seq l h
theorem Le.sqT {K : PySem.W.Frag} {F G : Hp} {a : Addr} {xs : List V} (l : Le F G) (h : SqT K F a xs) : SqT K G a xs := by
  rcases h with (h | ⟨o, h⟩) | h
  · exact .inl (.inl (l _ _ h))
  · exact .inl (.inr ⟨o, l _ _ h⟩)
  · exact .inr h
mutual
theorem Rep.mono {T : Ty} {F G : Hp} (l : Le F G) : ∀ {v : V} {d : D}, Rep T F v d → Rep T G v d
  | _, _, .non => .non
  | _, _, .bl b => .bl b
  | _, _, .int i => .int i
  | _, _, .str x => .str x
  | _, _, .lst h r => .lst (l _ _ h) (RepAll.mono l r)
  | _, _, .tup h r => .tup (l _ _ h) (RepAll.mono l r)
  | _, _, .dic h o k r => .dic (l _ _ h) o (RepAll.mono l k) (RepAll.mono l r)
theorem RepAll.mono {T : Ty} {F G : Hp} (l : Le F G) : ∀ {v : List V} {d : List D}, RepAll T F v d → RepAll T G v d
  | _, _, .nil => .nil
  | _, _, .cons h r => .cons (Rep.mono l h) (RepAll.mono l r)
end
/-- a value of the store's language -/
def RepV (T : Ty) (ρ : List Addr) (F : Hp) (x : V) : Val → Prop
  | .d t => Rep T F x t
  | .ref n => ∃ a, ρ[n]? = some a ∧ x = .ref a
  | .fn f => ∃ a, T.mg f = some (.ref a) ∧ x = .ref a
  | .scr ns => ∃ a, x = .ref a ∧ SqL T.K F a (ns.map V.int)
  | .ty n => x = .ty n
  | .lam i cd => x = .ref i.f ∧ F i.c = some (LamX.CodeO i.c i.q) ∧ RepAll T F i.cv cd
abbrev RepVs (T : Ty) (ρ : List Addr) (F : Hp) : List V → List Val → Prop := Paired fun x v => RepV T ρ F x v
def FRep (T : Ty) (ρ : List Addr) (F : Hp) : List (Str × V) → List (Str × Val) → Prop := Paired fun (p : Str × V) (q : Str × Val) => p.1 = q.1 ∧ RepV T ρ F p.2 q.2
def ObRep (T : Ty) (ρ : List Addr) (F : Hp) (a : Addr) (h : Option HO) : Ob → Prop
  | .lst xs => ∃ vs, h = some (.lst vs) ∧ RepVs T ρ F vs xs
  | .dic m => ∃ o kvs vvs, h = some (dHO a o) ∧ DObj T.w a o kvs (m.map (·.1)) vvs ∧ RepAll T F kvs (m.map (·.1)) ∧ RepVs T ρ F vvs (m.map (·.2))
  | .ins c fs => ∃ C dx vs, T.mg c = some (.ref C) ∧ h = some (.ins C dx vs) ∧ FRep T ρ F vs fs
  | .lk o => ObRep T ρ F a h o
  | .gone => True
  | .tab x q => a = (He.cT T.K x).2 ∧ ∃ ps : Array Value, h = some (.tbl ps) ∧ TriplesOk ps.toList ∧ ∀ (pos : Pos) (cv : Value), codeAmong pos ps.toList = some cv → ∃ c, cv = .ref c ∧ F c = some (LamX.CodeO c q)
def Owns (ρ : List Addr) (S : Store) (a : Addr) : Prop := ∃ (n : Nat) (o : Ob), ρ[n]? = some a ∧ S[n]? = some o ∧ o.live = true
open Classical in
noncomputable def frz (ρ : List Addr) (S : Store) (H : Hp) : Hp := fun a => if Owns ρ S a then none else H a
structure Rel (T : Ty) (ρ : List Addr) (S : Store) (H : Hp) : Prop where
  len : ρ.length = S.length
  nd : ρ.Nodup
  trk : ∀ a ∈ ρ, ∃ o, H a = some o
  obj : ∀ (n : Nat) (a : Addr) (o : Ob), ρ[n]? = some a → S[n]? = some o → ObRep T ρ (frz ρ S H) a (H a) o
structure Ext (ρ : List Addr) (S : Store) (H : Hp) (ρ' : List Addr) (S' : Store) (H' : Hp) : Prop where
  pre : ρ <+: ρ'
  le : Le (frz ρ S H) (frz ρ' S' H')
  lck : ∀ (n : Nat) (a : Addr) (o : Ob), ρ[n]? = some a → S[n]? = some (.lk o) → S'[n]? = some (.lk o) ∧ H' a = H a
theorem Ext.refl {ρ : List Addr} {S : Store} {H : Hp} : Ext ρ S H ρ S H := ⟨List.prefix_refl _, Le.refl _, fun _ _ _ _ e => ⟨e, rfl⟩⟩
theorem pre_get {α : Type} {l m : List α} (h : l <+: m) {n : Nat} {a : α} (e : l[n]? = some a) : m[n]? = some a := by
  obtain ⟨t, rfl⟩ := h
  rw [List.getElem?_append_left (List.getElem?_eq_some_iff.mp e).1]
  exact e
theorem Ext.trans {ρ ρ1 ρ2 : List Addr} {S S1 S2 : Store} {H H1 H2 : Hp} (a : Ext ρ S H ρ1 S1 H1) (b : Ext ρ1 S1 H1 ρ2 S2 H2) : Ext ρ S H ρ2 S2 H2 :=
  ⟨a.pre.trans b.pre, a.le.trans b.le, fun n x o e q => by
    obtain ⟨q1, h1⟩ := a.lck n x o e q
    obtain ⟨q2, h2⟩ := b.lck n x o (pre_get a.pre e) q1
    exact ⟨q2, h2.trans h1⟩⟩
theorem RepV.mono {T : Ty} {ρ ρ' : List Addr} {F G : Hp} (p : ρ <+: ρ') (l : Le F G) {x : V} : ∀ {v : Val}, RepV T ρ F x v → RepV T ρ' G x v
  | .d _, h => Rep.mono l h
  | .ref _, ⟨a, e, q⟩ => ⟨a, pre_get p e, q⟩
  | .fn _, h => h
  | .scr _, ⟨a, e, q⟩ => ⟨a, e, l.sqL q⟩
  | .ty _, h => h
  | .lam _ _, ⟨e, c, r⟩ => ⟨e, l _ _ c, RepAll.mono l r⟩
theorem RepVs.mono {T : Ty} {ρ ρ' : List Addr} {F G : Hp} (p : ρ <+: ρ') (l : Le F G) {x : List V} {v : List Val} (h : RepVs T ρ F x v) : RepVs T ρ' G x v := L2.Paired.mapP h fun _ _ q => q.mono p l
theorem FRep.mono {T : Ty} {ρ ρ' : List Addr} {F G : Hp} (p : ρ <+: ρ') (l : Le F G) {x : List (Str × V)} {v : List (Str × Val)} (h : FRep T ρ F x v) : FRep T ρ' G x v := L2.Paired.mapP h fun _ _ q => ⟨q.1, q.2.mono p l⟩
theorem ObRep.mono {T : Ty} {ρ ρ' : List Addr} {F G : Hp} (p : ρ <+: ρ') (l : Le F G) {a : Addr} {h : Option HO} : ∀ {o : Ob}, ObRep T ρ F a h o → ObRep T ρ' G a h o
  | .lst _, ⟨vs, e, r⟩ => ⟨vs, e, r.mono p l⟩
  | .dic _, ⟨o, kvs, vvs, e, d, k, r⟩ => ⟨o, kvs, vvs, e, d, k.mono l, r.mono p l⟩
  | .ins _ _, ⟨C, dx, vs, c, e, r⟩ => ⟨C, dx, vs, c, e, r.mono p l⟩
  | .lk o, h => ObRep.mono (o := o) p l h
  | .gone, _ => trivial
  | .tab _ _, ⟨e, ps, e1, e2, e3⟩ => ⟨e, ps, e1, e2, fun pos cv z => by
    obtain ⟨c, z1, z2⟩ := e3 pos cv z
    exact ⟨c, z1, l _ _ z2⟩⟩
def LocOk (T : Ty) (ρ : List Addr) (F : Hp) (l : Loc) (σ : St) : Prop := l.length = σ.length ∧ ∀ (i : Nat) (v : Val), l[i]? = some (some v) → ∃ x, σ[i]? = some (some x) ∧ RepV T ρ F x v
theorem LocOk.mono {T : Ty} {ρ ρ' : List Addr} {F G : Hp} {l : Loc} {σ : St} (p : ρ <+: ρ') (le : Le F G) (h : LocOk T ρ F l σ) : LocOk T ρ' G l σ := ⟨h.1, fun i v e => by
  obtain ⟨x, q, r⟩ := h.2 i v e
  exact ⟨x, q, r.mono p le⟩⟩
theorem frz_le {ρ : List Addr} {S : Store} {H : Hp} : Le (frz ρ S H) H := fun a o e => by
  unfold frz at e
  split at e
  · cases e
  · exact e
theorem Owns.tracked {T : Ty} {ρ : List Addr} {S : Store} {H : Hp} {a : Addr} (R : Rel T ρ S H) (h : Owns ρ S a) : ∃ o, H a = some o := by
  obtain ⟨n, o, e, _⟩ := h
  exact R.trk a (List.mem_of_getElem? e)
theorem Rel.fresh {T : Ty} {ρ : List Addr} {S : Store} {H : Hp} {p : Addr} (R : Rel T ρ S H) (hp : H p = none) : p ∉ ρ := fun h => by
  obtain ⟨o, e⟩ := R.trk p h
  rw [hp] at e
  cases e
theorem frz_of_not {ρ : List Addr} {S : Store} {H : Hp} {a : Addr} (h : ¬ Owns ρ S a) : frz ρ S H a = H a := by
  unfold frz
  rw [if_neg h]
theorem frz_of_own {ρ : List Addr} {S : Store} {H : Hp} {a : Addr} (h : Owns ρ S a) : frz ρ S H a = none := by
  unfold frz
  rw [if_pos h]
theorem upd_ne' {H : Hp} {a b : Addr} {o : HO} (h : ¬ b = a) : upd H a o b = H b := upd_ne h
/-- something new that is not owned -/
theorem Rel.lay {T : Ty} {ρ : List Addr} {S : Store} {H : Hp} {p : Addr} {o : HO} (R : Rel T ρ S H) (hp : H p = none) :
    Rel T ρ S (upd H p o) ∧ Ext ρ S H ρ S (upd H p o) ∧ frz ρ S (upd H p o) p = some o := by
  have np := R.fresh hp
  have nO : ¬ Owns ρ S p := fun ⟨n, o, e, _⟩ => np (List.mem_of_getElem? e)
  have le : Le (frz ρ S H) (frz ρ S (upd H p o)) := fun a u e => by
    by_cases h : Owns ρ S a
    · rw [frz_of_own h] at e
      cases e
    · rw [frz_of_not h] at e ⊢
      rw [upd_ne (ne_of_none e hp)]
      exact e
  have ne : ∀ a ∈ ρ, a ≠ p := fun a h e => np (e ▸ h)
  refine ⟨⟨R.len, R.nd, fun a h => ?_, fun n a ob e q => ?_⟩, ⟨List.prefix_refl _, le, fun n a ob e q => ⟨q, upd_ne (ne a (List.mem_of_getElem? e))⟩⟩, ?_⟩
  · rw [upd_ne (ne a h)]
    exact R.trk a h
  · rw [upd_ne (ne a (List.mem_of_getElem? e))]
    exact (R.obj n a ob e q).mono (List.prefix_refl _) le
  · rw [frz_of_not nO]
    exact upd_same
theorem get_snoc {α : Type} {l : List α} {x : α} {n : Nat} {y : α} (h : (l ++ [x])[n]? = some y) : (l[n]? = some y) ∨ (n = l.length ∧ y = x) := by
  rw [List.getElem?_append] at h
  split at h
  · exact .inl h
  · rename_i hn
    have e : n - l.length = 0 := by
      have := (List.getElem?_eq_some_iff.mp h).1
      simp at this
      omega
    rw [e] at h
    exact .inr ⟨by omega, (Option.some.inj h).symm⟩
theorem pre_snoc {α : Type} (l : List α) (x : α) : l <+: l ++ [x] := ⟨[x], rfl⟩
/-- a new object that is owned -/
theorem Rel.new {T : Ty} {ρ : List Addr} {S : Store} {H : Hp} {p : Addr} {o : HO} {ob : Ob} (R : Rel T ρ S H) (hp : H p = none) (lv : ob.live = true) (h : ObRep T ρ (frz ρ S H) p (some o) ob) :
    Rel T (ρ ++ [p]) (S ++ [ob]) (upd H p o) ∧ Ext ρ S H (ρ ++ [p]) (S ++ [ob]) (upd H p o) := by
  have np := R.fresh hp
  have ne : ∀ a ∈ ρ, a ≠ p := fun a h e => np (e ▸ h)
  have own : ∀ a, Owns (ρ ++ [p]) (S ++ [ob]) a → a = p ∨ Owns ρ S a := fun a ⟨n, u, e, q, l⟩ => by
    rcases get_snoc e with e' | ⟨_, e'⟩
    · rcases get_snoc q with q' | ⟨q', _⟩
      · exact .inr ⟨n, u, e', q', l⟩
      · have := (List.getElem?_eq_some_iff.mp e').1
        have := R.len
        omega
    · exact .inl e'
  have le : Le (frz ρ S H) (frz (ρ ++ [p]) (S ++ [ob]) (upd H p o)) := fun a u e => by
    by_cases h : Owns ρ S a
    · rw [frz_of_own h] at e
      cases e
    · rw [frz_of_not h] at e
      have na : a ≠ p := ne_of_none e hp
      rw [frz_of_not (fun z => (own a z).elim na h), upd_ne na]
      exact e
  refine ⟨⟨by simp [R.len], ?_, fun a h => ?_, fun n a u e q => ?_⟩, ⟨pre_snoc _ _, le, fun n a u e q => ⟨pre_get (pre_snoc _ _) q, upd_ne (ne a (List.mem_of_getElem? e))⟩⟩⟩
  · refine List.nodup_append.mpr ⟨R.nd, by simp, fun a ha b hb => ?_⟩
    have : b = p := by simpa using hb
    rw [this]
    exact ne a ha
  · rcases List.mem_append.mp h with h | h
    · rw [upd_ne (ne a h)]
      exact R.trk a h
    · have : a = p := by simpa using h
      exact ⟨o, by rw [this]; exact upd_same⟩
  · rcases get_snoc e with e' | ⟨hn, e'⟩
    · rcases get_snoc q with q' | ⟨q', _⟩
      · rw [upd_ne (ne a (List.mem_of_getElem? e'))]
        exact (R.obj n a u e' q').mono (pre_snoc _ _) le
      · have := (List.getElem?_eq_some_iff.mp e').1
        have := R.len
        omega
    · rcases get_snoc q with q' | ⟨q', qe⟩
      · have := (List.getElem?_eq_some_iff.mp q').1
        have := R.len
        omega
      · subst e' qe
        rw [upd_same]
        exact h.mono (pre_snoc _ _) le
theorem nodup_get {α : Type} {l : List α} (h : l.Nodup) {i j : Nat} {a : α} (hi : l[i]? = some a) (hj : l[j]? = some a) : i = j :=
  (List.getElem?_inj (List.getElem?_eq_some_iff.mp hi).1 h).mp (hi.trans hj.symm)
theorem owns_set {ρ : List Addr} {S : Store} {n : Nat} {ob ob' : Ob} {a b : Addr} (ha : ρ[n]? = some a) (hn : S[n]? = some ob) (hl : ob.live = ob'.live) : Owns ρ (S.set n ob') b ↔ Owns ρ S b := by
  have lt : n < S.length := (List.getElem?_eq_some_iff.mp hn).1
  constructor
  · rintro ⟨m, o, e, q, l⟩
    by_cases h : n = m
    · subst h
      rw [List.getElem?_set_self lt] at q
      cases q
      exact ⟨n, ob, e, hn, hl.trans l⟩
    · rw [List.getElem?_set_ne h] at q
      exact ⟨m, o, e, q, l⟩
  · rintro ⟨m, o, e, q, l⟩
    by_cases h : n = m
    · subst h
      rw [hn] at q
      cases q
      exact ⟨n, ob', e, by rw [List.getElem?_set_self lt], hl.symm.trans l⟩
    · exact ⟨m, o, e, by rw [List.getElem?_set_ne h]; exact q, l⟩
/-- an owned object is written -/
theorem Rel.put {T : Ty} {ρ : List Addr} {S : Store} {H : Hp} {n : Nat} {a : Addr} {o : HO} {ob ob' : Ob} (R : Rel T ρ S H) (ha : ρ[n]? = some a) (hn : S[n]? = some ob) (lv : ob.live = true) (lv' : ob'.live = true) (nl : ∀ u, ob ≠ .lk u)
    (h : ObRep T ρ (frz ρ S H) a (some o) ob') : Rel T ρ (S.set n ob') (upd H a o) ∧ Ext ρ S H ρ (S.set n ob') (upd H a o) := by
  have lt : n < S.length := (List.getElem?_eq_some_iff.mp hn).1
  have ow : ∀ b, Owns ρ (S.set n ob') b ↔ Owns ρ S b := fun b => owns_set ha hn (lv.trans lv'.symm)
  have fe : frz ρ (S.set n ob') (upd H a o) = frz ρ S H := by
    funext b
    by_cases hb : Owns ρ S b
    · rw [frz_of_own hb, frz_of_own ((ow b).mpr hb)]
    · rw [frz_of_not hb, frz_of_not (fun z => hb ((ow b).mp z))]
      exact upd_ne fun z => hb (z ▸ ⟨n, ob, ha, hn, lv⟩)
  refine ⟨⟨by simp [R.len], R.nd, fun b hb => ?_, fun m b u e q => ?_⟩, ⟨List.prefix_refl _, by rw [fe]; exact Le.refl _, fun m b u e q => ?_⟩⟩
  · by_cases z : b = a
    · exact ⟨o, by rw [z]; exact upd_same⟩
    · rw [upd_ne z]
      exact R.trk b hb
  · rw [fe]
    by_cases hm : n = m
    · subst hm
      rw [List.getElem?_set_self lt] at q
      rw [ha] at e
      cases q
      cases e
      rw [upd_same]
      exact h
    · rw [List.getElem?_set_ne hm] at q
      rw [upd_ne (fun z : b = a => hm (nodup_get R.nd ha (z ▸ e)))]
      exact R.obj m b u e q
  · have hm : n ≠ m := fun z => by
      subst z
      rw [hn] at q
      exact nl u (Option.some.inj q)
    exact ⟨by rw [List.getElem?_set_ne hm]; exact q, upd_ne (fun z : b = a => hm (nodup_get R.nd ha (z ▸ e)))⟩
/-- the store's object is another word for the same -/
theorem Rel.ghost {T : Ty} {ρ : List Addr} {S : Store} {H : Hp} {n : Nat} {a : Addr} {ob ob' : Ob} (R : Rel T ρ S H) (ha : ρ[n]? = some a) (hn : S[n]? = some ob) (lv : ob.live = ob'.live) (h : ObRep T ρ (frz ρ S H) a (H a) ob') :
    Rel T ρ (S.set n ob') H ∧ frz ρ (S.set n ob') H = frz ρ S H := by
  have lt : n < S.length := (List.getElem?_eq_some_iff.mp hn).1
  have fe : frz ρ (S.set n ob') H = frz ρ S H := by
    funext b
    by_cases hb : Owns ρ S b
    · rw [frz_of_own hb, frz_of_own ((owns_set ha hn lv).mpr hb)]
    · rw [frz_of_not hb, frz_of_not (fun z => hb ((owns_set ha hn lv).mp z))]
  refine ⟨⟨by simp [R.len], R.nd, R.trk, fun m b u e q => ?_⟩, fe⟩
  rw [fe]
  by_cases hm : n = m
  · subst hm
    rw [List.getElem?_set_self lt] at q
    rw [ha] at e
    cases q
    cases e
    exact h
  · rw [List.getElem?_set_ne hm] at q
    exact R.obj m b u e q
/-- what is owned is let go: it never changes again -/
theorem Rel.drop {T : Ty} {ρ : List Addr} {S : Store} {H : Hp} {n : Nat} {a : Addr} {ob : Ob} (R : Rel T ρ S H) (ha : ρ[n]? = some a) (hn : S[n]? = some ob) (nl : ∀ u, ob ≠ .lk u) :
    Rel T ρ (S.set n .gone) H ∧ Ext ρ S H ρ (S.set n .gone) H ∧ frz ρ (S.set n .gone) H a = H a := by
  have lt : n < S.length := (List.getElem?_eq_some_iff.mp hn).1
  have ow : ∀ b, Owns ρ (S.set n .gone) b → Owns ρ S b ∧ b ≠ a := fun b ⟨m, u, e, q, l⟩ => by
    by_cases hm : n = m
    · subst hm
      rw [List.getElem?_set_self lt] at q
      cases q
      cases l
    · rw [List.getElem?_set_ne hm] at q
      exact ⟨⟨m, u, e, q, l⟩, fun z => hm (nodup_get R.nd ha (z ▸ e))⟩
  have le : Le (frz ρ S H) (frz ρ (S.set n .gone) H) := fun b u e => by
    by_cases h : Owns ρ S b
    · rw [frz_of_own h] at e
      cases e
    · rw [frz_of_not h] at e
      rw [frz_of_not (fun z => h (ow b z).1)]
      exact e
  refine ⟨⟨by simp [R.len], R.nd, R.trk, fun m b u e q => ?_⟩, ⟨List.prefix_refl _, le, fun m b u e q => ⟨?_, rfl⟩⟩, frz_of_not (fun z => (ow a z).2 rfl)⟩
  · by_cases hm : n = m
    · subst hm
      rw [List.getElem?_set_self lt] at q
      cases q
      exact trivial
    · rw [List.getElem?_set_ne hm] at q
      exact (R.obj m b u e q).mono (List.prefix_refl _) le
  · have hm : n ≠ m := fun z => by
      subst z
      rw [hn] at q
      exact nl u (Option.some.inj q)
    rw [List.getElem?_set_ne hm]
    exact q
def Val.cl (n : Nat) : Val → Prop
  | .ref m => m < n
  | _ => True
def Ob.cl (n : Nat) : Ob → Prop
  | .lst xs => ∀ v ∈ xs, v.cl n
  | .dic m => ∀ v ∈ m.map (·.2), v.cl n
  | .ins _ fs => ∀ v ∈ fs.map (·.2), v.cl n
  | .lk o => o.cl n
  | .gone => True
  | .tab _ _ => True
theorem RepV.cl {T : Ty} {ρ : List Addr} {F : Hp} {x : V} : ∀ {v : Val}, RepV T ρ F x v → v.cl ρ.length
  | .d _, _ => trivial
  | .ref _, ⟨_, e, _⟩ => (List.getElem?_eq_some_iff.mp e).1
  | .fn _, _ => trivial
  | .scr _, _ => trivial
  | .ty _, _ => trivial
  | .lam _ _, _ => trivial
theorem pre_len {α : Type} {l m : List α} (h : l <+: m) {n : Nat} (hn : n < l.length) : m[n]? = l[n]? := by
  obtain ⟨t, rfl⟩ := h
  exact List.getElem?_append_left hn
theorem RepV.back {T : Ty} {ρ ρ' : List Addr} {F : Hp} {x : V} (p : ρ <+: ρ') : ∀ {v : Val}, v.cl ρ.length → RepV T ρ' F x v → RepV T ρ F x v
  | .d _, _, h => h
  | .ref _, c, ⟨a, e, q⟩ => ⟨a, by rw [pre_len p c] at e; exact e, q⟩
  | .fn _, _, h => h
  | .scr _, _, h => h
  | .ty _, _, h => h
  | .lam _ _, _, h => h
theorem RepVs.cl {T : Ty} {ρ : List Addr} {F : Hp} : ∀ {x : List V} {v : List Val}, RepVs T ρ F x v → ∀ u ∈ v, u.cl ρ.length
  | _, _, .nil, _, h => by cases h
  | _, _, .cons r t, u, h => by
    rcases List.mem_cons.mp h with e | e
    · rw [e]
      exact r.cl
    · exact RepVs.cl t u e
theorem RepVs.back {T : Ty} {ρ ρ' : List Addr} {F : Hp} (p : ρ <+: ρ') : ∀ {x : List V} {v : List Val}, (∀ u ∈ v, u.cl ρ.length) → RepVs T ρ' F x v → RepVs T ρ F x v
  | _, _, _, .nil => .nil
  | _, _, c, .cons r t => .cons (r.back p (c _ List.mem_cons_self)) (RepVs.back p (fun u h => c u (List.mem_cons_of_mem _ h)) t)
theorem FRep.cl {T : Ty} {ρ : List Addr} {F : Hp} : ∀ {x : List (Str × V)} {v : List (Str × Val)}, FRep T ρ F x v → ∀ u ∈ v.map (·.2), u.cl ρ.length
  | _, _, .nil, _, h => by cases h
  | _, _, .cons r t, u, h => by
    rcases List.mem_cons.mp h with e | e
    · rw [e]
      exact r.2.cl
    · exact FRep.cl t u e
theorem FRep.back {T : Ty} {ρ ρ' : List Addr} {F : Hp} (p : ρ <+: ρ') : ∀ {x : List (Str × V)} {v : List (Str × Val)}, (∀ u ∈ v.map (·.2), u.cl ρ.length) → FRep T ρ' F x v → FRep T ρ F x v
  | _, _, _, .nil => .nil
  | _, _, c, .cons r t => .cons ⟨r.1, r.2.back p (c _ List.mem_cons_self)⟩ (FRep.back p (fun u h => c u (List.mem_cons_of_mem _ h)) t)
theorem ObRep.cl {T : Ty} {ρ : List Addr} {F : Hp} {a : Addr} {h : Option HO} : ∀ {o : Ob}, ObRep T ρ F a h o → o.cl ρ.length
  | .lst _, ⟨_, _, r⟩ => r.cl
  | .dic _, ⟨_, _, _, _, _, _, r⟩ => r.cl
  | .ins _ _, ⟨_, _, _, _, _, r⟩ => r.cl
  | .lk o, h => ObRep.cl (o := o) h
  | .gone, _ => trivial
  | .tab _ _, _ => trivial
theorem ObRep.back {T : Ty} {ρ ρ' : List Addr} {F : Hp} {a : Addr} {h : Option HO} (p : ρ <+: ρ') : ∀ {o : Ob}, o.cl ρ.length → ObRep T ρ' F a h o → ObRep T ρ F a h o
  | .lst _, c, ⟨vs, e, r⟩ => ⟨vs, e, r.back p c⟩
  | .dic _, c, ⟨o, kvs, vvs, e, d, k, r⟩ => ⟨o, kvs, vvs, e, d, k, r.back p c⟩
  | .ins _ _, cc, ⟨C, dx, vs, c, e, r⟩ => ⟨C, dx, vs, c, e, r.back p cc⟩
  | .lk o, c, h => ObRep.back (o := o) p c h
  | .gone, _, _ => trivial
  | .tab _ _, _, h => h
/-- behind a call: what it made for itself is forgotten -/
theorem Rel.cut {T : Ty} {ρ ρ' : List Addr} {S S' : Store} {H H' : Hp} (R : Rel T ρ S H) (R' : Rel T ρ' S' H') (e : Ext ρ S H ρ' S' H') (c : ∀ (i : Nat) (o : Ob), i < S.length → S'[i]? = some o → S[i]? = some o ∨ o.cl S.length) :
    Rel T ρ (S'.take S.length) H' ∧ Ext ρ S H ρ (S'.take S.length) H' ∧ Le (frz ρ' S' H') (frz ρ (S'.take S.length) H') := by
  have le' : S.length ≤ S'.length := by
    have := e.pre.length_le
    have := R.len
    have := R'.len
    omega
  have get : ∀ (i : Nat) (o : Ob), (S'.take S.length)[i]? = some o → i < S.length ∧ S'[i]? = some o := fun i o h => by
    rw [List.getElem?_take] at h
    split at h
    · exact ⟨by assumption, h⟩
    · cases h
  have ow : ∀ b, Owns ρ (S'.take S.length) b → Owns ρ' S' b := fun b ⟨n, o, q, r, l⟩ => ⟨n, o, pre_get e.pre q, (get n o r).2, l⟩
  have le : Le (frz ρ' S' H') (frz ρ (S'.take S.length) H') := fun b u h => by
    by_cases z : Owns ρ' S' b
    · rw [frz_of_own z] at h
      cases h
    · rw [frz_of_not z] at h
      rw [frz_of_not (fun y => z (ow b y))]
      exact h
  refine ⟨⟨by rw [List.length_take, Nat.min_eq_left le']; exact R.len, R.nd, fun a h => R'.trk a (e.pre.subset h), fun n a o q r => ?_⟩, ⟨List.prefix_refl _, e.le.trans le, fun n a o q r => ?_⟩, le⟩
  · obtain ⟨hn, r'⟩ := get n o r
    refine ((R'.obj n a o (pre_get e.pre q) r').mono (List.prefix_refl _) le).back e.pre ?_
    rcases c n o hn r' with z | z
    · exact (R.obj n a o q z).cl
    · rw [R.len]
      exact z
  · obtain ⟨h1, h2⟩ := e.lck n a o q r
    refine ⟨?_, h2⟩
    rw [List.getElem?_take, if_pos (List.getElem?_eq_some_iff.mp r).1]
    exact h1
end FH
namespace FH
open L2 PySem PySem.Spec
abbrev ty (X : Cx) : Ty := ⟨X.w, X.K, X.mg⟩
/-- the wish for exceptions, by the class's name -/
abbrev WE := Str → St → Hp → Prop
def wx (T : Ty) (W : WE) : WX := fun cls d σ H => ∃ c C, T.mg c = some (.ref C) ∧ cls = .ref C ∧ d = none ∧ W c σ H
abbrev RG (β α : Type) := List Addr → Hp → β → α → Prop
def MonoG {β α : Type} (rel : RG β α) : Prop := ∀ {ρ ρ' : List Addr} {F G : Hp} {x : β} {a : α}, ρ <+: ρ' → Le F G → rel ρ F x a → rel ρ' G x a
def PostG {α β : Type} (T : Ty) (W : WE) (σ : St) (rel : RG β α) (ρ : List Addr) (S : Store) (H : Hp) (r : Res α) (Q : β → Hp → Prop) : Prop := match r with
  | .ok a S' => ∀ (ρ' : List Addr) (H' : Hp) (x : β), Rel T ρ' S' H' → Ext ρ S H ρ' S' H' → rel ρ' (frz ρ' S' H') x a → Q x H'
  | .exc c S' => ∀ (ρ' : List Addr) (H' : Hp), Rel T ρ' S' H' → Ext ρ S H ρ' S' H' → W c σ H'
  | .stuck => False
def tG {α β : Type} (T : Ty) (W : WE) (rel : RG β α) (m : Loc → Store → Res α) (σ : St) (H : Hp) (Q : β → Hp → Prop) : Prop :=
  ∃ ρ S l, Rel T ρ S H ∧ LocOk T ρ (frz ρ S H) l σ ∧ PostG T W σ rel ρ S H (m l S) Q
abbrev relV (T : Ty) : RG V Val := fun ρ F x v => RepV T ρ F x v
abbrev relVs (T : Ty) : RG (List V) (List Val) := fun ρ F x v => RepVs T ρ F x v
abbrev relB : RG Bool Bool := fun _ _ x v => x = v
theorem monoV {T : Ty} : MonoG (relV T) := fun p l h => RepV.mono p l h
theorem monoVs {T : Ty} : MonoG (relVs T) := fun p l h => RepVs.mono p l h
theorem monoB : MonoG relB := fun _ _ h => h
abbrev tD (T : Ty) (W : WE) (m : Ev) : TE := tG T W (relV T) m
abbrev tDA (T : Ty) (W : WE) (m : Loc → Store → Res (List Val)) : TA := tG T W (relVs T) m
abbrev tDT (T : Ty) (W : WE) (m : Loc → Store → Res Bool) : TT := tG T W relB m
theorem PostG.start {α β : Type} {T : Ty} {W : WE} {σ : St} {rel : RG β α} {ρ ρ1 : List Addr} {S S1 : Store} {H H1 : Hp} {Q : β → Hp → Prop} (e : Ext ρ S H ρ1 S1 H1) : ∀ {r : Res α}, PostG T W σ rel ρ S H r Q → PostG T W σ rel ρ1 S1 H1 r Q
  | .ok _ _, h => fun ρ' H' x R E q => h ρ' H' x R (e.trans E) q
  | .exc _ _, h => fun ρ' H' R E => h ρ' H' R (e.trans E)
  | .stuck, h => h
/-- two steps, one behind another -/
theorem PostG.bind {α β γ δ : Type} {T : Ty} {W : WE} {σ : St} {rel1 : RG β α} {rel2 : RG δ γ} {ρ : List Addr} {S : Store} {H : Hp} {r : Res α} {k : α → Store → Res γ} {Q : δ → Hp → Prop} (h : PostG T W σ rel2 ρ S H (r.bind k) Q) :
    PostG T W σ rel1 ρ S H r fun x H1 => ∃ ρ1 S1 a, Rel T ρ1 S1 H1 ∧ Ext ρ S H ρ1 S1 H1 ∧ rel1 ρ1 (frz ρ1 S1 H1) x a ∧ r = .ok a S1 ∧ PostG T W σ rel2 ρ1 S1 H1 (k a S1) Q := by
  cases r with
  | ok a S1 => exact fun ρ1 H1 x R E q => ⟨ρ1, S1, a, R, E, q, rfl, PostG.start E h⟩
  | exc c S1 => exact h
  | stuck => exact h
theorem PostG.imp {α β : Type} {T : Ty} {W : WE} {σ : St} {rel : RG β α} {ρ : List Addr} {S : Store} {H : Hp} {Q Q' : β → Hp → Prop} (q : ∀ x H, Q x H → Q' x H) : ∀ {r : Res α}, PostG T W σ rel ρ S H r Q → PostG T W σ rel ρ S H r Q'
  | .ok _ _, h => fun ρ' H' x R E z => q _ _ (h ρ' H' x R E z)
  | .exc _ _, h => h
  | .stuck, h => h
theorem PE_imp {X : Cx} {e : Expr} {t t' : TE} (h : PE X e t) (i : ∀ σ H Q, t' σ H Q → t σ H Q) : PE X e t' := ⟨fun pins s σ H Q I q => h.run pins s σ H Q I (i σ H Q q)⟩
theorem PT_imp {X : Cx} {e : Expr} {t t' : TT} (h : PT X e t) (i : ∀ σ H Q, t' σ H Q → t σ H Q) : PT X e t' := ⟨fun pins s σ H Q I q => h.run pins s σ H Q I (i σ H Q q)⟩
theorem PW_imp {X : Cx} {e : Expr} {t t' : TT} (h : PW X e t) (i : ∀ σ H Q, t' σ H Q → t σ H Q) : PW X e t' := ⟨fun wh pins s σ H Q I q => h.run wh pins s σ H Q I (i σ H Q q)⟩
theorem PA_imp {X : Cx} {e : List Expr} {t t' : TA} (h : PA X e t) (i : ∀ σ H Q, t' σ H Q → t σ H Q) : PA X e t' := ⟨fun pos pins s σ H Q I q => h.run pos pins s σ H Q I (i σ H Q q)⟩
theorem PS_imp {X : Cx} {e : Stmt} {t t' : TS} (h : PS X e t) (i : ∀ D σ H, t' D σ H → t D σ H) : PS X e t' := ⟨fun pins s σ H D I q => h.run pins s σ H D I (i D σ H q)⟩
theorem PSs_imp {X : Cx} {e : List Stmt} {t t' : TS} (h : PSs X e t) (i : ∀ D σ H, t' D σ H → t D σ H) : PSs X e t' := ⟨fun pins s σ H D I q => h.run pins s σ H D I (i D σ H q)⟩
abbrev PD (X : Cx) (W : WE) (e : Expr) (m : Ev) : Prop := PE X e (tD (ty X) W m)
abbrev PDA (X : Cx) (W : WE) (es : List Expr) (m : Loc → Store → Res (List Val)) : Prop := PA X es (tDA (ty X) W m)
abbrev PDT (X : Cx) (W : WE) (e : Expr) (m : Loc → Store → Res Bool) : Prop := PT X e (tDT (ty X) W m)
/-- what is never come to -/
theorem pd_stuck {X : Cx} {W : WE} {e : Expr} {m : Ev} (h : ∀ l S, m l S = .stuck) : PD X W e m := ⟨fun pins s σ H Q I ⟨ρ, S, l, _, _, p⟩ => by
  rw [h l S] at p
  exact p.elim⟩
theorem pdt_stuck {X : Cx} {W : WE} {e : Expr} {m : Loc → Store → Res Bool} (h : ∀ l S, m l S = .stuck) : PDT X W e m := ⟨fun pins s σ H Q I ⟨ρ, S, l, _, _, p⟩ => by
  rw [h l S] at p
  exact p.elim⟩
/-! ### values: operations -/
abbrev Op1 := Val → Store → Option (Val × Store)
abbrev Op2 := Val → Val → Store → Option (Val × Store)
abbrev OpL := List Val → Store → Option (Val × Store)
@[simp] def ofO {α : Type} : Option (α × Store) → Res α
  | some (v, S) => .ok v S
  | none => .stuck
def Post0 (T : Ty) (ρ : List Addr) (S : Store) (H : Hp) (r : Option (Val × Store)) (Q : VK) : Prop := match r with
  | some (v, S') => ∀ (ρ' : List Addr) (H' : Hp) (x : V), Rel T ρ' S' H' → Ext ρ S H ρ' S' H' → RepV T ρ' (frz ρ' S' H') x v → Q x H'
  | none => False
theorem Post0.of {T : Ty} {W : WE} {σ : St} {ρ : List Addr} {S : Store} {H : Hp} {Q : VK} : ∀ {r : Option (Val × Store)}, PostG T W σ (relV T) ρ S H (ofO r) Q → Post0 T ρ S H r Q
  | some _, h => h
  | none, h => h
def r1 (T : Ty) (g : Op1) (x : V) (H : Hp) (Q : VK) : Prop := ∃ ρ S v, Rel T ρ S H ∧ RepV T ρ (frz ρ S H) x v ∧ Post0 T ρ S H (g v S) Q
def r2 (T : Ty) (g : Op2) : R2 := fun x y H Q => ∃ ρ S v u, Rel T ρ S H ∧ RepV T ρ (frz ρ S H) x v ∧ RepV T ρ (frz ρ S H) y u ∧ Post0 T ρ S H (g v u S) Q
def rL (T : Ty) (g : OpL) (xs : List V) (H : Hp) (Q : VK) : Prop := ∃ ρ S vs, Rel T ρ S H ∧ RepVs T ρ (frz ρ S H) xs vs ∧ Post0 T ρ S H (g vs S) Q
@[simp] def ev1 (g : Op1) (a : Ev) : Ev := fun l S => (a l S).bind fun v S1 => ofO (g v S1)
@[simp] def ev2 (g : Op2) (a b : Ev) : Ev := fun l S => (a l S).bind fun v S1 => (b l S1).bind fun u S2 => ofO (g v u S2)
@[simp] def evL (g : OpL) (a : Loc → Store → Res (List Val)) : Ev := fun l S => (a l S).bind fun v S1 => ofO (g v S1)
section
variable {X : Cx} {W : WE}
theorem seq1 {T : Ty} {a : Ev} {g : Op1} {σ : St} {H : Hp} {Q : VK} (h : tD T W (ev1 g a) σ H Q) : tD T W a σ H fun x H1 => r1 T g x H1 Q := by
  obtain ⟨ρ, S, l, R, L, p⟩ := h
  exact ⟨ρ, S, l, R, L, p.bind.imp fun x H1 ⟨ρ1, S1, v, R1, E1, q, _, p1⟩ => ⟨ρ1, S1, v, R1, q, Post0.of p1⟩⟩
theorem seqL {T : Ty} {a : Loc → Store → Res (List Val)} {g : OpL} {σ : St} {H : Hp} {Q : VK} (h : tD T W (evL g a) σ H Q) : tDA T W a σ H fun x H1 => rL T g x H1 Q := by
  obtain ⟨ρ, S, l, R, L, p⟩ := h
  exact ⟨ρ, S, l, R, L, p.bind.imp fun x H1 ⟨ρ1, S1, v, R1, E1, q, _, p1⟩ => ⟨ρ1, S1, v, R1, q, Post0.of p1⟩⟩
/-- two expressions in a row, then more -/
theorem seq2G {T : Ty} {α β : Type} {rel : RG β α} {a b : Ev} {k : Val → Val → Store → Res α} {σ : St} {H : Hp} {Q : β → Hp → Prop} (h : tG T W rel (fun l S => (a l S).bind fun v S1 => (b l S1).bind fun u S2 => k v u S2) σ H Q) :
    tD T W a σ H fun x H1 => tD T W b σ H1 fun y H2 => ∃ ρ S v u, Rel T ρ S H2 ∧ RepV T ρ (frz ρ S H2) x v ∧ RepV T ρ (frz ρ S H2) y u ∧ PostG T W σ rel ρ S H2 (k v u S) Q := by
  obtain ⟨ρ, S, l, R, L, p⟩ := h
  refine ⟨ρ, S, l, R, L, p.bind.imp fun x H1 ⟨ρ1, S1, v, R1, E1, q, _, p1⟩ => ?_⟩
  refine ⟨ρ1, S1, l, R1, L.mono E1.pre E1.le, p1.bind.imp fun y H2 ⟨ρ2, S2, u, R2, E2, q2, _, p2⟩ => ?_⟩
  exact ⟨ρ2, S2, v, u, R2, q.mono E2.pre E2.le, q2, p2⟩
theorem seq2 {T : Ty} {a b : Ev} {g : Op2} {σ : St} {H : Hp} {Q : VK} (h : tD T W (ev2 g a b) σ H Q) : tD T W a σ H fun x H1 => tD T W b σ H1 fun y H2 => r2 T g x y H2 Q := by
  obtain ⟨ρ, S, l, R, L, p⟩ := seq2G h
  exact ⟨ρ, S, l, R, L, p.imp fun x H1 ⟨ρ1, S1, l1, R1, L1, p1⟩ => ⟨ρ1, S1, l1, R1, L1, p1.imp fun y H2 ⟨ρ2, S2, v, u, R2, q, q2, p2⟩ => ⟨ρ2, S2, v, u, R2, q, q2, Post0.of p2⟩⟩⟩
theorem pd_op {op : Operator} {g : Op2} {a b : Expr} {ma mb : Ev} {pos : Pos} (ho : OpR X (binaryOp op) (r2 (ty X) g)) (ha : PD X W a ma) (hb : PD X W b mb) : PD X W (.BinOp a op b pos) (ev2 g ma mb) :=
  PE_imp (pe_op ho ha hb) fun _ _ _ h => seq2 h
theorem pd_un {op : UnaryOp} {g : Op1} {a : Expr} {ma : Ev} {pos : Pos} (ho : UnR X (unaryOp op) (r1 (ty X) g)) (ha : PD X W a ma) : PD X W (.UnaryOp op a pos) (ev1 g ma) :=
  PE_imp (pe_un ho ha) fun _ _ _ h => seq1 h
end
/-! ### names and constants -/
def evVar (i : Nat) : Ev := fun l S => match l[i]? with
  | some (some v) => .ok v S
  | _ => .stuck
@[simp] def evC (v : Val) : Ev := fun _ S => .ok v S
section
variable {X : Cx} {W : WE}
theorem pd_var {i : Nat} {x : Str} {pos : Pos} (hN : X.N[i]? = some x) (hv : Vis X.env.scope x) (hd : (x == ("__debug__" : Str)) = false) (hcd : (x == ("__classdict__" : Str)) = false) : PD X W (.Name x pos) (evVar i) :=
  PE_imp (pe_var hN hv hd hcd) fun σ H Q ⟨ρ, S, l, R, L, p⟩ => by
    unfold evVar at p
    split at p
    · rename_i v e
      obtain ⟨y, q, r⟩ := L.2 i v e
      exact ⟨y, q, p ρ H y R Ext.refl r⟩
    · exact p.elim
theorem tC_of {T : Ty} {v : Val} {x : V} (h : ∀ ρ F, RepV T ρ F x v) {σ : St} {H : Hp} {Q : VK} (t : tD T W (evC v) σ H Q) : tC x σ H Q := by
  obtain ⟨ρ, S, l, R, L, p⟩ := t
  exact p ρ H x R Ext.refl (h _ _)
theorem pd_int {i : Int} {j pos} : PD X W (.Constant (.int i) j pos) (evC (.d (.int i))) := PE_imp pe_int fun _ _ _ => tC_of (v := .d (.int i)) fun _ _ => Rep.int i
theorem pd_bl {b : Bool} {j pos} : PD X W (.Constant (.bool b) j pos) (evC (.d (.bool b))) := PE_imp pe_bl fun _ _ _ => tC_of (v := .d (.bool b)) fun _ _ => Rep.bl b
theorem pd_non {j pos} : PD X W (.Constant .none j pos) (evC (.d .none)) := PE_imp pe_non fun _ _ _ => tC_of (v := .d .none) fun _ _ => Rep.non
theorem pd_str {x : Str} {j pos} : PD X W (.Constant (.str x) j pos) (evC (.d (.str x))) := PE_imp pe_str fun _ _ _ => tC_of (v := .d (.str x)) fun _ _ => Rep.str x
/-- a module's name that holds plain data -/
theorem pd_glob {x : Str} {v : Val} {z : V} {u : Value} {pos : Pos} (hg : Gl X x) (hm : X.mg x = some u) (r : RelV z u) (hv : ∀ ρ F, RepV (ty X) ρ F z v) (hd : (x == ("__debug__" : Str)) = false) : PD X W (.Name x pos) (evC v) := PE_imp (pe_glob hg hm r hd) fun _ _ _ => tC_of hv
end
/-! ### argument lists -/
@[simp] def evNil : Loc → Store → Res (List Val) := fun _ S => .ok [] S
@[simp] def evCons (a : Ev) (r : Loc → Store → Res (List Val)) : Loc → Store → Res (List Val) := fun l S => (a l S).bind fun v S1 => (r l S1).bind fun vs S2 => .ok (v :: vs) S2
section
variable {X : Cx} {W : WE}
theorem pda_nil : PDA X W [] evNil := PA_imp pa_nil fun σ H Q ⟨ρ, S, l, R, L, p⟩ => p ρ H [] R Ext.refl .nil
theorem notStar {e : Expr} {es : List Expr} {env : Env} (h : ∀ x p, e ≠ .Starred x p) : starEach (e :: es) env = (false, eval e env) :: starEach es env := by
  cases e with
  | Starred x p => exact absurd rfl (h x p)
  | _ => rfl
theorem pda_cons {e : Expr} {es : List Expr} {a : Ev} {r : Loc → Store → Res (List Val)} (hs : ∀ x p, e ≠ .Starred x p) (ha : PD X W e a) (hr : PDA X W es r) : PDA X W (e :: es) (evCons a r) :=
  PA_imp (pa_cons ha hr (notStar hs)) fun σ H Q ⟨ρ, S, l, R, L, p⟩ => by
    refine ⟨ρ, S, l, R, L, p.bind.imp fun x H1 ⟨ρ1, S1, v, R1, E1, q, _, p1⟩ => ?_⟩
    refine ⟨ρ1, S1, l, R1, L.mono E1.pre E1.le, p1.bind.imp fun xs H2 ⟨ρ2, S2, vs, R2, E2, q2, _, p2⟩ => ?_⟩
    exact p2 ρ2 H2 (x :: xs) R2 Ext.refl (.cons (q.mono E2.pre E2.le) q2)
end
end FH
/-! dicts whose keys are whole numbers, texts, None and tuples of these, all in one dict -/
namespace FH
open L2 PySem PySem.Spec
structure UEnt (w : World) (h : Heap) (es : Array DictEntry) (ks : List NestedKey) : Prop where
  size : es.size = ks.length
  at_ : ∀ (j : Nat) (e : DictEntry), es[j]? = some e → ∃ k, ks[j]? = some k ∧ NestedIs h k e.key ∧ e.hash = k.hash w ∧ k.depth ≤ 8
section
variable {prog : Program} {w : World} {A : Around} {E : Value → Shared → Prop} {s : Shared}
theorem UEnt.get {h : Heap} {es : Array DictEntry} {ks : List NestedKey} (U : UEnt w h es ks) {j : Nat} {k : NestedKey} (e : ks[j]? = some k) : ∃ z, es[j]? = some z ∧ NestedIs h k z.key ∧ z.hash = k.hash w ∧ k.depth ≤ 8 := by
  have hj : j < es.size := by
    rw [U.size]
    exact (List.getElem?_eq_some_iff.mp e).1
  obtain ⟨k', e', a, b, c⟩ := U.at_ j es[j] (Array.getElem?_eq_getElem hj)
  rw [e] at e'
  cases e'
  exact ⟨es[j], Array.getElem?_eq_getElem hj, a, b, c⟩
theorem eqb {x y : NestedKey} {u v : Value} {Q : Bool → Shared → Prop} (hu : A.units + 8 < cLine) (hx : NestedIs s.heap x u) (hy : NestedIs s.heap y v) (dx : x.depth ≤ 8) (q : Q (decide (x = y)) s) : wpAny (model prog w) A (eqBool u v) Q E s := by
  refine eqAt_key x y A s u v hx hy ?_ prog w E Q ?_
  · have := Nat.min_le_left x.depth y.depth
    omega
  · rw [← NestedKey.decide_eq]
    exact q
theorem nodup_places (n : Nat) (f : Nat → Option Int) (h : Int) : (placesWithHash n f h).Nodup := by
  unfold placesWithHash
  exact List.nodup_range.sublist List.filter_sublist
theorem mem_places {n : Nat} {f : Nat → Option Int} {h : Int} {i : Nat} : i ∈ placesWithHash n f h ↔ i < n ∧ f i = some h := by
  unfold placesWithHash
  simp [List.mem_filter]
theorem quietU {kv : Value} {k : NestedKey} {stored : List Value} {Q : Bool → Shared → Prop} (hk : NestedIs s.heap k kv) (dk : k.depth ≤ 8) (hst : ∀ v ∈ stored, ∃ k', NestedIs s.heap k' v ∧ k'.depth ≤ 8) (q : Q false s) :
    wpAny (model prog w) A (tableMayTell kv stored) Q E s := by
  unfold tableMayTell
  split
  · exact wpAny_pure q
  · refine wpAny_bind (quiet_key k kv 8 s hk dk A E _ ?_)
    simp only [Bool.not_true, Bool.false_eq_true, if_false]
    refine wpAny_bind (wpAny_forIn_list _ (fun r b s' => s' = s ∧ b = (none, ()) ∧ ∀ v ∈ r, ∃ k', NestedIs s.heap k' v ∧ k'.depth ≤ 8) _ ?_ ?_ _ _ ⟨rfl, rfl, hst⟩)
    · rintro x r b s' ⟨rfl, rfl, hr⟩
      obtain ⟨k', h1, h2⟩ := hr x List.mem_cons_self
      refine wpAny_bind (quiet_key k' x 8 _ h1 h2 A E _ ?_)
      simp only [Bool.not_true, Bool.false_eq_true, if_false]
      exact wpAny_pure ⟨rfl, rfl, fun v z => hr v (List.mem_cons_of_mem _ z)⟩
    · rintro b s' ⟨rfl, rfl, _⟩
      exact wpAny_pure q
theorem ufind {d : Addr} {kv : Value} {k : NestedKey} {o : Obj} {es : Array DictEntry} {ep : Nat} {ks : List NestedKey} {Q : Option Nat → Shared → Prop} (hu : A.units + 8 < cLine) (hk : NestedIs s.heap k kv) (dk : k.depth ≤ 8)
    (ho : s.heap.get? d = some o) (hd : o.data = .dict es ep) (U : UEnt w s.heap es ks) (nd : ks.Nodup) (hnone : k ∉ ks → Q none s) (hsome : ∀ j, ks[j]? = some k → Q (some j) s) :
    wpAny (model prog w) A (dictFind d kv (k.hash w)) Q E s := by
  have inP : ∀ j, ks[j]? = some k → j ∈ placesWithHash es.size (fun i => es[i]?.map (·.hash)) (k.hash w) := fun j e => by
    obtain ⟨z, h1, h2, h3, _⟩ := U.get e
    exact mem_places.mpr ⟨by rw [U.size]; exact (List.getElem?_eq_some_iff.mp e).1, by rw [h1, Option.map_some, h3]⟩
  have isP : ∀ x ∈ placesWithHash es.size (fun i => es[i]?.map (·.hash)) (k.hash w), ∃ z k', es[x]? = some z ∧ ks[x]? = some k' ∧ NestedIs s.heap k' z.key ∧ k'.depth ≤ 8 ∧ z.hash = k.hash w := fun x hx => by
    obtain ⟨hlt, hh⟩ := mem_places.mp hx
    have hex : es[x]? = some es[x] := Array.getElem?_eq_getElem hlt
    obtain ⟨k', h2, h3, h4, h5⟩ := U.at_ x es[x] hex
    exact ⟨es[x], k', hex, h2, h3, h5, by rw [hex] at hh; exact Option.some.inj hh⟩
  have ndP := nodup_places es.size (fun i => es[i]?.map (·.hash)) (k.hash w)
  have nochg : ¬ (es.any fun e => e.key == kv && e.hash != k.hash w) = true := by
    rw [← Array.any_toList, List.any_eq_true]
    rintro ⟨e, hin, hc⟩
    obtain ⟨j, hj⟩ := List.mem_iff_getElem?.mp hin
    rw [Array.getElem?_toList] at hj
    obtain ⟨k', _, h2, h3, _⟩ := U.at_ j e hj
    simp only [Bool.and_eq_true, beq_iff_eq, bne_iff_ne, ne_eq] at hc
    rw [hc.1] at h2
    exact hc.2 (by rw [h3, NestedIs.inj _ _ _ h2 hk])
  unfold dictFind
  refine wpAny_holding (wpAny_bind (wpAny_dictEntries ho hd ?_))
  have road1 : ∀ (z : Str) (t : Tok), kv = .str z t → (es.all fun e => isExactStrKey e.key) = true → wpAny (model prog w) A (foundByValue d kv es z) Q E s := fun z t ez hall => by
    subst ez
    cases hk
    unfold foundByValue
    cases hf : es.findIdx? (fun e => e.key.isStr z) with
    | none =>
      refine wpAny_pure (hnone fun m => ?_)
      obtain ⟨j, e⟩ := List.mem_iff_getElem?.mp m
      obtain ⟨y, h1, h2, _⟩ := U.get e
      have := Array.findIdx?_eq_none_iff.mp hf y (Array.mem_of_getElem? h1)
      cases hy : y.key <;> rw [hy] at h2 this <;> cases h2
      simp [Value.isStr] at this
    | some i =>
      obtain ⟨hi, h1, _⟩ := Array.findIdx?_eq_some_iff_getElem.mp hf
      have hei : es[i]? = some es[i] := Array.getElem?_eq_getElem hi
      obtain ⟨k', h2, h3, h4, h5⟩ := U.at_ i es[i] hei
      have ek : k' = .text z := by
        cases hy : es[i].key <;> rw [hy] at h3 h1 <;> first | (simp [Value.isStr] at h1; done) | skip
        cases h3
        simp only [Value.isStr, beq_iff_eq] at h1
        rw [h1]
      subst ek
      dsimp only
      rw [hei]
      dsimp only
      refine wpAny_bind (wpAny_dictEpoch ho hd (wpAny_bind (eqb hu h3 (NestedIs.text z t) h5 (wpAny_bind (wpAny_dictEpoch ho hd ?_)))))
      show wpAny _ _ (if (ep != ep) = true then _ else _) _ E _
      rw [if_neg (by simp), decide_eq_true rfl]
      exact wpAny_bind (wpAny_rule (wpAny_pure (hsome i h2)))
  generalize placesWithHash es.size (fun i => es[i]?.map (·.hash)) (k.hash w) = P at *
  have noneOf : (∀ j ∈ P, ks[j]? ≠ some k) → k ∉ ks := fun h m => by
    obtain ⟨j, e⟩ := List.mem_iff_getElem?.mp m
    exact h j (inP j e) e
  have stq : ∀ v ∈ P.filterMap (fun i => es[i]?.map (·.key)), ∃ k', NestedIs s.heap k' v ∧ k'.depth ≤ 8 := fun v hv => by
    obtain ⟨i, hiP, hi⟩ := List.mem_filterMap.mp hv
    obtain ⟨z, k', h1, _, h2, h3, _⟩ := isP i hiP
    rw [h1] at hi
    exact ⟨k', Option.some.inj hi ▸ h2, h3⟩
  have road2 : wpAny (model prog w) A (dictWalkPlain d kv (k.hash w) es P) Q E s := by
    unfold dictWalkPlain
    refine wpAny_bind (wpAny_forIn_list _ (fun r b s' => s' = s ∧ b = (none, ()) ∧ ∃ p, P = p ++ r ∧ ∀ j ∈ p, ks[j]? ≠ some k) _ ?_ ?_ _ _ ⟨rfl, rfl, [], rfl, by simp⟩)
    · rintro x r b s' ⟨rfl, rfl, p, hp, hno⟩
      obtain ⟨z, k', hex, h2, h3, h5, heq⟩ := isP x (by rw [hp]; simp)
      rw [hex]
      dsimp only
      rw [heq, if_pos (by simp)]
      refine wpAny_bind (wpAny_dictEpoch ho hd (wpAny_bind (eqb hu h3 hk h5 (wpAny_bind (wpAny_dictEpoch ho hd ?_)))))
      rw [if_neg (by simp)]
      by_cases hkk : k' = k
      · subst hkk
        rw [decide_eq_true rfl, if_pos rfl]
        exact wpAny_bind (wpAny_rule (wpAny_pure (wpAny_pure (hsome x h2))))
      · rw [decide_eq_false hkk, if_neg (by simp)]
        refine wpAny_bind (wpAny_rule (wpAny_pure ⟨rfl, rfl, p ++ [x], by rw [hp]; simp, fun j hj => ?_⟩))
        rcases List.mem_append.mp hj with y | y
        · exact hno j y
        · have : j = x := by simpa using y
          rw [this, h2]
          exact fun z => hkk (Option.some.inj z)
    · rintro b s' ⟨rfl, rfl, p, hp, hno⟩
      refine wpAny_pure (hnone (noneOf fun j hj => hno j ?_))
      rw [hp] at hj
      simpa using hj
  by_cases hs : ∃ z t, kv = .str z t ∧ (es.all fun e => isExactStrKey e.key) = true
  · obtain ⟨z, t, ez, ha⟩ := hs
    have r := road1 z t ez ha
    subst ez
    dsimp only
    rw [if_pos ha]
    exact r
  by_cases hc : (kv :: P.filterMap (fun i => es[i]?.map (·.key))).all carriedByValue = true
  · cases kv <;> first | (cases hk; done) | skip
    all_goals
      dsimp only
      try rw [if_neg (fun h => hs ⟨_, _, rfl, h⟩)]
      rw [if_pos hc]
      exact road2
  have hq := fun Q' q => quietU (prog := prog) (w := w) (A := A) (E := E) (Q := Q') hk dk stq q
  cases kv <;> first | (cases hk; done) | skip
  all_goals
    dsimp only
    try rw [if_neg (fun h => hs ⟨_, _, rfl, h⟩)]
    rw [if_neg hc]
    try rw [if_neg nochg]
    split
    all_goals
      first | refine wpAny_bind (wpAny_pure ?_) | refine wpAny_bind (hq _ ?_)
      rw [if_neg (by simp)]
      refine wpAny_bind (wpAny_forIn_list _ (fun r b s' => s' = s ∧ ∃ hit p, b = (none, hit) ∧ P = p ++ r ∧ ((hit = none ∧ ∀ j ∈ p, ks[j]? ≠ some k) ∨ ∃ j, j ∈ p ∧ hit = some j ∧ ks[j]? = some k)) _ ?_ ?_ _ _ ⟨rfl, none, [], rfl, rfl, .inl ⟨rfl, by simp⟩⟩)
      · rintro x r b s' ⟨rfl, hit, p, rfl, hp, hh⟩
        obtain ⟨z, k', hex, h2, h3, h5, heq⟩ := isP x (by rw [hp]; simp)
        have hxp : x ∉ p := fun y => by
          rw [hp, List.nodup_append] at ndP
          exact ndP.2.2 x y x List.mem_cons_self rfl
        rw [hex]
        dsimp only
        rw [heq, if_pos (by simp)]
        refine wpAny_bind (wpAny_dictEpoch ho hd (wpAny_bind (eqb hu h3 hk h5 (wpAny_bind (wpAny_dictEpoch ho hd ?_)))))
        rw [if_neg (by simp)]
        by_cases hkk : k' = k
        · subst hkk
          rw [decide_eq_true rfl, if_pos rfl]
          rcases hh with ⟨rfl, _⟩ | ⟨j, hj, _, e⟩
          · rw [if_neg (by simp)]
            refine wpAny_bind (wpAny_rule ?_)
            split
            · exact wpAny_pure (wpAny_pure (hsome x h2))
            · exact wpAny_pure ⟨rfl, some x, p ++ [x], rfl, by rw [hp]; simp, .inr ⟨x, by simp, rfl, h2⟩⟩
          · exact absurd (nodup_get nd e h2 ▸ hj) hxp
        · rw [decide_eq_false hkk, if_neg (by simp)]
          refine wpAny_bind (wpAny_rule ?_)
          rw [if_neg (by simp)]
          refine wpAny_pure ⟨rfl, hit, p ++ [x], rfl, by rw [hp]; simp, ?_⟩
          rcases hh with ⟨y, hno⟩ | ⟨j, hj, y, e⟩
          · refine .inl ⟨y, fun j hj => ?_⟩
            rcases List.mem_append.mp hj with y | y
            · exact hno j y
            · have : j = x := by simpa using y
              rw [this, h2]
              exact fun z => hkk (Option.some.inj z)
          · exact .inr ⟨j, List.mem_append_left _ hj, y, e⟩
      · rintro b s' ⟨rfl, hit, p, rfl, hp, hh⟩
        rcases hh with ⟨rfl, hno⟩ | ⟨j, _, rfl, e⟩
        · refine wpAny_pure (hnone (noneOf fun j hj => hno j ?_))
          rw [hp] at hj
          simpa using hj
        · exact wpAny_pure (hsome j e)
end
end FH
namespace FH
open L2 PySem PySem.Spec
structure UD (w : World) (h : Heap) (d : Addr) (o : Obj) (es : Array DictEntry) (ep : Nat) (ks : List NestedKey) : Prop where
  get : h.get? d = some o
  ex : o.ExactDict
  dat : o.data = .dict es ep
  ent : UEnt w h es ks
  nd : ks.Nodup
abbrev NewD (h : Heap) (d : Addr) (es : Array DictEntry) (ep : Nat) (h' : Heap) (o' : Obj) : Prop := h'.get? d = some o' ∧ o'.ExactDict ∧ o'.data = .dict es ep ∧ Heap.SameBut d h h'
section
variable {prog : Program} {w : World} {A : Around} {E : Value → Shared → Prop} {s : Shared} {d : Addr} {kv v : Value} {k : NestedKey} {o : Obj} {es : Array DictEntry} {ep : Nat} {ks : List NestedKey}
theorem UD.ty {s : Shared} (u : UD w s.heap d o es ep ks) : s.TypeIs (.ref d) "dict" := ⟨o, u.get, u.ex.1⟩
theorem uget {Q : Option Value → Shared → Prop} (hu : A.units + 8 < cLine) (hk : NestedIs s.heap k kv) (dk : k.depth ≤ 8) (u : UD w s.heap d o es ep ks)
    (hn : k ∉ ks → Q none { s with toks := s.toks + k.draws }) (hs : ∀ (j : Nat) (e : DictEntry), ks[j]? = some k → es[j]? = some e → Q (some e.val) { s with toks := s.toks + k.draws }) : wpAny (model prog w) A (dictGet d kv) Q E s := by
  unfold dictGet
  refine wpAny_holding (wpAny_bind (pyHash_key k kv A s _ hk (by omega) ?_))
  refine wpAny_bind (ufind (s := { s with toks := s.toks + k.draws }) hu hk dk u.get u.dat u.ent u.nd (fun h => wpAny_pure (hn h)) fun j hj => ?_)
  refine wpAny_bind (wpAny_dictEntries (s := { s with toks := s.toks + k.draws }) u.get u.dat ?_)
  obtain ⟨e, he, _⟩ := u.ent.get hj
  rw [he]
  exact wpAny_pure (hs j e hj he)
theorem uset {Q : Unit → Shared → Prop} (hu : A.units + 8 < cLine) (hk : NestedIs s.heap k kv) (dk : k.depth ≤ 8) (u : UD w s.heap d o es ep ks) (hz : es.size ≤ sizeLine)
    (hn : k ∉ ks → ∀ h' o', NewD s.heap d (es.push ⟨k.hash w, kv, v⟩) (ep + 1) h' o' → Q () { s with heap := h', toks := s.toks + k.draws })
    (hs : ∀ (j : Nat), ks[j]? = some k → ∀ h' o', NewD s.heap d (es.modify j fun e => { e with val := v }) ep h' o' → Q () { s with heap := h', toks := s.toks + k.draws }) : wpAny (model prog w) A (dictSet d kv v) Q E s := by
  unfold dictSet
  refine wpAny_holding (wpAny_bind (pyHash_key k kv A s _ hk (by omega) ?_))
  unfold dictSetHashed
  refine wpAny_holding (wpAny_bind (ufind (s := { s with toks := s.toks + k.draws }) hu hk dk u.get u.dat u.ent u.nd (fun h => ?_) fun j hj => ?_))
  · refine wpAny_bind (wpAny_rule (wpAny_updateDictKeys (hz := hz) (s := { s with toks := s.toks + k.draws }) u.get u.dat ?_))
    exact hn h _ _ ⟨Heap.get?_update_self _ u.get (Obj.isFreed_of_dict (Obj.data_mapDictKeys u.dat _)), u.ex.mapDictKeys _, Obj.data_mapDictKeys u.dat _, Heap.SameBut.update ..⟩
  · refine wpAny_bind (wpAny_rule (wpAny_bind (wpAny_updateDict (s := { s with toks := s.toks + k.draws }) u.get u.dat (wpAny_point ?_))))
    exact hs j hj _ _ ⟨Heap.get?_update_self _ u.get (Obj.isFreed_of_dict (Obj.data_mapDict u.dat _)), u.ex.mapDict _, Obj.data_mapDict u.dat _, Heap.SameBut.update ..⟩
theorem usetdef {Q : Value → Shared → Prop} (hu : A.units + 8 < cLine) (hk : NestedIs s.heap k kv) (dk : k.depth ≤ 8) (u : UD w s.heap d o es ep ks) (hz : es.size ≤ sizeLine)
    (hn : k ∉ ks → ∀ h' o', NewD s.heap d (es.push ⟨k.hash w, kv, v⟩) (ep + 1) h' o' → Q v { s with heap := h', toks := s.toks + k.draws })
    (hs : ∀ (j : Nat) (e : DictEntry), ks[j]? = some k → es[j]? = some e → Q e.val { s with toks := s.toks + k.draws }) : wpAny (model prog w) A (dictSetDefault d kv v) Q E s := by
  unfold dictSetDefault
  refine wpAny_holding (wpAny_bind (pyHash_key k kv A s _ hk (by omega) ?_))
  refine wpAny_bind (ufind (s := { s with toks := s.toks + k.draws }) hu hk dk u.get u.dat u.ent u.nd (fun h => ?_) fun j hj => ?_)
  · refine wpAny_bind (wpAny_rule (wpAny_bind (wpAny_updateDictKeys (hz := hz) (s := { s with toks := s.toks + k.draws }) u.get u.dat (wpAny_pure ?_))))
    exact hn h _ _ ⟨Heap.get?_update_self _ u.get (Obj.isFreed_of_dict (Obj.data_mapDictKeys u.dat _)), u.ex.mapDictKeys _, Obj.data_mapDictKeys u.dat _, Heap.SameBut.update ..⟩
  · refine wpAny_bind (wpAny_dictEntries (s := { s with toks := s.toks + k.draws }) u.get u.dat ?_)
    obtain ⟨e, he, _⟩ := u.ent.get hj
    rw [he]
    exact wpAny_bind (wpAny_rule (wpAny_pure (hs j e hj he)))
theorem udel {Q : Option Value → Shared → Prop} (hu : A.units + 8 < cLine) (hk : NestedIs s.heap k kv) (dk : k.depth ≤ 8) (u : UD w s.heap d o es ep ks) (hz : es.size ≤ sizeLine) (j : Nat) (e : DictEntry) (hj : ks[j]? = some k) (he : es[j]? = some e)
    (hs : ∀ h' o', NewD s.heap d (es.eraseIdxIfInBounds j) (ep + 1) h' o' → Q (some e.val) { s with heap := h', toks := s.toks + k.draws }) : wpAny (model prog w) A (dictDel d kv) Q E s := by
  unfold dictDel
  refine wpAny_holding (wpAny_bind (pyHash_key k kv A s _ hk (by omega) ?_))
  refine wpAny_bind (ufind (s := { s with toks := s.toks + k.draws }) hu hk dk u.get u.dat u.ent u.nd (fun h => absurd (List.mem_of_getElem? hj) h) fun i hi => ?_)
  cases nodup_get u.nd hj hi
  refine wpAny_bind (wpAny_rule (wpAny_bind (wpAny_dictEntries (s := { s with toks := s.toks + k.draws }) u.get u.dat ?_)))
  rw [he]
  refine wpAny_bind (wpAny_updateDictKeys (hz := hz) (s := { s with toks := s.toks + k.draws }) u.get u.dat (wpAny_pure ?_))
  exact hs _ _ ⟨Heap.get?_update_self _ u.get (Obj.isFreed_of_dict (Obj.data_mapDictKeys u.dat _)), u.ex.mapDictKeys _, Obj.data_mapDictKeys u.dat _, Heap.SameBut.update ..⟩
/-! ### the operations of Python -/
theorem ucontains {Q : Bool → Shared → Prop} (hu : A.units + 9 < cLine) (sm : (d == sysModules) = false) (hk : NestedIs s.heap k kv) (dk : k.depth ≤ 8) (u : UD w s.heap d o es ep ks) (q : Q (decide (k ∈ ks)) { s with toks := s.toks + k.draws }) :
    wpAny (model prog w) A (contains (.ref d) kv) Q E s := by
  refine wpAny_contains_slot u.ty F.slot_dict_contains ?_
  refine call_meetsIn F.slot_dict_contains u.ty F.entry_dict_contains (F.args_dict_contains_2 _ _) (S := fun A' R s' => A' = A ∧ s' = s ∧ R (.ok (.ret (.bool (decide (k ∈ ks))))) { s with toks := s.toks + k.draws }) (fun A' R s' hS => ?_) ⟨rfl, rfl, wpAny_truthy_bool q⟩
  obtain ⟨rfl, rfl, hq⟩ := hS
  show wpAny _ _ (dictGet d kv >>= _) _ _ _
  refine wpAny_bind (uget (by show A'.units + 1 + 8 < cLine; omega) hk dk u (fun h => ?_) fun j e hj he => ?_)
  · rw [decide_eq_false h] at hq
    show wpAny _ _ (Builtin.Dict.pendingKey? d kv >>= _) _ _ _
    exact wpAny_bind (wpAny_pendingKey_other sm (wpAny_pure hq))
  · rw [decide_eq_true (List.mem_of_getElem? hj)] at hq
    show wpAny _ _ (ret (.bool true)) _ _ _
    exact wpAny_pure hq
theorem uin {Q : Value → Shared → Prop} (hu : A.units + 9 < cLine) (sm : (d == sysModules) = false) (hk : NestedIs s.heap k kv) (dk : k.depth ≤ 8) (u : UD w s.heap d o es ep ks) (q : Q (.bool (decide (k ∈ ks))) { s with toks := s.toks + k.draws }) :
    wpAny (model prog w) A (compareOp .In kv (.ref d)) Q E s := by
  show wpAny _ _ (do return .bool (← contains (.ref d) kv)) Q E s
  exact wpAny_bind (ucontains hu sm hk dk u (wpAny_pure q))
theorem unotin {Q : Value → Shared → Prop} (hu : A.units + 9 < cLine) (sm : (d == sysModules) = false) (hk : NestedIs s.heap k kv) (dk : k.depth ≤ 8) (u : UD w s.heap d o es ep ks) (q : Q (.bool (!decide (k ∈ ks))) { s with toks := s.toks + k.draws }) :
    wpAny (model prog w) A (compareOp .NotIn kv (.ref d)) Q E s := by
  show wpAny _ _ (do return .bool (!(← contains (.ref d) kv))) Q E s
  exact wpAny_bind (ucontains hu sm hk dk u (wpAny_pure q))
theorem ugetItem {Q : Value → Shared → Prop} {j : Nat} {e : DictEntry} (hu : A.units + 9 < cLine) (hk : NestedIs s.heap k kv) (dk : k.depth ≤ 8) (u : UD w s.heap d o es ep ks) (hj : ks[j]? = some k) (he : es[j]? = some e)
    (q : Q e.val { s with toks := s.toks + k.draws }) : wpAny (model prog w) A (getItem (.ref d) kv) Q E s := by
  unfold getItem
  refine wpAny_holding (wpAny_bind (wpAny_sequenceKey u.ty (by decide) ?_))
  refine wpAny_bind (wpAny_callSpecial?_slot (name := Str.ofString "__getitem__") u.ty slot_dict_getitem (wpAny_call_entry slot_dict_getitem u.ty entry_dict_getitem ?_ (args_dict_getitem _ _)))
  show wpAny _ _ (dictGet d kv >>= _) _ _ s
  refine wpAny_bind (uget (by show A.units + 1 + 8 < cLine; omega) hk dk u (fun h => absurd (List.mem_of_getElem? hj) h) fun i e' hi he' => ?_)
  cases nodup_get u.nd hj hi
  rw [he] at he'
  cases he'
  exact wpAny_pure ⟨e.val, rfl, wpAny_pure q⟩
theorem usetItem {Q : Unit → Shared → Prop} (hu : A.units + 9 < cLine) (hk : NestedIs s.heap k kv) (dk : k.depth ≤ 8) (u : UD w s.heap d o es ep ks) (hz : es.size ≤ sizeLine)
    (hn : k ∉ ks → ∀ h' o', NewD s.heap d (es.push ⟨k.hash w, kv, v⟩) (ep + 1) h' o' → Q () { s with heap := h', toks := s.toks + k.draws })
    (hs : ∀ (j : Nat), ks[j]? = some k → ∀ h' o', NewD s.heap d (es.modify j fun e => { e with val := v }) ep h' o' → Q () { s with heap := h', toks := s.toks + k.draws }) : wpAny (model prog w) A (setItem (.ref d) kv v) Q E s := by
  unfold setItem
  refine wpAny_holding (wpAny_bind (wpAny_sequenceKey u.ty (by decide) ?_))
  refine wpAny_bind (wpAny_callSpecial?_slot (name := Str.ofString "__setitem__") u.ty slot_dict_setitem (wpAny_call_entry slot_dict_setitem u.ty entry_dict_setitem ?_ (args_dict_setitem _ _ _)))
  refine wpAny_bind (wpAny_notOrdered_dict u.ty ?_)
  show wpAny _ _ (dictSet d kv v >>= _) _ _ _
  refine wpAny_bind (uset (A := A.in1) (by show A.units + 1 + 8 < cLine; omega) hk dk u hz (fun h h' o' n => ?_) fun j hj h' o' n => ?_)
  · exact wpAny_pure ⟨.none, rfl, wpAny_pure (hn h h' o' n)⟩
  · exact wpAny_pure ⟨.none, rfl, wpAny_pure (hs j hj h' o' n)⟩
theorem ugetM {dflt : List Value} {Q : Value → Shared → Prop} (hdf : dflt = [] ∨ ∃ x, dflt = [x]) (hu : A.units + 9 < cLine) (sm : (d == sysModules) = false) (hk : NestedIs s.heap k kv) (dk : k.depth ≤ 8) (u : UD w s.heap d o es ep ks)
    (hn : k ∉ ks → Q (dflt.headD .none) { s with toks := s.toks + k.draws }) (hs : ∀ (j : Nat) (e : DictEntry), ks[j]? = some k → es[j]? = some e → Q e.val { s with toks := s.toks + k.draws }) : wpAny (model prog w) A (call (.builtin "dict.get") (.ref d :: kv :: dflt)) Q E s := by
  have ha : argsOk "dict.get" ⟨.ref d :: kv :: dflt, []⟩ := by
    rcases hdf with rfl | ⟨x, rfl⟩
    · exact F.args_dict_get_2 _ _
    · exact F.args_dict_get_3 _ _ _
  refine call_meetsIn F.slot_dict_get u.ty F.entry_dict_get ha (S := fun A' R s' => A' = A ∧ s' = s ∧ (k ∉ ks → R (.ok (.ret (dflt.headD .none))) { s with toks := s.toks + k.draws }) ∧ ∀ (j : Nat) (e : DictEntry), ks[j]? = some k → es[j]? = some e → R (.ok (.ret e.val)) { s with toks := s.toks + k.draws }) (MeetsIn.of_wp fun A' R s' hS => ?_) ⟨rfl, rfl, hn, hs⟩
  obtain ⟨rfl, rfl, hn, hs⟩ := hS
  rcases hdf with rfl | ⟨x, rfl⟩
  · show wpAny _ _ (dictGet d kv >>= _) _ _ _
    refine wpAny_bind (uget (by show A'.units + 1 + 8 < cLine; omega) hk dk u (fun h => ?_) fun j e hj he => wpAny_pure ⟨_, rfl, hs j e hj he⟩)
    show wpAny _ _ (Builtin.Dict.missed d kv >>= _) _ _ _
    exact wpAny_bind (wpAny_missed_other sm (wpAny_pure ⟨_, rfl, hn h⟩))
  · show wpAny _ _ (dictGet d kv >>= _) _ _ _
    refine wpAny_bind (uget (by show A'.units + 1 + 8 < cLine; omega) hk dk u (fun h => ?_) fun j e hj he => wpAny_pure ⟨_, rfl, hs j e hj he⟩)
    show wpAny _ _ (Builtin.Dict.missed d kv >>= _) _ _ _
    exact wpAny_bind (wpAny_missed_other sm (wpAny_pure ⟨_, rfl, hn h⟩))
end
end FH
namespace FH
open L2 PySem PySem.Spec
mutual
theorem toKey_inj : ∀ (a b : D) (k : NestedKey), toKey a = some k → toKey b = some k → a = b
  | .none, b, k, h, h' => by
    cases h
    cases b <;> simp [toKey] at h' <;> rfl
  | .int i, b, k, h, h' => by
    cases h
    cases b <;> simp [toKey] at h' <;> first | rfl | rw [h']
  | .str x, b, k, h, h' => by
    cases h
    cases b <;> simp [toKey] at h' <;> first | rfl | rw [h']
  | .tuple xs, b, k, h, h' => by
    rw [toKey, Option.map_eq_some_iff] at h
    obtain ⟨ks, e, rfl⟩ := h
    cases b with
    | tuple ys =>
      rw [toKey, Option.map_eq_some_iff] at h'
      obtain ⟨ks', e', q⟩ := h'
      cases q
      rw [toKeys_inj xs ys ks e e']
    | _ => simp [toKey] at h'
  | .bool _, _, _, h, _ => by simp [toKey] at h
  | .list _, _, _, h, _ => by simp [toKey] at h
  | .dict _, _, _, h, _ => by simp [toKey] at h
theorem toKeys_inj : ∀ (a b : List D) (k : List NestedKey), toKeys a = some k → toKeys b = some k → a = b
  | [], [], _, _, _ => rfl
  | [], y :: ys, k, h, h' => by
    cases h
    rw [toKeys] at h'
    split at h' <;> cases h'
  | x :: xs, [], k, h, h' => by
    cases h'
    rw [toKeys] at h
    split at h <;> cases h
  | x :: xs, y :: ys, k, h, h' => by
    rw [toKeys] at h h'
    split at h
    · rename_i k1 k2 e1 e2
      cases h
      split at h'
      · rename_i k3 k4 e3 e4
        cases h'
        rw [toKey_inj x y _ e1 e3, toKeys_inj xs ys _ e2 e4]
      · cases h'
    · cases h
end
mutual
theorem Rep.key {T : Ty} {F H : Hp} {P : Program} {h : Heap} (le : Le F H) (ok : HOk P T.w H h) : ∀ {x : V} {k : D}, Rep T F x k → ∀ {u : Value} {nk : NestedKey}, RelV x u → toKey k = some nk → NestedIs h nk u
  | _, _, .non, _, _, r, e => by
    cases e
    cases r
    exact .none
  | _, _, .bl _, _, _, _, e => by simp [toKey] at e
  | _, _, .int i, _, _, r, e => by
    cases e
    obtain ⟨t, rfl⟩ := r
    exact .int i t
  | _, _, .str x, _, _, r, e => by
    cases e
    obtain ⟨t, rfl⟩ := r
    exact .text x t
  | _, _, .lst _ _, _, _, _, e => by simp [toKey] at e
  | _, _, .tup ha ra, _, _, r, e => by
    cases r
    rw [toKey, Option.map_eq_some_iff] at e
    obtain ⟨ks, e, rfl⟩ := e
    obtain ⟨_, its, rv, o, ho, hc, n, hd⟩ := ok _ _ (le _ _ ha)
    exact .tup ho hc hd (RepAll.keys le ok ra rv e)
  | _, _, .dic _ _ _ _, _, _, _, e => by simp [toKey] at e
theorem RepAll.keys {T : Ty} {F H : Hp} {P : Program} {h : Heap} (le : Le F H) (ok : HOk P T.w H h) : ∀ {x : List V} {k : List D}, RepAll T F x k → ∀ {u : List Value} {nk : List NestedKey}, Vals x u → toKeys k = some nk → NestedAll h nk u
  | _, _, .nil, _, _, r, e => by
    cases r
    cases e
    exact .nil
  | _, _, .cons q t, _, _, r, e => by
    cases r with
    | cons r1 r2 =>
      rw [toKeys] at e
      split at e
      · rename_i k1 k2 e1 e2
        cases e
        exact .cons (Rep.key le ok q r1 e1) (RepAll.keys le ok t r2 e2)
      · cases e
end
/-! ### dicts as lists of pairs -/
section
open Classical
variable {α : Type}
noncomputable def dlook : List (D × α) → D → Option α
  | [], _ => none
  | (k', v) :: r, k => if k' = k then some v else dlook r k
noncomputable def dput : List (D × α) → D → α → List (D × α)
  | [], k, v => [(k, v)]
  | (k', v') :: r, k, v => if k' = k then (k', v) :: r else (k', v') :: dput r k v
noncomputable def ddel : List (D × α) → D → List (D × α)
  | [], _ => []
  | (k', v') :: r, k => if k' = k then r else (k', v') :: ddel r k
theorem dlook_none {m : List (D × α)} {k : D} : dlook m k = none ↔ k ∉ m.map (·.1) := by
  induction m with
  | nil => simp [dlook]
  | cons p r ih =>
    obtain ⟨k', v⟩ := p
    unfold dlook
    by_cases h : k' = k
    · simp [h]
    · simp only [if_neg h, ih, List.map_cons, List.mem_cons, not_or]
      exact ⟨fun q => ⟨fun z => h z.symm, q⟩, fun q => q.2⟩
theorem dlook_get {m : List (D × α)} {k : D} {v : α} (h : dlook m k = some v) : ∃ j : Nat, m[j]? = some (k, v) := by
  induction m with
  | nil => cases h
  | cons p r ih =>
    obtain ⟨k', v'⟩ := p
    unfold dlook at h
    by_cases e : k' = k
    · rw [if_pos e] at h
      cases h
      exact ⟨0, by rw [e]; rfl⟩
    · rw [if_neg e] at h
      obtain ⟨j, q⟩ := ih h
      exact ⟨j + 1, q⟩
theorem dput_new {m : List (D × α)} {k : D} {v : α} (h : k ∉ m.map (·.1)) : dput m k v = m ++ [(k, v)] := by
  induction m with
  | nil => rfl
  | cons p r ih =>
    obtain ⟨k', v'⟩ := p
    simp only [List.map_cons, List.mem_cons, not_or] at h
    unfold dput
    rw [if_neg (fun z => h.1 z.symm), ih h.2]
    rfl
theorem dput_old {m : List (D × α)} {k : D} {v v' : α} (nd : (m.map (·.1)).Nodup) {j : Nat} (h : m[j]? = some (k, v')) : dput m k v = m.set j (k, v) := by
  induction m generalizing j with
  | nil => cases h
  | cons p r ih =>
    obtain ⟨k', w⟩ := p
    rw [List.map_cons, List.nodup_cons] at nd
    unfold dput
    cases j with
    | zero =>
      cases h
      rw [if_pos rfl]
      rfl
    | succ j =>
      have h' : r[j]? = some (k, v') := h
      have ne : ¬ k' = k := fun z => nd.1 (z ▸ List.mem_map.mpr ⟨(k, v'), List.mem_of_getElem? h', rfl⟩)
      rw [if_neg ne, ih nd.2 h']
      rfl
theorem ddel_old {m : List (D × α)} {k : D} {v' : α} (nd : (m.map (·.1)).Nodup) {j : Nat} (h : m[j]? = some (k, v')) : ddel m k = m.eraseIdx j := by
  induction m generalizing j with
  | nil => cases h
  | cons p r ih =>
    obtain ⟨k', w⟩ := p
    rw [List.map_cons, List.nodup_cons] at nd
    unfold ddel
    cases j with
    | zero =>
      cases h
      rw [if_pos rfl]
      rfl
    | succ j =>
      have h' : r[j]? = some (k, v') := h
      have ne : ¬ k' = k := fun z => nd.1 (z ▸ List.mem_map.mpr ⟨(k, v'), List.mem_of_getElem? h', rfl⟩)
      rw [if_neg ne, ih nd.2 h']
      rfl
end
/-! ### entries -/
theorem Ents.nks {w : World} : ∀ {es : List DictEntry} {kvs vvs : List V} {ks : List D}, Ents w es kvs ks vvs → ∃ nks, toKeys ks = some nks ∧ nks.length = es.length
  | _, _, _, _, .nil => ⟨[], rfl, rfl⟩
  | _, _, _, _, .cons hk _ _ _ _ t => by
    obtain ⟨nks, e, l⟩ := t.nks
    exact ⟨_ :: nks, by rw [toKeys, hk, e], by simp [l]⟩
theorem toKeys_get : ∀ {ks : List D} {nks : List NestedKey}, toKeys ks = some nks → ∀ {j : Nat} {k : D}, ks[j]? = some k → ∃ nk, nks[j]? = some nk ∧ toKey k = some nk
  | [], _, _, _, _, h => by cases h
  | x :: r, _, e, j, k, h => by
    rw [toKeys] at e
    split at e
    · rename_i k1 k2 e1 e2
      cases e
      cases j with
      | zero =>
        cases h
        exact ⟨k1, rfl, e1⟩
      | succ j => exact toKeys_get e2 (j := j) h
    · cases e
theorem toKeys_len : ∀ {ks : List D} {nks : List NestedKey}, toKeys ks = some nks → ks.length = nks.length
  | [], _, e => by cases e; rfl
  | x :: r, _, e => by
    rw [toKeys] at e
    split at e
    · rename_i k1 k2 e1 e2
      cases e
      simp [toKeys_len e2]
    · cases e
theorem toKeys_back {ks : List D} {nks : List NestedKey} (e : toKeys ks = some nks) {j : Nat} {nk : NestedKey} (h : nks[j]? = some nk) : ∃ k, ks[j]? = some k ∧ toKey k = some nk := by
  have hj : j < ks.length := by
    rw [toKeys_len e]
    exact (List.getElem?_eq_some_iff.mp h).1
  obtain ⟨nk', h1, h2⟩ := toKeys_get e (List.getElem?_eq_getElem hj)
  rw [h] at h1
  cases h1
  exact ⟨ks[j], List.getElem?_eq_getElem hj, h2⟩
theorem toKeys_mem {ks : List D} {nks : List NestedKey} (e : toKeys ks = some nks) {k : D} {nk : NestedKey} (hk : toKey k = some nk) : nk ∈ nks ↔ k ∈ ks := by
  constructor
  · intro h
    obtain ⟨j, q⟩ := List.mem_iff_getElem?.mp h
    obtain ⟨k', h1, h2⟩ := toKeys_back e q
    rw [toKey_inj k k' nk hk h2]
    exact List.mem_of_getElem? h1
  · intro h
    obtain ⟨j, q⟩ := List.mem_iff_getElem?.mp h
    obtain ⟨nk', h1, h2⟩ := toKeys_get e q
    rw [hk] at h2
    cases h2
    exact List.mem_of_getElem? h1
theorem toKeys_nodup : ∀ {ks : List D} {nks : List NestedKey}, toKeys ks = some nks → ks.Nodup → nks.Nodup
  | [], _, e, _ => by
    cases e
    exact List.nodup_nil
  | x :: r, _, e, nd => by
    rw [toKeys] at e
    split at e
    · rename_i k1 k2 e1 e2
      cases e
      rw [List.nodup_cons] at nd ⊢
      exact ⟨fun h => nd.1 ((toKeys_mem e2 e1).mp h), toKeys_nodup e2 nd.2⟩
    · cases e
theorem Ents.at_ {w : World} : ∀ {es : List DictEntry} {kvs vvs : List V} {ks : List D}, Ents w es kvs ks vvs → ∀ {j : Nat} {e : DictEntry}, es[j]? = some e → ∃ kv vv k nk, kvs[j]? = some kv ∧ vvs[j]? = some vv ∧ ks[j]? = some k ∧ toKey k = some nk ∧ nk.depth ≤ 8 ∧ RelV kv e.key ∧ RelV vv e.val ∧ e.hash = nk.hash w
  | _, _, _, _, .nil, _, _, h => by cases h
  | _, _, _, _, .cons a b c d f t, j, e, h => by
    cases j with
    | zero =>
      cases h
      exact ⟨_, _, _, _, rfl, rfl, rfl, a, b, c, d, f⟩
    | succ j => exact t.at_ (j := j) h
theorem Ents.len {w : World} : ∀ {es : List DictEntry} {kvs vvs : List V} {ks : List D}, Ents w es kvs ks vvs → kvs.length = es.length ∧ ks.length = es.length ∧ vvs.length = es.length
  | _, _, _, _, .nil => ⟨rfl, rfl, rfl⟩
  | _, _, _, _, .cons _ _ _ _ _ t => by
    obtain ⟨a, b, c⟩ := t.len
    exact ⟨by simp [a], by simp [b], by simp [c]⟩
theorem Ents.snoc {w : World} {e : DictEntry} {k : D} {nk : NestedKey} {kv vv : V} (a : toKey k = some nk) (b : nk.depth ≤ 8) (c : RelV kv e.key) (d : RelV vv e.val) (f : e.hash = nk.hash w) :
    ∀ {es : List DictEntry} {kvs vvs : List V} {ks : List D}, Ents w es kvs ks vvs → Ents w (es ++ [e]) (kvs ++ [kv]) (ks ++ [k]) (vvs ++ [vv])
  | _, _, _, _, .nil => .cons a b c d f .nil
  | _, _, _, _, .cons a' b' c' d' f' t => .cons a' b' c' d' f' (Ents.snoc a b c d f t)
theorem Ents.set {w : World} {vv : V} {v : Value} (d : RelV vv v) : ∀ {es : List DictEntry} {kvs vvs : List V} {ks : List D} {j : Nat}, Ents w es kvs ks vvs → Ents w (es.modify j fun e => { e with val := v }) kvs ks (vvs.set j vv)
  | _, _, _, _, j, .nil => by
    cases j <;> exact .nil
  | _, _, _, _, 0, .cons a' b' c' _ f' t => .cons a' b' c' d f' t
  | _, _, _, _, j + 1, .cons a' b' c' d' f' t => .cons a' b' c' d' f' (Ents.set (j := j) d t)
theorem Ents.erase {w : World} : ∀ {es : List DictEntry} {kvs vvs : List V} {ks : List D} {j : Nat}, Ents w es kvs ks vvs → Ents w (es.eraseIdx j) (kvs.eraseIdx j) (ks.eraseIdx j) (vvs.eraseIdx j)
  | _, _, _, _, j, .nil => .nil
  | _, _, _, _, 0, .cons _ _ _ _ _ t => t
  | _, _, _, _, j + 1, .cons a' b' c' d' f' t => .cons a' b' c' d' f' (Ents.erase (j := j) t)
end FH
namespace FH
open L2 PySem PySem.Spec
/-! ### pairs of lists -/
section
variable {α β : Type} {R : α → β → Prop}
theorem pr_len : ∀ {xs : List α} {ys : List β}, Paired R xs ys → xs.length = ys.length
  | _, _, .nil => rfl
  | _, _, .cons _ t => by simp [pr_len t]
theorem pr_app : ∀ {xs xs' : List α} {ys ys' : List β}, Paired R xs ys → Paired R xs' ys' → Paired R (xs ++ xs') (ys ++ ys')
  | _, _, _, _, .nil, h => h
  | _, _, _, _, .cons a t, h => .cons a (pr_app t h)
theorem pr_take : ∀ {xs : List α} {ys : List β} (n : Nat), Paired R xs ys → Paired R (xs.take n) (ys.take n)
  | _, _, 0, _ => .nil
  | _, _, _ + 1, .nil => .nil
  | _, _, n + 1, .cons a t => .cons a (pr_take n t)
theorem pr_drop : ∀ {xs : List α} {ys : List β} (n : Nat), Paired R xs ys → Paired R (xs.drop n) (ys.drop n)
  | _, _, 0, h => h
  | _, _, _ + 1, .nil => .nil
  | _, _, n + 1, .cons _ t => pr_drop n t
theorem pr_getR : ∀ {xs : List α} {ys : List β}, Paired R xs ys → ∀ {i : Nat} {y : β}, ys[i]? = some y → ∃ x, xs[i]? = some x ∧ R x y
  | _, _, .nil, _, _, h => by cases h
  | _, _, .cons a t, 0, _, h => by
    cases h
    exact ⟨_, rfl, a⟩
  | _, _, .cons a t, i + 1, _, h => pr_getR t (i := i) h
theorem pr_getL : ∀ {xs : List α} {ys : List β}, Paired R xs ys → ∀ {i : Nat} {x : α}, xs[i]? = some x → ∃ y, ys[i]? = some y ∧ R x y
  | _, _, .nil, _, _, h => by cases h
  | _, _, .cons a t, 0, _, h => by
    cases h
    exact ⟨_, rfl, a⟩
  | _, _, .cons a t, i + 1, _, h => pr_getL t (i := i) h
theorem pr_set {x : α} {y : β} (r : R x y) : ∀ {xs : List α} {ys : List β} (i : Nat), Paired R xs ys → Paired R (xs.set i x) (ys.set i y)
  | _, _, _, .nil => .nil
  | _, _, 0, .cons _ t => .cons r t
  | _, _, i + 1, .cons a t => .cons a (pr_set r i t)
theorem pr_erase : ∀ {xs : List α} {ys : List β} (i : Nat), Paired R xs ys → Paired R (xs.eraseIdx i) (ys.eraseIdx i)
  | _, _, _, .nil => .nil
  | _, _, 0, .cons _ t => t
  | _, _, i + 1, .cons a t => .cons a (pr_erase i t)
theorem pr_dropLast : ∀ {xs : List α} {ys : List β}, Paired R xs ys → Paired R xs.dropLast ys.dropLast
  | _, _, .nil => .nil
  | _, _, .cons _ .nil => .nil
  | _, _, .cons a (.cons b t) => .cons a (pr_dropLast (.cons b t))
end
theorem RepAll.pr {T : Ty} {F : Hp} {ρ : List Addr} : ∀ {xs : List V} {ds : List D}, RepAll T F xs ds → RepVs T ρ F xs (ds.map .d)
  | _, _, .nil => .nil
  | _, _, .cons h t => .cons h t.pr
theorem RepAll.of {T : Ty} {F : Hp} {ρ : List Addr} : ∀ {ds : List D} {xs : List V}, RepVs T ρ F xs (ds.map .d) → RepAll T F xs ds
  | [], _, .nil => .nil
  | _ :: _, _, .cons h t => .cons h (RepAll.of t)
def allD : List Val → Option (List D)
  | [] => some []
  | .d x :: r => match allD r with
    | some ds => some (x :: ds)
    | none => none
  | _ :: _ => none
theorem allD_map : ∀ ds : List D, allD (ds.map .d) = some ds
  | [] => rfl
  | d :: ds => by
    rw [List.map_cons, allD, allD_map ds]
theorem allD_eq : ∀ {vs : List Val} {ds : List D}, allD vs = some ds → vs = ds.map .d
  | [], _, h => by
    cases h
    rfl
  | .d x :: r, _, h => by
    rw [allD] at h
    split at h
    · rename_i ds e
      cases h
      rw [allD_eq e]
      rfl
    · cases h
  | .ref _ :: _, _, h => by cases h
  | .fn _ :: _, _, h => by cases h
  | .scr _ :: _, _, h => by cases h
  | .ty _ :: _, _, h => by cases h
/-- a list, wherever it stands -/
def asL (v : Val) (S : Store) : Option (List Val) := match v with
  | .d (.list ds) => some (ds.map .d)
  | .ref n => match S[n]? with
    | some (.lst xs) => some xs
    | some (.lk (.lst xs)) => some xs
    | _ => none
  | _ => none
def asT (v : Val) : Option (List Val) := match v with
  | .d (.tuple ds) => some (ds.map .d)
  | _ => none
def asDic (v : Val) (S : Store) : Option (List (D × Val)) := match v with
  | .d (.dict m) => some (m.map fun p => (p.1, .d p.2))
  | .ref n => match S[n]? with
    | some (.dic m) => some m
    | some (.lk (.dic m)) => some m
    | _ => none
  | _ => none
section
variable {T : Ty} {ρ : List Addr} {S : Store} {H : Hp} {x : V} {v : Val}
theorem asL_ok (R : Rel T ρ S H) (r : RepV T ρ (frz ρ S H) x v) {xs : List Val} (h : asL v S = some xs) : ∃ a vs, x = .ref a ∧ H a = some (.lst vs) ∧ RepVs T ρ (frz ρ S H) vs xs := by
  unfold asL at h
  split at h
  · cases h
    cases (show Rep T _ x _ from r) with
    | lst e q => exact ⟨_, _, rfl, frz_le _ _ e, q.pr⟩
  · rename_i n
    obtain ⟨a, e, rfl⟩ := (show ∃ a, ρ[n]? = some a ∧ x = .ref a from r)
    split at h
    · rename_i ys q
      cases h
      obtain ⟨vs, e', r'⟩ := R.obj n a _ e q
      exact ⟨a, vs, rfl, e', r'⟩
    · rename_i ys q
      cases h
      obtain ⟨vs, e', r'⟩ := R.obj n a _ e q
      exact ⟨a, vs, rfl, e', r'⟩
    · cases h
  · cases h
theorem asT_ok (r : RepV T ρ (frz ρ S H) x v) {xs : List Val} (h : asT v = some xs) : ∃ a vs, x = .ref a ∧ H a = some (.tup vs) ∧ frz ρ S H a = some (.tup vs) ∧ RepVs T ρ (frz ρ S H) vs xs := by
  unfold asT at h
  split at h
  · cases h
    cases (show Rep T _ x _ from r) with
    | tup e q => exact ⟨_, _, rfl, frz_le _ _ e, e, q.pr⟩
  · cases h
theorem asDic_ok (R : Rel T ρ S H) (r : RepV T ρ (frz ρ S H) x v) {m : List (D × Val)} (h : asDic v S = some m) :
    ∃ a o kvs vvs, x = .ref a ∧ H a = some (dHO a o) ∧ DObj T.w a o kvs (m.map (·.1)) vvs ∧ RepAll T (frz ρ S H) kvs (m.map (·.1)) ∧ RepVs T ρ (frz ρ S H) vvs (m.map (·.2)) := by
  unfold asDic at h
  split at h
  · rename_i m
    cases h
    cases (show Rep T _ x _ from r) with
    | @dic a o kvs vvs _ e od k q =>
      have e1 : (m.map fun p => (p.1, Val.d p.2)).map (·.1) = m.map (·.1) := by simp [Function.comp_def]
      have e2 : (m.map fun p => (p.1, Val.d p.2)).map (·.2) = (m.map (·.2)).map Val.d := by simp [Function.comp_def]
      refine ⟨a, o, kvs, vvs, rfl, frz_le _ _ e, ?_, ?_, ?_⟩
      · rw [e1]
        exact od
      · rw [e1]
        exact k
      · rw [e2]
        exact q.pr
  · rename_i n
    obtain ⟨a, e, rfl⟩ := (show ∃ a, ρ[n]? = some a ∧ x = .ref a from r)
    split at h
    · rename_i ys q
      cases h
      obtain ⟨o, kvs, vvs, e', d, k, r'⟩ := R.obj n a _ e q
      exact ⟨a, o, kvs, vvs, rfl, e', d, k, r'⟩
    · rename_i ys q
      cases h
      obtain ⟨o, kvs, vvs, e', d, k, r'⟩ := R.obj n a _ e q
      exact ⟨a, o, kvs, vvs, rfl, e', d, k, r'⟩
    · cases h
  · cases h
end
theorem DObj.ud {T : Ty} {F H : Hp} {P : Program} {h : Heap} {a : Addr} {o : Obj} {kvs vvs : List V} {ks : List D} (le : Le F H) (ok : HOk P T.w H h) (ha : H a = some (dHO a o)) (dj : DObj T.w a o kvs ks vvs) (r : RepAll T F kvs ks) :
    ∃ es ep nks, UD T.w h a o es ep nks ∧ toKeys ks = some nks ∧ Ents T.w es.toList kvs ks vvs := by
  obtain ⟨es, ep, hd, en⟩ := dj.dat
  obtain ⟨nks, e, l⟩ := en.nks
  have hg : h.get? a = some o := (ok a _ ha).1
  refine ⟨es, ep, nks, ⟨hg, dj.ex, hd, ⟨by rw [l, Array.length_toList], fun j z hz => ?_⟩, toKeys_nodup e dj.nd⟩, e, en⟩
  rw [← Array.getElem?_toList] at hz
  obtain ⟨kv, vv, k, nk, h1, h2, h3, h4, h5, h6, h7, h8⟩ := en.at_ hz
  obtain ⟨nk', q1, q2⟩ := toKeys_get e h3
  rw [h4] at q2
  cases q2
  refine ⟨nk, q1, ?_, h8, h5⟩
  obtain ⟨k', g1, g2⟩ := pr_getL (RepAll.pr (ρ := []) r) h1
  rw [List.getElem?_map, h3] at g1
  cases g1
  exact Rep.key le ok g2 h6 h4
def keyOk (k : D) : Bool := match toKey k with
  | some nk => decide (nk.depth ≤ 8)
  | none => false
theorem keyOk_get {k : D} (h : keyOk k = true) : ∃ nk, toKey k = some nk ∧ nk.depth ≤ 8 := by
  unfold keyOk at h
  split at h
  · rename_i nk e
    exact ⟨nk, e, of_decide_eq_true h⟩
  · cases h
theorem dec_mem {m : List (D × Val)} {nks : List NestedKey} {k : D} {nk : NestedKey} (e : toKeys (m.map (·.1)) = some nks) (hk : toKey k = some nk) : decide (nk ∈ nks) = (dlook m k).isSome := by
  have h := toKeys_mem e hk
  cases q : dlook m k with
  | none => exact decide_eq_false fun z => dlook_none.mp q (h.mp z)
  | some v =>
    refine decide_eq_true (h.mpr ?_)
    obtain ⟨j, g⟩ := dlook_get q
    exact List.mem_map.mpr ⟨(k, v), List.mem_of_getElem? g, rfl⟩
noncomputable def inDic (v u : Val) (S : Store) : Option Bool := match asDic u S, v with
  | some m, .d k => if keyOk k = true then some (dlook m k).isSome else none
  | _, _ => none
section
variable {X : Cx} {pins : List (Addr × Obj)} {s : Shared} {σ : St} {H : Hp} {x y : V} {v u : Value} {ρ : List Addr} {S : Store} {a b : Val}
/-- what is needed of a dict and a key -/
theorem dic_key (I : Inv X pins σ H s) (R : Rel (ty X) ρ S H) (rx : RelV x v) (qx : RepV (ty X) ρ (frz ρ S H) x a) (qy : RepV (ty X) ρ (frz ρ S H) y b) {m : List (D × Val)} {k : D} (hm : asDic b S = some m) (ha : a = .d k) (hk : keyOk k = true) :
    ∃ d o es ep nks nk kvs vvs, y = .ref d ∧ H d = some (dHO d o) ∧ DObj X.w d o kvs (m.map (·.1)) vvs ∧ RepAll (ty X) (frz ρ S H) kvs (m.map (·.1)) ∧ RepVs (ty X) ρ (frz ρ S H) vvs (m.map (·.2)) ∧ UD X.w s.heap d o es ep nks ∧ toKeys (m.map (·.1)) = some nks ∧ Ents X.w es.toList kvs (m.map (·.1)) vvs ∧
      toKey k = some nk ∧ nk.depth ≤ 8 ∧ NestedIs s.heap nk v := by
  obtain ⟨d, o, kvs, vvs, rfl, h1, h2, h3, h4⟩ := asDic_ok R qy hm
  obtain ⟨es, ep, nks, u1, u2, u3⟩ := DObj.ud (T := ty X) frz_le I.hok h1 h2 h3
  obtain ⟨nk, k1, k2⟩ := keyOk_get hk
  subst ha
  exact ⟨d, o, es, ep, nks, nk, kvs, vvs, rfl, h1, h2, h3, h4, u1, u2, u3, k1, k2, Rep.key frz_le I.hok (show Rep (ty X) _ x k from qx) rx k1⟩
end
section
variable {X : Cx}
theorem op_inDic (hu : X.A.units + 9 < cLine) {pins : List (Addr × Obj)} {s : Shared} {σ : St} {H : Hp} {x y : V} {v u : Value} {ρ : List Addr} {S : Store} {a b : Val} {c : Bool} {Q : VK} (I : Inv X pins σ H s) (rx : RelV x v) (ry : RelV y u) (R : Rel (ty X) ρ S H)
    (qx : RepV (ty X) ρ (frz ρ S H) x a) (qy : RepV (ty X) ρ (frz ρ S H) y b) (h : inDic a b S = some c) (q : Q (.bl c) H) : wpAny (model X.prog X.w) X.A (compareOp .In v u) (EP X pins σ Q) X.xe s := by
  unfold inDic at h
  split at h
  · rename_i m k hm
    split at h
    · rename_i hk
      cases h
      obtain ⟨d, o, es, ep, nks, nk, kvs, vvs, rfl, h1, h2, h3, h4, u1, u2, u3, k1, k2, k3⟩ := dic_key I R rx qx qy hm rfl hk
      cases ry
      refine uin hu h2.sm k3 k2 u1 ?_
      rw [dec_mem u2 k1]
      exact ⟨.bl _, H, I.tok _, rfl, q⟩
    · cases h
  · cases h
theorem op_notinDic (hu : X.A.units + 9 < cLine) {pins : List (Addr × Obj)} {s : Shared} {σ : St} {H : Hp} {x y : V} {v u : Value} {ρ : List Addr} {S : Store} {a b : Val} {c : Bool} {Q : VK} (I : Inv X pins σ H s) (rx : RelV x v) (ry : RelV y u) (R : Rel (ty X) ρ S H)
    (qx : RepV (ty X) ρ (frz ρ S H) x a) (qy : RepV (ty X) ρ (frz ρ S H) y b) (h : inDic a b S = some c) (q : Q (.bl (!c)) H) : wpAny (model X.prog X.w) X.A (compareOp .NotIn v u) (EP X pins σ Q) X.xe s := by
  unfold inDic at h
  split at h
  · rename_i m k hm
    split at h
    · rename_i hk
      cases h
      obtain ⟨d, o, es, ep, nks, nk, kvs, vvs, rfl, h1, h2, h3, h4, u1, u2, u3, k1, k2, k3⟩ := dic_key I R rx qx qy hm rfl hk
      cases ry
      refine unotin hu h2.sm k3 k2 u1 ?_
      rw [dec_mem u2 k1]
      exact ⟨.bl _, H, I.tok _, rfl, q⟩
    · cases h
  · cases h
/-- d[k] -/
noncomputable def ixDic (a b : Val) (S : Store) : Option Val := match asDic a S, b with
  | some m, .d k => if keyOk k = true then dlook m k else none
  | _, _ => none
theorem dlook_at {X : Cx} {ρ : List Addr} {F : Hp} {m : List (D × Val)} {nks : List NestedKey} {es : Array DictEntry} {kvs vvs : List V} {k : D} {nk : NestedKey} {z : Val} (u2 : toKeys (m.map (·.1)) = some nks) (u3 : Ents X.w es.toList kvs (m.map (·.1)) vvs)
    (h4 : RepVs (ty X) ρ F vvs (m.map (·.2))) (k1 : toKey k = some nk) (h : dlook m k = some z) : ∃ (j : Nat) (e : DictEntry) (vv : V), nks[j]? = some nk ∧ es[j]? = some e ∧ m[j]? = some (k, z) ∧ RelV vv e.val ∧ RepV (ty X) ρ F vv z := by
  obtain ⟨j, g⟩ := dlook_get h
  have gk : (m.map (·.1))[j]? = some k := by
    rw [List.getElem?_map, g]
    rfl
  obtain ⟨nk', n1, n2⟩ := toKeys_get u2 gk
  rw [k1] at n2
  cases n2
  have hj : j < es.size := by
    have l1 : (m.map (·.1)).length = es.toList.length := u3.len.2.1
    have l2 : es.toList.length = es.size := Array.length_toList
    have l3 := (List.getElem?_eq_some_iff.mp gk).1
    omega
  have ge : es[j]? = some es[j] := Array.getElem?_eq_getElem hj
  obtain ⟨kv, vv, k', nk', e1, e2, e3, e4, e5, e6, e7, e8⟩ := u3.at_ (show es.toList[j]? = some es[j] by rw [Array.getElem?_toList]; exact ge)
  obtain ⟨z', g1, g2⟩ := pr_getL h4 e2
  rw [List.getElem?_map, g] at g1
  cases g1
  exact ⟨j, es[j], vv, n1, ge, g, e7, g2⟩
theorem ix_dic (hu : X.A.units + 9 < cLine) {value slice : Expr} {pins : List (Addr × Obj)} {s : Shared} {σ : St} {H : Hp} {x y : V} {v u : Value} {ρ : List Addr} {S : Store} {a b c : Val} {Q : VK} (I : Inv X pins σ H s) (rx : RelV x v) (ry : RelV y u) (R : Rel (ty X) ρ S H)
    (qx : RepV (ty X) ρ (frz ρ S H) x a) (qy : RepV (ty X) ρ (frz ρ S H) y b) (h : ixDic a b S = some c) (q : ∀ z, RepV (ty X) ρ (frz ρ S H) z c → Q z H) (hs : subscripted slice false v u = operate [v, u] (getItem v u)) :
    wpAny (model X.prog X.w) X.A (PyProof.Rows.subscriptTail value slice v u) (EP X pins σ Q) X.xe s := by
  unfold ixDic at h
  split at h
  · rename_i m k hm
    split at h
    · rename_i hk
      obtain ⟨d, o, es, ep, nks, nk, kvs, vvs, rfl, h1, h2, h3, h4, u1, u2, u3, k1, k2, k3⟩ := dic_key I R ry qy qx hm rfl hk
      cases rx
      obtain ⟨j, e, vv, n1, ge, _, r1, r2⟩ := dlook_at (X := X) u2 u3 h4 k1 h
      exact PyProof.Rows.tail_any u1.ty PySem.F.slot_dict_getitem.lookup (ugetItem hu k3 k2 u1 n1 ge ⟨vv, H, I.tok _, r1, q vv r2⟩) hs
    · cases h
  · cases h
/-- d.get(k), d.get(k, x) -/
noncomputable def getDic (a : Val) (vs : List Val) (S : Store) : Option (Val × Store) := match asDic a S, vs with
  | some m, [.d k] => if keyOk k = true then some ((dlook m k).getD (.d .none), S) else none
  | some m, [.d k, z] => if keyOk k = true then some ((dlook m k).getD z, S) else none
  | _, _ => none
end
end FH
namespace FH
open L2 PySem PySem.Spec
/-- a new list -/
def mkL (xs : List Val) (S : Store) : Option (Val × Store) := match allD xs with
  | some ds => some (.d (.list ds), S)
  | none => some (.ref S.length, S ++ [.lst xs])
/-- a new list that will change -/
def mkLo (xs : List Val) (S : Store) : Option (Val × Store) := some (.ref S.length, S ++ [.lst xs])
def mkT (xs : List Val) (S : Store) : Option (Val × Store) := match allD xs with
  | some ds => some (.d (.tuple ds), S)
  | none => none
section
variable {T : Ty} {ρ : List Addr} {S S' : Store} {H : Hp} {p : Addr} {vs : List V} {xs : List Val} {v : Val}
theorem mkLo_ok (R : Rel T ρ S H) (r : RepVs T ρ (frz ρ S H) vs xs) (hp : H p = none) : ∃ ρ', Rel T ρ' (S ++ [.lst xs]) (upd H p (.lst vs)) ∧ Ext ρ S H ρ' (S ++ [.lst xs]) (upd H p (.lst vs)) ∧ RepV T ρ' (frz ρ' (S ++ [.lst xs]) (upd H p (.lst vs))) (.ref p) (.ref S.length) := by
  obtain ⟨R1, E1⟩ := R.new (o := .lst vs) (ob := .lst xs) hp rfl ⟨vs, rfl, r⟩
  refine ⟨_, R1, E1, p, ?_, rfl⟩
  rw [← R.len]
  simp
theorem mkL_ok (R : Rel T ρ S H) (r : RepVs T ρ (frz ρ S H) vs xs) (hp : H p = none) (e : mkL xs S = some (v, S')) : ∃ ρ', Rel T ρ' S' (upd H p (.lst vs)) ∧ Ext ρ S H ρ' S' (upd H p (.lst vs)) ∧ RepV T ρ' (frz ρ' S' (upd H p (.lst vs))) (.ref p) v := by
  unfold mkL at e
  split at e
  · rename_i ds q
    cases e
    rw [allD_eq q] at r
    obtain ⟨R1, E1, f⟩ := R.lay (o := .lst vs) hp
    exact ⟨ρ, R1, E1, Rep.lst f ((RepAll.of r).mono E1.le)⟩
  · cases e
    exact mkLo_ok R r hp
theorem mkT_ok (R : Rel T ρ S H) (r : RepVs T ρ (frz ρ S H) vs xs) (hp : H p = none) (e : mkT xs S = some (v, S')) : ∃ ρ', Rel T ρ' S' (upd H p (.tup vs)) ∧ Ext ρ S H ρ' S' (upd H p (.tup vs)) ∧ RepV T ρ' (frz ρ' S' (upd H p (.tup vs))) (.ref p) v := by
  unfold mkT at e
  split at e
  · rename_i ds q
    cases e
    rw [allD_eq q] at r
    obtain ⟨R1, E1, f⟩ := R.lay (o := .tup vs) hp
    exact ⟨ρ, R1, E1, Rep.tup f ((RepAll.of r).mono E1.le)⟩
  · cases e
end
/-! ### arithmetic -/
def addV : Op2 := fun v u S => match v, u with
  | .d (.int i), .d (.int j) => some (.d (.int (i + j)), S)
  | .d (.str a), .d (.str b) => if a.length + b.length ≤ sizeLine then some (.d (.str (a ++ b)), S) else none
  | .d (.tuple a), .d (.tuple b) => if a.length + b.length ≤ sizeLine then some (.d (.tuple (a ++ b)), S) else none
  | v, u => match asL v S, asL u S with
    | some xs, some ys => if xs.length + ys.length ≤ sizeLine then mkL (xs ++ ys) S else none
    | _, _ => none
def subV : Op2 := fun v u S => match v, u with
  | .d (.int i), .d (.int j) => some (.d (.int (i - j)), S)
  | _, _ => none
def repS (x : Str) (n : Nat) : Str := ⟨(List.replicate n x.cps).foldl (· ++ ·) #[]⟩
def mulV : Op2 := fun v u S => match v, u with
  | .d (.int i), .d (.int j) => if (-(2 ^ 64) < i ∧ i < 2 ^ 64) ∨ (-(2 ^ 64) < j ∧ j < 2 ^ 64) ∨ i.natAbs.log2 + j.natAbs.log2 < 1000000 then some (.d (.int (i * j)), S) else none
  | .d (.str x), .d (.int n) => if 2 ≤ n ∧ 1 ≤ x.length ∧ n < 2 ^ 20 ∧ x.length * n.toNat ≤ 2 ^ 20 ∧ (repS x n.toNat).length ≤ sizeLine then some (.d (.str (repS x n.toNat)), S) else none
  | v, .d (.int n) => match asL v S with
    | some xs => if 0 ≤ n ∧ n < 2 ^ 30 ∧ xs.length * n.toNat ≤ sizeLine then mkL (List.replicate n.toNat xs).flatten S else none
    | none => none
  | _, _ => none
def fdivV : Op2 := fun v u S => match v, u with
  | .d (.int i), .d (.int j) => if 0 < j ∧ j.natAbs.log2 < 9000 then some (.d (.int (i / j)), S) else none
  | _, _ => none
def modV : Op2 := fun v u S => match v, u with
  | .d (.int i), .d (.int j) => if 0 < j then some (.d (.int (i % j)), S) else none
  | _, _ => none
def powV : Op2 := fun v u S => match v, u with
  | .d (.int i), .d (.int j) => if 0 ≤ j ∧ j ≤ 1000000 ∧ i.natAbs < 2 ^ 64 then some (.d (.int (i ^ j.toNat)), S) else none
  | _, _ => none
def negV : Op1 := fun v S => match v with
  | .d (.int i) => some (.d (.int (-i)), S)
  | _ => none
section
variable {X : Cx}
theorem RepV.int_ {T : Ty} {ρ : List Addr} {F : Hp} {x : V} {i : Int} (h : RepV T ρ F x (.d (.int i))) : x = .int i := by
  cases (show Rep T F x (.int i) from h)
  rfl
theorem RepV.str_ {T : Ty} {ρ : List Addr} {F : Hp} {x : V} {z : Str} (h : RepV T ρ F x (.d (.str z))) : x = .str z := by
  cases (show Rep T F x (.str z) from h)
  rfl
theorem RepV.bl_ {T : Ty} {ρ : List Addr} {F : Hp} {x : V} {b : Bool} (h : RepV T ρ F x (.d (.bool b))) : x = .bl b := by
  cases (show Rep T F x (.bool b) from h)
  rfl
theorem RepV.non_ {T : Ty} {ρ : List Addr} {F : Hp} {x : V} (h : RepV T ρ F x (.d .none)) : x = .non := by
  cases (show Rep T F x .none from h)
  rfl
theorem or_add : OpR X (binaryOp .Add) (r2 (ty X) addV) := by
  intro pins s σ H x y v u Q I rx ry h
  obtain ⟨ρ, S, a, b, R, qx, qy, p⟩ := h
  unfold addV at p
  split at p
  · exact op_add pins s σ H x y v u Q I rx ry ⟨_, _, qx.int_, qy.int_, p ρ H _ R Ext.refl (Rep.int _)⟩
  · split at p
    · exact op_add_str pins s σ H x y v u Q I rx ry ⟨_, _, qx.str_, qy.str_, by assumption, p ρ H _ R Ext.refl (Rep.str _)⟩
    · exact p.elim
  · rename_i a b
    split at p
    · rename_i hz
      obtain ⟨a1, v1, rfl, h1, f1, r1⟩ := asT_ok (S := S) qx rfl
      obtain ⟨a2, v2, rfl, h2, f2, r2⟩ := asT_ok (S := S) qy rfl
      have l1 := pr_len r1
      have l2 := pr_len r2
      rw [List.length_map] at l1 l2
      refine op_catA pins s σ H _ _ v u Q I rx ry ⟨a1, a2, v1, v2, rfl, rfl, SqT.of h1, SqT.of h2, by omega, fun e => ?_, fun e e' => ?_, fun e e' q hq => ?_⟩
      · subst e
        have : a = [] := List.length_eq_zero_iff.mp l1.symm
        subst this
        exact p ρ H _ R Ext.refl qy
      · subst e'
        have : b = [] := List.length_eq_zero_iff.mp l2.symm
        subst this
        rw [List.append_nil] at p
        exact p ρ H _ R Ext.refl qx
      · obtain ⟨ρ', R', E', q'⟩ := mkT_ok (xs := (a ++ b).map .d) R (by rw [List.map_append]; exact pr_app r1 r2) hq (v := .d (.tuple (a ++ b))) (S' := S) (by unfold mkT; rw [allD_map])
        exact p ρ' _ _ R' E' q'
    · exact p.elim
  · split at p
    · rename_i xs ys e1 e2
      split at p
      · rename_i hz
        obtain ⟨a1, v1, rfl, h1, r1⟩ := asL_ok R qx e1
        obtain ⟨a2, v2, rfl, h2, r2⟩ := asL_ok R qy e2
        have l1 := pr_len r1
        have l2 := pr_len r2
        refine op_cat pins s σ H _ _ v u Q I rx ry ⟨a1, a2, v1, v2, rfl, rfl, h1, h2, by omega, fun q hq => ?_⟩
        cases e : mkL (xs ++ ys) S with
        | none =>
          rw [e] at p
          exact p.elim
        | some z =>
          rw [e] at p
          obtain ⟨ρ', R', E', q'⟩ := mkL_ok (v := z.1) (S' := z.2) R (pr_app r1 r2) hq e
          exact p ρ' _ _ R' E' q'
      · exact p.elim
    · exact p.elim
theorem or_sub : OpR X (binaryOp .Sub) (r2 (ty X) subV) := by
  intro pins s σ H x y v u Q I rx ry h
  obtain ⟨ρ, S, a, b, R, qx, qy, p⟩ := h
  unfold subV at p
  split at p
  · exact op_sub pins s σ H x y v u Q I rx ry ⟨_, _, qx.int_, qy.int_, p ρ H _ R Ext.refl (Rep.int _)⟩
  · exact p.elim
theorem or_fdiv : OpR X (binaryOp .FloorDiv) (r2 (ty X) fdivV) := by
  intro pins s σ H x y v u Q I rx ry h
  obtain ⟨ρ, S, a, b, R, qx, qy, p⟩ := h
  unfold fdivV at p
  split at p
  · split at p
    · rename_i hc
      exact op_fdivW pins s σ H x y v u Q I rx ry ⟨_, _, qx.int_, qy.int_, hc, p ρ H _ R Ext.refl (Rep.int _)⟩
    · exact p.elim
  · exact p.elim
theorem or_mod : OpR X (binaryOp .Mod) (r2 (ty X) modV) := by
  intro pins s σ H x y v u Q I rx ry h
  obtain ⟨ρ, S, a, b, R, qx, qy, p⟩ := h
  unfold modV at p
  split at p
  · split at p
    · rename_i hc
      exact op_mod pins s σ H x y v u Q I rx ry ⟨_, _, qx.int_, qy.int_, hc, p ρ H _ R Ext.refl (Rep.int _)⟩
    · exact p.elim
  · exact p.elim
theorem or_pow : OpR X (binaryOp .Pow) (r2 (ty X) powV) := by
  intro pins s σ H x y v u Q I rx ry h
  obtain ⟨ρ, S, a, b, R, qx, qy, p⟩ := h
  unfold powV at p
  split at p
  · split at p
    · rename_i hc
      exact op_pow pins s σ H x y v u Q I rx ry ⟨_, _, qx.int_, qy.int_, hc, p ρ H _ R Ext.refl (Rep.int _)⟩
    · exact p.elim
  · exact p.elim
theorem un_neg_ : UnR X (unaryOp .USub) (r1 (ty X) negV) := by
  intro pins s σ H x v Q I rx h
  obtain ⟨ρ, S, a, R, qx, p⟩ := h
  unfold negV at p
  split at p
  · exact un_neg pins s σ H x v Q I rx ⟨_, qx.int_, p ρ H _ R Ext.refl (Rep.int _)⟩
  · exact p.elim
theorem or_mul : OpR X (binaryOp .Mult) (r2 (ty X) mulV) := by
  intro pins s σ H x y v u Q I rx ry h
  obtain ⟨ρ, S, a, b, R, qx, qy, p⟩ := h
  unfold mulV at p
  split at p
  · split at p
    · rename_i hc
      have z := p ρ H _ R Ext.refl (Rep.int _)
      rcases hc with hc | hc | hc
      · exact op_mul pins s σ H x y v u Q I rx ry ⟨_, _, qx.int_, qy.int_, .inl hc, z⟩
      · exact op_mul pins s σ H x y v u Q I rx ry ⟨_, _, qx.int_, qy.int_, .inr hc, z⟩
      · exact op_mulW pins s σ H x y v u Q I rx ry ⟨_, _, qx.int_, qy.int_, hc, z⟩
    · exact p.elim
  · rename_i w n
    split at p
    · rename_i hc
      have z := p ρ H _ R Ext.refl (Rep.str _)
      cases qx.str_
      cases qy.int_
      obtain ⟨t, rfl⟩ := rx
      obtain ⟨t', rfl⟩ := ry
      have h1 : ¬ n < 1 := by omega
      have h2 : (n == 1 || w.length == 0) = false := by
        rw [Bool.or_eq_false_iff, beq_eq_false_iff_ne, beq_eq_false_iff_ne]
        constructor <;> omega
      refine P.mul_str (by rw [Bool.or_eq_false_iff]; exact ⟨decide_eq_false (by omega), decide_eq_false (by omega)⟩) (fun _ _ hh => ?_) (fun _ _ => ?_) ?_
      · have e : (2 ^ 63 - 1 : Int) / n ≥ 2 ^ 40 := by
          refine Int.le_ediv_of_mul_le (by omega) ?_
          have : (2 : Int) ^ 40 * n ≤ 2 ^ 40 * 2 ^ 20 := Int.mul_le_mul_of_nonneg_left (by omega) (by decide)
          have e2 : (2 : Int) ^ 40 * 2 ^ 20 ≤ 2 ^ 63 - 1 := by decide
          omega
        have : w.length ≤ 2 ^ 20 := by
          have := hc.2.2.2.1
          have : w.length * 1 ≤ w.length * n.toNat := Nat.mul_le_mul_left _ (by omega)
          omega
        omega
      · unfold Builtin.Str.tooLong
        have := hc.2.2.2.1
        rw [decide_eq_false]
        have e : sizeLine = 16777216 := by decide
        omega
      · rw [if_neg h1, if_neg (by rw [h2]; exact Bool.false_ne_true)]
        exact ⟨hc.2.2.2.2, .str _, H, I.tok _, ⟨_, rfl⟩, z⟩
    · exact p.elim
  · rename_i n _ _
    split at p
    · rename_i xs e1
      split at p
      · rename_i hc
        obtain ⟨a1, v1, rfl, h1, r1⟩ := asL_ok R qx e1
        have l1 := pr_len r1
        refine op_rep pins s σ H _ _ v u Q I rx ry ⟨a1, n, v1, rfl, qy.int_, h1, by omega, by omega, by rw [l1]; exact hc.2.2, fun q hq => ?_⟩
        cases e : mkL (List.replicate n.toNat xs).flatten S with
        | none =>
          rw [e] at p
          exact p.elim
        | some z =>
          rw [e] at p
          have rr : ∀ k : Nat, RepVs (ty X) ρ (frz ρ S H) (List.replicate k v1).flatten (List.replicate k xs).flatten := fun k => by
            induction k with
            | zero => exact .nil
            | succ k ih =>
              rw [List.replicate_succ, List.replicate_succ, List.flatten_cons, List.flatten_cons]
              exact pr_app r1 ih
          obtain ⟨ρ', R', E', q'⟩ := mkL_ok (v := z.1) (S' := z.2) R (rr n.toNat) hq e
          exact p ρ' _ _ R' E' q'
      · exact p.elim
    · exact p.elim
  · exact p.elim
end
end FH
namespace FH
open L2 PySem PySem.Spec
mutual
theorem Rep.dp {T : Ty} {F H : Hp} (le : Le F H) : ∀ {x : V} {d : D}, Rep T F x d → d.canLay0 = true → Dp T.K H x d
  | _, _, .non, _ => .non
  | _, _, .bl b, _ => .bl b
  | _, _, .int i, _ => .int i
  | _, _, .str z, _ => .str z
  | _, _, .lst h r, c => .lst (SqL.of (le _ _ h)) (RepAll.dp le r (by rw [PyData.canLay0] at c; exact c))
  | _, _, .tup h r, c => .tup (SqT.of (le _ _ h)) (RepAll.dp le r (by rw [PyData.canLay0] at c; exact c))
  | _, _, .dic _ _ _ _, c => by rw [PyData.canLay0] at c; cases c
theorem RepAll.dp {T : Ty} {F H : Hp} (le : Le F H) : ∀ {x : List V} {d : List D}, RepAll T F x d → PyData.canLayAll0 d = true → DpAll T.K H x d
  | _, _, .nil, _ => .nil
  | _, _, .cons h t, c => by
    rw [PyData.canLayAll0, Bool.and_eq_true] at c
    exact .cons (Rep.dp le h c.1) (RepAll.dp le t c.2)
end
/-- as one piece of data -/
def toP (v : Val) (S : Store) : Option D := match v with
  | .d x => some x
  | .scr ns => some (.list (ns.map .int))
  | .ref n => match asL (.ref n) S with
    | some xs => (allD xs).map .list
    | none => none
  | _ => none
theorem dp_ints {K : PySem.W.Frag} {H : Hp} : ∀ ns : List Int, DpAll K H (ns.map V.int) (ns.map .int)
  | [] => .nil
  | n :: ns => .cons (.int n) (dp_ints ns)
section
variable {T : Ty} {ρ : List Addr} {S : Store} {H : Hp} {x : V} {v : Val}
theorem toP_ok (R : Rel T ρ S H) (r : RepV T ρ (frz ρ S H) x v) {d : D} (h : toP v S = some d) (c : d.canLay0 = true) : Dp T.K H x d := by
  unfold toP at h
  split at h
  · cases h
    exact Rep.dp frz_le (show Rep T _ x _ from r) c
  · rename_i ns
    cases h
    obtain ⟨a, rfl, q⟩ := (show ∃ a, x = .ref a ∧ SqL T.K (frz ρ S H) a (ns.map V.int) from r)
    exact .lst (frz_le.sqL q) (dp_ints ns)
  · split at h
    · rename_i xs e
      obtain ⟨ds, q, rfl⟩ := Option.map_eq_some_iff.mp h
      obtain ⟨a, vs, rfl, h1, h2⟩ := asL_ok R r e
      rw [allD_eq q] at h2
      rw [PyData.canLay0] at c
      exact .lst (SqL.of h1) (RepAll.dp frz_le (RepAll.of h2) c)
    · cases h
  · cases h
end
def eqB (v u : Val) (S : Store) : Option Bool := match toP v S, toP u S with
  | some a, some b => if SeqAt.shaped a = true ∧ SeqAt.shaped b = true then some (PyData.eqv a b) else none
  | _, _ => none
def isNon : Val → Bool
  | .d .none => true
  | _ => false
def isB (v u : Val) : Option Bool := match v, u with
  | v, .d .none => some (isNon v)
  | .d (.bool a), .d (.bool b) => some (decide (a = b))
  | .d _, .d (.bool _) => some false
  | _, _ => none
def ltOk : D → Bool
  | .str _ => true
  | .tuple _ => true
  | .list _ => true
  | _ => false
def ltB (v u : Val) : Option Bool := match v, u with
  | .d (.int i), .d (.int j) => some (decide (i < j))
  | .d a, .d b => if W.alike a b = true ∧ ltOk a = true ∧ SeqAt.shaped a = true ∧ SeqAt.shaped b = true then some (W.dataLt a b) else none
  | _, _ => none
def leB (v u : Val) : Option Bool := match v, u with
  | .d (.int i), .d (.int j) => some (decide (i ≤ j))
  | _, _ => none
def gtB (v u : Val) : Option Bool := match v, u with
  | .d (.int i), .d (.int j) => some (decide (j < i))
  | _, _ => none
def geB (v u : Val) : Option Bool := match v, u with
  | .d (.int i), .d (.int j) => some (decide (j ≤ i))
  | _, _ => none
def flatD : D → Bool
  | .none => true
  | .bool _ => true
  | .int _ => true
  | .str _ => true
  | _ => false
def inStr (v : Val) (z : Str) : Option Bool := match v with
  | .d (.str c) => if c.cps.size = 1 then some (decide (c.cps.getD 0 0 ∈ z.cps.toList)) else none
  | _ => none
def inTup (v : Val) (ds : List D) : Option Bool := match v with
  | .d x => if flatD x = true ∧ ds.all flatD = true then some (ds.any fun z => PyData.eqv z x) else
    if SeqAt.shaped x = true ∧ SeqAt.shaped (.tuple ds) = true then some (ds.any fun z => PyData.eqv z x) else none
  | _ => none
def inLst (v : Val) (o : Option D) : Option Bool := match v, o with
  | .d x, some (.list ds) => if SeqAt.shaped x = true ∧ SeqAt.shaped (.list ds) = true then some (ds.any fun z => PyData.eqv z x) else none
  | _, _ => none
noncomputable def inB (v u : Val) (S : Store) : Option Bool := match u with
  | .d (.str z) => inStr v z
  | .d (.tuple ds) => inTup v ds
  | u => match asDic u S with
    | some _ => inDic v u S
    | none => inLst v (toP u S)
noncomputable def cmpB (op : CmpOp) (v u : Val) (S : Store) : Option Bool := match op with
  | .Eq => eqB v u S
  | .NotEq => (eqB v u S).map (!·)
  | .Lt => ltB v u
  | .LtE => leB v u
  | .Gt => gtB v u
  | .GtE => geB v u
  | .Is => isB v u
  | .IsNot => (isB v u).map (!·)
  | .In => inB v u S
  | .NotIn => (inB v u S).map (!·)
noncomputable def cmpV (op : CmpOp) : Op2 := fun v u S => (cmpB op v u S).map fun b => (.d (.bool b), S)
theorem flat_eqv {T : Ty} {F : Hp} {x y : V} {a b : D} (ha : Rep T F x a) (hb : Rep T F y b) (fa : flatD a = true) (fb : flatD b = true) : eqV x y = PyData.eqv a b := by
  cases ha <;> first | (cases fa; done) | (cases hb <;> first | (cases fb; done) | rfl | simp [eqV, PyData.eqv])
theorem flat_V {T : Ty} {F : Hp} {x : V} {a : D} (ha : Rep T F x a) (fa : flatD a = true) : flatV x = true := by
  cases ha <;> first | (cases fa; done) | rfl
theorem flat_all {T : Ty} {F : Hp} : ∀ {xs : List V} {ds : List D}, RepAll T F xs ds → ds.all flatD = true → xs.all flatV = true
  | _, _, .nil, _ => rfl
  | _, _, .cons h t, c => by
    rw [List.all_cons, Bool.and_eq_true] at c ⊢
    exact ⟨flat_V h c.1, flat_all t c.2⟩
theorem flat_any {T : Ty} {F : Hp} {x : V} {a : D} (ha : Rep T F x a) (fa : flatD a = true) : ∀ {xs : List V} {ds : List D}, RepAll T F xs ds → ds.all flatD = true → inV x xs = ds.any fun z => PyData.eqv z a
  | _, _, .nil, _ => rfl
  | _, _, .cons h t, c => by
    rw [List.all_cons, Bool.and_eq_true] at c
    have ih := flat_any ha fa t c.2
    unfold inV at ih ⊢
    rw [List.any_cons, List.any_cons, ih, flat_eqv h ha c.1 fa]
theorem isNon_ok {T : Ty} {ρ : List Addr} {F : Hp} {x : V} {v : Val} (r : RepV T ρ F x v) : decide (x = .non) = isNon v := by
  cases v with
  | d a => cases (show Rep T F x a from r) <;> simp [isNon]
  | ref n =>
    obtain ⟨a, _, rfl⟩ := r
    simp [isNon]
  | fn f =>
    obtain ⟨a, _, rfl⟩ := r
    simp [isNon]
  | scr ns =>
    obtain ⟨a, rfl, _⟩ := r
    simp [isNon]
  | ty n =>
    cases (show x = .ty n from r)
    simp [isNon]
  | lam i cd =>
    obtain ⟨rfl, _⟩ := r
    simp [isNon]
section
variable {X : Cx} (hu : X.A.units + 100 < cLine) {pins : List (Addr × Obj)} {s : Shared} {σ : St} {H : Hp} {x y : V} {v u : Value} {ρ : List Addr} {S : Store} {a b : Val} {c : Bool} {Q : VK}
include hu
theorem cmp_lt (I : Inv X pins σ H s) (rx : RelV x v) (ry : RelV y u) (R : Rel (ty X) ρ S H) (qx : RepV (ty X) ρ (frz ρ S H) x a) (qy : RepV (ty X) ρ (frz ρ S H) y b) (h : ltB a b = some c) (q : Q (.bl c) H) :
    wpAny (model X.prog X.w) X.A (compareOp .Lt v u) (EP X pins σ Q) X.xe s := by
  unfold ltB at h
  split at h
  · cases h
    exact op_lt pins s σ H x y v u Q I rx ry ⟨_, _, qx.int_, qy.int_, q⟩
  · rename_i da db _
    split at h
    · rename_i hc
      cases h
      obtain ⟨h1, h2, h3, h4⟩ := hc
      obtain ⟨as, ra⟩ := Dp.reads I da x v (Rep.dp frz_le (show Rep (ty X) _ x da from qx) (SeqAt.canLay_of_shaped h3)) rx
      obtain ⟨bs, rb⟩ := Dp.reads I db y u (Rep.dp frz_le (show Rep (ty X) _ y db from qy) (SeqAt.canLay_of_shaped h4)) ry
      refine W.rcLt_alike da db X.A s v u as bs ra rb h1 (fun e => ?_) ?_ X.prog X.w X.xe _ ⟨.bl _, H, I, rfl, q⟩
      · subst e
        cases h2
      · have := Nat.min_le_left da.depth db.depth
        have := SeqAt.depth_of_shaped h3
        omega
    · cases h
  · cases h
theorem cmp_in (I : Inv X pins σ H s) (rx : RelV x v) (ry : RelV y u) (R : Rel (ty X) ρ S H) (qx : RepV (ty X) ρ (frz ρ S H) x a) (qy : RepV (ty X) ρ (frz ρ S H) y b) (h : inB a b S = some c) :
    (Q (.bl c) H → wpAny (model X.prog X.w) X.A (compareOp .In v u) (EP X pins σ Q) X.xe s) ∧ (Q (.bl (!c)) H → wpAny (model X.prog X.w) X.A (compareOp .NotIn v u) (EP X pins σ Q) X.xe s) := by
  unfold inB at h
  split at h
  · rename_i z2
    unfold inStr at h
    split at h
    · rename_i z1
      split at h
      · rename_i hz
        cases h
        have e : z1 = ⟨#[z1.cps.getD 0 0]⟩ := by
          obtain ⟨⟨l⟩⟩ := z1
          match l, hz with
          | [w], _ => rfl
        exact ⟨fun q => op_in_sign pins s σ H x y v u Q I rx ry ⟨z1.cps.getD 0 0, z2, by rw [← e]; exact qx.str_, qy.str_, q⟩, fun q => op_notIn_sign pins s σ H x y v u Q I rx ry ⟨z1.cps.getD 0 0, z2, by rw [← e]; exact qx.str_, qy.str_, q⟩⟩
      · cases h
    · cases h
  · rename_i ds
    unfold inTup at h
    split at h
    · rename_i da
      split at h
      · rename_i hz
        cases h
        cases (show Rep (ty X) _ y (.tuple ds) from qy) with
        | tup e r =>
          have e1 := flat_any (show Rep (ty X) _ x da from qx) hz.1 r hz.2
          refine ⟨fun q => op_in_seq pins s σ H x _ v u Q I rx ry ⟨_, _, rfl, .inr (SqT.of (frz_le _ _ e)), flat_V (show Rep (ty X) _ x da from qx) hz.1, flat_all r hz.2, ?_⟩, fun q => op_notIn_seq pins s σ H x _ v u Q I rx ry ⟨_, _, rfl, .inr (SqT.of (frz_le _ _ e)), flat_V (show Rep (ty X) _ x da from qx) hz.1, flat_all r hz.2, ?_⟩⟩
          · rw [e1]
            exact q
          · rw [e1]
            exact q
      · split at h
        · rename_i hz
          cases h
          have p1 := Rep.dp frz_le (show Rep (ty X) _ x da from qx) (SeqAt.canLay_of_shaped hz.1)
          have p2 := Rep.dp frz_le (show Rep (ty X) _ y (.tuple ds) from qy) (SeqAt.canLay_of_shaped hz.2)
          obtain ⟨as, r1⟩ := Dp.reads I da x v p1 rx
          obtain ⟨bs, r2⟩ := Dp.reads I (.tuple ds) y u p2 ry
          exact ⟨fun q => SeqAt.in_tuple_reads r2 r1 (SeqAt.canLay_of_shaped hz.2) (SeqAt.canLay_of_shaped hz.1) (PyProof.Rows.room_in_shaped hz.1 (by omega)) ⟨.bl _, H, I, rfl, q⟩, fun q => SeqAt.notIn_tuple_reads r2 r1 (SeqAt.canLay_of_shaped hz.2) (SeqAt.canLay_of_shaped hz.1) (PyProof.Rows.room_in_shaped hz.1 (by omega)) ⟨.bl _, H, I, rfl, q⟩⟩
        · cases h
    · cases h
  · split at h
    · exact ⟨fun q => op_inDic (by omega) I rx ry R qx qy h q, fun q => op_notinDic (by omega) I rx ry R qx qy h q⟩
    · unfold inLst at h
      split at h
      · rename_i da ds e
        split at h
        · rename_i hz
          cases h
          have p1 := Rep.dp frz_le (show Rep (ty X) _ x da from qx) (SeqAt.canLay_of_shaped hz.1)
          have p2 := toP_ok R qy e (SeqAt.canLay_of_shaped hz.2)
          exact ⟨fun q => op_inD (by omega) pins s σ H x y v u Q I rx ry ⟨da, ds, p1, p2, hz.1, hz.2, q⟩, fun q => op_notInD (by omega) pins s σ H x y v u Q I rx ry ⟨da, ds, p1, p2, hz.1, hz.2, q⟩⟩
        · cases h
      · cases h
theorem cmp_eq (I : Inv X pins σ H s) (rx : RelV x v) (ry : RelV y u) (R : Rel (ty X) ρ S H) (qx : RepV (ty X) ρ (frz ρ S H) x a) (qy : RepV (ty X) ρ (frz ρ S H) y b) (h : eqB a b S = some c) :
    (Q (.bl c) H → wpAny (model X.prog X.w) X.A (compareOp .Eq v u) (EP X pins σ Q) X.xe s) ∧ (Q (.bl (!c)) H → wpAny (model X.prog X.w) X.A (compareOp .NotEq v u) (EP X pins σ Q) X.xe s) := by
  unfold eqB at h
  split at h
  · rename_i da db e1 e2
    split at h
    · rename_i hz
      cases h
      have p1 := toP_ok R qx e1 (SeqAt.canLay_of_shaped hz.1)
      have p2 := toP_ok R qy e2 (SeqAt.canLay_of_shaped hz.2)
      exact ⟨fun q => op_eqD (by omega) pins s σ H x y v u Q I rx ry ⟨da, db, p1, p2, hz.1, hz.2, q⟩, fun q => op_neD (by omega) pins s σ H x y v u Q I rx ry ⟨da, db, p1, p2, hz.1, hz.2, q⟩⟩
    · cases h
  · cases h
omit hu in
theorem cmp_is (I : Inv X pins σ H s) (rx : RelV x v) (ry : RelV y u) (R : Rel (ty X) ρ S H) (qx : RepV (ty X) ρ (frz ρ S H) x a) (qy : RepV (ty X) ρ (frz ρ S H) y b) (h : isB a b = some c) :
    (Q (.bl c) H → wpAny (model X.prog X.w) X.A (compareOp .Is v u) (EP X pins σ Q) X.xe s) ∧ (Q (.bl (!c)) H → wpAny (model X.prog X.w) X.A (compareOp .IsNot v u) (EP X pins σ Q) X.xe s) := by
  unfold isB at h
  split at h
  · cases h
    have e := isNon_ok qx
    exact ⟨fun q => op_isN pins s σ H x y v u Q I rx ry ⟨qy.non_, by rw [e]; exact q⟩, fun q => op_notN pins s σ H x y v u Q I rx ry ⟨qy.non_, by rw [e]; exact q⟩⟩
  · cases h
    exact ⟨fun q => op_is_bl pins s σ H x y v u Q I rx ry ⟨_, _, qx.bl_, qy.bl_, q⟩, fun q => op_isnot_bl pins s σ H x y v u Q I rx ry ⟨_, _, qx.bl_, qy.bl_, q⟩⟩
  · rename_i a b hne
    cases h
    cases qy.bl_
    cases (show u = Value.bool _ from ry)
    have nv : PySem.plainIs v (.bool b) = true ∧ v ≠ Value.bool b := by
      cases (show Rep (ty X) (frz ρ S H) x a from qx) with
      | non => cases rx; exact ⟨rfl, by simp⟩
      | bl z => exact (hne z rfl).elim
      | int i => obtain ⟨t, rfl⟩ := rx; exact ⟨rfl, by simp⟩
      | str z => obtain ⟨t, rfl⟩ := rx; exact ⟨rfl, by simp⟩
      | lst _ _ => cases rx; exact ⟨rfl, by simp⟩
      | tup _ _ => cases rx; exact ⟨rfl, by simp⟩
      | dic _ _ _ _ => cases rx; exact ⟨rfl, by simp⟩
    exact ⟨fun q => wpAny_is_other nv.1 nv.2 ⟨.bl false, H, I, rfl, q⟩, fun q => wpAny_isNot_other nv.1 nv.2 ⟨.bl true, H, I, rfl, q⟩⟩
  · cases h
omit hu in
theorem int2 {g : Int → Int → Bool} {f : Val → Val → Option Bool} (hf : ∀ a b c, f a b = some c → ∃ i j, a = .d (.int i) ∧ b = .d (.int j) ∧ c = g i j) (qx : RepV (ty X) ρ (frz ρ S H) x a) (qy : RepV (ty X) ρ (frz ρ S H) y b) (h : f a b = some c) :
    ∃ i j, x = .int i ∧ y = .int j ∧ c = g i j := by
  obtain ⟨i, j, rfl, rfl, e⟩ := hf a b c h
  exact ⟨i, j, qx.int_, qy.int_, e⟩
end
theorem leB_int (a b : Val) (c : Bool) (h : leB a b = some c) : ∃ i j, a = .d (.int i) ∧ b = .d (.int j) ∧ c = decide (i ≤ j) := by
  unfold leB at h
  split at h
  · cases h
    exact ⟨_, _, rfl, rfl, rfl⟩
  · cases h
theorem gtB_int (a b : Val) (c : Bool) (h : gtB a b = some c) : ∃ i j, a = .d (.int i) ∧ b = .d (.int j) ∧ c = decide (j < i) := by
  unfold gtB at h
  split at h
  · cases h
    exact ⟨_, _, rfl, rfl, rfl⟩
  · cases h
theorem geB_int (a b : Val) (c : Bool) (h : geB a b = some c) : ∃ i j, a = .d (.int i) ∧ b = .d (.int j) ∧ c = decide (j ≤ i) := by
  unfold geB at h
  split at h
  · cases h
    exact ⟨_, _, rfl, rfl, rfl⟩
  · cases h
theorem or_cmp {X : Cx} (hu : X.A.units + 100 < cLine) (op : CmpOp) : OpR X (compareOp op) (r2 (ty X) (cmpV op)) := by
  intro pins s σ H x y v u Q I rx ry h
  obtain ⟨ρ, S, a, b, R, qx, qy, p⟩ := h
  have fin : ∀ c, cmpB op a b S = some c → Q (.bl c) H := fun c e => by
    unfold cmpV at p
    rw [e] at p
    exact p ρ H _ R Ext.refl (Rep.bl c)
  cases e : cmpB op a b S with
  | none =>
    unfold cmpV at p
    rw [e] at p
    exact p.elim
  | some c =>
    have q := fin c e
    unfold cmpB at e
    cases op with
    | Eq => exact (cmp_eq hu I rx ry R qx qy e).1 q
    | NotEq =>
      obtain ⟨c', e', rfl⟩ := Option.map_eq_some_iff.mp e
      exact (cmp_eq hu I rx ry R qx qy e').2 q
    | Lt => exact cmp_lt hu I rx ry R qx qy e q
    | LtE =>
      obtain ⟨i, j, h1, h2, rfl⟩ := int2 leB_int qx qy e
      exact op_le pins s σ H x y v u Q I rx ry ⟨i, j, h1, h2, q⟩
    | Gt =>
      obtain ⟨i, j, h1, h2, rfl⟩ := int2 gtB_int qx qy e
      exact op_gt pins s σ H x y v u Q I rx ry ⟨i, j, h1, h2, q⟩
    | GtE =>
      obtain ⟨i, j, h1, h2, rfl⟩ := int2 geB_int qx qy e
      exact op_ge pins s σ H x y v u Q I rx ry ⟨i, j, h1, h2, q⟩
    | Is => exact (cmp_is I rx ry R qx qy e).1 q
    | IsNot =>
      obtain ⟨c', e', rfl⟩ := Option.map_eq_some_iff.mp e
      exact (cmp_is I rx ry R qx qy e').2 q
    | In => exact (cmp_in hu I rx ry R qx qy e).1 q
    | NotIn =>
      obtain ⟨c', e', rfl⟩ := Option.map_eq_some_iff.mp e
      exact (cmp_in hu I rx ry R qx qy e').2 q
end FH
namespace FH
open L2 PySem PySem.Spec
/-! ### subscripts -/
def ixI (a : Val) (i : Int) (S : Store) : Option Val := match a with
  | .d (.str z) => if z.length ≤ sizeLine then (atI z.cps.toList i).map fun c => .d (.str ⟨#[c]⟩) else none
  | .scr ns => (atI ns i).map fun n => .d (.int n)
  | .d (.tuple ds) => (atI ds i).map .d
  | a => match asL a S with
    | some xs => atI xs i
    | none => none
noncomputable def ixQ (a b : Val) (S : Store) : Option Val := match asDic a S with
  | some _ => ixDic a b S
  | none => match b with
    | .d (.int i) => ixI a i S
    | _ => none
noncomputable def ixV : Op2 := fun a b S => (ixQ a b S).map fun v => (v, S)
theorem pr_atI {α β : Type} {R : α → β → Prop} {xs : List α} {ys : List β} (p : Paired R xs ys) {i : Int} {y : β} (h : atI ys i = some y) : ∃ x, atI xs i = some x ∧ R x y := by
  unfold atI at h ⊢
  rw [pr_len p]
  cases e : ixN ys.length i with
  | none =>
    rw [e] at h
    cases h
  | some j =>
    rw [e] at h
    exact pr_getR p h
theorem atI_map {α β : Type} (f : α → β) (xs : List α) (i : Int) : atI (xs.map f) i = (atI xs i).map f := by
  unfold atI
  rw [List.length_map]
  cases ixN xs.length i with
  | none => rfl
  | some j =>
    show (xs.map f)[j]? = (xs[j]?).map f
    rw [List.getElem?_map]
section
variable {X : Cx}
theorem ix_any (hu : X.A.units + 100 < cLine) : IxR X (r2 (ty X) ixV) := by
  intro value slice pins s σ H x y v u Q I rx ry h hs
  obtain ⟨ρ, S, a, b, R, qx, qy, p⟩ := h
  cases e : ixV a b S with
  | none =>
    rw [e] at p
    exact p.elim
  | some z =>
    rw [e] at p
    obtain ⟨w, g, hw⟩ := Option.map_eq_some_iff.mp (show (ixQ a b S).map _ = some z from e)
    subst hw
    clear e
    have fin : ∀ t, RepV (ty X) ρ (frz ρ S H) t w → Q t H := fun t r => p ρ H t R Ext.refl r
    unfold ixQ at g
    split at g
    · exact ix_dic (by omega) I rx ry R qx qy g fin hs
    · rename_i hnd
      clear hnd
      split at g
      · rename_i i
        cases qy.int_
        unfold ixI at g
        split at g
        · rename_i t
          split at g
          · rename_i hz
            obtain ⟨c, g', rfl⟩ := Option.map_eq_some_iff.mp g
            exact ix_str value slice pins s σ H x _ v u Q I rx ry ⟨t, i, c, qx.str_, rfl, hz, g', fin _ (Rep.str _)⟩ hs
          · cases g
        · rename_i ns
          obtain ⟨n, g', rfl⟩ := Option.map_eq_some_iff.mp g
          obtain ⟨a, rfl, q⟩ := (show ∃ a, x = .ref a ∧ SqL X.K (frz ρ S H) a (ns.map V.int) from qx)
          refine ix_list value slice pins s σ H _ _ v u Q I rx ry ⟨a, _, i, .int n, rfl, rfl, frz_le.sqL q, ?_, fin _ (Rep.int n)⟩ hs
          rw [atI_map, g']
          rfl
        · rename_i ds
          obtain ⟨d, g', rfl⟩ := Option.map_eq_some_iff.mp g
          obtain ⟨a1, v1, rfl, h1, f1, r1⟩ := asT_ok (S := S) qx rfl
          obtain ⟨t, e1, r2⟩ := pr_atI r1 (i := i) (y := .d d) (by rw [atI_map, g', Option.map_some])
          exact ix_tup value slice pins s σ H _ _ v u Q I rx ry ⟨a1, v1, i, t, rfl, rfl, SqT.of h1, e1, fin _ r2⟩ hs
        · split at g
          · rename_i xs e2
            obtain ⟨a1, v1, rfl, h1, r1⟩ := asL_ok R qx e2
            obtain ⟨t, e1, r2⟩ := pr_atI r1 g
            exact ix_list value slice pins s σ H _ _ v u Q I rx ry ⟨a1, v1, i, t, rfl, rfl, SqL.of h1, e1, fin _ r2⟩ hs
          · cases g
      · cases g
theorem pd_ix (hu : X.A.units + 100 < cLine) {W : WE} {a b : Expr} {ma mb : Ev} {pos : Pos} (hs : PlainIx b) (ha : PD X W a ma) (hb : PD X W b mb) : PD X W (.Subscript a b pos) (ev2 ixV ma mb) :=
  PE_imp (pe_ix (ix_any hu) ha hb hs) fun _ _ _ h => seq2 h
end
/-! ### slices -/
def cutG {α : Type} (xs : List α) (lo hi : Option Int) : List α := (xs.drop (HT.sIx xs.length 0 lo)).take (HT.sIx xs.length xs.length hi - HT.sIx xs.length 0 lo)
def slV (a : Val) (lo hi : Option Int) (S : Store) : Option (Val × Store) := match a with
  | .d (.str z) => if z.length ≤ sizeLine then some (.d (.str (cutS z lo hi)), S) else none
  | .d (.tuple ds) => some (.d (.tuple (cutG ds lo hi)), S)
  | a => match asL a S with
    | some xs => mkL (cutG xs lo hi) S
    | none => none
@[simp] def evPart : Option Ev → Loc → Store → Res (Option Int)
  | none, _, S => .ok none S
  | some m, l, S => (m l S).bind fun v S1 => match v with
    | .d (.int i) => .ok (some i) S1
    | _ => .stuck
@[simp] def evSl (a : Ev) (lo hi : Option Ev) : Ev := fun l S => (a l S).bind fun v S1 => (evPart lo l S1).bind fun i S2 => (evPart hi l S2).bind fun j S3 => ofO (slV v i j S3)
abbrev relI : RG (Option Int) (Option Int) := fun _ _ x v => x = v
def rSl (T : Ty) : V → Option Int → Option Int → Hp → VK → Prop := fun x lo hi H Q => ∃ ρ S v, Rel T ρ S H ∧ RepV T ρ (frz ρ S H) x v ∧ Post0 T ρ S H (slV v lo hi S) Q
theorem pr_cut {α β : Type} {R : α → β → Prop} {xs : List α} {ys : List β} (p : Paired R xs ys) (lo hi : Option Int) : Paired R (cutG xs lo hi) (cutG ys lo hi) := by
  unfold cutG
  rw [pr_len p]
  exact pr_take _ (pr_drop _ p)
theorem cutG_map {α β : Type} (f : α → β) (xs : List α) (lo hi : Option Int) : cutG (xs.map f) lo hi = (cutG xs lo hi).map f := by
  unfold cutG
  rw [List.length_map, List.map_take, List.map_drop]
section
variable {X : Cx} {W : WE}
theorem sl_any : SlR X (rSl (ty X)) := by
  intro pins s σ H x v vl vu lo hi sl Q I rx hs pl pu h
  obtain ⟨ρ, S, a, R, qx, p⟩ := h
  unfold slV at p
  split at p
  · split at p
    · rename_i hz
      exact sl_str pins s σ H x v vl vu lo hi sl Q I rx hs pl pu ⟨_, qx.str_, hz, p ρ H _ R Ext.refl (Rep.str _)⟩
    · exact p.elim
  · rename_i ds
    obtain ⟨a1, v1, rfl, h1, f1, r1⟩ := asT_ok (S := S) qx rfl
    have l1 := pr_len r1
    rw [List.length_map] at l1
    refine sl_tupA pins s σ H _ v vl vu lo hi sl Q I rx hs pl pu ⟨a1, v1, rfl, SqT.of h1, fun e => ?_, fun e q hq => ?_⟩
    · have e2 : cutG ds lo hi = ds := by
        unfold cutG
        rw [← l1, e.1, e.2, Nat.sub_zero, l1, List.drop_zero, List.take_length]
      rw [e2] at p
      exact p ρ H _ R Ext.refl qx
    · obtain ⟨ρ', R', E', q'⟩ := mkT_ok (xs := (cutG ds lo hi).map .d) R (by rw [← cutG_map]; exact pr_cut r1 lo hi) hq (v := .d (.tuple (cutG ds lo hi))) (S' := S) (by unfold mkT; rw [allD_map])
      exact p ρ' _ _ R' E' q'
  · split at p
    · rename_i xs e
      obtain ⟨a1, v1, rfl, h1, r1⟩ := asL_ok R qx e
      refine sl_list pins s σ H _ v vl vu lo hi sl Q I rx hs pl pu ⟨a1, v1, rfl, SqL.of h1, fun q hq => ?_⟩
      cases e2 : mkL (cutG xs lo hi) S with
      | none =>
        rw [e2] at p
        exact p.elim
      | some z =>
        rw [e2] at p
        obtain ⟨ρ', R', E', q'⟩ := mkL_ok (v := z.1) (S' := z.2) R (pr_cut r1 lo hi) hq e2
        exact p ρ' _ _ R' E' q'
    · exact p.elim
theorem po_none_ : PO X none (tG (ty X) W relI (evPart none)) := ⟨fun pins s σ H Q I ⟨ρ, S, l, R, L, p⟩ => po_none.run pins s σ H Q I (p ρ H none R Ext.refl rfl)⟩
theorem po_some_ {e : Expr} {m : Ev} (h : PD X W e m) : PO X (some e) (tG (ty X) W relI (evPart (some m))) := ⟨fun pins s σ H Q I ⟨ρ, S, l, R, L, p⟩ => by
  refine (po_some h).run pins s σ H Q I ⟨ρ, S, l, R, L, p.bind.imp fun x H1 ⟨ρ1, S1, v, R1, E1, q, _, p1⟩ => ?_⟩
  split at p1
  · exact ⟨_, q.int_, p1 ρ1 H1 _ R1 Ext.refl rfl⟩
  · exact p1.elim⟩
theorem pd_slice {e : Expr} {m : Ev} {lo hi : Option Expr} {ml mh : Option Ev} {p2 pos : Pos} (he : PD X W e m) (hl : PO X lo (tG (ty X) W relI (evPart ml))) (hh : PO X hi (tG (ty X) W relI (evPart mh))) :
    PD X W (.Subscript e (.Slice lo hi none p2) pos) (evSl m ml mh) :=
  PE_imp (pe_slice sl_any he hl hh) fun σ H Q ⟨ρ, S, l, R, L, p⟩ => by
    refine ⟨ρ, S, l, R, L, p.bind.imp fun x H1 ⟨ρ1, S1, v, R1, E1, q, _, p1⟩ => ?_⟩
    refine ⟨ρ1, S1, l, R1, L.mono E1.pre E1.le, p1.bind.imp fun i H2 ⟨ρ2, S2, i', R2, E2, q2, _, p2⟩ => ?_⟩
    have L2 := (L.mono E1.pre E1.le).mono E2.pre E2.le
    refine ⟨ρ2, S2, l, R2, L2, p2.bind.imp fun j H3 ⟨ρ3, S3, j', R3, E3, q3, _, p3⟩ => ?_⟩
    cases q2
    cases q3
    exact ⟨ρ3, S3, v, R3, (q.mono E2.pre E2.le).mono E3.pre E3.le, Post0.of p3⟩
end
/-! ### built-in functions -/
def allB : List Val → Option (List Bool)
  | [] => some []
  | .d (.bool b) :: r => match allB r with
    | some bs => some (b :: bs)
    | none => none
  | _ :: _ => none
theorem allB_eq : ∀ {vs : List Val} {bs : List Bool}, allB vs = some bs → vs = bs.map fun b => .d (.bool b)
  | [], _, h => by
    cases h
    rfl
  | .d (.bool b) :: r, _, h => by
    rw [allB] at h
    split at h
    · rename_i bs e
      cases h
      rw [allB_eq e]
      rfl
    · cases h
  | .d .none :: _, _, h => by cases h
  | .d (.int _) :: _, _, h => by cases h
  | .d (.str _) :: _, _, h => by cases h
  | .d (.list _) :: _, _, h => by cases h
  | .d (.tuple _) :: _, _, h => by cases h
  | .d (.dict _) :: _, _, h => by cases h
  | .ref _ :: _, _, h => by cases h
  | .fn _ :: _, _, h => by cases h
  | .scr _ :: _, _, h => by cases h
  | .ty _ :: _, _, h => by cases h
theorem allB_map : ∀ bs : List Bool, allB (bs.map fun b => .d (.bool b)) = some bs
  | [] => rfl
  | b :: bs => by
    rw [List.map_cons, allB, allB_map bs]
def allI : List Val → Option (List Int)
  | [] => some []
  | .d (.int b) :: r => match allI r with
    | some bs => some (b :: bs)
    | none => none
  | _ :: _ => none
theorem allI_eq : ∀ {vs : List Val} {bs : List Int}, allI vs = some bs → vs = bs.map fun b => .d (.int b)
  | [], _, h => by
    cases h
    rfl
  | .d (.int b) :: r, _, h => by
    rw [allI] at h
    split at h
    · rename_i bs e
      cases h
      rw [allI_eq e]
      rfl
    · cases h
  | .d .none :: _, _, h => by cases h
  | .d (.bool _) :: _, _, h => by cases h
  | .d (.str _) :: _, _, h => by cases h
  | .d (.list _) :: _, _, h => by cases h
  | .d (.tuple _) :: _, _, h => by cases h
  | .d (.dict _) :: _, _, h => by cases h
  | .ref _ :: _, _, h => by cases h
  | .fn _ :: _, _, h => by cases h
  | .scr _ :: _, _, h => by cases h
  | .ty _ :: _, _, h => by cases h
theorem allI_map : ∀ bs : List Int, allI (bs.map fun b => .d (.int b)) = some bs
  | [] => rfl
  | b :: bs => by
    rw [List.map_cons, allI, allI_map bs]
theorem bools_of {T : Ty} {ρ : List Addr} {F : Hp} : ∀ {bs : List Bool} {xs : List V}, RepVs T ρ F xs (bs.map fun b => .d (.bool b)) → xs = bs.map V.bl
  | [], _, .nil => rfl
  | _ :: _, _, .cons h t => by
    rw [h.bl_, bools_of t]
    rfl
theorem ints_of {T : Ty} {ρ : List Addr} {F : Hp} : ∀ {bs : List Int} {xs : List V}, RepVs T ρ F xs (bs.map fun b => .d (.int b)) → xs = bs.map V.int
  | [], _, .nil => rfl
  | _ :: _, _, .cons h t => by
    rw [h.int_, ints_of t]
    rfl
def lenN (v : Val) (S : Store) : Option Nat := match v with
  | .d (.str z) => if z.length ≤ sizeLine then some z.length else none
  | .d (.tuple ds) => some ds.length
  | .scr ns => some ns.length
  | v => match asDic v S with
    | some m => some m.length
    | none => (asL v S).map List.length
def isTy (a t : String) : Bool := a == t || (a == "bool" && t == "int")
def tyName (v : Val) (S : Store) : Option String := match v with
  | .d .none => some "NoneType"
  | .d (.bool _) => some "bool"
  | .d (.int _) => some "int"
  | .d (.str _) => some "str"
  | .d (.tuple _) => some "tuple"
  | .scr _ => some "list"
  | .fn _ => none
  | .ty _ => none
  | v => match asDic v S with
    | some _ => some "dict"
    | none => (asL v S).map fun _ => "list"
def tyKnown (t : String) : Bool := ["int", "bool", "str", "tuple", "list", "dict"].contains t
def lenL : OpL := fun vs S => match vs with
  | [v] => (lenN v S).map fun (n : Nat) => (.d (.int (n : Int)), S)
  | _ => none
def allL : OpL := fun vs S => match vs with
  | [v] => match asL v S with
    | some xs => (allB xs).map fun bs => (.d (.bool (bs.all id)), S)
    | none => none
  | _ => none
def anyL : OpL := fun vs S => match vs with
  | [v] => match asL v S with
    | some xs => (allB xs).map fun bs => (.d (.bool (bs.any id)), S)
    | none => none
  | _ => none
def sumL : OpL := fun vs S => match vs with
  | [v] => match asL v S with
    | some xs => (allI xs).map fun bs => (.d (.int bs.sum), S)
    | none => none
  | _ => none
def asQ (v : Val) (S : Store) : Option (List Val) := match asT v with
  | some xs => some xs
  | none => asL v S
def listL : OpL := fun vs S => match vs with
  | [v] => match asQ v S with
    | some xs => mkL xs S
    | none => none
  | _ => none
def tupleL : OpL := fun vs S => match vs with
  | [v] => match asT v with
    | some _ => some (v, S)
    | none => match asL v S with
      | some xs => mkT xs S
      | none => none
  | _ => none
def strL : OpL := fun vs S => match vs with
  | [.d (.int i)] => if i.natAbs.log2 < 1920 then some (.d (.str (toString i)), S) else none
  | _ => none
def isinstL : OpL := fun vs S => match vs with
  | [v, .ty t] => match tyName v S with
    | some a => if tyKnown t = true then some (.d (.bool (isTy a t)), S) else none
    | none => none
  | _ => none
def maxL : OpL := fun vs S => match vs with
  | [.d (.int i), .d (.int j)] => some (.d (.int (if j > i then j else i)), S)
  | _ => none
section
variable {X : Cx}
theorem RepV.scr_ {T : Ty} {ρ : List Addr} {F : Hp} {x : V} {ns : List Int} (h : RepV T ρ F x (.scr ns)) : ∃ a, x = .ref a ∧ SqL T.K F a (ns.map V.int) := h
theorem dic_len {T : Ty} {a : Addr} {o : Obj} {kvs vvs : List V} {ks : List D} (d : DObj T.w a o kvs ks vvs) : ∃ es ep, o.data = .dict es ep ∧ es.size = ks.length := by
  obtain ⟨es, ep, h1, h2⟩ := d.dat
  refine ⟨es, ep, h1, ?_⟩
  have := h2.len.2.1
  rw [Array.length_toList] at this
  exact this.symm
theorem cr_len : CallR X (.builtin "len") (rL (ty X) lenL) := by
  intro pins s σ H xs us Q I r h
  obtain ⟨ρ, S, vs, R, q, p⟩ := h
  cases e : lenL vs S with
  | none =>
    rw [e] at p
    exact p.elim
  | some z =>
    rw [e] at p
    unfold lenL at e
    split at e
    · rename_i v
      obtain ⟨n, g, hw⟩ := Option.map_eq_some_iff.mp e
      subst hw
      have fin : Q (.int n) H := p ρ H _ R Ext.refl (Rep.int _)
      cases q with
      | cons qx t =>
        cases t
        unfold lenN at g
        split at g
        · split at g
          · rename_i hz
            cases g
            exact call_len_str pins s σ H _ us Q I r ⟨_, by rw [qx.str_], hz, fin⟩
          · cases g
        · cases g
          obtain ⟨a1, v1, rfl, h1, f1, r1⟩ := asT_ok (S := S) qx rfl
          have l1 := pr_len r1
          rw [List.length_map] at l1
          exact call_len_seq pins s σ H _ us Q I r ⟨a1, v1, rfl, .inr (SqT.of h1), by rw [l1]; exact fin⟩
        · rename_i ns
          cases g
          obtain ⟨a, rfl, q⟩ := qx.scr_
          exact call_len_seq pins s σ H _ us Q I r ⟨a, _, rfl, .inl (frz_le.sqL q), by rw [List.length_map]; exact fin⟩
        · split at g
          · rename_i m hm
            cases g
            obtain ⟨a, o, kvs, vvs, rfl, h1, h2, h3, h4⟩ := asDic_ok R qx hm
            obtain ⟨u, rfl, ru⟩ := r.one
            cases ru
            obtain ⟨es, ep, d1, d2⟩ := dic_len (T := ty X) h2
            rw [List.length_map] at d2
            have hg : s.heap.get? a = some o := (I.hok a _ h1).1
            have raw : s.heap.DictRaw a es ep := ⟨o, hg, h2.ex, d1⟩
            refine PyProof.Rows.call_len_slot (n := m.length) ⟨o, hg, h2.ex.1⟩ F.slot_dict_len (fun Q' hq => call_len_raw h2.sm raw (by rw [d2]; exact hq)) (by omega) ?_ ?_
            · have := h2.len
              rw [List.length_map, sizeLine_eq] at this
              omega
            · exact ⟨.int _, H, I.tok _, ⟨_, rfl⟩, fin⟩
          · rename_i hnd
            obtain ⟨ys, g1, g2⟩ := Option.map_eq_some_iff.mp g
            obtain ⟨a1, v1, rfl, h1, r1⟩ := asL_ok R qx g1
            have l1 := pr_len r1
            exact call_len_seq pins s σ H _ us Q I r ⟨a1, v1, rfl, .inl (SqL.of h1), by rw [l1, g2]; exact fin⟩
    · cases e
end
end FH
namespace FH
open L2 PySem PySem.Spec
section
variable {X : Cx}
theorem cr_all_ (hc : X.calm = true) : CallR X (.builtin "all") (rL (ty X) allL) := by
  intro pins s σ H xs us Q I r h
  obtain ⟨ρ, S, vs, R, q, p⟩ := h
  unfold allL at p
  split at p
  · split at p
    · rename_i v xs e
      cases g : allB xs with
      | none =>
        rw [g] at p
        exact p.elim
      | some bs =>
        rw [g] at p
        cases q with
        | cons qx t =>
          cases t
          obtain ⟨a1, v1, rfl, h1, r1⟩ := asL_ok R qx e
          rw [allB_eq g] at r1
          have := bools_of r1
          subst this
          exact cr_all hc pins s σ H _ us Q I r ⟨a1, bs, rfl, SqL.of h1, p ρ H _ R Ext.refl (Rep.bl _)⟩
    · exact p.elim
  · exact p.elim
theorem cr_any_ (hc : X.calm = true) : CallR X (.builtin "any") (rL (ty X) anyL) := by
  intro pins s σ H xs us Q I r h
  obtain ⟨ρ, S, vs, R, q, p⟩ := h
  unfold anyL at p
  split at p
  · split at p
    · rename_i v xs e
      cases g : allB xs with
      | none =>
        rw [g] at p
        exact p.elim
      | some bs =>
        rw [g] at p
        cases q with
        | cons qx t =>
          cases t
          obtain ⟨a1, v1, rfl, h1, r1⟩ := asL_ok R qx e
          rw [allB_eq g] at r1
          have := bools_of r1
          subst this
          exact cr_any hc pins s σ H _ us Q I r ⟨a1, bs, rfl, SqL.of h1, p ρ H _ R Ext.refl (Rep.bl _)⟩
    · exact p.elim
  · exact p.elim
theorem cr_sum_ (hc : X.calm = true) : CallR X (.builtin "sum") (rL (ty X) sumL) := by
  intro pins s σ H xs us Q I r h
  obtain ⟨ρ, S, vs, R, q, p⟩ := h
  unfold sumL at p
  split at p
  · split at p
    · rename_i v xs e
      cases g : allI xs with
      | none =>
        rw [g] at p
        exact p.elim
      | some bs =>
        rw [g] at p
        cases q with
        | cons qx t =>
          cases t
          obtain ⟨a1, v1, rfl, h1, r1⟩ := asL_ok R qx e
          rw [allI_eq g] at r1
          have := ints_of r1
          subst this
          exact cr_sum hc pins s σ H _ us Q I r ⟨a1, bs, rfl, SqL.of h1, p ρ H _ R Ext.refl (Rep.int _)⟩
    · exact p.elim
  · exact p.elim
theorem asQ_ok {T : Ty} {ρ : List Addr} {S : Store} {H : Hp} {x : V} {v : Val} (K : PySem.W.Frag) (R : Rel T ρ S H) (r : RepV T ρ (frz ρ S H) x v) {xs : List Val} (h : asQ v S = some xs) : ∃ a vs, x = .ref a ∧ (SqL K H a vs ∨ SqT K H a vs) ∧ RepVs T ρ (frz ρ S H) vs xs := by
  unfold asQ at h
  split at h
  · rename_i ys e
    cases h
    obtain ⟨a, vs, rfl, h1, _, h2⟩ := asT_ok (S := S) r e
    exact ⟨a, vs, rfl, .inr (SqT.of h1), h2⟩
  · obtain ⟨a, vs, rfl, h1, h2⟩ := asL_ok R r h
    exact ⟨a, vs, rfl, .inl (SqL.of h1), h2⟩
theorem post_mkL {T : Ty} {ρ : List Addr} {S : Store} {H : Hp} {xs : List Val} {vs : List V} {Q : VK} {p : Addr} (R : Rel T ρ S H) (r : RepVs T ρ (frz ρ S H) vs xs) (hp : H p = none) (h : Post0 T ρ S H (mkL xs S) Q) : Q (.ref p) (upd H p (.lst vs)) := by
  cases e : mkL xs S with
  | none =>
    rw [e] at h
    exact h.elim
  | some z =>
    rw [e] at h
    obtain ⟨ρ', R', E', q'⟩ := mkL_ok (v := z.1) (S' := z.2) R r hp e
    exact h ρ' _ _ R' E' q'
theorem post_mkT {T : Ty} {ρ : List Addr} {S : Store} {H : Hp} {xs : List Val} {vs : List V} {Q : VK} {p : Addr} (R : Rel T ρ S H) (r : RepVs T ρ (frz ρ S H) vs xs) (hp : H p = none) (h : Post0 T ρ S H (mkT xs S) Q) : Q (.ref p) (upd H p (.tup vs)) := by
  cases e : mkT xs S with
  | none =>
    rw [e] at h
    exact h.elim
  | some z =>
    rw [e] at h
    obtain ⟨ρ', R', E', q'⟩ := mkT_ok (v := z.1) (S' := z.2) R r hp e
    exact h ρ' _ _ R' E' q'
theorem cr_list_ : CallR X (.type "list") (rL (ty X) listL) := by
  intro pins s σ H xs us Q I r h
  obtain ⟨ρ, S, vs, R, q, p⟩ := h
  unfold listL at p
  split at p
  · split at p
    · rename_i v xs e
      cases q with
      | cons qx t =>
        cases t
        obtain ⟨a1, v1, rfl, h1, r1⟩ := asQ_ok X.K R qx e
        exact call_list_of pins s σ H _ us Q I r ⟨a1, v1, rfl, h1, fun l hl => post_mkL R r1 hl p⟩
    · exact p.elim
  · exact p.elim
theorem cr_tuple_ : CallR X (.type "tuple") (rL (ty X) tupleL) := by
  intro pins s σ H xs us Q I r h
  obtain ⟨ρ, S, vs, R, q, p⟩ := h
  unfold tupleL at p
  split at p
  · cases q with
    | cons qx t =>
      cases t
      split at p
      · rename_i v xs e
        obtain ⟨a1, v1, rfl, h1, _, r1⟩ := asT_ok (S := S) qx e
        exact call_tuple_of pins s σ H _ us Q I r ⟨a1, v1, rfl, .inr ⟨SqT.of h1, p ρ H _ R Ext.refl qx⟩⟩
      · split at p
        · rename_i xs e
          obtain ⟨a1, v1, rfl, h1, r1⟩ := asL_ok R qx e
          exact call_tuple_of pins s σ H _ us Q I r ⟨a1, v1, rfl, .inl ⟨SqL.of h1, fun l hl => post_mkT R r1 hl p⟩⟩
        · exact p.elim
  · exact p.elim
theorem cr_str_ : CallR X (.type "str") (rL (ty X) strL) := by
  intro pins s σ H xs us Q I r h
  obtain ⟨ρ, S, vs, R, q, p⟩ := h
  unfold strL at p
  split at p
  · split at p
    · rename_i i hz
      cases q with
      | cons qx t =>
        cases t
        exact call_str_int pins s σ H _ us Q I r ⟨i, by rw [qx.int_], hz, p ρ H _ R Ext.refl (Rep.str _)⟩
    · exact p.elim
  · exact p.elim
theorem cr_max_ (hc : X.calm = true) : CallR X (.builtin "max") (rL (ty X) maxL) := by
  intro pins s σ H xs us Q I r h
  obtain ⟨ρ, S, vs, R, q, p⟩ := h
  unfold maxL at p
  split at p
  · rename_i i j
    cases q with
    | cons qx t =>
      cases t with
      | cons qy t =>
        cases t
        exact call_max2 hc pins s σ H _ us Q I r ⟨i, j, by rw [qx.int_, qy.int_], p ρ H _ R Ext.refl (Rep.int _)⟩
  · exact p.elim
theorem kit_known {a t : String} (ha : a ∈ ["NoneType", "bool", "int", "str", "tuple", "list", "dict"]) (ht : tyKnown t = true) : kitB a t = some (isTy a t) := by
  have ht' : t ∈ ["int", "bool", "str", "tuple", "list", "dict"] := by simpa [tyKnown] using ht
  have all : (["NoneType", "bool", "int", "str", "tuple", "list", "dict"].all fun a => ["int", "bool", "str", "tuple", "list", "dict"].all fun t => decide (kitB a t = some (isTy a t))) = true := by decide +kernel
  exact of_decide_eq_true (List.all_eq_true.mp (List.all_eq_true.mp all a ha) t ht')
theorem cr_isinst : CallR X (.builtin "isinstance") (rL (ty X) isinstL) := by
  intro pins s σ H xs us Q I r h
  obtain ⟨ρ, S, vs, R, q, p⟩ := h
  unfold isinstL at p
  split at p
  · rename_i v t
    split at p
    · rename_i a e
      split at p
      · rename_i ht
        have fin := p ρ H _ R Ext.refl (Rep.bl (isTy a t))
        cases q with
        | @cons x0 _ _ _ qx tl =>
          cases tl with
          | cons qy tl =>
            cases tl
            cases (show _ = V.ty t from qy)
            have base : ∀ {x : V}, x = x0 → TyX X.K H x (.type a) → a ∈ ["NoneType", "bool", "int", "str", "tuple", "list", "dict"] → wpAny (model X.prog X.w) X.A (call (.builtin "isinstance") us) (EP X pins σ Q) X.xe s := fun {x} ex tx ha => by
              subst ex
              exact call_isi pins s σ H _ us Q I r ⟨_, _, .type a, .type t, isTy a t, rfl, .ty t, tx, kit_ty (kit_known ha ht), fin⟩
            unfold tyName at e
            split at e
            · cases e
              exact base rfl (by rw [qx.non_]; exact .base .non) (by decide)
            · cases e
              exact base rfl (by rw [qx.bl_]; exact .base (.bl _)) (by decide)
            · cases e
              exact base rfl (by rw [qx.int_]; exact .base (.int _)) (by decide)
            · cases e
              exact base rfl (by rw [qx.str_]; exact .base (.str _)) (by decide)
            · cases e
              obtain ⟨a1, v1, rfl, h1, _, r1⟩ := asT_ok (S := S) qx rfl
              exact base rfl (.base (.tup h1)) (by decide)
            · cases e
              obtain ⟨a, rfl, q⟩ := qx.scr_
              rcases frz_le.sqL q with (z | ⟨o, z⟩) | ⟨o, its, n, z, z2, _⟩
              · exact base rfl (.base (.lst z)) (by decide)
              · exact base rfl (.base (.frz z)) (by decide)
              · exact base rfl (.kList z z2) (by decide)
            · cases e
            · cases e
            · split at e
              · rename_i m hm
                cases e
                obtain ⟨a, o, kvs, vvs, rfl, h1, h2, h3, h4⟩ := asDic_ok R qx hm
                obtain ⟨u1, u2, rfl, ru1, ru2⟩ := vals2 r
                cases ru1
                cases ru2
                have hg : s.heap.get? a = some o := (I.hok a _ h1).1
                exact PySem.W.kia_one PySem.W.kitx_dict I.kIn ⟨o, hg, h2.ex.1⟩ (kit_ty (kit_known (by decide) ht)) (fun z => nomatch z) fun tk => ⟨.bl _, H, I.tok tk, rfl, fin⟩
              · obtain ⟨ys, g1, g2⟩ := Option.map_eq_some_iff.mp e
                subst g2
                obtain ⟨a1, v1, rfl, h1, r1⟩ := asL_ok R qx g1
                exact base rfl (.base (.lst h1)) (by decide)
      · exact p.elim
    · exact p.elim
  · exact p.elim
end
/-! ### methods of lists and dicts -/
/-- an object of the store that is written -/
def putO (n : Nat) (o : Ob) (v : Val) (S : Store) : Option (Val × Store) := some (v, S.set n o)
def appM (v : Val) (vs : List Val) (S : Store) : Option (Val × Store) := match v, vs with
  | .ref n, [x] => match S[n]? with
    | some (.lst xs) => if xs.length < sizeLine then putO n (.lst (xs ++ [x])) (.d .none) S else none
    | _ => none
  | _, _ => none
def extM (v : Val) (vs : List Val) (S : Store) : Option (Val × Store) := match v, vs with
  | .ref n, [x] => match S[n]?, asL x S with
    | some (.lst xs), some ys => if xs.length + ys.length ≤ sizeLine then putO n (.lst (xs ++ ys)) (.d .none) S else none
    | _, _ => none
  | _, _ => none
def popL (v : Val) (vs : List Val) (S : Store) : Option (Val × Store) := match v, vs with
  | .ref n, [] => match S[n]? with
    | some (.lst xs) => match xs[xs.length - 1]? with
      | some y => putO n (.lst xs.dropLast) y S
      | none => none
    | _ => none
  | .ref n, [.d (.int i)] => match S[n]? with
    | some (.lst xs) => match ixN xs.length i with
      | some k => match xs[k]? with
        | some y => putO n (.lst (xs.eraseIdx k)) y S
        | none => none
      | none => none
    | _ => none
  | _, _ => none
def rM (T : Ty) (g : Val → List Val → Store → Option (Val × Store)) (x : V) (xs : List V) (H : Hp) (Q : VK) : Prop := ∃ ρ S v vs, Rel T ρ S H ∧ RepV T ρ (frz ρ S H) x v ∧ RepVs T ρ (frz ρ S H) xs vs ∧ Post0 T ρ S H (g v vs S) Q
section
variable {X : Cx}
/-- a list of the store is written -/
theorem put_lst {T : Ty} {ρ : List Addr} {S : Store} {H : Hp} {n : Nat} {a : Addr} {xs ys : List Val} {ws : List V} {y : V} {v : Val} {Q : VK} (R : Rel T ρ S H) (ha : ρ[n]? = some a) (hn : S[n]? = some (.lst xs)) (r : RepVs T ρ (frz ρ S H) ws ys) (ry : RepV T ρ (frz ρ S H) y v)
    (p : Post0 T ρ S H (putO n (.lst ys) v S) Q) : Q y (upd H a (.lst ws)) := by
  obtain ⟨R1, E1⟩ := R.put (o := .lst ws) ha hn rfl (ob' := .lst ys) rfl (fun _ => by simp) ⟨ws, rfl, r⟩
  exact p ρ _ y R1 E1 (ry.mono E1.pre E1.le)
theorem mt_app : MtR X "list.append" (rM (ty X) appM) := by
  intro pins s σ H x xs v us Q I rx rv h
  obtain ⟨ρ, S, a, vs, R, qx, q, p⟩ := h
  unfold appM at p
  split at p
  · rename_i n z
    split at p
    · rename_i ys e
      split at p
      · rename_i hz
        obtain ⟨a1, e1, rfl⟩ := (show ∃ a, ρ[n]? = some a ∧ x = .ref a from qx)
        obtain ⟨ws, e2, r2⟩ := R.obj n a1 _ e1 e
        have l2 := pr_len r2
        cases q with
        | cons qy t =>
          cases t
          exact mt_append pins s σ H _ _ v us Q I rx rv ⟨a1, ws, _, rfl, rfl, e2, by omega, put_lst (v := .d .none) R e1 e (pr_app r2 (.cons qy .nil)) Rep.non p⟩
      · exact p.elim
    · exact p.elim
  · exact p.elim
theorem mt_ext : MtR X "list.extend" (rM (ty X) extM) := by
  intro pins s σ H x xs v us Q I rx rv h
  obtain ⟨ρ, S, a, vs, R, qx, q, p⟩ := h
  unfold extM at p
  split at p
  · rename_i n z
    split at p
    · rename_i ys zs e e'
      split at p
      · rename_i hz
        obtain ⟨a1, e1, rfl⟩ := (show ∃ a, ρ[n]? = some a ∧ x = .ref a from qx)
        obtain ⟨ws, e2, r2⟩ := R.obj n a1 _ e1 e
        have l2 := pr_len r2
        cases q with
        | cons qy t =>
          cases t
          obtain ⟨a3, ws3, rfl, h3, r3⟩ := asL_ok R qy e'
          have l3 := pr_len r3
          exact mt_extend pins s σ H _ _ v us Q I rx rv ⟨a1, a3, ws, ws3, rfl, rfl, e2, h3, by omega, put_lst (v := .d .none) R e1 e (pr_app r2 r3) Rep.non p⟩
      · exact p.elim
    · exact p.elim
  · exact p.elim
theorem mt_popL : MtR X "list.pop" (rM (ty X) popL) := by
  intro pins s σ H x xs v us Q I rx rv h
  obtain ⟨ρ, S, a, vs, R, qx, q, p⟩ := h
  unfold popL at p
  split at p
  · rename_i n
    split at p
    · rename_i ys e
      split at p
      · rename_i y g
        obtain ⟨a1, e1, rfl⟩ := (show ∃ a, ρ[n]? = some a ∧ x = .ref a from qx)
        obtain ⟨ws, e2, r2⟩ := R.obj n a1 _ e1 e
        obtain ⟨y', g1, g2⟩ := pr_getR r2 g
        cases q
        rw [← pr_len r2] at g1
        exact mt_pop pins s σ H _ _ v us Q I rx rv ⟨a1, ws, y', rfl, rfl, e2, g1, put_lst R e1 e (pr_dropLast r2) g2 p⟩
      · exact p.elim
    · exact p.elim
  · rename_i n i
    split at p
    · rename_i ys e
      split at p
      · rename_i k hk
        split at p
        · rename_i y g
          obtain ⟨a1, e1, rfl⟩ := (show ∃ a, ρ[n]? = some a ∧ x = .ref a from qx)
          obtain ⟨ws, e2, r2⟩ := R.obj n a1 _ e1 e
          obtain ⟨y', g1, g2⟩ := pr_getR r2 g
          have l2 := pr_len r2
          rw [← l2] at hk
          obtain ⟨k1, k2, k3, k4⟩ := ixN_seq hk
          obtain ⟨z, _⟩ := I.lstM e2
          have es : sizeLine = 16777216 := sizeLine_eq
          cases q with
          | cons qy t =>
            cases t
            exact mt_popAt pins s σ H _ _ v us Q I rx rv ⟨a1, ws, i, k, y', rfl, by rw [qy.int_], e2, by omega, by omega, k1, g1, put_lst R e1 e (pr_erase k r2) g2 p⟩
        · exact p.elim
      · exact p.elim
    · exact p.elim
  · exact p.elim
end
end FH
namespace FH
open L2 PySem PySem.Spec
/-! ### what is let go, what is forgotten -/
def freezeV (v : Val) (S : Store) : Option (Val × Store) := match v with
  | .ref n => match S[n]? with
    | some (.lst xs) => match allD xs with
      | some ds => some (.d (.list ds), S.set n .gone)
      | none => none
    | some (.dic m) => match allD (m.map (·.2)) with
      | some ds => some (.d (.dict ((m.map (·.1)).zip ds)), S.set n .gone)
      | none => none
    | _ => none
  | v => some (v, S)
def freezeAll : List Val → Store → Option (List Val × Store)
  | [], S => some ([], S)
  | v :: vs, S => match freezeV v S with
    | some (v', S1) => match freezeAll vs S1 with
      | some (vs', S2) => some (v' :: vs', S2)
      | none => none
    | none => none
def cutOk (S S' : Store) : Prop := ∀ (i : Nat) (o : Ob), i < S.length → S'[i]? = some o → S[i]? = some o ∨ o.cl S.length
open Classical in
noncomputable def popO (S : Store) (v : Val) (S' : Store) : Option (Val × Store) := if cutOk S S' ∧ v.cl S.length then some (v, S'.take S.length) else none
theorem zip_fst {α β : Type} : ∀ {as : List α} {bs : List β}, as.length = bs.length → (as.zip bs).map (·.1) = as
  | [], [], _ => rfl
  | a :: as, b :: bs, h => by
    rw [List.zip_cons_cons, List.map_cons, zip_fst (by simpa using h)]
theorem zip_snd {α β : Type} : ∀ {as : List α} {bs : List β}, as.length = bs.length → (as.zip bs).map (·.2) = bs
  | [], [], _ => rfl
  | a :: as, b :: bs, h => by
    rw [List.zip_cons_cons, List.map_cons, zip_snd (by simpa using h)]
section
variable {T : Ty} {ρ ρ' : List Addr} {S S' : Store} {H H' : Hp} {x : V} {v v' : Val}
theorem freezeV_ok (R : Rel T ρ S H) (r : RepV T ρ (frz ρ S H) x v) (h : freezeV v S = some (v', S')) : Rel T ρ S' H ∧ Ext ρ S H ρ S' H ∧ RepV T ρ (frz ρ S' H) x v' := by
  unfold freezeV at h
  split at h
  · rename_i n
    obtain ⟨a, e, rfl⟩ := (show ∃ a, ρ[n]? = some a ∧ x = .ref a from r)
    split at h
    · rename_i xs q
      split at h
      · rename_i ds g
        cases h
        obtain ⟨vs, e', r'⟩ := R.obj n a _ e q
        obtain ⟨R1, E1, f⟩ := R.drop e q (fun _ => by simp)
        refine ⟨R1, E1, Rep.lst (by rw [f]; exact e') ?_⟩
        rw [allD_eq g] at r'
        exact (RepAll.of r').mono E1.le
      · cases h
    · rename_i m q
      split at h
      · rename_i ds g
        cases h
        obtain ⟨o, kvs, vvs, e', d, k, r'⟩ := R.obj n a _ e q
        obtain ⟨R1, E1, f⟩ := R.drop e q (fun _ => by simp)
        have hl : (m.map (·.1)).length = ds.length := by
          have := congrArg List.length (allD_eq g)
          simp only [List.length_map] at this ⊢
          exact this
        have z1 := zip_fst hl
        have z2 := zip_snd hl
        refine ⟨R1, E1, Rep.dic (o := o) (kvs := kvs) (vvs := vvs) (by rw [f]; exact e') (by rw [z1]; exact d) (by rw [z1]; exact k.mono E1.le) ?_⟩
        rw [z2]
        rw [allD_eq g] at r'
        exact (RepAll.of r').mono E1.le
      · cases h
    · cases h
  · cases h
    exact ⟨R, Ext.refl, r⟩
theorem freezeAll_ok : ∀ {vs vs' : List Val} {xs : List V} {S S' : Store}, Rel T ρ S H → RepVs T ρ (frz ρ S H) xs vs → freezeAll vs S = some (vs', S') → Rel T ρ S' H ∧ Ext ρ S H ρ S' H ∧ RepVs T ρ (frz ρ S' H) xs vs'
  | [], _, _, _, _, R, r, h => by
    cases h
    cases r
    exact ⟨R, Ext.refl, .nil⟩
  | v :: vs, _, _, _, _, R, r, h => by
    rw [freezeAll] at h
    split at h
    · rename_i v1 S1 e
      split at h
      · rename_i vs1 S2 e2
        cases h
        cases r with
        | cons r1 r2 =>
          obtain ⟨R1, E1, q1⟩ := freezeV_ok R r1 e
          obtain ⟨R2, E2, q2⟩ := freezeAll_ok R1 (RepVs.mono E1.pre E1.le r2) e2
          exact ⟨R2, E1.trans E2, .cons (q1.mono E2.pre E2.le) q2⟩
      · cases h
    · cases h
theorem pop_ok (R : Rel T ρ S H) (R' : Rel T ρ' S' H') (E : Ext ρ S H ρ' S' H') (c : cutOk S S') (vc : v.cl S.length) (r : RepV T ρ' (frz ρ' S' H') x v) :
    Rel T ρ (S'.take S.length) H' ∧ Ext ρ S H ρ (S'.take S.length) H' ∧ RepV T ρ (frz ρ (S'.take S.length) H') x v := by
  obtain ⟨R1, E1, le⟩ := R.cut R' E c
  exact ⟨R1, E1, (r.mono (List.prefix_refl _) le).back E.pre (by rw [R.len]; exact vc)⟩
theorem popO_ok {S'' : Store} (R : Rel T ρ S H) (R' : Rel T ρ' S' H') (E : Ext ρ S H ρ' S' H') (r : RepV T ρ' (frz ρ' S' H') x v) (h : popO S v S' = some (v', S'')) :
    Rel T ρ S'' H' ∧ Ext ρ S H ρ S'' H' ∧ RepV T ρ (frz ρ S'' H') x v' := by
  unfold popO at h
  split at h
  · rename_i c
    cases h
    exact pop_ok R R' E c.1 c.2 r
  · cases h
end
theorem cutOk_self (S t : Store) : cutOk S (S ++ t) := fun i o hi h => .inl (by rw [List.getElem?_append_left hi] at h; exact h)
theorem popO_self {S : Store} {v : Val} (t : Store) (h : v.cl S.length) : popO S v (S ++ t) = some (v, S) := by
  unfold popO
  rw [if_pos ⟨cutOk_self S t, h⟩, List.take_left]
/-! ### displays -/
def tupO (vs : List Val) (S : Store) : Option (Val × Store) := match freezeAll vs S with
  | some (vs', S') => if vs'.length ≤ sizeLine then mkT vs' S' else none
  | none => none
@[simp] def evTup (a : Loc → Store → Res (List Val)) : Ev := evL tupO a
def lstO (own : Bool) (vs : List Val) (S : Store) : Option (Val × Store) := if vs.length ≤ sizeLine then (if own = true then mkLo vs S else mkL vs S) else none
def evLst (own : Bool) (a : Loc → Store → Res (List Val)) : Ev := evL (lstO own) a
section
variable {X : Cx} {W : WE}
theorem pd_tup {es : List Expr} {k pos} {a : Loc → Store → Res (List Val)} (h : PDA X W es a) : PD X W (.Tuple es k pos) (evTup a) :=
  PE_imp (pe_tup h) fun σ H Q t => by
    obtain ⟨ρ, S, l, R, L, p⟩ := seqL t
    refine ⟨ρ, S, l, R, L, p.imp fun xs H1 ⟨ρ1, S1, vs, R1, q, p1⟩ => ?_⟩
    unfold tupO at p1
    split at p1
    · rename_i vs' S' e
      split at p1
      · rename_i hz
        obtain ⟨R2, E2, q2⟩ := freezeAll_ok R1 q e
        refine ⟨by rw [pr_len q2]; exact hz, fun y hy => ?_⟩
        cases e3 : mkT vs' S' with
        | none =>
          rw [e3] at p1
          exact p1.elim
        | some z =>
          rw [e3] at p1
          obtain ⟨ρ', R', E', q'⟩ := mkT_ok (v := z.1) (S' := z.2) R2 q2 hy e3
          exact p1 ρ' _ _ R' (E2.trans E') q'
      · exact p1.elim
    · exact p1.elim
theorem pd_lst {es : List Expr} {pos} {own : Bool} {a : Loc → Store → Res (List Val)} (h : PDA X W es a) : PD X W (.List es pos) (evLst own a) :=
  PE_imp (pe_lst h) fun σ H Q t => by
    obtain ⟨ρ, S, l, R, L, p⟩ := seqL t
    refine ⟨ρ, S, l, R, L, p.imp fun xs H1 ⟨ρ1, S1, vs, R1, q, p1⟩ => ?_⟩
    unfold lstO at p1
    split at p1
    · rename_i hz
      refine ⟨by rw [pr_len q]; exact hz, fun y hy => ?_⟩
      split at p1
      · obtain ⟨ρ', R', E', q'⟩ := mkLo_ok R1 q hy
        exact p1 ρ' _ _ R' E' q'
      · exact post_mkL R1 q hy p1
    · exact p1.elim
end
/-! ### a dict is written -/
section
variable {X : Cx} {pins : List (Addr × Obj)} {s : Shared} {σ : St} {H F : Hp} {d : Addr} {o : Obj} {kvs vvs : List V} {m : List (D × Val)} {ρ : List Addr} {kx vx : V} {ku vu : Value} {k : D} {v : Val}
theorem newD_inv {es : Array DictEntry} {ep tk : Nat} {h' : Heap} {o' : Obj} (I : Inv X pins σ H s) (hd : H d = some (dHO d o)) (n : NewD s.heap d es ep h' o') : Inv X pins σ (upd H d (dHO d o')) { s with heap := h', toks := tk } := by
  obtain ⟨n1, n2, n3, n4⟩ := n
  refine I.write (e := d) (by rw [hd]; exact trivial) (.inl rfl) (fun b u hb e => (n4.2 b hb).trans e) ⟨o', n1⟩ ⟨n1, ⟨o', n1⟩, fun h1 h2 e k => k _ e⟩
theorem dput_H (hu : X.A.units + 9 < cLine) {f : Value → Value → Sem Unit} {Q : Unit → Shared → Prop} (I : Inv X pins σ H s) (hd : H d = some (dHO d o)) (dj : DObj X.w d o kvs (m.map (·.1)) vvs) (ra : RepAll (ty X) F kvs (m.map (·.1))) (rb : RepVs (ty X) ρ F vvs (m.map (·.2))) (le : Le F H)
    (rk : RelV kx ku) (qk : Rep (ty X) F kx k) (hk : keyOk k = true) (rv : RelV vx vu) (qv : RepV (ty X) ρ F vx v) (hz : m.length < sizeLine)
    (hf : ∀ {nk : NestedKey} {es : Array DictEntry} {ep : Nat} {nks : List NestedKey}, NestedIs s.heap nk ku → nk.depth ≤ 8 → UD X.w s.heap d o es ep nks → es.size ≤ sizeLine → (nk ∉ nks → ∀ h' o', NewD s.heap d (es.push ⟨nk.hash X.w, ku, vu⟩) (ep + 1) h' o' → Q () { s with heap := h', toks := s.toks + nk.draws }) →
      (∀ (j : Nat), nks[j]? = some nk → ∀ h' o', NewD s.heap d (es.modify j fun e => { e with val := vu }) ep h' o' → Q () { s with heap := h', toks := s.toks + nk.draws }) → wpAny (model X.prog X.w) X.A (f ku vu) Q X.xe s)
    (q : ∀ o' kvs' vvs' s', Inv X pins σ (upd H d (dHO d o')) s' → DObj X.w d o' kvs' ((dput m k v).map (·.1)) vvs' → RepAll (ty X) F kvs' ((dput m k v).map (·.1)) → RepVs (ty X) ρ F vvs' ((dput m k v).map (·.2)) → Q () s') :
    wpAny (model X.prog X.w) X.A (f ku vu) Q X.xe s := by
  obtain ⟨es, ep, nks, u1, u2, u3⟩ := DObj.ud (T := ty X) le I.hok hd dj ra
  obtain ⟨nk, k1, k2⟩ := keyOk_get hk
  have k3 := Rep.key le I.hok qk rk k1
  have sz : es.size = m.length := by
    have := u3.len.2.1
    rw [List.length_map] at this
    rw [this, Array.length_toList]
  refine hf k3 k2 u1 (by omega) (fun hn h' o' n => ?_) fun j hj h' o' n => ?_
  · have hnm : k ∉ m.map (·.1) := fun z => hn ((toKeys_mem u2 k1).mpr z)
    have e1 := dput_new (v := v) hnm
    refine q o' (kvs ++ [kx]) (vvs ++ [vx]) _ (newD_inv I hd n) ?_ ?_ ?_
    · rw [e1, List.map_append]
      refine ⟨n.2.1, ⟨_, _, n.2.2.1, ?_⟩, ?_, dj.sm, ?_⟩
      · rw [Array.toList_push]
        exact u3.snoc k1 k2 rk rv rfl
      · rw [List.nodup_append]
        refine ⟨dj.nd, by simp, fun a ha b hb => ?_⟩
        have : b = k := by simpa using hb
        rw [this]
        exact fun z => hnm (z ▸ ha)
      · rw [List.length_append, List.length_map]
        exact hz
    · rw [e1, List.map_append]
      have := pr_app (RepAll.pr (ρ := ρ) ra) (ys' := [Val.d k]) (.cons qk .nil)
      exact RepAll.of (ρ := ρ) (by rw [List.map_append]; exact this)
    · rw [e1, List.map_append]
      exact pr_app rb (.cons qv .nil)
  · obtain ⟨k', g1, g2⟩ := toKeys_back u2 hj
    have ek := toKey_inj k k' nk k1 g2
    subst ek
    rw [List.getElem?_map] at g1
    obtain ⟨p, g3, g4⟩ := Option.map_eq_some_iff.mp g1
    obtain ⟨k', w0⟩ := p
    cases g4
    have e1 := dput_old (v := v) dj.nd g3
    have e2 : (m.set j (k', v)).map (·.1) = m.map (·.1) := by
      rw [List.map_set]
      refine List.ext_getElem? fun i => ?_
      by_cases h : j = i
      · subst h
        rw [List.getElem?_set_self (by rw [List.length_map]; exact (List.getElem?_eq_some_iff.mp g3).1), List.getElem?_map, g3]
        rfl
      · rw [List.getElem?_set_ne h]
    refine q o' kvs (vvs.set j vx) _ (newD_inv I hd n) ?_ ?_ ?_
    · rw [e1, e2]
      refine ⟨n.2.1, ⟨_, _, n.2.2.1, ?_⟩, dj.nd, dj.sm, dj.len⟩
      rw [Array.toList_modify]
      exact Ents.set rv u3
    · rw [e1, e2]
      exact ra
    · rw [e1, List.map_set]
      exact pr_set qv j rb
end
end FH
namespace FH
open L2 PySem PySem.Spec
/-- o[i] = v -/
noncomputable def setV (o i v : Val) (S : Store) : Option Store := match o with
  | .ref n => match S[n]?, i with
    | some (.lst xs), .d (.int k) => match ixN xs.length k with
      | some j => some (S.set n (.lst (xs.set j v)))
      | none => none
    | some (.dic m), .d k => if keyOk k = true ∧ m.length < sizeLine then some (S.set n (.dic (dput m k v))) else none
    | _, _ => none
  | _ => none
def PostS (T : Ty) (ρ : List Addr) (S : Store) (H : Hp) (r : Option Store) (Q : Hp → Prop) : Prop := match r with
  | some S' => ∀ (ρ' : List Addr) (H' : Hp), Rel T ρ' S' H' → Ext ρ S H ρ' S' H' → Q H'
  | none => False
def rSet (T : Ty) : TSet := fun o i v H Q => ∃ ρ S a b c, Rel T ρ S H ∧ RepV T ρ (frz ρ S H) o a ∧ RepV T ρ (frz ρ S H) i b ∧ RepV T ρ (frz ρ S H) v c ∧ PostS T ρ S H (setV a b c S) Q
section
variable {X : Cx}
/-- the dict at the place n of the store is written -/
theorem put_dic {T : Ty} {ρ : List Addr} {S : Store} {H : Hp} {n : Nat} {a : Addr} {m m' : List (D × Val)} {o' : Obj} {kvs vvs : List V} (R : Rel T ρ S H) (ha : ρ[n]? = some a) (hn : S[n]? = some (.dic m)) (d : DObj T.w a o' kvs (m'.map (·.1)) vvs) (k : RepAll T (frz ρ S H) kvs (m'.map (·.1)))
    (r : RepVs T ρ (frz ρ S H) vvs (m'.map (·.2))) : Rel T ρ (S.set n (.dic m')) (upd H a (dHO a o')) ∧ Ext ρ S H ρ (S.set n (.dic m')) (upd H a (dHO a o')) :=
  R.put (o := dHO a o') ha hn rfl (ob' := .dic m') rfl (fun _ => by simp) ⟨o', kvs, vvs, rfl, d, k, r⟩
theorem set_any (hu : X.A.units + 100 < cLine) : PSet X (rSet (ty X)) := by
  intro pins s σ H o i v ov iv u Q I ro ri rv h
  obtain ⟨ρ, S, a, b, c, R, qo, qi, qv, p⟩ := h
  unfold setV at p
  split at p
  · rename_i n
    obtain ⟨a1, e1, rfl⟩ := (show ∃ a, ρ[n]? = some a ∧ o = .ref a from qo)
    split at p
    · rename_i xs k e
      split at p
      · rename_i j hj
        obtain ⟨ws, e2, r2⟩ := R.obj n a1 _ e1 e
        have l2 := pr_len r2
        rw [← l2] at hj
        refine set_list pins s σ H _ i v ov iv u Q I ro ri rv ⟨a1, ws, k, j, rfl, qi.int_, e2, hj, ?_⟩
        obtain ⟨R1, E1⟩ := R.put (o := .lst (ws.set j v)) e1 e rfl (ob' := .lst (xs.set j c)) rfl (fun _ => by simp) ⟨_, rfl, pr_set qv j r2⟩
        exact p ρ _ R1 E1
      · exact p.elim
    · rename_i m k e
      split at p
      · rename_i hk
        obtain ⟨ob, kvs, vvs, e2, d2, k2, r2⟩ := R.obj n a1 _ e1 e
        cases ro
        refine dput_H (f := fun x y => setItem (.ref a1) x y) (by omega) I e2 d2 k2 r2 frz_le ri (show Rep (ty X) _ i k from qi) hk.1 rv qv hk.2 (fun {nk es ep nks} h1 h2 h3 h4 h5 h6 => usetItem (by omega) h1 h2 h3 h4 h5 h6) fun o' kvs' vvs' s' I' d' k' r' => ?_
        obtain ⟨R1, E1⟩ := put_dic R e1 e d' k' r'
        exact ⟨_, I', p ρ _ R1 E1⟩
      · exact p.elim
    · exact p.elim
  · exact p.elim
/-- o[i] in an augmented assignment -/
noncomputable def getV (o i : Val) (S : Store) : Option (Val × Store) := match o with
  | .ref n => match S[n]?, i with
    | some (.lst xs), .d (.int k) => if 0 ≤ k then (xs[k.toNat]?).map fun v => (v, S) else none
    | _, _ => none
  | _ => none
theorem get_any : PGet X (r2 (ty X) getV) := by
  intro pins s σ H o i ov iv Q I ro ri h
  obtain ⟨ρ, S, a, b, R, qo, qi, p⟩ := h
  unfold getV at p
  split at p
  · rename_i n
    obtain ⟨a1, e1, rfl⟩ := (show ∃ a, ρ[n]? = some a ∧ o = .ref a from qo)
    split at p
    · rename_i xs k e
      split at p
      · rename_i hk
        obtain ⟨ws, e2, r2⟩ := R.obj n a1 _ e1 e
        cases g : xs[k.toNat]? with
        | none =>
          rw [g] at p
          exact p.elim
        | some z =>
          rw [g] at p
          obtain ⟨y, g1, g2⟩ := pr_getR r2 g
          cases ro
          cases qi.int_
          obtain ⟨t, rfl⟩ := ri
          obtain ⟨hz, its, nn, rv, hl, ho⟩ := I.lstM e2
          obtain ⟨w, g3, g4⟩ := rv.get g1
          have lt := (List.getElem?_eq_some_iff.mp g1).1
          have es : sizeLine = 16777216 := sizeLine_eq
          refine wpAny_getItem_list (l := a1) (items := its.toArray) ⟨_, ho, rfl, _, rfl⟩ hk (by omega) (by simpa using g3) ⟨y, H, I, g4, p ρ H y R Ext.refl g2⟩
      · exact p.elim
    · exact p.elim
  · exact p.elim
end
end FH
namespace FH
open L2 PySem PySem.Spec
/-- what was made at the end of the store S: kept as it is, or frozen and the store cut back -/
noncomputable def fin (own : Bool) (S S2 : Store) : Res Val := if own = true then .ok (.ref S.length) S2 else match freezeV (.ref S.length) S2 with
  | some (v, S3) => ofO (popO S v S3)
  | none => .stuck
theorem fin_ok {T : Ty} {W : WE} {σ : St} {own : Bool} {ρ ρ2 : List Addr} {S S2 : Store} {H H2 : Hp} {p : Addr} {Q : VK} (R : Rel T ρ S H) (R2 : Rel T ρ2 S2 H2) (E : Ext ρ S H ρ2 S2 H2) (hp : ρ2[S.length]? = some p) (h : PostG T W σ (relV T) ρ S H (fin own S S2) Q) : Q (.ref p) H2 := by
  unfold fin at h
  split at h
  · exact h ρ2 H2 _ R2 E ⟨p, hp, rfl⟩
  · split at h
    · rename_i v S3 e
      obtain ⟨R3, E3, q3⟩ := freezeV_ok (x := .ref p) (v := .ref S.length) R2 ⟨p, hp, rfl⟩ e
      cases g : popO S v S3 with
      | none =>
        rw [g] at h
        exact h.elim
      | some z =>
        rw [g] at h
        obtain ⟨R4, E4, q4⟩ := popO_ok (v' := z.1) (S'' := z.2) R R3 (E.trans E3) q3 g
        exact h ρ H2 _ R4 E4 q4
    · exact h.elim
abbrev relPs (T : Ty) : RG (List (V × V)) (List (Val × Val)) := fun ρ F x v => Paired (fun (p : V × V) (q : Val × Val) => RepV T ρ F p.1 q.1 ∧ RepV T ρ F p.2 q.2) x v
def evPairs : List (Ev × Ev) → Loc → Store → Res (List (Val × Val))
  | [], _, S => .ok [] S
  | (k, v) :: r, l, S => (k l S).bind fun kv S1 => (v l S1).bind fun vv S2 => (evPairs r l S2).bind fun ps S3 => .ok ((kv, vv) :: ps) S3
noncomputable def fillD : List (Val × Val) → List (D × Val) → Option (List (D × Val))
  | [], m => some m
  | (.d k, v) :: r, m => if keyOk k = true ∧ m.length < sizeLine then fillD r (dput m k v) else none
  | _ :: _, _ => none
noncomputable def evDisp (own : Bool) (ps : List (Ev × Ev)) : Ev := fun l S => (evPairs ps l (S ++ [.dic []])).bind fun kvs S1 => match fillD kvs [], S1[S.length]? with
  | some m, some (.dic []) => fin own S (S1.set S.length (.dic m))
  | _, _ => .stuck
theorem dObj_empty {w : World} {a : Addr} (h : (a == sysModules) = false) : DObj w a { cls := .type "dict", data := .dict #[] } [] [] [] := ⟨⟨rfl, rfl, rfl⟩, ⟨#[], 0, rfl, .nil⟩, List.nodup_nil, h, Nat.zero_le _⟩
section
variable {X : Cx} {W : WE}
structure PDP (X : Cx) (W : WE) (pos : Pos) (keys : List (Option Expr)) (values : List Expr) (ps : List (Ev × Ev)) : Prop where
  all : keys.all (·.isSome) = true
  len : keys.length = values.length
  run : ∀ (pins : List (Addr × Obj)) (s : Shared) (σ : St) (H : Hp) (Q : List (V × V) → Hp → Prop), Inv X pins σ H s → tG (ty X) W (relPs (ty X)) (evPairs ps) σ H Q →
    wpAny (model X.prog X.w) X.A (evalPairs (pairTrees keys values X.env pos)) (fun vs s' => ∃ ps H', Inv X pins σ H' s' ∧ VV ps vs ∧ Q ps H') X.xe s
theorem pdp_nil {pos : Pos} : PDP X W pos [] [] [] := ⟨rfl, rfl, fun pins s σ H Q I ⟨ρ, S, l, R, L, p⟩ => pairTrees_nil_walk ⟨[], H, I, .nil, p ρ H [] R Ext.refl .nil⟩⟩
theorem pdp_cons {pos : Pos} {k v : Expr} {ks : List (Option Expr)} {vs : List Expr} {mk mv : Ev} {ps : List (Ev × Ev)} (hk : PD X W k mk) (hv : PD X W v mv) (hr : PDP X W pos ks vs ps) : PDP X W pos (some k :: ks) (v :: vs) ((mk, mv) :: ps) := by
  refine ⟨by rw [List.all_cons, hr.all]; rfl, by rw [List.length_cons, List.length_cons, hr.len], fun pins s σ H Q I ⟨ρ, S, l, R, L, p⟩ => ?_⟩
  refine pairTrees_cons_walk (thn (hk.run pins s σ H _ I ⟨ρ, S, l, R, L, PostG.bind p⟩) fun u s1 ⟨x, H1, I1, rx, ρ1, S1, a, R1, E1, q1, _, p1⟩ => ?_)
  have L1 := L.mono E1.pre E1.le
  refine thn (hv.run pins s1 σ H1 _ I1 ⟨ρ1, S1, l, R1, L1, PostG.bind p1⟩) fun w2 s2 ⟨y, H2, I2, ry, ρ2, S2, b, R2, E2, q2, _, p2⟩ => ?_
  refine thn (hr.run pins s2 σ H2 _ I2 ⟨ρ2, S2, l, R2, L1.mono E2.pre E2.le, PostG.bind p2⟩) fun ws s3 ⟨zs, H3, I3, rel, ρ3, S3, c, R3, E3, q3, _, p3⟩ => ?_
  exact ⟨(x, y) :: zs, H3, I3, .cons ⟨rx, ry⟩ rel, p3 ρ3 H3 _ R3 Ext.refl (.cons ⟨(q1.mono E2.pre E2.le).mono E3.pre E3.le, q2.mono E3.pre E3.le⟩ q3)⟩
/-- the pairs are stored, one behind another -/
theorem fill_run (hu : X.A.units + 9 < cLine) {d : Addr} {pins : List (Addr × Obj)} {σ : St} {F : Hp} {ρ : List Addr} {E : Value → Shared → Prop} : ∀ (ps : List (V × V)) (ws : List (Value × Value)) (qs : List (Val × Val)) (m m' : List (D × Val)) (H : Hp) (s : Shared) (o : Obj) (kvs vvs : List V) (Q : PUnit → Shared → Prop),
    Inv X pins σ H s → H d = some (dHO d o) → DObj X.w d o kvs (m.map (·.1)) vvs → RepAll (ty X) F kvs (m.map (·.1)) → RepVs (ty X) ρ F vvs (m.map (·.2)) → F d = none → Le F H → VV ps ws → Paired (fun (p : V × V) (q : Val × Val) => RepV (ty X) ρ F p.1 q.1 ∧ RepV (ty X) ρ F p.2 q.2) ps qs →
    fillD qs m = some m' → (∀ o' kvs' vvs' s', Inv X pins σ (upd H d (dHO d o')) s' → DObj X.w d o' kvs' (m'.map (·.1)) vvs' → RepAll (ty X) F kvs' (m'.map (·.1)) → RepVs (ty X) ρ F vvs' (m'.map (·.2)) → Q PUnit.unit s') →
    wpAny (model X.prog X.w) X.A (forIn ws PUnit.unit fun (x : Value × Value) (_ : PUnit) => (do dictSet d x.1 x.2; pure (ForInStep.yield PUnit.unit) : Sem (ForInStep PUnit))) Q X.xe s
  | [], _, _, m, m', H, s, o, kvs, vvs, Q, I, hd, dj, ra, rb, fd, le, rel, rq, hf, q => by
    cases rel
    cases rq
    cases hf
    rw [List.forIn_nil]
    have e : upd H d (dHO d o) = H := by
      funext b
      by_cases hb : b = d
      · rw [hb, upd_same, hd]
      · rw [upd_ne hb]
    exact wpAny_pure (q o kvs vvs s (by rw [e]; exact I) dj ra rb)
  | (kx, vx) :: ps, _, _, m, m', H, s, o, kvs, vvs, Q, I, hd, dj, ra, rb, fd, le, rel, rq, hf, q => by
    cases rel with
    | @cons _ w _ ws r1 r2 =>
      cases rq with
      | @cons _ z _ qs q1 q2 =>
        obtain ⟨ku, vu⟩ := w
        obtain ⟨kv, vv⟩ := z
        cases kv with
        | d k =>
          rw [fillD] at hf
          split at hf
          · rename_i hk
            rw [List.forIn_cons]
            refine wpAny_bind (wpAny_bind (dput_H (f := fun x y => dictSet d x y) hu I hd dj ra rb le r1.1 (show Rep (ty X) F kx k from q1.1) hk.1 r1.2 q1.2 hk.2 (fun {nk es ep nks} h1 h2 h3 h4 h5 h6 => uset (by omega) h1 h2 h3 h4 h5 h6) fun o' kvs' vvs' s' I' d' k' r' => wpAny_pure ?_))
            have le' : Le F (upd H d (dHO d o')) := fun b u e => by
              rw [upd_ne (ne_of_none e fd)]
              exact le b u e
            refine fill_run hu (E := E) ps ws qs _ m' _ s' o' kvs' vvs' Q I' upd_same d' k' r' fd le' r2 q2 hf fun o2 kvs2 vvs2 s2 I2 d2 k2 r2 => ?_
            rw [upd_upd] at I2
            exact q o2 kvs2 vvs2 s2 I2 d2 k2 r2
          · cases hf
        | ref _ => cases hf
        | fn _ => cases hf
        | scr _ => cases hf
        | ty _ => cases hf
        | lam _ _ => cases hf
theorem fresh_dict (I : Inv X pins σ H s) : (s.heap.objs.size == sysModules) = false := by
  have := I.big
  exact beq_eq_false_iff_ne.mpr (Nat.ne_of_gt this)
theorem pd_disp0 {own : Bool} {pos : Pos} : PD X W (.Dict [] [] pos) (evDisp own []) := ⟨fun pins s σ H Q I ⟨ρ, S, l, R, L, p⟩ => by
  have hn := I.hok.fresh (Nat.le_refl s.heap.objs.size)
  have I1 := I.laid (a := s.heap.objs.size) (o := dHO s.heap.objs.size { cls := .type "dict", data := .dict #[] }) (h' := s.heap.push { cls := .type "dict", data := .dict #[] }) (t' := s.toks) (fun _ _ q => Heap.get?_push_of_some _ q) (Nat.le_refl _)
    ⟨Heap.get?_push_size _ rfl, ⟨_, Heap.get?_push_size _ rfl⟩, fun h1 h2 e k => k _ e⟩
  obtain ⟨R1, E1⟩ := R.new (o := dHO s.heap.objs.size { cls := .type "dict", data := .dict #[] }) (ob := .dic []) hn rfl ⟨_, [], [], rfl, dObj_empty (fresh_dict I), .nil, .nil⟩
  refine wpAny_Dict_empty ⟨.ref s.heap.objs.size, _, I1, rfl, ?_⟩
  have g : (S ++ [Ob.dic []])[S.length]? = some (.dic []) := by simp
  have p' : PostG (ty X) W σ (relV (ty X)) ρ S H (fin own S ((S ++ [Ob.dic []]).set S.length (.dic []))) Q := by
    have e : evDisp own [] l S = fin own S ((S ++ [Ob.dic []]).set S.length (.dic [])) := by
      unfold evDisp
      show (match fillD [] [], (S ++ [Ob.dic []])[S.length]? with | some m, some (.dic []) => _ | _, _ => _) = _
      rw [g]
      rfl
    rw [← e]
    exact p
  have e2 : (S ++ [Ob.dic []]).set S.length (.dic []) = S ++ [Ob.dic []] := by simp
  rw [e2] at p'
  exact fin_ok R R1 E1 (by rw [← R.len]; simp) p'⟩
theorem pd_disp (hu : X.A.units + 9 < cLine) {own : Bool} {pos : Pos} {keys : List (Option Expr)} {values : List Expr} {ps : List (Ev × Ev)} (h : PDP X W pos keys values ps) (h0 : keys ≠ []) (h15 : keys.length ≤ 15) : PD X W (.Dict keys values pos) (evDisp own ps) :=
  ⟨fun pins s σ H Q I ⟨ρ, S, l, R, L, p⟩ => by
  have hn := I.hok.fresh (Nat.le_refl s.heap.objs.size)
  have I1 := I.laid (a := s.heap.objs.size) (o := dHO s.heap.objs.size { cls := .type "dict", data := .dict #[] }) (h' := s.heap.push { cls := .type "dict", data := .dict #[] }) (t' := s.toks) (fun _ _ q => Heap.get?_push_of_some _ q) (Nat.le_refl _)
    ⟨Heap.get?_push_size _ rfl, ⟨_, Heap.get?_push_size _ rfl⟩, fun h1 h2 e k => k _ e⟩
  obtain ⟨R1, E1⟩ := R.new (o := dHO s.heap.objs.size { cls := .type "dict", data := .dict #[] }) (ob := .dic []) hn rfl ⟨_, [], [], rfl, dObj_empty (fresh_dict I), .nil, .nil⟩
  have hp : (ρ ++ [s.heap.objs.size])[S.length]? = some s.heap.objs.size := by
    rw [← R.len]
    simp
  have hpl := pairTrees_length keys values X.env pos h.all h.len
  rw [arm_eval_Dict, zip_pairTrees keys values X.env pos h.all h.len, dictDisplay_pairs _ (fun z => h0 (List.length_eq_zero_iff.mp (by rw [← hpl, z]; rfl))) (by omega)]
  refine wpAny_bind (wpAny_standAt (wpAny_bind ?_))
  unfold subDict
  refine wpAny_bind (wpAny_alloc (wpAny_bind (wpAny_holding ?_)))
  rw [if_pos (by omega)]
  refine wpAny_bind (thn (h.run pins _ σ _ _ I1 ⟨_, _, l, R1, L.mono E1.pre E1.le, (PostG.bind (PostG.start E1 p))⟩) fun ws s2 ⟨zs, H2, I2, rel, ρ2, S2, kvs, R2, E2, q2, er, p2⟩ => ?_)
  refine wpAny_holding (wpAny_bind ?_)
  split at p2
  · rename_i m e3 e4
    have hp2 : ρ2[S.length]? = some s.heap.objs.size := pre_get E2.pre hp
    obtain ⟨o, kv0, vv0, h1, h2, h3, h4⟩ := R2.obj _ _ _ hp2 e4
    have own2 : Owns ρ2 S2 s.heap.objs.size := ⟨S.length, _, hp2, e4, rfl⟩
    refine fill_run hu (E := X.xe) (F := frz ρ2 S2 H2) (ρ := ρ2) zs ws kvs [] m H2 s2 o kv0 vv0 _ I2 h1 h2 h3 h4 (frz_of_own own2) frz_le rel q2 e3 fun o' kvs' vvs' s' I' d' k' r' => wpAny_pure (wpAny_pure (wpAny_pure ?_))
    obtain ⟨R3, E3⟩ := put_dic R2 hp2 e4 d' k' r'
    refine ⟨.ref s.heap.objs.size, _, I', rfl, ?_⟩
    have e5 : evDisp own ps l S = fin own S (S2.set S.length (.dic m)) := by
      unfold evDisp
      rw [er]
      show (match fillD kvs [], S2[S.length]? with | some m, some (.dic []) => _ | _, _ => _) = _
      rw [e3, e4]
    rw [e5] at p
    exact fin_ok R R3 (E1.trans (E2.trans E3)) hp2 p
  · exact p2.elim⟩
end
end FH
namespace FH
open L2 PySem PySem.Spec
/-! ### targets: names by their slots -/
abbrev Tg := List Nat × (Val → Loc → Option Loc)
def tgName (i : Nat) : Tg := ([i], fun v l => if i < l.length then some (l.set i (some v)) else none)
def setAll : List Nat → List Val → Loc → Option Loc
  | [], [], l => some l
  | i :: is, v :: vs, l => if i < l.length then setAll is vs (l.set i (some v)) else none
  | _, _, _ => none
def tgTup (is : List Nat) : Tg := (is, fun v l => match v with
  | .d (.tuple ds) => setAll is (ds.map .d) l
  | _ => none)
/-- the slots σ' are σ but for those of is -/
def Agree (is : List Nat) (σ σ' : St) : Prop := σ'.length = σ.length ∧ ∀ j, j ∉ is → σ'[j]? = σ[j]?
theorem Agree.set {σ : St} {i : Nat} {x : Option V} : Agree [i] σ (σ.set i x) := ⟨by simp, fun j hj => by rw [List.getElem?_set_ne (fun e => hj (by simp [e]))]⟩
def gD (T : Ty) (t : Tg) : TG := fun x σ H Q => ∃ ρ S v l, Rel T ρ S H ∧ RepV T ρ (frz ρ S H) x v ∧ LocOk T ρ (frz ρ S H) l σ ∧ match t.2 v l with
  | some l' => ∀ σ', LocOk T ρ (frz ρ S H) l' σ' → Agree t.1 σ σ' → Q σ' H
  | none => False
theorem LocOk.set {T : Ty} {ρ : List Addr} {F : Hp} {l : Loc} {σ : St} {i : Nat} {v : Val} {x : V} (h : LocOk T ρ F l σ) (hi : i < l.length) (r : RepV T ρ F x v) : LocOk T ρ F (l.set i (some v)) (σ.set i (some x)) := by
  refine ⟨by simp [h.1], fun j u e => ?_⟩
  by_cases hj : i = j
  · subst hj
    rw [List.getElem?_set_self hi] at e
    cases e
    exact ⟨x, by rw [List.getElem?_set_self (by rw [← h.1]; exact hi)], r⟩
  · rw [List.getElem?_set_ne hj] at e ⊢
    exact h.2 j u e
section
variable {X : Cx}
theorem pgd_name {i : Nat} {x : Str} {pos : Pos} (hN : X.N.Nodup) (hi : X.N[i]? = some x) (hx : L2.Loc X.env.scope x) (hf : X.fn x = true ∨ X.env.scope.names.lookup x = some .local) : PG X (.Name x pos) (gD (ty X) (tgName i)) :=
  ⟨fun pins s σ H v u Q I r ⟨ρ, S, a, l, R, qx, L, p⟩ => by
    refine (pg_name hN hi hx hf).run pins s σ H v u Q I r ?_
    unfold tgName at p
    dsimp only at p
    split at p
    · rename_i l' e
      split at e
      · rename_i hl
        cases e
        exact p _ (L.set hl qx) Agree.set
      · cases e
    · exact p.elim⟩
/-- several names -/
def gsD (T : Ty) (is : List Nat) : TGs := fun xs σ H Q => ∃ ρ S vs l, Rel T ρ S H ∧ RepVs T ρ (frz ρ S H) xs vs ∧ LocOk T ρ (frz ρ S H) l σ ∧ match setAll is vs l with
  | some l' => ∀ σ', LocOk T ρ (frz ρ S H) l' σ' → Agree is σ σ' → Q σ' H
  | none => False
theorem pgsd_nil : PGs X [] (gsD (ty X) []) := ⟨fun pins s σ H vs us Q I r ⟨ρ, S, as, l, R, qx, L, p⟩ => by
  cases as with
  | nil =>
    cases qx
    exact pgs_nil.run pins s σ H [] us Q I r ⟨rfl, p σ L ⟨rfl, fun _ _ => rfl⟩⟩
  | cons _ _ => exact p.elim⟩
theorem pgsd_cons {i : Nat} {x : Str} {pos : Pos} {es : List Expr} {is : List Nat} (hN : X.N.Nodup) (hi : X.N[i]? = some x) (hx : L2.Loc X.env.scope x) (hf : X.fn x = true ∨ X.env.scope.names.lookup x = some .local) (h : PGs X es (gsD (ty X) is)) : PGs X (.Name x pos :: es) (gsD (ty X) (i :: is)) :=
  ⟨fun pins s σ H vs us Q I r ⟨ρ, S, as, l, R, qx, L, p⟩ => by
    refine (pgs_cons (pgd_name (pos := pos) hN hi hx hf) h rfl).run pins s σ H vs us Q I r ?_
    cases as with
    | nil => exact p.elim
    | cons a as =>
      cases qx with
      | cons q1 q2 =>
        rw [setAll] at p
        split at p
        · rename_i l' e
          split at e
          · rename_i hl
            refine ⟨_, _, rfl, ρ, S, a, l, R, q1, L, ?_⟩
            unfold tgName
            dsimp only
            rw [if_pos hl]
            refine fun σ' L' A' => ⟨ρ, S, as, _, R, q2, L', ?_⟩
            rw [e]
            refine fun σ2 L2 A2 => p σ2 L2 ⟨A2.1.trans A'.1, fun j hj => ?_⟩
            rw [A2.2 j (fun z => hj (List.mem_cons_of_mem _ z)), A'.2 j (fun z => hj (by simp at z; simp [z]))]
          · cases e
        · exact p.elim⟩
def isName : Expr → Bool
  | .Name _ _ => true
  | _ => false
theorem each_names {env : Env} : ∀ {es : List Expr}, es.all isName = true → (assignEach es env).length = es.length ∧ (assignEach es env).findIdx? (·.1) = none
  | [], _ => ⟨rfl, rfl⟩
  | e :: es, h => by
    rw [List.all_cons, Bool.and_eq_true] at h
    obtain ⟨h1, h2⟩ := each_names (env := env) h.2
    cases e with
    | Name x p =>
      refine ⟨by simp [assignEach, h1], ?_⟩
      rw [assignEach, List.findIdx?_cons, h2]
      · rfl
      · intro t p' hh
        cases hh
    | _ => cases h.1
theorem pgd_tup {es : List Expr} {k : Nat} {pos : Pos} {is : List Nat} (hc : X.calm = true) (he : es.all isName = true) (hl : es.length = is.length) (h : PGs X es (gsD (ty X) is)) : PG X (.Tuple es k pos) (gD (ty X) (tgTup is)) :=
  ⟨fun pins s σ H v u Q I r ⟨ρ, S, a, l, R, qx, L, p⟩ => by
    obtain ⟨e1, e2⟩ := each_names (env := X.env) he
    refine (pg_tup hc h e1 e2).run pins s σ H v u Q I r ?_
    unfold tgTup at p
    dsimp only at p
    split at p
    · rename_i l' e
      split at e
      · rename_i ds
        obtain ⟨a1, v1, rfl, h1, f1, r1⟩ := asT_ok (S := S) qx rfl
        have hlen : ∀ (is : List Nat) (vs : List Val) (l l' : Loc), setAll is vs l = some l' → is.length = vs.length := by
          intro is
          induction is with
          | nil =>
            intro vs l l' h
            cases vs with
            | nil => rfl
            | cons _ _ => cases h
          | cons i is ih =>
            intro vs l l' h
            cases vs with
            | nil => cases h
            | cons v vs =>
              rw [setAll] at h
              split at h
              · rw [List.length_cons, List.length_cons, ih vs _ _ h]
              · cases h
        refine ⟨a1, v1, rfl, SqT.of h1, ?_, ρ, S, ds.map .d, l, R, r1, L, ?_⟩
        · rw [pr_len r1, hl]
          exact (hlen _ _ _ _ e).symm
        · rw [e]
          exact p
      · cases e
    · exact p.elim⟩
end
/-! ### wiped slots -/
def wipeL (l : Loc) : List Nat → Loc
  | [] => l
  | v :: vs => (wipeL l vs).set v none
theorem wipeL_len (l : Loc) : ∀ vs : List Nat, (wipeL l vs).length = l.length
  | [] => rfl
  | v :: vs => by rw [wipeL, List.length_set, wipeL_len l vs]
theorem wipeL_some {l : Loc} {i : Nat} {x : Val} : ∀ {vs : List Nat}, (wipeL l vs)[i]? = some (some x) → l[i]? = some (some x) ∧ i ∉ vs
  | [], h => ⟨h, by simp⟩
  | v :: vs, h => by
    rw [wipeL] at h
    by_cases hi : v = i
    · subst hi
      by_cases hv : v < (wipeL l vs).length
      · rw [List.getElem?_set_self hv] at h
        cases h
      · rw [List.getElem?_eq_none (by simpa using hv)] at h
        cases h
    · rw [List.getElem?_set_ne hi] at h
      obtain ⟨h1, h2⟩ := wipeL_some h
      exact ⟨h1, by simp only [List.mem_cons, not_or]; exact ⟨fun e => hi e.symm, h2⟩⟩
theorem wipe_get {σ : St} {i : Nat} : ∀ {vs : List Nat}, i ∉ vs → (wipe σ vs)[i]? = σ[i]?
  | [], _ => rfl
  | v :: vs, h => by
    simp only [List.mem_cons, not_or] at h
    rw [wipe, List.getElem?_set_ne (fun e => h.1 e.symm), wipe_get h.2]
theorem wipe_in {σ : St} {i : Nat} : ∀ {vs : List Nat}, i ∈ vs → i < σ.length → (wipe σ vs)[i]? = some none
  | [], h, _ => by cases h
  | v :: vs, h, hl => by
    rw [wipe]
    by_cases e : v = i
    · subst e
      rw [List.getElem?_set_self (by rw [wipe_length]; exact hl)]
    · rw [List.getElem?_set_ne e]
      exact wipe_in (by simpa [Ne.symm e, eq_comm, e] using h) hl
theorem LocOk.wipe {T : Ty} {ρ : List Addr} {F : Hp} {l : Loc} {σ : St} (h : LocOk T ρ F l σ) (vs : List Nat) : LocOk T ρ F (wipeL l vs) (L2.wipe σ vs) := by
  refine ⟨by rw [wipeL_len, wipe_length]; exact h.1, fun i v e => ?_⟩
  obtain ⟨e1, e2⟩ := wipeL_some e
  obtain ⟨x, q, r⟩ := h.2 i v e1
  exact ⟨x, by rw [wipe_get e2]; exact q, r⟩
theorem Agree.wipe {is vs : List Nat} {σ σ' : St} (h : Agree is (L2.wipe σ vs) σ') (hs : ∀ i ∈ is, i ∈ vs) : L2.wipe σ' vs = L2.wipe σ vs := by
  refine List.ext_getElem? fun j => ?_
  by_cases hj : j ∈ vs
  · by_cases hl : j < σ.length
    · rw [wipe_in hj hl, wipe_in hj (by rw [h.1, wipe_length]; exact hl)]
    · have l1 : (L2.wipe σ' vs).length = σ.length := by rw [wipe_length, h.1, wipe_length]
      have l2 : (L2.wipe σ vs).length = σ.length := wipe_length _ _
      rw [List.getElem?_eq_none (by omega), List.getElem?_eq_none (by omega)]
  · rw [wipe_get hj, h.2 j (fun z => hj (hs j z))]
/-! ### what is walked -/
structure WalkD (T : Ty) (J : It) (items : List Val) (ρ0 : List Addr) (S0 : Store) (H0 : Hp) : Prop where
  go : ∀ ρ S H, Rel T ρ S H → Ext ρ0 S0 H0 ρ S H → ∀ i, i < items.length → J.go i H
  yld : ∀ ρ S H, Rel T ρ S H → Ext ρ0 S0 H0 ρ S H → ∀ (i : Nat) (v : Val), items[i]? = some v → ∀ x H', J.yld i H x H' → ∃ ρ', Rel T ρ' S H' ∧ Ext ρ S H ρ' S H' ∧ RepV T ρ' (frz ρ' S H') x v
  stop : ∀ ρ S H, Rel T ρ S H → Ext ρ0 S0 H0 ρ S H → ∀ i, items.length ≤ i → J.stop i H
abbrev Walked := List Val × Val
/-- the object that is walked is locked meanwhile -/
def lockS (v : Val) (S : Store) : Store := match v with
  | .ref n => match S[n]? with
    | some (.lk _) => S
    | some .gone => S
    | some o => S.set n (.lk o)
    | none => S
  | _ => S
def unlockS (v : Val) (S0 S : Store) : Store := match v with
  | .ref n => match S0[n]? with
    | some (.lk _) => S
    | some .gone => S
    | some o => S.set n o
    | none => S
  | _ => S
def PostI (T : Ty) (W : WE) (σ : St) (ρ : List Addr) (S : Store) (H : Hp) (r : Res Walked) (R : It → Hp → Prop) : Prop := match r with
  | .ok w S' => ∀ (ρ' : List Addr) (H' : Hp) (J : It), Rel T ρ' (lockS w.2 S') H' → Rel T ρ' S' H' → Ext ρ S H ρ' S' H' → WalkD T J w.1 ρ' (lockS w.2 S') H' → R J H'
  | .exc c S' => ∀ (ρ' : List Addr) (H' : Hp), Rel T ρ' S' H' → Ext ρ S H ρ' S' H' → W c σ H'
  | .stuck => False
def iD (T : Ty) (W : WE) (m : Loc → Store → Res Walked) : TI := fun σ H R => ∃ ρ S l, Rel T ρ S H ∧ LocOk T ρ (frz ρ S H) l σ ∧ PostI T W σ ρ S H (m l S) R
theorem PostI.start {T : Ty} {W : WE} {σ : St} {ρ ρ1 : List Addr} {S S1 : Store} {H H1 : Hp} {R : It → Hp → Prop} (e : Ext ρ S H ρ1 S1 H1) : ∀ {r : Res Walked}, PostI T W σ ρ S H r R → PostI T W σ ρ1 S1 H1 r R
  | .ok _ _, h => fun ρ' H' J r1 r2 e2 wk => h ρ' H' J r1 r2 (e.trans e2) wk
  | .exc _ _, h => fun ρ' H' r2 e2 => h ρ' H' r2 (e.trans e2)
  | .stuck, h => h
theorem PostI.bind {T : Ty} {W : WE} {σ : St} {α β : Type} {rel : RG β α} {ρ : List Addr} {S : Store} {H : Hp} {r : Res α} {k : α → Store → Res Walked} {R : It → Hp → Prop} (h : PostI T W σ ρ S H (r.bind k) R) :
    PostG T W σ rel ρ S H r fun x H1 => ∃ ρ1 S1 a, Rel T ρ1 S1 H1 ∧ Ext ρ S H ρ1 S1 H1 ∧ rel ρ1 (frz ρ1 S1 H1) x a ∧ PostI T W σ ρ1 S1 H1 (k a S1) R := by
  cases r with
  | ok a S1 => exact fun ρ1 H1 x R E q => ⟨ρ1, S1, a, R, E, q, PostI.start E h⟩
  | exc c S1 => exact h
  | stuck => exact h
theorem lockS_len (v : Val) (S : Store) : (lockS v S).length = S.length := by
  unfold lockS
  split
  · split <;> simp
  · rfl
theorem lock_ok {T : Ty} {ρ : List Addr} {S : Store} {H : Hp} (v : Val) (R : Rel T ρ S H) : Rel T ρ (lockS v S) H ∧ frz ρ (lockS v S) H = frz ρ S H := by
  have key : ∀ (n : Nat) (o : Ob), S[n]? = some o → o.live = true → Rel T ρ (S.set n (.lk o)) H ∧ frz ρ (S.set n (.lk o)) H = frz ρ S H := fun n o e lv => by
    have hn : n < ρ.length := by
      rw [R.len]
      exact (List.getElem?_eq_some_iff.mp e).1
    have ha : ρ[n]? = some ρ[n] := List.getElem?_eq_getElem hn
    exact R.ghost ha e (ob' := .lk o) lv (R.obj n _ o ha e)
  unfold lockS
  split
  · rename_i n
    split
    · exact ⟨R, rfl⟩
    · exact ⟨R, rfl⟩
    · rename_i o h1 h2 e
      refine key n o e ?_
      cases o with
      | gone => exact absurd rfl h2
      | _ => rfl
    · exact ⟨R, rfl⟩
  · exact ⟨R, rfl⟩
theorem unlock_ok {T : Ty} {ρ ρ' : List Addr} {S S' : Store} {H H' : Hp} (v : Val) (R : Rel T ρ S H) (R' : Rel T ρ' S' H') (E : Ext ρ (lockS v S) H ρ' S' H') : Rel T ρ' (unlockS v S S') H' ∧ Ext ρ S H ρ' (unlockS v S S') H' ∧ frz ρ' (unlockS v S S') H' = frz ρ' S' H' := by
  have key : ∀ (n : Nat) (o : Ob), S[n]? = some o → o.live = true → (∀ u, o ≠ .lk u) → Ext ρ (S.set n (.lk o)) H ρ' S' H' → Rel T ρ' (S'.set n o) H' ∧ Ext ρ S H ρ' (S'.set n o) H' ∧ frz ρ' (S'.set n o) H' = frz ρ' S' H' := fun n o e lv nl E => by
    have hS := (List.getElem?_eq_some_iff.mp e).1
    have hn : n < ρ.length := by
      rw [R.len]
      exact hS
    have ha : ρ[n]? = some ρ[n] := List.getElem?_eq_getElem hn
    obtain ⟨q1, q2⟩ := E.lck n _ o ha (by rw [List.getElem?_set_self hS])
    have ha' := pre_get E.pre ha
    have ob1 : ObRep T ρ' (frz ρ' S' H') ρ[n] (H' ρ[n]) (.lk o) := R'.obj n _ _ ha' q1
    obtain ⟨R1, f1⟩ := R'.ghost ha' q1 (ob' := o) lv.symm ob1
    obtain ⟨_, f2⟩ := R.ghost ha e (ob' := .lk o) lv (R.obj n _ o ha e)
    refine ⟨R1, ⟨E.pre, by rw [f1, ← f2]; exact E.le, fun m b u hm g => ?_⟩, f1⟩
    have nm : n ≠ m := fun z => by
      subst z
      rw [e] at g
      exact nl u (Option.some.inj g)
    obtain ⟨g1, g2⟩ := E.lck m b u hm (by rw [List.getElem?_set_ne nm]; exact g)
    exact ⟨by rw [List.getElem?_set_ne nm]; exact g1, g2⟩
  unfold lockS at E
  unfold unlockS
  split
  · rename_i n
    dsimp only at E
    split
    · rename_i u e
      rw [e] at E
      exact ⟨R', E, rfl⟩
    · rename_i e
      rw [e] at E
      exact ⟨R', E, rfl⟩
    · rename_i o h1 h2 e
      rw [e] at E
      cases o with
      | gone => exact absurd rfl h2
      | lk u => exact absurd rfl (h1 u)
      | lst xs => exact key n _ e rfl (fun _ => by simp) E
      | dic xs => exact key n _ e rfl (fun _ => by simp) E
      | ins c fs => exact key n _ e rfl (fun _ => by simp) E
      | tab x q => exact key n _ e rfl (fun _ => by simp) E
    · rename_i e
      rw [e] at E
      exact ⟨R', E, rfl⟩
  · rename_i h
    cases v with
    | ref n => exact absurd rfl (h n)
    | _ => exact ⟨R', E, rfl⟩
end FH
namespace FH
open L2 PySem PySem.Spec
def signs (z : Str) : List Val := z.cps.toList.map fun c => .d (.str ⟨#[c]⟩)
def itemsOf (v : Val) (S : Store) : Option (List Val) := match v with
  | .d (.str z) => some (signs z)
  | .d (.tuple ds) => some (ds.map .d)
  | v => match asDic v S with
    | some m => some (m.map fun p => .d p.1)
    | none => asL v S
@[simp] def evIter (m : Ev) : Loc → Store → Res Walked := fun l S => (m l S).bind fun v S1 => match itemsOf v S1 with
  | some items => .ok (items, v) S1
  | none => .stuck
def rangeI (lo hi : Int) : List Val := (List.range (hi - lo).toNat).map fun (k : Nat) => .d (.int (lo + (k : Int)))
def evRange (a : Loc → Store → Res (List Val)) : Loc → Store → Res Walked := fun l S => (a l S).bind fun vs S1 => match vs with
  | [.d (.int j)] => if -1000000 ≤ j ∧ j ≤ 1000000 then .ok (rangeI 0 j, .d .none) S1 else .stuck
  | [.d (.int i), .d (.int j)] => if -1000000 ≤ i ∧ i ≤ 1000000 ∧ -1000000 ≤ j ∧ j ≤ 1000000 then .ok (rangeI i j, .d .none) S1 else .stuck
  | _ => .stuck
def zipT : List D → List D → List Val
  | a :: as, b :: bs => .d (.tuple [a, b]) :: zipT as bs
  | _, _ => []
def evZip (a : Loc → Store → Res (List Val)) : Loc → Store → Res Walked := fun l S => (a l S).bind fun vs S1 => match vs with
  | [.d (.list as), .d (.list bs)] => .ok (zipT as bs, .d .none) S1
  | [.d (.tuple as), .d (.tuple bs)] => .ok (zipT as bs, .d .none) S1
  | _ => .stuck
theorem zipT_get : ∀ {as bs : List D} {i : Nat} {v : Val}, (zipT as bs)[i]? = some v → ∃ a b, as[i]? = some a ∧ bs[i]? = some b ∧ v = .d (.tuple [a, b])
  | [], _, _, _, h => by cases h
  | _ :: _, [], _, _, h => by cases h
  | a :: as, b :: bs, 0, _, h => by
    cases h
    exact ⟨a, b, rfl, rfl, rfl⟩
  | a :: as, b :: bs, i + 1, _, h => zipT_get (as := as) (bs := bs) (i := i) h
theorem zipT_len : ∀ {as bs : List D} {i : Nat}, (zipT as bs).length ≤ i → as.length ≤ i ∨ bs.length ≤ i
  | [], _, _, _ => .inl (Nat.zero_le _)
  | _ :: _, [], _, _ => .inr (Nat.zero_le _)
  | a :: as, b :: bs, 0, h => by simp [zipT] at h
  | a :: as, b :: bs, i + 1, h => by
    rcases zipT_len (as := as) (bs := bs) (i := i) (by simpa [zipT] using h) with h | h
    · exact .inl (by simpa using h)
    · exact .inr (by simpa using h)
theorem lock_none (S : Store) : lockS (.d .none) S = S := rfl
section
variable {X : Cx} {W : WE} {tg : Expr}
/-- walks that keep the heap: given by a list of values that the state tells -/
theorem walk_lst {T : Ty} {ρ : List Addr} {S : Store} {H : Hp} {a : Addr} {vs : List V} {items : List Val} (r : RepVs T ρ (frz ρ S H) vs items) (h : ∀ ρ' S' H', Rel T ρ' S' H' → Ext ρ S H ρ' S' H' → H' a = some (.lst vs)) : WalkD T (Itl T.K a) items ρ S H := by
  refine ⟨fun ρ' S' H' R' E' i hi => ?_, fun ρ' S' H' R' E' i v hv x H2 y => ?_, fun ρ' S' H' R' E' i hi => ⟨vs, SqL.of (h _ _ _ R' E'), by rw [pr_len r]; exact hi⟩⟩
  · exact ⟨vs, vs[i]'(by rw [pr_len r]; exact hi), SqL.of (h _ _ _ R' E'), List.getElem?_eq_getElem _⟩
  · obtain ⟨rfl, y⟩ := y
    obtain ⟨x', g1, g2⟩ := pr_getR r hv
    have := y vs (SqL.of (h _ _ _ R' E'))
    rw [g1] at this
    cases this
    exact ⟨ρ', R', Ext.refl, g2.mono E'.pre E'.le⟩
theorem walk_tup {T : Ty} {ρ : List Addr} {S : Store} {H : Hp} {a : Addr} {vs : List V} {items : List Val} (r : RepVs T ρ (frz ρ S H) vs items) (h : ∀ ρ' S' H', Rel T ρ' S' H' → Ext ρ S H ρ' S' H' → H' a = some (.tup vs)) : WalkD T (Itt T.K a) items ρ S H := by
  refine ⟨fun ρ' S' H' R' E' i hi => ?_, fun ρ' S' H' R' E' i v hv x H2 y => ?_, fun ρ' S' H' R' E' i hi => ⟨vs, SqT.of (h _ _ _ R' E'), by rw [pr_len r]; exact hi⟩⟩
  · exact ⟨vs, vs[i]'(by rw [pr_len r]; exact hi), SqT.of (h _ _ _ R' E'), List.getElem?_eq_getElem _⟩
  · obtain ⟨rfl, y⟩ := y
    obtain ⟨x', g1, g2⟩ := pr_getR r hv
    have := y vs (SqT.of (h _ _ _ R' E'))
    rw [g1] at this
    cases this
    exact ⟨ρ', R', Ext.refl, g2.mono E'.pre E'.le⟩
theorem walk_str {T : Ty} {ρ : List Addr} {S : Store} {H : Hp} {z : Str} : WalkD T (Its z) (signs z) ρ S H := by
  have hl : (signs z).length = z.cps.size := by
    unfold signs
    rw [List.length_map, Array.length_toList]
  refine ⟨fun ρ' S' H' R' E' i hi => by show i < z.cps.size; omega, fun ρ' S' H' R' E' i v hv x H2 y => ?_, fun ρ' S' H' R' E' i hi => by show z.cps.size ≤ i; omega⟩
  obtain ⟨rfl, c, hc, rfl⟩ := y
  refine ⟨ρ', R', Ext.refl, ?_⟩
  unfold signs at hv
  rw [List.getElem?_map, Array.getElem?_toList, hc] at hv
  cases hv
  exact Rep.str _
theorem walk_rng {T : Ty} {ρ : List Addr} {S : Store} {H : Hp} {lo hi : Int} : WalkD T (Itr lo (hi - lo).toNat) (rangeI lo hi) ρ S H := by
  have hl : (rangeI lo hi).length = (hi - lo).toNat := by
    unfold rangeI
    rw [List.length_map, List.length_range]
  refine ⟨fun ρ' S' H' R' E' i hi' => by show i < (hi - lo).toNat; omega, fun ρ' S' H' R' E' i v hv x H2 y => ?_, fun ρ' S' H' R' E' i hi' => by show (hi - lo).toNat ≤ i; omega⟩
  obtain ⟨rfl, rfl⟩ := y
  refine ⟨ρ', R', Ext.refl, ?_⟩
  have hlt := (List.getElem?_eq_some_iff.mp hv).1
  unfold rangeI at hv
  rw [List.getElem?_map, List.getElem?_range (by omega)] at hv
  cases hv
  exact Rep.int _
theorem walk_zipL {T : Ty} {ρ : List Addr} {S : Store} {H : Hp} {a b : Addr} {xs ys : List V} {as bs : List D} (ha : frz ρ S H a = some (.lst xs)) (hb : frz ρ S H b = some (.lst ys)) (ra : RepAll T (frz ρ S H) xs as) (rb : RepAll T (frz ρ S H) ys bs) : WalkD T (Itz T.K a b) (zipT as bs) ρ S H := by
  have la := pr_len (ra.pr (ρ := ρ))
  have lb := pr_len (rb.pr (ρ := ρ))
  rw [List.length_map] at la lb
  have hA : ∀ ρ' S' H', Ext ρ S H ρ' S' H' → SqL T.K H' a xs := fun ρ' S' H' E' => SqL.of (frz_le _ _ (E'.le _ _ ha))
  have hB : ∀ ρ' S' H', Ext ρ S H ρ' S' H' → SqL T.K H' b ys := fun ρ' S' H' E' => SqL.of (frz_le _ _ (E'.le _ _ hb))
  refine ⟨fun ρ' S' H' R' E' i hi => ?_, fun ρ' S' H' R' E' i v hv x H2 y => ?_, fun ρ' S' H' R' E' i hi => ?_⟩
  · obtain ⟨p, q, g1, g2, _⟩ := zipT_get (List.getElem?_eq_getElem hi)
    have h1 := (List.getElem?_eq_some_iff.mp g1).1
    have h2 := (List.getElem?_eq_some_iff.mp g2).1
    exact ⟨xs, ys, xs[i]'(by omega), ys[i]'(by omega), hA _ _ _ E', hB _ _ _ E', List.getElem?_eq_getElem _, List.getElem?_eq_getElem _⟩
  · obtain ⟨p, q, g1, g2, rfl⟩ := zipT_get hv
    obtain ⟨t, x1, y1, rfl, nt, rfl, f1, f2⟩ := y
    obtain ⟨x', k1, k2⟩ := pr_getR (ra.pr (ρ := ρ)) (i := i) (y := .d p) (by rw [List.getElem?_map, g1]; rfl)
    obtain ⟨y', k3, k4⟩ := pr_getR (rb.pr (ρ := ρ)) (i := i) (y := .d q) (by rw [List.getElem?_map, g2]; rfl)
    have e1 := f1 xs (hA _ _ _ E')
    have e2 := f2 ys (hB _ _ _ E')
    rw [k1] at e1
    rw [k3] at e2
    cases e1
    cases e2
    obtain ⟨R1, E1, f⟩ := R'.lay (o := .tup [x1, y1]) nt
    exact ⟨ρ', R1, E1, Rep.tup f (.cons ((Rep.mono E'.le k2).mono E1.le) (.cons ((Rep.mono E'.le k4).mono E1.le) .nil))⟩
  · rcases zipT_len hi with h | h
    · exact ⟨xs, ys, hA _ _ _ E', hB _ _ _ E', .inl (by omega)⟩
    · exact ⟨xs, ys, hA _ _ _ E', hB _ _ _ E', .inr (by omega)⟩
theorem walk_zipT {T : Ty} {ρ : List Addr} {S : Store} {H : Hp} {a b : Addr} {xs ys : List V} {as bs : List D} (ha : frz ρ S H a = some (.tup xs)) (hb : frz ρ S H b = some (.tup ys)) (ra : RepAll T (frz ρ S H) xs as) (rb : RepAll T (frz ρ S H) ys bs) : WalkD T (RZ.ItzT T.K a b) (zipT as bs) ρ S H := by
  have la := pr_len (ra.pr (ρ := ρ))
  have lb := pr_len (rb.pr (ρ := ρ))
  rw [List.length_map] at la lb
  have hA : ∀ ρ' S' H', Ext ρ S H ρ' S' H' → SqT T.K H' a xs := fun ρ' S' H' E' => SqT.of (frz_le _ _ (E'.le _ _ ha))
  have hB : ∀ ρ' S' H', Ext ρ S H ρ' S' H' → SqT T.K H' b ys := fun ρ' S' H' E' => SqT.of (frz_le _ _ (E'.le _ _ hb))
  refine ⟨fun ρ' S' H' R' E' i hi => ?_, fun ρ' S' H' R' E' i v hv x H2 y => ?_, fun ρ' S' H' R' E' i hi => ?_⟩
  · obtain ⟨p, q, g1, g2, _⟩ := zipT_get (List.getElem?_eq_getElem hi)
    have h1 := (List.getElem?_eq_some_iff.mp g1).1
    have h2 := (List.getElem?_eq_some_iff.mp g2).1
    exact ⟨xs, ys, xs[i]'(by omega), ys[i]'(by omega), hA _ _ _ E', hB _ _ _ E', List.getElem?_eq_getElem _, List.getElem?_eq_getElem _⟩
  · obtain ⟨p, q, g1, g2, rfl⟩ := zipT_get hv
    obtain ⟨t, x1, y1, rfl, nt, rfl, f1, f2⟩ := y
    obtain ⟨x', k1, k2⟩ := pr_getR (ra.pr (ρ := ρ)) (i := i) (y := .d p) (by rw [List.getElem?_map, g1]; rfl)
    obtain ⟨y', k3, k4⟩ := pr_getR (rb.pr (ρ := ρ)) (i := i) (y := .d q) (by rw [List.getElem?_map, g2]; rfl)
    have e1 := f1 xs (hA _ _ _ E')
    have e2 := f2 ys (hB _ _ _ E')
    rw [k1] at e1
    rw [k3] at e2
    cases e1
    cases e2
    obtain ⟨R1, E1, f⟩ := R'.lay (o := .tup [x1, y1]) nt
    exact ⟨ρ', R1, E1, Rep.tup f (.cons ((Rep.mono E'.le k2).mono E1.le) (.cons ((Rep.mono E'.le k4).mono E1.le) .nil))⟩
  · rcases zipT_len hi with h | h
    · exact ⟨xs, ys, hA _ _ _ E', hB _ _ _ E', .inl (by omega)⟩
    · exact ⟨xs, ys, hA _ _ _ E', hB _ _ _ E', .inr (by omega)⟩
/-- the keys of a dict -/
def Itdk (d : Addr) (o : Obj) (ks : List V) : It := ⟨fun i H => H d = some (dHO d o) ∧ i < ks.length, fun i H x H' => H' = H ∧ ks[i]? = some x, fun i H => H d = some (dHO d o) ∧ ks.length ≤ i⟩
theorem turn_dk {P : Program} {w : World} {K : PySem.W.Frag} {d : Addr} {o : Obj} {es : Array DictEntry} {ep : Nat} {ks : List V} (it : Addr) (hod : o.data = .dict es ep) (hl : es.size = ks.length) (hk : ∀ (i : Nat) (e : DictEntry), es[i]? = some e → ∃ x, ks[i]? = some x ∧ RelV x e.key) :
    Turn P w K tg (Itdk d o ks) [it] it (fun i h => h.IsKeyIter it d i es.size ep) where
  mem := by simp
  obj := fun i h st b hb => by
    cases (show b = it by simpa using hb)
    obtain ⟨oi, e, c, dd⟩ := st
    exact ⟨oi, e, fun v z => by rw [dd] at z; cases z⟩
  keep := fun i h h' st k => st.at fun oi e => k it (by simp) oi e
  item := by
    intro X hP hw hK hc i pins s σ H E I hf st hg
    subst hP hw hK
    obtain ⟨hd, hi⟩ := hg
    obtain ⟨f0, f1, f2, f3, f4, f5⟩ := hf it (by simp)
    have hgd : s.heap.get? d = some o := (I.hok d _ hd).1
    have hlt : i < es.size := by omega
    obtain ⟨x, g1, g2⟩ := hk i es[i] (Array.getElem?_eq_getElem hlt)
    refine next_key_item st hgd hod rfl (Array.getElem?_eq_getElem hlt) fun h' st' sb => ?_
    have I1 : Inv X pins σ H { s with heap := h' } := I.turned (t' := s.toks) (fun b ob hb e => (sb.2 b hb).trans e) f0 f1 f3 f4 f5
    obtain ⟨oi, e, c, dd⟩ := id st'
    exact ⟨es[i].key, rfl, go_of (s := { s with heap := h' }) e c dd (by decide) ⟨x, H, I1, g2, ⟨rfl, g1⟩, st', fun b hb => (hf b hb).1⟩⟩
  done := by
    intro X hP hw hK hc i pins s σ H E I hf st hg
    subst hP hw hK
    obtain ⟨hd, hi⟩ := hg
    obtain ⟨f0, f1, f2, f3, f4, f5⟩ := hf it (by simp)
    have hgd : s.heap.get? d = some o := (I.hok d _ hd).1
    exact next_key_end (I.ok.hd hc) st hgd hod rfl (by omega) fun h' eb => ⟨rfl, I.turned (t' := s.toks) (fun b ob hb e => eb b ob hb e) f0 f1 f3 f4 f5⟩
  self := fun A i s Q E st h => by
    refine wpAny_pyIter_slot st.typeIs F.slot_dict_keyiterator_iter (wpAny_call_entry F.slot_dict_keyiterator_iter st.typeIs F.entry_dict_keyiterator_iter ?_ (F.args_dict_keyiterator_iter_1 _))
    exact wpAny_pure ⟨_, rfl, "dict_keyiterator", _, st.typeIs, F.slot_dict_keyiterator_next.lookup, h⟩
def iDk (t : TE) : TI := fun σ H R => t σ H fun x H1 => ∃ d o es ep ks, x = .ref d ∧ H1 d = some (dHO d o) ∧ o.ExactDict ∧ o.data = .dict es ep ∧ (d == sysModules) = false ∧ es.size = ks.length ∧ (∀ (i : Nat) (e : DictEntry), es[i]? = some e → ∃ x, ks[i]? = some x ∧ RelV x e.key) ∧ R (Itdk d o ks) H1
theorem pi_dk {e : Expr} {t : TE} (he : PE X e t) : PI X tg e (iDk t) := ⟨fun pins s σ H R I h => by
  refine thn (he.run pins s σ H _ I h) fun u s1 ⟨x, H1, I1, rx, d, o, es, ep, ks, ex, h1, h2, h3, h4, h5, h6, q⟩ => ?_
  subst ex
  cases rx
  have hgd : s1.heap.get? d = some o := (I1.hok d _ h1).1
  exact wpAny_pyIter_dict_raw h4 ⟨o, hgd, h2, h3⟩ (pi_one (tk := s1.toks) I1 _ (turn_dk _ h3 h5 h6) ⟨_, Heap.get?_push_size _ rfl, rfl, rfl⟩ q)⟩
theorem walk_dk {T : Ty} {ρ : List Addr} {S : Store} {H : Hp} {d : Addr} {o : Obj} {ks : List V} {as : List D} (r : RepAll T (frz ρ S H) ks as) (h : ∀ ρ' S' H', Rel T ρ' S' H' → Ext ρ S H ρ' S' H' → H' d = some (dHO d o)) : WalkD T (Itdk d o ks) (as.map .d) ρ S H := by
  have l := pr_len (r.pr (ρ := ρ))
  refine ⟨fun ρ' S' H' R' E' i hi => ⟨h _ _ _ R' E', by omega⟩, fun ρ' S' H' R' E' i v hv x H2 y => ?_, fun ρ' S' H' R' E' i hi => ⟨h _ _ _ R' E', by omega⟩⟩
  obtain ⟨rfl, y⟩ := y
  obtain ⟨x', g1, g2⟩ := pr_getR (r.pr (ρ := ρ)) hv
  rw [g1] at y
  cases y
  exact ⟨ρ', R', Ext.refl, g2.mono E'.pre E'.le⟩
theorem pi_or {iter : Expr} {w1 w2 : TI} (h1 : PI X tg iter w1) (h2 : PI X tg iter w2) : PI X tg iter (fun σ H R => w1 σ H R ∨ w2 σ H R) := ⟨fun pins s σ H R I h => h.elim (h1.run pins s σ H R I) (h2.run pins s σ H R I)⟩
theorem pi_imp {iter : Expr} {w1 w2 : TI} (h1 : PI X tg iter w1) (h : ∀ σ H R, w2 σ H R → w1 σ H R) : PI X tg iter w2 := ⟨fun pins s σ H R I q => h1.run pins s σ H R I (h σ H R q)⟩
/-- what stands at an address stays while it is locked, or for ever if it is frozen -/
theorem stays_frz {ρ : List Addr} {S : Store} {H : Hp} {a : Addr} {o : HO} (h : frz ρ S H a = some o) : ∀ ρ' S' H', Ext ρ S H ρ' S' H' → H' a = some o := fun _ _ _ E => frz_le _ _ (E.le _ _ h)
theorem stays_lock {ρ : List Addr} {S : Store} {H : Hp} {n : Nat} {a : Addr} {u : Ob} {o : HO} (ha : ρ[n]? = some a) (hn : S[n]? = some (.lk u)) (h : H a = some o) : ∀ ρ' S' H', Ext ρ S H ρ' S' H' → H' a = some o := fun _ _ _ E => (E.lck n a u ha hn).2.trans h
theorem pid_seq {iter : Expr} {m : Ev} (h : PD X W iter m) : PI X tg iter (iD (ty X) W (evIter m)) := by
  refine pi_imp (pi_or (pi_list h) (pi_or (pi_tup h) (pi_or (pi_str h) (pi_dk h)))) fun σ H R ⟨ρ, S, l, R0, L, p⟩ => ?_
  unfold evIter at p
  cases e : m l S with
  | ok v S1 =>
    rw [e] at p
    dsimp only [Res.bind] at p
    split at p
    · rename_i items hi
      have lk := fun ρ1 H1 (R1 : Rel (ty X) ρ1 S1 H1) => lock_ok (T := ty X) v R1
      have go : ∀ {Q : VK}, (∀ ρ1 H1 x, Rel (ty X) ρ1 S1 H1 → Ext ρ S H ρ1 S1 H1 → RepV (ty X) ρ1 (frz ρ1 S1 H1) x v → Q x H1) → tD (ty X) W m σ H Q := fun {Q} q => ⟨ρ, S, l, R0, L, by rw [e]; exact q⟩
      have kept : ∀ {n : Nat} {a : Addr} {ob : Ob} {ρ1 : List Addr} {H1 : Hp} {o : HO}, v = .ref n → ρ1[n]? = some a → S1[n]? = some ob → ob ≠ .gone → H1 a = some o → ∀ ρ' S' H', Ext ρ1 (lockS v S1) H1 ρ' S' H' → H' a = some o := fun {n a ob ρ1 H1 o} ev ea es ng ho => by
        subst ev
        have hl := (List.getElem?_eq_some_iff.mp es).1
        cases ob with
        | gone => exact absurd rfl ng
        | lk u => exact stays_lock ea (u := u) (by unfold lockS; dsimp only; rw [es]; exact es) ho
        | lst xs => exact stays_lock ea (u := .lst xs) (by unfold lockS; dsimp only; rw [es]; exact List.getElem?_set_self hl) ho
        | dic xs => exact stays_lock ea (u := .dic xs) (by unfold lockS; dsimp only; rw [es]; exact List.getElem?_set_self hl) ho
        | ins c xs => exact stays_lock ea (u := .ins c xs) (by unfold lockS; dsimp only; rw [es]; exact List.getElem?_set_self hl) ho
        | tab c xs => exact stays_lock ea (u := .tab c xs) (by unfold lockS; dsimp only; rw [es]; exact List.getElem?_set_self hl) ho
      unfold itemsOf at hi
      split at hi
      · rename_i z
        cases hi
        refine .inr (.inr (.inl (go fun ρ1 H1 x R1 E1 q => ⟨z, q.str_, p ρ1 H1 _ R1 R1 E1 walk_str⟩)))
      · rename_i ds
        cases hi
        refine .inr (.inl (go fun ρ1 H1 x R1 E1 q => ?_))
        obtain ⟨a1, v1, rfl, h1, f1, r1⟩ := asT_ok (S := S1) q rfl
        exact ⟨a1, rfl, ⟨_, SqT.of h1⟩, p ρ1 H1 _ R1 R1 E1 (walk_tup r1 fun ρ' S' H' _ E' => stays_frz f1 ρ' S' H' E')⟩
      · split at hi
        · rename_i mm hm
          cases hi
          refine .inr (.inr (.inr (go fun ρ1 H1 x R1 E1 q => ?_)))
          obtain ⟨Rl, fl⟩ := lk ρ1 H1 R1
          obtain ⟨a, o, kvs, vvs, rfl, h1, h2, h3, h4⟩ := asDic_ok R1 q hm
          obtain ⟨es, ep, d1, d2⟩ := h2.dat
          have hlen := d2.len
          refine ⟨a, o, es, ep, kvs, rfl, h1, h2.ex, d1, h2.sm, ?_, fun i en hen => ?_, p ρ1 H1 _ Rl R1 E1 ?_⟩
          · rw [← Array.length_toList, hlen.1]
          · rw [← Array.getElem?_toList] at hen
            obtain ⟨kv, vv, k, nk, g1, _, _, _, _, g2, _⟩ := d2.at_ hen
            exact ⟨kv, g1, g2⟩
          · have e1 : (mm.map fun p => Val.d p.1) = (mm.map (·.1)).map Val.d := by simp [Function.comp_def]
            show WalkD _ _ (mm.map fun p => Val.d p.1) _ _ _
            rw [e1]
            refine walk_dk (by rw [fl]; exact h3) fun ρ' S' H' _ E' => ?_
            unfold asDic at hm
            split at hm
            · cases (show Rep (ty X) _ _ _ from q) with
              | dic e2 _ _ _ =>
                exact stays_frz (S := lockS _ S1) (by rw [fl]; exact e2.trans ((frz_le _ _ e2).symm.trans h1)) ρ' S' H' E'
            · obtain ⟨a', ea, ex⟩ := q
              cases ex
              split at hm
              · rename_i mm' g
                exact kept rfl ea g (by simp) h1 ρ' S' H' E'
              · rename_i mm' g
                exact kept rfl ea g (by simp) h1 ρ' S' H' E'
              · cases hm
            · cases hm
        · refine .inl (go fun ρ1 H1 x R1 E1 q => ?_)
          obtain ⟨Rl, fl⟩ := lk ρ1 H1 R1
          obtain ⟨a, vs, rfl, h1, h2⟩ := asL_ok R1 q hi
          refine ⟨a, rfl, ⟨_, SqL.of h1⟩, p ρ1 H1 _ Rl R1 E1 (walk_lst (by rw [fl]; exact h2) fun ρ' S' H' _ E' => ?_)⟩
          unfold asL at hi
          split at hi
          · cases (show Rep (ty X) _ _ _ from q) with
            | lst e2 _ =>
              have e3 := stays_frz (S := lockS _ S1) (by rw [fl]; exact e2) ρ' S' H' E'
              rw [frz_le _ _ e2] at h1
              cases h1
              exact e3
          · obtain ⟨a', ea, ex⟩ := q
            cases ex
            split at hi
            · rename_i xs g
              exact kept rfl ea g (by simp) h1 ρ' S' H' E'
            · rename_i xs g
              exact kept rfl ea g (by simp) h1 ρ' S' H' E'
            · cases hi
          · cases hi
    · exact p.elim
  | exc c S1 =>
    rw [e] at p
    exact .inl ⟨ρ, S, l, R0, L, by rw [e]; exact p⟩
  | stuck =>
    rw [e] at p
    exact p.elim
end
end FH
namespace FH
open L2 PySem PySem.Spec
def W0 : WE := fun _ _ _ => False
def lcTurn (n : Nat) (t : Tg) (vs : List Nat) (c : Loc → Store → Res Bool) (e : Ev) (l : Loc) (v : Val) (S : Store) : Res Unit := match t.2 v (wipeL l vs) with
  | some l' => (c l' S).bind fun b S1 => if b = true then (e l' S1).bind fun y S2 => match S2[n]? with
      | some (.lst acc) => if acc.length < sizeLine then .ok () (S2.set n (.lst (acc ++ [y]))) else .stuck
      | _ => .stuck
    else .ok () S1
  | none => .stuck
def goAll (f : Val → Store → Res Unit) : List Val → Store → Res Unit
  | [], S => .ok () S
  | v :: vs, S => (f v S).bind fun _ S1 => goAll f vs S1
def unlR (v : Val) (S0 : Store) : Res Val → Res Val
  | .ok x S => .ok x (unlockS v S0 S)
  | .exc c S => .exc c S
  | .stuck => .stuck
/-- nothing is raised within a comprehension -/
def calmR {α : Type} : Res α → Res α
  | .exc _ _ => .stuck
  | r => r
noncomputable def evLC (own : Bool) (it : Loc → Store → Res Walked) (t : Tg) (vs : List Nat) (c : Loc → Store → Res Bool) (e : Ev) : Ev := fun l S => (it l S).bind fun w S1 =>
  (calmR (goAll (lcTurn S1.length t vs c e l) w.1 (lockS w.2 S1 ++ [.lst []]))).bind fun _ S2 => unlR w.2 S1 (fin own (lockS w.2 S1) S2)
theorem bind_ok {α β : Type} {r : Res α} {k : α → Store → Res β} {b : β} {S : Store} (h : r.bind k = .ok b S) : ∃ a S1, r = .ok a S1 ∧ k a S1 = .ok b S := by
  cases r with
  | ok a S1 => exact ⟨a, S1, rfl, h⟩
  | exc c S1 => cases h
  | stuck => cases h
/-- behind a walk: what was made is handed on, the lock is taken off -/
theorem fin_unl {T : Ty} {W : WE} {σ : St} {own : Bool} {v : Val} {ρ ρ1 ρ2 : List Addr} {S S1 S2 : Store} {H H1 H2 : Hp} {p : Addr} {Q : VK} (R1 : Rel T ρ1 S1 H1) (Rl : Rel T ρ1 (lockS v S1) H1) (E0 : Ext ρ S H ρ1 S1 H1) (R2 : Rel T ρ2 S2 H2) (E : Ext ρ1 (lockS v S1) H1 ρ2 S2 H2)
    (hp : ρ2[(lockS v S1).length]? = some p) (h : PostG T W σ (relV T) ρ S H (unlR v S1 (fin own (lockS v S1) S2)) Q) : Q (.ref p) H2 := by
  refine fin_ok (W := W0) (σ := σ) (own := own) Rl R2 E hp ?_
  cases e : fin own (lockS v S1) S2 with
  | ok x S3 =>
    rw [e] at h
    refine fun ρ3 H3 y R3 E3 q => ?_
    obtain ⟨R4, E4, f4⟩ := unlock_ok v R1 R3 E3
    exact h ρ3 H3 y R4 (E0.trans E4) (by rw [f4]; exact q)
  | exc c S3 =>
    exfalso
    unfold fin at e
    split at e
    · cases e
    · split at e
      · rename_i v' S' _
        cases g : popO (lockS v S1) v' S' with
        | none =>
          rw [g] at e
          cases e
        | some z =>
          rw [g] at e
          cases e
      · cases e
  | stuck =>
    rw [e] at h
    exact h.elim
section
variable {X : Cx} {W : WE}
theorem lc_reads {tg : Expr} {own : Bool} {it : Loc → Store → Res Walked} {t : Tg} {vs : List Nat} {c : Loc → Store → Res Bool} {e : Ev} {T : Ty} (hsub : ∀ i ∈ t.1, i ∈ vs) {σ : St} {H : Hp} {Q : VK} (h : tD T W (evLC own it t vs c e) σ H Q) :
    tLc (iD T W it) (gD T t) (tDT T W0 c) (tD T W0 e) vs σ H Q := by
  obtain ⟨ρ, S, l, R0, L, p⟩ := h
  refine ⟨ρ, S, l, R0, L, ?_⟩
  unfold evLC at p
  cases e0 : it l S with
  | exc cc S1 =>
    rw [e0] at p
    exact p
  | stuck =>
    rw [e0] at p
    exact p
  | ok w S1 =>
    rw [e0] at p
    dsimp only [Res.bind] at p
    refine fun ρ1 H1 J Rl R1 E1 wk D hD => ?_
    cases e1 : goAll (lcTurn S1.length t vs c e l) w.1 (lockS w.2 S1 ++ [.lst []]) with
    | exc cc S2 =>
      rw [e1] at p
      exact p.elim
    | stuck =>
      rw [e1] at p
      exact p.elim
    | ok u S2 =>
      rw [e1] at p
      dsimp only [calmR] at p
      have L1 : LocOk T ρ1 (frz ρ1 (lockS w.2 S1) H1) l σ := by
        rw [(lock_ok w.2 R1).2]
        exact L.mono E1.pre E1.le
      obtain ⟨RD, ED⟩ := Rl.new (o := .lst []) (ob := .lst []) hD rfl ⟨[], rfl, .nil⟩
      have hn : (lockS w.2 S1).length = S1.length := lockS_len _ _
      refine ⟨fun i m H => m = w.1.length - i ∧ i ≤ w.1.length ∧ ∃ ρi Si, Rel T ρi Si H ∧ Ext ρ1 (lockS w.2 S1) H1 ρi Si H ∧ ρi[S1.length]? = some D ∧ goAll (lcTurn S1.length t vs c e l) (w.1.drop i) Si = .ok u S2,
        ⟨_, rfl, Nat.zero_le _, _, _, RD, ED, by rw [← hn, ← Rl.len]; simp, e1⟩, ?_⟩
      rintro i m Hi ⟨rfl, hi, ρi, Si, Ri, Ei, hDi, hgo⟩
      by_cases hlt : i < w.1.length
      · refine .inr ⟨wk.go ρi Si Hi Ri Ei i hlt, fun H' => ∃ ρj Sj, Rel T ρj Sj H' ∧ Ext ρ1 (lockS w.2 S1) H1 ρj Sj H' ∧ ρj[S1.length]? = some D ∧ goAll (lcTurn S1.length t vs c e l) (w.1.drop (i + 1)) Sj = .ok u S2, ?_, fun x H' hy => ?_⟩
        · rintro H' ⟨ρj, Sj, hh⟩
          exact ⟨w.1.length - (i + 1), by omega, rfl, hlt, ρj, Sj, hh⟩
        · obtain ⟨ρ', R', E', q'⟩ := wk.yld ρi Si Hi Ri Ei i w.1[i] (List.getElem?_eq_getElem hlt) x H' hy
          rw [List.drop_eq_getElem_cons hlt, goAll] at hgo
          obtain ⟨_, Sa, ha, hrest⟩ := bind_ok hgo
          unfold lcTurn at ha
          cases ht : t.2 w.1[i] (wipeL l vs) with
          | none =>
            rw [ht] at ha
            cases ha
          | some l' =>
            rw [ht] at ha
            obtain ⟨b, Sb, hb, hb2⟩ := bind_ok ha
            have Ei' := Ei.trans E'
            have Lw : LocOk T ρ' (frz ρ' Si H') (wipeL l vs) (L2.wipe σ vs) := (L1.mono Ei'.pre Ei'.le).wipe vs
            refine ⟨ρ', Si, w.1[i], wipeL l vs, R', q', Lw, ?_⟩
            rw [ht]
            refine fun σ2 L2 A2 => ⟨A2.wipe hsub, ρ', Si, l', R', L2, ?_⟩
            rw [hb]
            refine fun ρb Hb bb Rb Eb qb => ?_
            cases qb
            have Db : ρb[S1.length]? = some D := pre_get (E'.pre.trans Eb.pre) hDi
            cases b with
            | false =>
              rw [if_neg (by decide)] at hb2 ⊢
              cases hb2
              exact ⟨ρb, _, Rb, Ei'.trans Eb, Db, hrest⟩
            | true =>
              rw [if_pos rfl] at hb2 ⊢
              obtain ⟨y, Sc, hc, hc2⟩ := bind_ok hb2
              refine ⟨ρb, Sb, l', Rb, L2.mono Eb.pre Eb.le, ?_⟩
              rw [hc]
              refine fun ρc Hc yv Rc Ec qc => ?_
              have Dc : ρc[S1.length]? = some D := pre_get Ec.pre Db
              cases hg : Sc[S1.length]? with
              | none =>
                rw [hg] at hc2
                cases hc2
              | some ob =>
                rw [hg] at hc2
                cases ob with
                | lst acc =>
                  dsimp only at hc2
                  split at hc2
                  · rename_i hz
                    cases hc2
                    obtain ⟨ws, g1, g2⟩ := Rc.obj _ _ _ Dc hg
                    obtain ⟨Rd, Ed⟩ := Rc.put (o := .lst (ws ++ [yv])) Dc hg rfl (ob' := .lst (acc ++ [y])) rfl (fun _ => by simp) ⟨_, rfl, pr_app g2 (.cons qc .nil)⟩
                    exact ⟨ws, g1, by rw [pr_len g2]; exact hz, ρc, _, Rd, ((Ei'.trans Eb).trans Ec).trans Ed, Dc, hrest⟩
                  · cases hc2
                | _ => cases hc2
      · have ei : i = w.1.length := by omega
        refine .inl ⟨wk.stop ρi Si Hi Ri Ei i (by omega), ?_⟩
        rw [ei, List.drop_length, goAll] at hgo
        cases hgo
        exact fin_unl R1 Rl E1 Ri Ei (by rw [hn]; exact hDi) p
@[simp] def cYes : Loc → Store → Res Bool := fun _ S => .ok true S
theorem pts_yes {X' : Cx} : PTs X' [] (tDT (ty X') W0 cYes) := ⟨fun pins s σ H Q I ⟨ρ, S, l, R, L, p⟩ => pts_nil.run pins s σ H Q I (p ρ H true R Ext.refl rfl)⟩
end
end FH
namespace FH
open L2 PySem PySem.Spec
/-! ### tests -/
abbrev Tv := Loc → Store → Res Bool
@[simp] def evB (m : Ev) : Tv := fun l S => (m l S).bind fun v S1 => match v with
  | .d (.bool b) => .ok b S1
  | _ => .stuck
@[simp] def cNot (m : Tv) : Tv := fun l S => (m l S).bind fun b S1 => .ok (!b) S1
@[simp] def cAnd (a b : Tv) : Tv := fun l S => (a l S).bind fun x S1 => if x = true then b l S1 else .ok false S1
@[simp] def cOr (a b : Tv) : Tv := fun l S => (a l S).bind fun x S1 => if x = true then .ok true S1 else b l S1
@[simp] def evAnd (a b : Ev) : Ev := fun l S => (evB a l S).bind fun x S1 => if x = true then b l S1 else .ok (.d (.bool false)) S1
@[simp] def evOr (a b : Ev) : Ev := fun l S => (evB a l S).bind fun x S1 => if x = true then .ok (.d (.bool true)) S1 else b l S1
@[simp] def evNot (a : Ev) : Ev := fun l S => (evB a l S).bind fun x S1 => .ok (.d (.bool (!x))) S1
@[simp] def evIf (c : Tv) (a b : Ev) : Ev := fun l S => (c l S).bind fun x S1 => if x = true then a l S1 else b l S1
/-- a op b op' c -/
@[simp] def evChain (g g' : Op2) (a b c : Ev) : Ev := fun l S => (a l S).bind fun x S1 => (b l S1).bind fun y S2 => (ofO (g x y S2)).bind fun z S3 => match z with
  | .d (.bool true) => (c l S3).bind fun u S4 => ofO (g' y u S4)
  | .d (.bool false) => .ok (.d (.bool false)) S3
  | _ => .stuck
abbrev PDW (X : Cx) (W : WE) (e : Expr) (m : Tv) : Prop := PW X e (tDT (ty X) W m)
section
variable {X : Cx} {W : WE} {T : Ty} {σ : St} {H : Hp}
theorem evB_reads {m : Ev} {Q : Bool → Hp → Prop} (h : tDT T W (evB m) σ H Q) : tD T W m σ H fun x H1 => ∃ c, x = .bl c ∧ Q c H1 := by
  obtain ⟨ρ, S, l, R, L, p⟩ := h
  refine ⟨ρ, S, l, R, L, p.bind.imp fun x H1 ⟨ρ1, S1, v, R1, E1, q, _, p1⟩ => ?_⟩
  split at p1
  · exact ⟨_, q.bl_, p1 ρ1 H1 _ R1 Ext.refl rfl⟩
  · exact p1.elim
/-- two steps, the second a test or a value -/
theorem bindT {α β : Type} {rel : RG β α} {a : Tv} {k : Bool → Loc → Store → Res α} {Q : β → Hp → Prop} (h : tG T W rel (fun l S => (a l S).bind fun x S1 => k x l S1) σ H Q) : tDT T W a σ H fun x H1 => tG T W rel (k x) σ H1 Q := by
  obtain ⟨ρ, S, l, R, L, p⟩ := h
  refine ⟨ρ, S, l, R, L, p.bind.imp fun x H1 ⟨ρ1, S1, v, R1, E1, q, _, p1⟩ => ?_⟩
  cases q
  exact ⟨ρ1, S1, l, R1, L.mono E1.pre E1.le, p1⟩
theorem okT {b : Bool} {Q : Bool → Hp → Prop} (h : tDT T W (fun _ S => .ok b S) σ H Q) : Q b H := by
  obtain ⟨ρ, S, l, R, L, p⟩ := h
  exact p ρ H b R Ext.refl rfl
theorem okV {b : Bool} {Q : VK} (h : tD T W (fun _ S => .ok (.d (.bool b)) S) σ H Q) : Q (.bl b) H := by
  obtain ⟨ρ, S, l, R, L, p⟩ := h
  exact p ρ H (.bl b) R Ext.refl (Rep.bl b)
theorem pdt_val {e : Expr} {m : Ev} (h : PD X W e m) (he : ∀ whole, isTrue e X.env whole = (do let v ← whole; standAt e.pos; holding [v] (truthy v))) : PDT X W e (evB m) :=
  PT_imp (pt_val h he) fun _ _ _ q => evB_reads q
theorem pdt_cmp {op : CmpOp} {g : Op2} {a b : Expr} {ma mb : Ev} {pos : Pos} (ho : OpR X (compareOp op) (r2 (ty X) g)) (ha : PD X W a ma) (hb : PD X W b mb) (hm : behindInMarks op b = false) : PDT X W (.Compare a [op] [b] pos) (evB (ev2 g ma mb)) :=
  PT_imp (pt_cmpR ho ha hb hm) fun _ _ _ q => seq2 (evB_reads q)
theorem pd_cmp {op : CmpOp} {g : Op2} {a b : Expr} {ma mb : Ev} {pos : Pos} (ho : OpR X (compareOp op) (r2 (ty X) g)) (ha : PD X W a ma) (hb : PD X W b mb) (hm : behindInMarks op b = false) : PD X W (.Compare a [op] [b] pos) (ev2 g ma mb) :=
  PE_imp (pe_cmpR ho ha hb hm) fun _ _ _ q => seq2 q
theorem chain_reads {g g' : Op2} {a b c : Ev} {Q : VK} (h : tD T W (evChain g g' a b c) σ H Q) : tChain (r2 T g) (r2 T g') (tD T W a) (tD T W b) (tD T W c) σ H Q := by
  obtain ⟨ρ, S, l, R, L, p⟩ := h
  refine ⟨ρ, S, l, R, L, p.bind.imp fun x H1 ⟨ρ1, S1, v, R1, E1, q, _, p1⟩ => ?_⟩
  refine ⟨ρ1, S1, l, R1, L.mono E1.pre E1.le, p1.bind.imp fun y H2 ⟨ρ2, S2, u, R2, E2, q2, _, p2⟩ => ?_⟩
  have L2 := (L.mono E1.pre E1.le).mono E2.pre E2.le
  refine ⟨ρ2, S2, v, u, R2, q.mono E2.pre E2.le, q2, ?_⟩
  cases e : g v u S2 with
  | none =>
    rw [e] at p2
    exact p2
  | some z =>
    obtain ⟨z, S3⟩ := z
    rw [e] at p2
    refine fun ρ3 H3 zv R3 E3 q3 => ?_
    dsimp only [ofO, Res.bind] at p2
    split at p2
    · refine ⟨true, q3.bl_, ?_⟩
      rw [if_pos rfl]
      have p3 := p2.start E3
      refine ⟨ρ3, S3, l, R3, L2.mono E3.pre E3.le, p3.bind.imp fun wv H4 ⟨ρ4, S4, t, R4, E4, q4, _, p4⟩ => ?_⟩
      exact ⟨ρ4, S4, u, t, R4, (q2.mono E3.pre E3.le).mono E4.pre E4.le, q4, Post0.of p4⟩
    · refine ⟨false, q3.bl_, ?_⟩
      rw [if_neg (by decide)]
      exact p2 ρ3 H3 (.bl false) R3 E3 (Rep.bl false)
    · exact p2.elim
theorem pd_chain {op op' : CmpOp} {g g' : Op2} {a b c : Expr} {ma mb mc : Ev} {pos : Pos} (ho : OpR X (compareOp op) (r2 (ty X) g)) (ho' : OpR X (compareOp op') (r2 (ty X) g')) (ha : PD X W a ma) (hb : PD X W b mb) (hc : PD X W c mc) (hm : lastMarks [op, op'] [b, c] = false) :
    PD X W (.Compare a [op, op'] [b, c] pos) (evChain g g' ma mb mc) := PE_imp (pe_chain ho ho' ha hb hc hm) fun _ _ _ q => chain_reads q
theorem pdt_chain {op op' : CmpOp} {g g' : Op2} {a b c : Expr} {ma mb mc : Ev} {pos : Pos} (ho : OpR X (compareOp op) (r2 (ty X) g)) (ho' : OpR X (compareOp op') (r2 (ty X) g')) (ha : PD X W a ma) (hb : PD X W b mb) (hc : PD X W c mc) (hm : lastMarks [op, op'] [b, c] = false) :
    PDT X W (.Compare a [op, op'] [b, c] pos) (evB (evChain g g' ma mb mc)) := PT_imp (pt_chain ho ho' ha hb hc hm) fun _ _ _ q => chain_reads (evB_reads q)
theorem pdt_not {a : Expr} {m : Tv} {pos : Pos} (h : PDT X W a m) : PDT X W (.UnaryOp .Not a pos) (cNot m) := PT_imp (pt_not h) fun σ H Q q => by
  obtain ⟨ρ, S, l, R, L, p⟩ := bindT (k := fun b _ S1 => .ok (!b) S1) q
  exact ⟨ρ, S, l, R, L, p.imp fun x H1 z => okT z⟩
theorem pdw_and1 {a : Expr} {m : Tv} {pos : Pos} (h : PDT X W a m) : PDW X W (.BoolOp .And [a] pos) m := pw_and1 h
theorem pdw_or1 {a : Expr} {m : Tv} {pos : Pos} (h : PDT X W a m) : PDW X W (.BoolOp .Or [a] pos) m := pw_or1 h
theorem pdw_and {a b : Expr} {rest : List Expr} {ma mb : Tv} {pos : Pos} (ha : PDT X W a ma) (hb : PDW X W (.BoolOp .And (b :: rest) pos) mb) : PDW X W (.BoolOp .And (a :: b :: rest) pos) (cAnd ma mb) := PW_imp (pw_and ha hb) fun σ H Q q => by
  obtain ⟨ρ, S, l, R, L, p⟩ := bindT (k := fun x l S1 => if x = true then mb l S1 else .ok false S1) q
  refine ⟨ρ, S, l, R, L, p.imp fun x H1 z => ?_⟩
  cases x with
  | true => exact z
  | false => exact okT z
theorem pdw_or {a b : Expr} {rest : List Expr} {ma mb : Tv} {pos : Pos} (ha : PDT X W a ma) (hb : PDW X W (.BoolOp .Or (b :: rest) pos) mb) : PDW X W (.BoolOp .Or (a :: b :: rest) pos) (cOr ma mb) := PW_imp (pw_or ha hb) fun σ H Q q => by
  obtain ⟨ρ, S, l, R, L, p⟩ := bindT (k := fun x l S1 => if x = true then .ok true S1 else mb l S1) q
  refine ⟨ρ, S, l, R, L, p.imp fun x H1 z => ?_⟩
  cases x with
  | true => exact okT z
  | false => exact z
theorem pdt_w {e : Expr} {m : Tv} (h : PDW X W e m) : PDT X W e m := PW.pt h
theorem pd_one {op} {a : Expr} {m : Ev} {pos : Pos} (h : PD X W a m) : PD X W (.BoolOp op [a] pos) m := pe_one h
theorem pd_and {a b : Expr} {rest : List Expr} {ma mb : Ev} {pos : Pos} (ha : PD X W a ma) (hb : PD X W (.BoolOp .And (b :: rest) pos) mb) : PD X W (.BoolOp .And (a :: b :: rest) pos) (evAnd ma mb) := PE_imp (pe_and ha hb) fun σ H Q q => by
  obtain ⟨ρ, S, l, R, L, p⟩ := evB_reads (bindT (k := fun x l S1 => if x = true then mb l S1 else .ok (.d (.bool false)) S1) q)
  refine ⟨ρ, S, l, R, L, p.imp fun x H1 ⟨c, e, z⟩ => ⟨c, e, ?_⟩⟩
  cases c with
  | true => exact z
  | false => exact okV z
theorem pd_or {a b : Expr} {rest : List Expr} {ma mb : Ev} {pos : Pos} (ha : PD X W a ma) (hb : PD X W (.BoolOp .Or (b :: rest) pos) mb) : PD X W (.BoolOp .Or (a :: b :: rest) pos) (evOr ma mb) := PE_imp (pe_or ha hb) fun σ H Q q => by
  obtain ⟨ρ, S, l, R, L, p⟩ := evB_reads (bindT (k := fun x l S1 => if x = true then .ok (.d (.bool true)) S1 else mb l S1) q)
  refine ⟨ρ, S, l, R, L, p.imp fun x H1 ⟨c, e, z⟩ => ⟨c, e, ?_⟩⟩
  cases c with
  | true => exact okV z
  | false => exact z
theorem pd_not {a : Expr} {ma : Ev} {pos : Pos} (ha : PD X W a ma) : PD X W (.UnaryOp .Not a pos) (evNot ma) := PE_imp (pe_not ha) fun σ H Q q => by
  obtain ⟨ρ, S, l, R, L, p⟩ := evB_reads (bindT (α := Val) (k := fun x _ S1 => .ok (Val.d (.bool (!x))) S1) q)
  exact ⟨ρ, S, l, R, L, p.imp fun x H1 ⟨c, e, z⟩ => ⟨c, e, okV z⟩⟩
theorem pd_if {c a b : Expr} {mc : Tv} {ma mb : Ev} {pos : Pos} (hc : PDT X W c mc) (ha : PD X W a ma) (hb : PD X W b mb) : PD X W (.IfExp c a b pos) (evIf mc ma mb) := PE_imp (pe_ifExp hc ha hb) fun σ H Q q => by
  obtain ⟨ρ, S, l, R, L, p⟩ := bindT (k := fun x l S1 => if x = true then ma l S1 else mb l S1) q
  refine ⟨ρ, S, l, R, L, p.imp fun x H1 z => ?_⟩
  cases x with
  | true => exact z
  | false => exact z
/-! ### comprehensions -/
theorem pd_lc {own : Bool} {elt tg iter : Expr} {ifs : List Expr} {scope : Scope} {ow : List (Str × Nat)} {vs : List Nat} {pos : Pos} {it : Loc → Store → Res Walked} {t : Tg} {c : Tv} {e : Ev} (hc : X.calm = true) (hN : X.N.Nodup) (hi : PI X tg iter (iD (ty X) W it)) (ok : BlkOk X.N X.env.scope scope ow) (hvs : ow.map (·.2) = vs)
    (hg : ∀ (s : Shared) (H : Hp) (C : Addr) (cl : List (Str × Addr)) (fp : List Addr), PG (X.blk s H scope (compEnvC scope cl C X.env) fp) tg (gD (ty X) t)) (ht : ∀ (s : Shared) (H : Hp) (C : Addr) (cl : List (Str × Addr)) (fp : List Addr), PTs (X.blk s H scope (compEnvC scope cl C X.env) fp) ifs (tDT (ty X) W0 c))
    (he : ∀ (s : Shared) (H : Hp) (C : Addr) (cl : List (Str × Addr)) (fp : List Addr), PE (X.blk s H scope (compEnvC scope cl C X.env) fp) elt (tD (ty X) W0 e)) (hsub : ∀ i ∈ t.1, i ∈ vs) (hs : ∀ x, foldedSetIterable iter X.env x = pure x) :
    PD X W (.ListComp elt [⟨tg, iter, ifs, 0⟩] scope pos) (evLC own it t vs c e) := by
  subst hvs
  exact PE_imp (pe_lc hc hN hi ok hg ht he hs) fun σ H Q q => lc_reads (tg := tg) hsub q
theorem pts_c {X' : Cx} {c : Expr} {m : Tv} (h : PDT X' W0 c m) : PTs X' [c] (tDT (ty X') W0 m) := pts_one h
end
end FH
namespace FH
open L2 PySem PySem.Spec
/-! ### statements -/
inductive SR where
  | nx (l : Loc) (S : Store)
  | bk (l : Loc) (S : Store)
  | ct (l : Loc) (S : Store)
  | rt (v : Val) (S : Store)
  | ex (c : Str) (l : Loc) (S : Store)
  | stuck
abbrev Sv := Loc → Store → SR
def PostR (T : Ty) (W : WE) (D : Ends) (ρ : List Addr) (S : Store) (H : Hp) (r : SR) : Prop := match r with
  | .nx l S' => ∀ (ρ' : List Addr) (H' : Hp) (σ' : St), Rel T ρ' S' H' → Ext ρ S H ρ' S' H' → LocOk T ρ' (frz ρ' S' H') l σ' → D.nx σ' H'
  | .bk l S' => ∀ (ρ' : List Addr) (H' : Hp) (σ' : St), Rel T ρ' S' H' → Ext ρ S H ρ' S' H' → LocOk T ρ' (frz ρ' S' H') l σ' → D.bk σ' H'
  | .ct l S' => ∀ (ρ' : List Addr) (H' : Hp) (σ' : St), Rel T ρ' S' H' → Ext ρ S H ρ' S' H' → LocOk T ρ' (frz ρ' S' H') l σ' → D.ct σ' H'
  | .rt v S' => ∀ (ρ' : List Addr) (H' : Hp) (x : V), Rel T ρ' S' H' → Ext ρ S H ρ' S' H' → RepV T ρ' (frz ρ' S' H') x v → D.rt x H'
  | .ex c l S' => ∀ (ρ' : List Addr) (H' : Hp) (σ' : St), Rel T ρ' S' H' → Ext ρ S H ρ' S' H' → LocOk T ρ' (frz ρ' S' H') l σ' → W c σ' H'
  | .stuck => False
def tS (T : Ty) (W : WE) (m : Sv) : TS := fun D σ H => ∃ ρ S l, Rel T ρ S H ∧ LocOk T ρ (frz ρ S H) l σ ∧ PostR T W D ρ S H (m l S)
abbrev PDS (X : Cx) (W : WE) (e : Stmt) (m : Sv) : Prop := PS X e (tS (ty X) W m)
abbrev PDSs (X : Cx) (W : WE) (e : List Stmt) (m : Sv) : Prop := PSs X e (tS (ty X) W m)
theorem PostR.start {T : Ty} {W : WE} {D : Ends} {ρ ρ1 : List Addr} {S S1 : Store} {H H1 : Hp} (e : Ext ρ S H ρ1 S1 H1) : ∀ {r : SR}, PostR T W D ρ S H r → PostR T W D ρ1 S1 H1 r
  | .nx _ _, h => fun ρ' H' σ' R E q => h ρ' H' σ' R (e.trans E) q
  | .bk _ _, h => fun ρ' H' σ' R E q => h ρ' H' σ' R (e.trans E) q
  | .ct _ _, h => fun ρ' H' σ' R E q => h ρ' H' σ' R (e.trans E) q
  | .rt _ _, h => fun ρ' H' σ' R E q => h ρ' H' σ' R (e.trans E) q
  | .ex _ _ _, h => fun ρ' H' σ' R E q => h ρ' H' σ' R (e.trans E) q
  | .stuck, h => h
@[simp] def SR.thenS : SR → Sv → SR
  | .nx l S, k => k l S
  | r, _ => r
@[simp] def sNx : Sv := fun l S => .nx l S
@[simp] def sBk : Sv := fun l S => .bk l S
@[simp] def sCt : Sv := fun l S => .ct l S
def sStuck : Sv := fun _ _ => .stuck
@[simp] def sSeq (a b : Sv) : Sv := fun l S => (a l S).thenS b
/-- a value first -/
@[simp] def sW {α : Type} (m : Loc → Store → Res α) (k : α → Sv) : Sv := fun l S => match m l S with
  | .ok v S1 => k v l S1
  | .exc c S1 => .ex c l S1
  | .stuck => .stuck
@[simp] def sDrop (m : Ev) : Sv := sW m fun _ => sNx
@[simp] def sRet (m : Ev) : Sv := sW m fun v _ S => .rt v S
@[simp] def sRetN : Sv := fun _ S => .rt (.d .none) S
@[simp] def sIf (c : Tv) (a b : Sv) : Sv := sW c fun x => if x = true then a else b
@[simp] def goT (t : Tg) (v : Val) : Sv := fun l S => match t.2 v l with
  | some l' => .nx l' S
  | none => .stuck
@[simp] def sSet (m : Ev) (t : Tg) : Sv := sW m (goT t)
@[simp] def sPar (is : List Nat) (m : Loc → Store → Res (List Val)) : Sv := sW m fun vs l S => match setAll is vs l with
  | some l' => .nx l' S
  | none => .stuck
noncomputable def sSub (m o i : Ev) : Sv := sW m fun v => sW o fun a => sW i fun b l S => match setV a b v S with
  | some S' => .nx l S'
  | none => .stuck
noncomputable def sAugS (o i m : Ev) (g : Op2) : Sv := sW o fun a => sW i fun b => sW (fun _ S => ofO (getV a b S)) fun x => sW m fun y => sW (fun _ S => ofO (g x y S)) fun z l S => match setV a b z S with
  | some S' => .nx l S'
  | none => .stuck
def sAug (i : Nat) (m : Ev) (g : Op2) : Sv := sW (evVar i) fun x => sW m fun y => sW (fun _ S => ofO (g x y S)) (goT (tgName i))
section
variable {X : Cx} {W : WE} {T : Ty} {D : Ends} {σ : St} {H : Hp}
theorem sW_reads {α β : Type} {rel : RG β α} {m : Loc → Store → Res α} {k : α → Sv} (h : tS T W (sW m k) D σ H) : tG T W rel m σ H fun x H1 => ∃ ρ1 S1 l a, Rel T ρ1 S1 H1 ∧ LocOk T ρ1 (frz ρ1 S1 H1) l σ ∧ rel ρ1 (frz ρ1 S1 H1) x a ∧ PostR T W D ρ1 S1 H1 (k a l S1) := by
  obtain ⟨ρ, S, l, R, L, p⟩ := h
  refine ⟨ρ, S, l, R, L, ?_⟩
  unfold sW at p
  cases e : m l S with
  | ok a S1 =>
    rw [e] at p
    exact fun ρ1 H1 x R1 E1 q => ⟨ρ1, S1, l, a, R1, L.mono E1.pre E1.le, q, p.start E1⟩
  | exc c S1 =>
    rw [e] at p
    exact fun ρ1 H1 R1 E1 => p ρ1 H1 σ R1 E1 (L.mono E1.pre E1.le)
  | stuck =>
    rw [e] at p
    exact p
theorem nx_reads (h : tS T W sNx D σ H) : D.nx σ H := by
  obtain ⟨ρ, S, l, R, L, p⟩ := h
  exact p ρ H σ R Ext.refl L
theorem pds_nil : PDSs X W [] sNx := PSs_imp pss_nil fun D σ H h => nx_reads h
theorem seq_reads {a b : Sv} (h : tS T W (sSeq a b) D σ H) : tSeq (tS T W a) (tS T W b) D σ H := by
  obtain ⟨ρ, S, l, R, L, p⟩ := h
  refine ⟨ρ, S, l, R, L, ?_⟩
  unfold sSeq at p
  cases e : a l S with
  | nx l1 S1 =>
    rw [e] at p
    exact fun ρ1 H1 σ1 R1 E1 L1 => ⟨ρ1, S1, l1, R1, L1, PostR.start E1 p⟩
  | _ =>
    rw [e] at p
    exact p
theorem pds_cons {st : Stmt} {rest : List Stmt} {a b : Sv} (h1 : PDS X W st a) (h2 : PDSs X W rest b) : PDSs X W (st :: rest) (sSeq a b) := PSs_imp (pss_cons h1 h2) fun D σ H h => seq_reads h
theorem pds_one {st : Stmt} {a : Sv} (h1 : PDS X W st a) : PDSs X W [st] a := pss_one h1
theorem pds_pass {pos : Pos} : PDS X W (.Pass pos) sNx := PS_imp ps_pass fun D σ H h => nx_reads h
theorem pds_doc {x j pos pos'} : PDS X W (.Expr (.Constant (.str x) j pos) pos') sNx := PS_imp ps_doc fun D σ H h => nx_reads h
theorem pds_break {pos : Pos} : PDS X W (.Break pos) sBk := PS_imp ps_break fun D σ H ⟨ρ, S, l, R, L, p⟩ => p ρ H σ R Ext.refl L
theorem pds_continue {pos : Pos} : PDS X W (.Continue pos) sCt := PS_imp ps_continue fun D σ H ⟨ρ, S, l, R, L, p⟩ => p ρ H σ R Ext.refl L
theorem pds_stuck {st : Stmt} : PDS X W st sStuck := ⟨fun pins s σ H D I ⟨ρ, S, l, R, L, p⟩ => p.elim⟩
theorem pdss_stuck {st : List Stmt} : PDSs X W st sStuck := ⟨fun pins s σ H D I ⟨ρ, S, l, R, L, p⟩ => p.elim⟩
theorem pds_expr {e : Expr} {m : Ev} {pos : Pos} (he : PD X W e m) (hs : swapsWith e none pos.line X.env = pure false) : PDS X W (.Expr e pos) (sDrop m) := PS_imp (ps_expr he hs) fun D σ H h => by
  obtain ⟨ρ, S, l, R, L, p⟩ := sW_reads (rel := relV (ty X)) h
  exact ⟨ρ, S, l, R, L, p.imp fun x H1 ⟨ρ1, S1, l1, a, R1, L1, q, p1⟩ => p1 ρ1 H1 σ R1 Ext.refl L1⟩
theorem pds_ret {e : Expr} {m : Ev} {pos : Pos} (he : PD X W e m) : PDS X W (.Return (some e) pos) (sRet m) := PS_imp (ps_ret he) fun D σ H h => by
  obtain ⟨ρ, S, l, R, L, p⟩ := sW_reads (rel := relV (ty X)) h
  exact ⟨ρ, S, l, R, L, p.imp fun x H1 ⟨ρ1, S1, l1, a, R1, L1, q, p1⟩ => p1 ρ1 H1 x R1 Ext.refl q⟩
theorem pds_retN {pos : Pos} : PDS X W (.Return none pos) sRetN := PS_imp ps_retN fun D σ H ⟨ρ, S, l, R, L, p⟩ => p ρ H .non R Ext.refl Rep.non
theorem pds_if {c : Expr} {a b : List Stmt} {mc : Tv} {ma mb : Sv} {pos : Pos} (hc : PDT X W c mc) (ha : PDSs X W a ma) (hb : PDSs X W b mb) : PDS X W (.If c a b pos) (sIf mc ma mb) := PS_imp (ps_if hc ha hb) fun D σ H h => by
  obtain ⟨ρ, S, l, R, L, p⟩ := sW_reads (rel := relB) h
  refine ⟨ρ, S, l, R, L, p.imp fun x H1 ⟨ρ1, S1, l1, a, R1, L1, q, p1⟩ => ?_⟩
  cases q
  cases x with
  | true => exact ⟨ρ1, S1, l1, R1, L1, p1⟩
  | false => exact ⟨ρ1, S1, l1, R1, L1, p1⟩
/-- behind a value, a target -/
theorem goT_reads {t : Tg} {ρ : List Addr} {S : Store} {l : Loc} {a : Val} {x : V} (R : Rel T ρ S H) (L : LocOk T ρ (frz ρ S H) l σ) (q : RepV T ρ (frz ρ S H) x a) (p : PostR T W D ρ S H (goT t a l S)) : gD T t x σ H D.nx := by
  refine ⟨ρ, S, a, l, R, q, L, ?_⟩
  unfold goT at p
  cases e : t.2 a l with
  | none =>
    rw [e] at p
    exact p
  | some l' =>
    rw [e] at p
    exact fun σ' L' _ => p ρ H σ' R Ext.refl L'
theorem asg_reads {m : Ev} {t : Tg} (h : tS T W (sSet m t) D σ H) : tAsg (tD T W m) (gD T t) D σ H := by
  obtain ⟨ρ, S, l, R, L, p⟩ := sW_reads (rel := relV T) h
  exact ⟨ρ, S, l, R, L, p.imp fun x H1 ⟨ρ1, S1, l1, a, R1, L1, q, p1⟩ => goT_reads R1 L1 q p1⟩
theorem pds_asg {tg e : Expr} {m : Ev} {t : Tg} {pos : Pos} (he : PD X W e m) (hg : PG X tg (gD (ty X) t)) (hs : swapsWithSole [tg] e pos.line X.env = pure false) (hw : swappedStores [tg] e X.env = pure none)
    (h1 : (assignEach [tg] X.env).map (·.2) = [assign tg X.env]) : PDS X W (.Assign [tg] e pos) (sSet m t) := PS_imp (ps_asg he hg hs hw h1) fun D σ H h => asg_reads h
theorem nameG {i : Nat} {x : V} {Q : St → Hp → Prop} (h : gD T (tgName i) x σ H Q) : gName i x σ H Q := by
  obtain ⟨ρ, S, a, l, R, qx, L, p⟩ := h
  unfold tgName at p
  dsimp only at p
  split at p
  · rename_i l' e
    split at e
    · rename_i hl
      cases e
      exact p _ (L.set hl qx) Agree.set
    · cases e
  · exact p.elim
theorem pds_set {i : Nat} {x : Str} {e : Expr} {m : Ev} {pos' pos : Pos} (hN : X.N.Nodup) (hi : X.N[i]? = some x) (hx : L2.Loc X.env.scope x) (he : PD X W e m) (hs : swapsWith e (some (.Name x pos')) pos.line X.env = pure false) (hf : X.fn x = true ∨ X.env.scope.names.lookup x = some .local) :
    PDS X W (.Assign [.Name x pos'] e pos) (sSet m (tgName i)) := PS_imp (ps_set hN hi hx he hs hf) fun D σ H h => by
  obtain ⟨ρ, S, l, R, L, p⟩ := asg_reads h
  exact ⟨ρ, S, l, R, L, p.imp fun x H1 z => nameG z⟩
/-- name = [..], the comprehension's frame still there at the store -/
theorem pds_setLc {own : Bool} {i : Nat} {y : Str} {py : Pos} {elt tg iter : Expr} {ifs : List Expr} {scope : Scope} {ow : List (Str × Nat)} {vs : List Nat} {pos spos : Pos} {it : Loc → Store → Res Walked} {t : Tg} {c : Tv} {e : Ev} (hc : X.calm = true) (hN : X.N.Nodup) (hy : X.N[i]? = some y) (hyl : X.env.scope.names.lookup y = some .local)
    (hsw : swapsWith (.ListComp elt [⟨tg, iter, ifs, 0⟩] scope pos) (some (.Name y py)) spos.line X.env = pure true) (hi : PI X tg iter (iD (ty X) W it)) (ok : BlkOk X.N X.env.scope scope ow) (hvs : ow.map (·.2) = vs)
    (hg : ∀ (s : Shared) (H : Hp) (C : Addr) (cl : List (Str × Addr)) (fp : List Addr), PG (X.blk s H scope (compEnvC scope cl C X.env) fp) tg (gD (ty X) t)) (ht : ∀ (s : Shared) (H : Hp) (C : Addr) (cl : List (Str × Addr)) (fp : List Addr), PTs (X.blk s H scope (compEnvC scope cl C X.env) fp) ifs (tDT (ty X) W0 c))
    (he : ∀ (s : Shared) (H : Hp) (C : Addr) (cl : List (Str × Addr)) (fp : List Addr), PE (X.blk s H scope (compEnvC scope cl C X.env) fp) elt (tD (ty X) W0 e)) (hsub : ∀ i ∈ t.1, i ∈ vs) (hs : ∀ x, foldedSetIterable iter X.env x = pure x) :
    PDS X W (.Assign [.Name y py] (.ListComp elt [⟨tg, iter, ifs, 0⟩] scope pos) spos) (sSet (evLC own it t vs c e) (tgName i)) := by
  subst hvs
  refine PS_imp (ps_setLc hc hN hy hyl hsw hi ok hg ht he hs) fun D σ H h => ?_
  have h1 := asg_reads h
  refine lc_reads (tg := tg) (own := own) hsub ?_
  obtain ⟨ρ, S, l, R, L, p⟩ := h1
  exact ⟨ρ, S, l, R, L, p.imp fun x H1 z => nameG z⟩
theorem setAll_ok {ρ : List Addr} {S : Store} : ∀ {is : List Nat} {vs : List Val} {xs : List V} {l l' : Loc} {σ : St}, RepVs T ρ (frz ρ S H) xs vs → LocOk T ρ (frz ρ S H) l σ → setAll is vs l = some l' → ∃ σ', LocOk T ρ (frz ρ S H) l' σ' ∧ σ' = (is.zip xs).foldl (fun σ p => σ.set p.1 (some p.2)) σ
  | [], [], _, l, l', σ, .nil, L, h => by
    cases h
    exact ⟨σ, L, rfl⟩
  | [], _ :: _, _, _, _, _, _, _, h => by cases h
  | _ :: _, [], _, _, _, _, _, _, h => by cases h
  | i :: is, v :: vs, _, l, l', σ, .cons q r, L, h => by
    rw [setAll] at h
    split at h
    · rename_i hl
      obtain ⟨σ', L', e⟩ := setAll_ok r (L.set hl q) h
      exact ⟨σ', L', e⟩
    · cases h
theorem pds_par {i j : Nat} {x y : Str} {a b : Expr} {m : Loc → Store → Res (List Val)} {px py pt pos : Pos} {kt k2 pt2} (hc : X.calm = true) (hN : X.N.Nodup) (hi : X.N[i]? = some x) (hj : X.N[j]? = some y) (hij : i ≠ j)
    (hx : X.env.scope.names.lookup x = some .local) (hy : X.env.scope.names.lookup y = some .local) (ha : PDA X W [a, b] m)
    (hw : swappedStores [.Tuple [.Name x px, .Name y py] kt pt] (.Tuple [a, b] k2 pt2) X.env = pure (some [x, y]))
    (hs : swapsWithSole [.Tuple [.Name x px, .Name y py] kt pt] (.Tuple [a, b] k2 pt2) pos.line X.env = pure false) :
    PDS X W (.Assign [.Tuple [.Name x px, .Name y py] kt pt] (.Tuple [a, b] k2 pt2) pos) (sPar [i, j] m) := PS_imp (ps_par hc hN hi hj hij hx hy ha hw hs) fun D σ H h => by
  obtain ⟨ρ, S, l, R, L, p⟩ := sW_reads (rel := relVs (ty X)) h
  refine ⟨ρ, S, l, R, L, p.imp fun xs H1 ⟨ρ1, S1, l1, vs, R1, L1, q, p1⟩ => ?_⟩
  cases e : setAll [i, j] vs l1 with
  | none =>
    rw [e] at p1
    exact p1.elim
  | some l' =>
    rw [e] at p1
    obtain ⟨σ', L', rfl⟩ := setAll_ok q L1 e
    match vs, xs, q with
    | [v1, v2], [x1, x2], _ => exact ⟨x1, x2, rfl, p1 ρ1 H1 _ R1 Ext.refl L'⟩
    | [], _, _ => cases e
    | [_], _, _ =>
      simp only [setAll] at e
      split at e <;> cases e
    | _ :: _ :: _ :: _, _, _ =>
      simp only [setAll] at e
      split at e
      · split at e <;> cases e
      · cases e
end
end FH
namespace FH
open L2 PySem PySem.Spec
section
variable {X : Cx} {W : WE} {T : Ty} {D : Ends} {σ : St} {H : Hp}
/-- three names at once -/
theorem pds_par3 {i j k : Nat} {x y z : Str} {a b c : Expr} {m : Loc → Store → Res (List Val)} {px py pz pt pos : Pos} {kt k2 pt2} (hc : X.calm = true) (hN : X.N.Nodup) (hi : X.N[i]? = some x) (hj : X.N[j]? = some y) (hl : X.N[k]? = some z) (hij : i ≠ j) (hil : i ≠ k) (hjl : j ≠ k)
    (hx : X.env.scope.names.lookup x = some .local) (hy : X.env.scope.names.lookup y = some .local) (hz : X.env.scope.names.lookup z = some .local) (ha : PDA X W [a, b, c] m)
    (hw : swappedStores [.Tuple [.Name x px, .Name y py, .Name z pz] kt pt] (.Tuple [a, b, c] k2 pt2) X.env = pure (some [x, y, z]))
    (hs : swapsWithSole [.Tuple [.Name x px, .Name y py, .Name z pz] kt pt] (.Tuple [a, b, c] k2 pt2) pos.line X.env = pure false) :
    PDS X W (.Assign [.Tuple [.Name x px, .Name y py, .Name z pz] kt pt] (.Tuple [a, b, c] k2 pt2) pos) (sPar [i, j, k] m) := PS_imp (ps_par3 hc hN hi hj hl hij hil hjl hx hy hz ha hw hs) fun D σ H h => by
  obtain ⟨ρ, S, l, R, L, p⟩ := sW_reads (rel := relVs (ty X)) h
  refine ⟨ρ, S, l, R, L, p.imp fun xs H1 ⟨ρ1, S1, l1, vs, R1, L1, q, p1⟩ => ?_⟩
  cases e : setAll [i, j, k] vs l1 with
  | none =>
    rw [e] at p1
    exact p1.elim
  | some l' =>
    rw [e] at p1
    obtain ⟨σ', L', rfl⟩ := setAll_ok q L1 e
    match vs, xs, q with
    | [v1, v2, v3], [x1, x2, x3], _ => exact ⟨x1, x2, x3, rfl, p1 ρ1 H1 _ R1 Ext.refl L'⟩
    | [], _, _ => cases e
    | [_], _, _ =>
      simp only [setAll] at e
      split at e <;> cases e
    | [_, _], _, _ =>
      simp only [setAll] at e
      split at e
      · split at e <;> cases e
      · cases e
    | _ :: _ :: _ :: _ :: _, _, _ =>
      simp only [setAll] at e
      split at e
      · split at e
        · split at e <;> cases e
        · cases e
      · cases e
/-- a tuple that is made and taken apart -/
theorem pds_unp {ts es : List Expr} {is : List Nat} {m : Loc → Store → Res (List Val)} {pt pt2 pos : Pos} {kt k2} (hc : X.calm = true) (hsz : es.length ≤ 100) (he : ts.all isName = true) (hl : ts.length = is.length) (hel : es.length = is.length) (hg : PGs X ts (gsD (ty X) is)) (ha : PDA X W es m)
    (hlen : ∀ l S vs S', m l S = .ok vs S' → vs.length = es.length)
    (hw : swappedStores [.Tuple ts kt pt] (.Tuple es k2 pt2) X.env = pure none) (hs : swapsWithSole [.Tuple ts kt pt] (.Tuple es k2 pt2) pos.line X.env = pure false) (h1 : (assignEach [.Tuple ts kt pt] X.env).map (·.2) = [assign (.Tuple ts kt pt) X.env]) :
    PDS X W (.Assign [.Tuple ts kt pt] (.Tuple es k2 pt2) pos) (sPar is m) := by
  obtain ⟨e1, e2⟩ := each_names (env := X.env) he
  refine PS_imp (ps_asg (pe_tup ha) (pg_tup hc hg e1 e2) hs hw h1) fun D σ H h => ?_
  obtain ⟨ρ, S, l, R, L, p⟩ := id h
  have h2 := sW_reads (rel := relVs (ty X)) h
  unfold sPar sW at p
  refine ⟨ρ, S, l, R, L, ?_⟩
  cases e : m l S with
  | exc c S1 =>
    rw [e] at p
    exact fun ρ1 H1 R1 E1 => p ρ1 H1 σ R1 E1 (L.mono E1.pre E1.le)
  | stuck =>
    rw [e] at p
    exact p
  | ok vs S1 =>
    rw [e] at p
    refine fun ρ1 H1 xs R1 E1 q => ?_
    have lx := pr_len q
    have lv := hlen _ _ _ _ e
    have es : sizeLine = 16777216 := sizeLine_eq
    refine ⟨by omega, fun y hy => ⟨y, xs, rfl, SqT.of upd_same, by omega, ?_⟩⟩
    obtain ⟨R2, E2, f2⟩ := R1.lay (o := .tup xs) hy
    dsimp only at p
    cases e3 : setAll is vs l with
    | none =>
      rw [e3] at p
      exact p.elim
    | some l' =>
      rw [e3] at p
      refine ⟨ρ1, S1, vs, l, R2, q.mono E2.pre E2.le, (L.mono E1.pre E1.le).mono E2.pre E2.le, ?_⟩
      rw [e3]
      exact fun σ' L' _ => p ρ1 _ σ' R2 (E1.trans E2) L'
theorem evNil_len {l : Loc} {S S' : Store} {vs : List Val} (h : evNil l S = .ok vs S') : vs.length = 0 := by
  cases h
  rfl
theorem evCons_len {n : Nat} {a : Ev} {r : Loc → Store → Res (List Val)} (hr : ∀ l S vs S', r l S = .ok vs S' → vs.length = n) : ∀ l S vs S', evCons a r l S = .ok vs S' → vs.length = n + 1 := fun l S vs S' h => by
  obtain ⟨v, S1, _, h2⟩ := bind_ok h
  obtain ⟨us, S2, h3, h4⟩ := bind_ok h2
  cases h4
  rw [List.length_cons, hr _ _ _ _ h3]
/-- o[i] = e -/
theorem sub_reads {m o i : Ev} (h : tS T W (sSub m o i) D σ H) : tAsg (tD T W m) (gSub (tD T W o) (tD T W i) (rSet T)) D σ H := by
  obtain ⟨ρ, S, l, R, L, p⟩ := sW_reads (rel := relV T) h
  refine ⟨ρ, S, l, R, L, p.imp fun x H1 ⟨ρ1, S1, l1, a, R1, L1, q, p1⟩ => ?_⟩
  have h2 : tS T W (sW o fun b => sW i fun c l S => match setV b c a S with
    | some S' => .nx l S'
    | none => .stuck) D σ H1 := ⟨ρ1, S1, l1, R1, L1, p1⟩
  have k1 : ∀ {y : V} {H2 : Hp} {ρ2 : List Addr} {S2 : Store}, Ext ρ1 S1 H1 ρ2 S2 H2 → RepV T ρ2 (frz ρ2 S2 H2) x a := fun E => q.mono E.pre E.le
  unfold sW at p1
  refine ⟨ρ1, S1, l1, R1, L1, ?_⟩
  cases e : o l1 S1 with
  | exc c S2 =>
    rw [e] at p1
    exact fun ρ2 H2 R2 E2 => p1 ρ2 H2 σ R2 E2 (L1.mono E2.pre E2.le)
  | stuck =>
    rw [e] at p1
    exact p1
  | ok b S2 =>
    rw [e] at p1
    refine fun ρ2 H2 y R2 E2 q2 => ?_
    have L2 := L1.mono E2.pre E2.le
    refine ⟨ρ2, S2, l1, R2, L2, ?_⟩
    dsimp only at p1
    cases e2 : i l1 S2 with
    | exc c S3 =>
      rw [e2] at p1
      exact fun ρ3 H3 R3 E3 => p1 ρ3 H3 σ R3 (E2.trans E3) (L2.mono E3.pre E3.le)
    | stuck =>
      rw [e2] at p1
      exact p1
    | ok c S3 =>
      rw [e2] at p1
      refine fun ρ3 H3 z R3 E3 q3 => ⟨ρ3, S3, b, c, a, R3, q2.mono E3.pre E3.le, q3, (q.mono E2.pre E2.le).mono E3.pre E3.le, ?_⟩
      dsimp only at p1
      cases e3 : setV b c a S3 with
      | none =>
        rw [e3] at p1
        exact p1.elim
      | some S4 =>
        rw [e3] at p1
        exact fun ρ4 H4 R4 E4 => p1 ρ4 H4 σ R4 ((E2.trans E3).trans E4) ((L2.mono E3.pre E3.le).mono E4.pre E4.le)
theorem pds_sub {o i e : Expr} {mo mi me : Ev} {tpos pos : Pos} (hu : X.A.units + 100 < cLine) (ho : PD X W o mo) (hi : PD X W i mi) (he : PD X W e me)
    (ha : ∀ v, assign (.Subscript o i tpos) X.env v = (do
      let ov ← holding [v] (eval o X.env)
      let iv ← holding [v, ov] (eval i X.env)
      standAt tpos
      holding [v, ov, iv] (setItem ov iv v)
      release [v, ov, iv] []))
    (hs : swapsWithSole [.Subscript o i tpos] e pos.line X.env = pure false) (hw : swappedStores [.Subscript o i tpos] e X.env = pure none) (h1 : (assignEach [.Subscript o i tpos] X.env).map (·.2) = [assign (.Subscript o i tpos) X.env]) :
    PDS X W (.Assign [.Subscript o i tpos] e pos) (sSub me mo mi) := PS_imp (ps_asg he (pg_sub ho hi (set_any hu) ha) hs hw h1) fun D σ H h => sub_reads h
/-- op= by values -/
def iaddV : Op2 := fun v u S => match v, u with
  | .d (.int i), .d (.int j) => some (.d (.int (i + j)), S)
  | _, _ => none
theorem ip_add_ : PIp X .Add (r2 (ty X) iaddV) := by
  intro pins s σ H x y v u Q I r1 r2 h
  obtain ⟨ρ, S, a, b, R, qa, qb, p⟩ := h
  unfold iaddV at p
  split at p
  · rename_i i j
    cases qa.int_
    cases qb.int_
    exact ip_add pins s σ H _ _ v u Q I r1 r2 ⟨i, j, rfl, rfl, p ρ H _ R Ext.refl (Rep.int _)⟩
  · exact p.elim
theorem aug_reads {o i m : Ev} {g : Op2} (h : tS T W (sAugS o i m g) D σ H) : tAugS (tD T W o) (tD T W i) (tD T W m) (r2 T getV) (r2 T g) (rSet T) D σ H := by
  obtain ⟨ρ, S, l, R, L, p⟩ := h
  refine ⟨ρ, S, l, R, L, ?_⟩
  unfold sAugS sW at p
  cases e1 : o l S with
  | exc c S1 =>
    rw [e1] at p
    exact fun ρ1 H1 R1 E1 => p ρ1 H1 σ R1 E1 (L.mono E1.pre E1.le)
  | stuck =>
    rw [e1] at p
    exact p
  | ok a S1 =>
    rw [e1] at p
    refine fun ρ1 H1 xa R1 E1 qa => ?_
    have L1 := L.mono E1.pre E1.le
    refine ⟨ρ1, S1, l, R1, L1, ?_⟩
    dsimp only at p
    cases e2 : i l S1 with
    | exc c S2 =>
      rw [e2] at p
      exact fun ρ2 H2 R2 E2 => p ρ2 H2 σ R2 (E1.trans E2) (L1.mono E2.pre E2.le)
    | stuck =>
      rw [e2] at p
      exact p
    | ok b S2 =>
      rw [e2] at p
      refine fun ρ2 H2 xb R2 E2 qb => ?_
      have L2 := L1.mono E2.pre E2.le
      have qa2 := qa.mono E2.pre E2.le
      refine ⟨ρ2, S2, a, b, R2, qa2, qb, ?_⟩
      dsimp only at p
      cases e3 : getV a b S2 with
      | none =>
        rw [e3] at p
        exact p.elim
      | some z3 =>
        obtain ⟨c, S3⟩ := z3
        rw [e3] at p
        refine fun ρ3 H3 xc R3 E3 qc => ?_
        have L3 := L2.mono E3.pre E3.le
        refine ⟨ρ3, S3, l, R3, L3, ?_⟩
        dsimp only [ofO] at p
        cases e4 : m l S3 with
        | exc c S4 =>
          rw [e4] at p
          exact fun ρ4 H4 R4 E4 => p ρ4 H4 σ R4 (((E1.trans E2).trans E3).trans E4) (L3.mono E4.pre E4.le)
        | stuck =>
          rw [e4] at p
          exact p
        | ok d S4 =>
          rw [e4] at p
          refine fun ρ4 H4 xd R4 E4 qd => ⟨ρ4, S4, c, d, R4, qc.mono E4.pre E4.le, qd, ?_⟩
          have L4 := L3.mono E4.pre E4.le
          dsimp only [ofO] at p
          cases e5 : g c d S4 with
          | none =>
            rw [e5] at p
            exact p.elim
          | some z5 =>
            obtain ⟨f, S5⟩ := z5
            rw [e5] at p
            refine fun ρ5 H5 xf R5 E5 qf => ?_
            refine ⟨ρ5, S5, a, b, f, R5, ((qa2.mono E3.pre E3.le).mono E4.pre E4.le).mono E5.pre E5.le, ((qb.mono E3.pre E3.le).mono E4.pre E4.le).mono E5.pre E5.le, qf, ?_⟩
            dsimp only [ofO] at p
            cases e6 : setV a b f S5 with
            | none =>
              rw [e6] at p
              exact p.elim
            | some S6 =>
              rw [e6] at p
              exact fun ρ6 H6 R6 E6 => p ρ6 H6 σ R6 (((((E1.trans E2).trans E3).trans E4).trans E5).trans E6) ((L4.mono E5.pre E5.le).mono E6.pre E6.le)
theorem pds_augS {o i e : Expr} {mo mi me : Ev} {tpos pos : Pos} (hu : X.A.units + 100 < cLine) (ho : PD X W o mo) (hi : PD X W i mi) (he : PD X W e me)
    (ha : ∀ ov iv new, augStore i ov iv new = (do holding [new, ov, iv] (setItem ov iv new); release [new, ov, iv] []; pure .next)) : PDS X W (.AugAssign (.Subscript o i tpos) .Add e pos) (sAugS mo mi me iaddV) :=
  PS_imp (ps_augS ho hi get_any he ip_add_ (set_any hu) ha) fun D σ H h => aug_reads h
end
/-! ### loops -/
def forGo (t : Tg) (body : Sv) : List Val → Sv
  | [], l, S => .nx l S
  | v :: vs, l, S => match t.2 v l with
    | none => .stuck
    | some l1 => match body l1 S with
      | .nx l2 S2 => forGo t body vs l2 S2
      | .ct l2 S2 => forGo t body vs l2 S2
      | .bk l2 S2 => .nx l2 S2
      | .rt v S2 => .rt v S2
      | .ex c l2 S2 => .ex c l2 S2
      | .stuck => .stuck
def unlSR (v : Val) (S0 : Store) : SR → SR
  | .nx l S => .nx l (unlockS v S0 S)
  | .bk l S => .bk l (unlockS v S0 S)
  | .ct l S => .ct l (unlockS v S0 S)
  | .rt x S => .rt x (unlockS v S0 S)
  | .ex c l S => .ex c l (unlockS v S0 S)
  | .stuck => .stuck
def sFor (it : Loc → Store → Res Walked) (t : Tg) (body : Sv) : Sv := sW it fun w l S1 => unlSR w.2 S1 (forGo t body w.1 l (lockS w.2 S1))
def whGo (c : Tv) (body : Sv) : Nat → Sv
  | 0, _, _ => .stuck
  | n + 1, l, S => match c l S with
    | .exc c S1 => .ex c l S1
    | .stuck => .stuck
    | .ok b S1 => if b = true then (match body l S1 with
      | .nx l2 S2 => whGo c body n l2 S2
      | .ct l2 S2 => whGo c body n l2 S2
      | .bk l2 S2 => .nx l2 S2
      | .rt v S2 => .rt v S2
      | .ex c l2 S2 => .ex c l2 S2
      | .stuck => .stuck) else .nx l S1
section
variable {X : Cx} {W : WE} {T : Ty} {D : Ends} {σ : St} {H : Hp}
theorem unl_post {v : Val} {ρ ρ1 : List Addr} {S S1 : Store} {H1 : Hp} (R1 : Rel T ρ1 S1 H1) (E0 : Ext ρ S H ρ1 S1 H1) : ∀ {r : SR}, PostR T W D ρ S H (unlSR v S1 r) → PostR T W D ρ1 (lockS v S1) H1 r
  | .nx l S2, h => fun ρ' H' σ' R E q => by
    obtain ⟨R4, E4, f4⟩ := unlock_ok v R1 R E
    exact h ρ' H' σ' R4 (E0.trans E4) (by rw [f4]; exact q)
  | .bk l S2, h => fun ρ' H' σ' R E q => by
    obtain ⟨R4, E4, f4⟩ := unlock_ok v R1 R E
    exact h ρ' H' σ' R4 (E0.trans E4) (by rw [f4]; exact q)
  | .ct l S2, h => fun ρ' H' σ' R E q => by
    obtain ⟨R4, E4, f4⟩ := unlock_ok v R1 R E
    exact h ρ' H' σ' R4 (E0.trans E4) (by rw [f4]; exact q)
  | .rt l S2, h => fun ρ' H' σ' R E q => by
    obtain ⟨R4, E4, f4⟩ := unlock_ok v R1 R E
    exact h ρ' H' σ' R4 (E0.trans E4) (by rw [f4]; exact q)
  | .ex c l S2, h => fun ρ' H' σ' R E q => by
    obtain ⟨R4, E4, f4⟩ := unlock_ok v R1 R E
    exact h ρ' H' σ' R4 (E0.trans E4) (by rw [f4]; exact q)
  | .stuck, h => h
theorem for_reads {it : Loc → Store → Res Walked} {t : Tg} {body : Sv} (h : tS T W (sFor it t body) D σ H) : tFor (iD T W it) (gD T t) (tS T W body) D σ H := by
  obtain ⟨ρ, S, l, R, L, p⟩ := h
  refine ⟨ρ, S, l, R, L, ?_⟩
  unfold sFor sW at p
  cases e : it l S with
  | exc c S1 =>
    rw [e] at p
    exact fun ρ1 H1 R1 E1 => p ρ1 H1 σ R1 E1 (L.mono E1.pre E1.le)
  | stuck =>
    rw [e] at p
    exact p
  | ok w S1 =>
    rw [e] at p
    refine fun ρ1 H1 J Rl R1 E1 wk => ?_
    dsimp only at p
    have p1 := unl_post R1 E1 p
    generalize hr : forGo t body w.1 l (lockS w.2 S1) = fr at p1
    have L1 : LocOk T ρ1 (frz ρ1 (lockS w.2 S1) H1) l σ := by
      rw [(lock_ok w.2 R1).2]
      exact L.mono E1.pre E1.le
    refine ⟨fun i m σ H => m = w.1.length - i ∧ i ≤ w.1.length ∧ ∃ ρi Si li, Rel T ρi Si H ∧ Ext ρ1 (lockS w.2 S1) H1 ρi Si H ∧ LocOk T ρi (frz ρi Si H) li σ ∧ forGo t body (w.1.drop i) li Si = fr,
      ⟨_, rfl, Nat.zero_le _, _, _, _, Rl, Ext.refl, L1, hr⟩, ?_⟩
    rintro i m σi Hi ⟨rfl, hi, ρi, Si, li, Ri, Ei, Li, hgo⟩
    by_cases hlt : i < w.1.length
    · refine .inr ⟨wk.go ρi Si Hi Ri Ei i hlt, fun σ' H' => ∃ ρj Sj lj, Rel T ρj Sj H' ∧ Ext ρ1 (lockS w.2 S1) H1 ρj Sj H' ∧ LocOk T ρj (frz ρj Sj H') lj σ' ∧ forGo t body (w.1.drop (i + 1)) lj Sj = fr, fun σ' H' hh => ⟨w.1.length - (i + 1), by omega, rfl, hlt, hh⟩, fun x H' hy => ?_⟩
      obtain ⟨ρ', R', E', q'⟩ := wk.yld ρi Si Hi Ri Ei i w.1[i] (List.getElem?_eq_getElem hlt) x H' hy
      rw [List.drop_eq_getElem_cons hlt, forGo] at hgo
      refine ⟨ρ', Si, w.1[i], li, R', q', Li.mono E'.pre E'.le, ?_⟩
      cases ht : t.2 w.1[i] li with
      | none =>
        rw [ht] at hgo
        subst hgo
        exact p1.elim
      | some l1 =>
        rw [ht] at hgo
        dsimp only at hgo
        refine fun σ2 L2 _ => ⟨ρ', Si, l1, R', L2, ?_⟩
        have Ei' := Ei.trans E'
        cases hb : body l1 Si with
        | nx l2 S2 =>
          rw [hb] at hgo
          exact fun ρ3 H3 σ3 R3 E3 L3 => ⟨ρ3, S2, l2, R3, Ei'.trans E3, L3, hgo⟩
        | ct l2 S2 =>
          rw [hb] at hgo
          exact fun ρ3 H3 σ3 R3 E3 L3 => ⟨ρ3, S2, l2, R3, Ei'.trans E3, L3, hgo⟩
        | bk l2 S2 =>
          rw [hb] at hgo
          subst hgo
          exact fun ρ3 H3 σ3 R3 E3 L3 => p1 ρ3 H3 σ3 R3 (Ei'.trans E3) L3
        | rt v S2 =>
          rw [hb] at hgo
          subst hgo
          exact fun ρ3 H3 σ3 R3 E3 L3 => p1 ρ3 H3 σ3 R3 (Ei'.trans E3) L3
        | ex c l2 S2 =>
          rw [hb] at hgo
          subst hgo
          exact fun ρ3 H3 σ3 R3 E3 L3 => p1 ρ3 H3 σ3 R3 (Ei'.trans E3) L3
        | stuck =>
          rw [hb] at hgo
          subst hgo
          exact p1.elim
    · have ei : i = w.1.length := by omega
      refine .inl ⟨wk.stop ρi Si Hi Ri Ei i (by omega), ?_⟩
      rw [ei, List.drop_length, forGo] at hgo
      subst hgo
      exact p1 ρi Hi σi Ri Ei Li
theorem pds_for {tg iter : Expr} {body : List Stmt} {it : Loc → Store → Res Walked} {t : Tg} {mb : Sv} {pos : Pos} (hp : PassesOwn (model X.prog X.w) X.A X.env X.xe) (hc : X.calm = true) (hi : PI X tg iter (iD (ty X) W it)) (hg : PG X tg (gD (ty X) t)) (hb : PDSs X W body mb)
    (hs : ∀ x, foldedSetIterable iter X.env x = pure x) : PDS X W (.For tg iter body [] pos) (sFor it t mb) := PS_imp (ps_for hp hc hi hg hb hs) fun D σ H h => for_reads h
theorem while_reads {c : Tv} {body : Sv} {n : Nat} (h : tS T W (whGo c body n) D σ H) : tWhile (tDT T W c) (tS T W body) D σ H := by
  obtain ⟨ρ, S, l, R, L, p⟩ := h
  generalize hr : whGo c body n l S = fr at p
  refine ⟨fun m σ H' => ∃ ρi Si li, Rel T ρi Si H' ∧ Ext ρ S H ρi Si H' ∧ LocOk T ρi (frz ρi Si H') li σ ∧ whGo c body m li Si = fr, ⟨n, ρ, S, l, R, Ext.refl, L, hr⟩, ?_⟩
  rintro m σi Hi ⟨ρi, Si, li, Ri, Ei, Li, hgo⟩
  refine ⟨ρi, Si, li, Ri, Li, ?_⟩
  cases m with
  | zero =>
    rw [whGo] at hgo
    subst hgo
    exact p.elim
  | succ m =>
    rw [whGo] at hgo
    cases e : c li Si with
    | exc cc S1 =>
      rw [e] at hgo
      subst hgo
      exact fun ρ1 H1 R1 E1 => p ρ1 H1 σi R1 (Ei.trans E1) (Li.mono E1.pre E1.le)
    | stuck =>
      rw [e] at hgo
      subst hgo
      exact p.elim
    | ok b S1 =>
      rw [e] at hgo
      refine fun ρ1 H1 bb R1 E1 qb => ?_
      cases qb
      dsimp only at hgo
      have L1 := Li.mono E1.pre E1.le
      have Ei' := Ei.trans E1
      cases b with
      | false =>
        rw [if_neg (by decide)] at hgo ⊢
        subst hgo
        exact p ρ1 H1 σi R1 Ei' L1
      | true =>
        rw [if_pos rfl] at hgo ⊢
        refine ⟨fun σ' H' => ∃ ρj Sj lj, Rel T ρj Sj H' ∧ Ext ρ S H ρj Sj H' ∧ LocOk T ρj (frz ρj Sj H') lj σ' ∧ whGo c body m lj Sj = fr, fun σ' H' hh => ⟨m, Nat.lt_succ_self _, hh⟩, ρ1, S1, li, R1, L1, ?_⟩
        cases hb : body li S1 with
        | nx l2 S2 =>
          rw [hb] at hgo
          exact fun ρ3 H3 σ3 R3 E3 L3 => ⟨ρ3, S2, l2, R3, Ei'.trans E3, L3, hgo⟩
        | ct l2 S2 =>
          rw [hb] at hgo
          exact fun ρ3 H3 σ3 R3 E3 L3 => ⟨ρ3, S2, l2, R3, Ei'.trans E3, L3, hgo⟩
        | bk l2 S2 =>
          rw [hb] at hgo
          subst hgo
          exact fun ρ3 H3 σ3 R3 E3 L3 => p ρ3 H3 σ3 R3 (Ei'.trans E3) L3
        | rt v S2 =>
          rw [hb] at hgo
          subst hgo
          exact fun ρ3 H3 σ3 R3 E3 L3 => p ρ3 H3 σ3 R3 (Ei'.trans E3) L3
        | ex c l2 S2 =>
          rw [hb] at hgo
          subst hgo
          exact fun ρ3 H3 σ3 R3 E3 L3 => p ρ3 H3 σ3 R3 (Ei'.trans E3) L3
        | stuck =>
          rw [hb] at hgo
          subst hgo
          exact p.elim
theorem pds_while {c : Expr} {body : List Stmt} {n : Nat} {mc : Tv} {mb : Sv} {pos : Pos} (hp : PassesOwn (model X.prog X.w) X.A X.env X.xe) (hc : PDT X W c mc) (hb : PDSs X W body mb) : PDS X W (.While c body [] pos) (whGo mc mb n) :=
  PS_imp (ps_while hp hc hb) fun D σ H h => while_reads h
end
end FH
namespace FH
open L2 PySem PySem.Spec
section
variable {X : Cx} {W : WE} {T : Ty} {σ : St} {H : Hp}
/-! ### ranges and pairs walked -/
theorem rng_reads {tg : Expr} {m : Loc → Store → Res (List Val)} {R : It → Hp → Prop} (h : iD T W (evRange m) σ H R) : iRng1 (tDA T W m) σ H R ∨ iRng2 (tDA T W m) σ H R := by
  obtain ⟨ρ, S, l, R0, L, p⟩ := h
  unfold evRange at p
  cases e : m l S with
  | exc c S1 =>
    rw [e] at p
    exact .inl ⟨ρ, S, l, R0, L, by rw [e]; exact p⟩
  | stuck =>
    rw [e] at p
    exact p.elim
  | ok vs S1 =>
    rw [e] at p
    dsimp only [Res.bind] at p
    split at p
    · split at p
      · rename_i j hj
        refine .inl ⟨ρ, S, l, R0, L, ?_⟩
        rw [e]
        refine fun ρ1 H1 xs R1 E1 q => ?_
        obtain ⟨x, rfl, qx⟩ : ∃ x, xs = [x] ∧ RepV T ρ1 (frz ρ1 S1 H1) x (.d (.int j)) := by
          cases q with
          | cons a b =>
            cases b
            exact ⟨_, rfl, a⟩
        refine ⟨j, by rw [qx.int_], by omega, by omega, ?_⟩
        have := p ρ1 H1 (Itr 0 (j - 0).toNat) R1 R1 E1 walk_rng
        simpa using this
      · exact p.elim
    · split at p
      · rename_i i j hj
        refine .inr ⟨ρ, S, l, R0, L, ?_⟩
        rw [e]
        refine fun ρ1 H1 xs R1 E1 q => ?_
        obtain ⟨x, y, rfl, qx, qy⟩ : ∃ x y, xs = [x, y] ∧ RepV T ρ1 (frz ρ1 S1 H1) x (.d (.int i)) ∧ RepV T ρ1 (frz ρ1 S1 H1) y (.d (.int j)) := by
          cases q with
          | cons a b =>
            cases b with
            | cons a' b' =>
              cases b'
              exact ⟨_, _, rfl, a, a'⟩
        exact ⟨i, j, by rw [qx.int_, qy.int_], ⟨by omega, by omega, by omega, by omega⟩, p ρ1 H1 _ R1 R1 E1 walk_rng⟩
      · exact p.elim
    · exact p.elim
def nStar : Expr → Bool
  | .Starred _ _ => false
  | _ => true
theorem star_cons {e : Expr} {es : List Expr} {env : Env} (h : nStar e = true) : starEach (e :: es) env = (false, eval e env) :: starEach es env := by
  cases e with
  | Starred x p => cases h
  | _ => rfl
theorem star_nil {env : Env} : starEach [] env = [] := rfl
theorem nostars {pos : Pos} {env : Env} : ∀ {es : List Expr}, es.all nStar = true → (backTo pos (starEach es env)).any (·.1) = false
  | [], _ => rfl
  | e :: es, h => by
    rw [List.all_cons, Bool.and_eq_true] at h
    rw [star_cons h.1]
    have ih := nostars (pos := pos) (env := env) h.2
    show (backTo pos ((false, eval e env) :: starEach es env)).any (·.1) = false
    simpa [backTo] using ih
theorem pda_cons' {e : Expr} {es : List Expr} {a : Ev} {r : Loc → Store → Res (List Val)} (hs : nStar e = true) (ha : PD X W e a) (hr : PDA X W es r) : PDA X W (e :: es) (evCons a r) := pda_cons (fun x p z => by rw [z] at hs; cases hs) ha hr
theorem pid_range1 {tg a : Expr} {m : Loc → Store → Res (List Val)} {p pos : Pos} (hg : Gl X "range") (hm : X.mg "range" = none) (ha : PDA X W [a] m) (hs : nStar a = true)
    (h1 : ∀ l S vs S', m l S = .ok vs S' → vs.length = 1) : PI X tg (.Call (.Name "range" p) [a] [] pos) (iD (ty X) W (evRange m)) := by
  refine pi_imp (pi_range1 hg hm ha (star_cons hs)) fun σ H R h => ?_
  rcases rng_reads (tg := tg) h with h | h
  · exact h
  · obtain ⟨ρ, S, l, R0, L, q⟩ := h
    refine ⟨ρ, S, l, R0, L, ?_⟩
    cases e : m l S with
    | exc c S1 =>
      rw [e] at q
      exact q
    | stuck =>
      rw [e] at q
      exact q
    | ok vs S1 =>
      rw [e] at q
      refine fun ρ1 H1 xs R1 E1 z => ?_
      obtain ⟨i, j, ex, _⟩ := q ρ1 H1 xs R1 E1 z
      have lx := pr_len z
      rw [h1 _ _ _ _ e, ex] at lx
      cases lx
theorem zip_reads {m : Loc → Store → Res (List Val)} {R : It → Hp → Prop} (h : iD T W (evZip m) σ H R) : RZ.iZipA T.K (tDA T W m) σ H R := by
  obtain ⟨ρ, S, l, R0, L, p⟩ := h
  unfold evZip at p
  refine ⟨ρ, S, l, R0, L, ?_⟩
  cases e : m l S with
  | exc c S1 =>
    rw [e] at p
    exact p
  | stuck =>
    rw [e] at p
    exact p.elim
  | ok vs S1 =>
    rw [e] at p
    dsimp only [Res.bind] at p
    refine fun ρ1 H1 xs R1 E1 q => ?_
    split at p
    · rename_i as bs
      cases q with
      | cons a b =>
        cases b with
        | cons a' b' =>
          cases b'
          cases (show Rep T _ _ _ from a) with
          | lst f1 r1 =>
            cases (show Rep T _ _ _ from a') with
            | lst f2 r2 => exact ⟨_, _, _, _, rfl, .inl ⟨SqL.of (frz_le _ _ f1), SqL.of (frz_le _ _ f2), p ρ1 H1 _ R1 R1 E1 (walk_zipL f1 f2 r1 r2)⟩⟩
    · rename_i as bs
      cases q with
      | cons a b =>
        cases b with
        | cons a' b' =>
          cases b'
          cases (show Rep T _ _ _ from a) with
          | tup f1 r1 =>
            cases (show Rep T _ _ _ from a') with
            | tup f2 r2 => exact ⟨_, _, _, _, rfl, .inr ⟨SqT.of (frz_le _ _ f1), SqT.of (frz_le _ _ f2), p ρ1 H1 _ R1 R1 E1 (walk_zipT f1 f2 r1 r2)⟩⟩
    · exact p.elim
theorem pid_zip {e e2 : Expr} {m : Loc → Store → Res (List Val)} {p pos tpos : Pos} {elts : List Expr} {kk : Nat} (hg : Gl X "zip") (hm : X.mg "zip" = none) (ha : PDA X W [e, e2] m) (h1 : nStar e = true) (h2 : nStar e2 = true) :
    PI X (.Tuple elts kk tpos) (.Call (.Name "zip" p) [e, e2] [] pos) (iD (ty X) W (evZip m)) :=
  pi_imp (RZ.pi_zipA hg hm ha (star_cons h1) (nostars (by rw [List.all_cons, h2]; rfl))) fun σ H R h => zip_reads h
/-! ### built-in functions -/
theorem pd_callB {x : Str} {p pos : Pos} {e : Expr} {es : List Expr} {m : Loc → Store → Res (List Val)} {id : String} {g : OpL} (hc : CallR X (.builtin id) (rL (ty X) g)) (hg : Gl X x) (hm : X.mg x = none) (hv : bootBuiltins x = some (.builtin id)) (ha : PDA X W (e :: es) m) (hst : (e :: es).all nStar = true)
    (hn : x ≠ "__name__") (hdb : (x == ("__debug__" : Str)) = false) : PD X W (.Call (.Name x p) (e :: es) [] pos) (evL g m) := by
  rw [List.all_cons, Bool.and_eq_true] at hst
  exact PE_imp (pe_callB hc hg hm hv ha hn hdb (star_cons hst.1) (nostars hst.2)) fun _ _ _ h => seqL h
theorem pd_callTy {x : Str} {p pos : Pos} {e : Expr} {es : List Expr} {m : Loc → Store → Res (List Val)} {T : String} {g : OpL} (hc : CallR X (.type T) (rL (ty X) g)) (hg : Gl X x) (hm : X.mg x = none) (hv : bootBuiltins x = some (.type T)) (ha : PDA X W (e :: es) m) (hst : (e :: es).all nStar = true)
    (hn : x ≠ "__name__") (hdb : (x == ("__debug__" : Str)) = false) : PD X W (.Call (.Name x p) (e :: es) [] pos) (evL g m) := by
  rw [List.all_cons, Bool.and_eq_true] at hst
  exact PE_imp (pe_callTy hc hg hm hv ha hn hdb (star_cons hst.1) (nostars hst.2)) fun _ _ _ h => seqL h
/-! ### own functions -/
abbrev Fn := List Val → Store → Res Val
abbrev WF := XK → Str → Hp → Prop
def spF (T : Ty) (Wf : WF) (n : Nat) (f : Fn) : Sp := fun vs H Q E => ∃ ρ S as, Rel T ρ S H ∧ RepVs T ρ (frz ρ S H) vs as ∧ as.length = n ∧ PostG T (fun c _ H' => Wf E c H') [] (relV T) ρ S H (f as S) Q
def wf0 : WF := fun _ _ _ => False
def wfX (T : Ty) : WF := fun E c H => ∀ C, T.mg c = some (.ref C) → E (.ref C) none H
@[simp] def evCall (n : Nat) (f : Fn) (m : Loc → Store → Res (List Val)) : Ev := fun l S => (m l S).bind fun vs S1 => if vs.length = n then f vs S1 else .stuck
theorem call_reads {Wf : WF} {n : Nat} {f : Fn} {m : Loc → Store → Res (List Val)} {Q : VK} (hW : ∀ c H, W c σ H → Wf (fun cls d H => wx T W cls d σ H) c H) (h : tD T W (evCall n f m) σ H Q) : tCallS (spF T Wf n f) (fun σ cls d H => wx T W cls d σ H) (tDA T W m) σ H Q := by
  obtain ⟨ρ, S, l, R, L, p⟩ := h
  refine ⟨ρ, S, l, R, L, p.bind.imp fun xs H1 ⟨ρ1, S1, vs, R1, E1, q, _, p1⟩ => ?_⟩
  split at p1
  · rename_i hl
    refine ⟨ρ1, S1, vs, R1, q, hl, ?_⟩
    cases e : f vs S1 with
    | ok v S2 =>
      rw [e] at p1
      exact p1
    | exc c S2 =>
      rw [e] at p1
      exact fun ρ' H' R' E' => hW c H' (p1 ρ' H' R' E')
    | stuck =>
      rw [e] at p1
      exact p1
  · exact p1.elim
theorem pd_call {CX : CXT} {k : Nat} {f : Addr} {fd : FuncData} {ps : List Str} {Wf : WF} {n : Nat} {g : Fn} {x : Str} {p pos : Pos} {e : Expr} {es : List Expr} {m : Loc → Store → Res (List Val)} (F : FnOk X.prog X.w X.K X.mg X.base CX k f fd ps (spF (ty X) Wf n g)) (hr : Room k X.A) (hg : Gl X x) (hm : X.mg x = some (.ref f)) (hk : PySem.W.keepIn X.K (.ref f) = true) (hb : Binds X.K fd ps [])
    (hx : ∀ σ, PassesAt CX X σ (fun cls d H => wx (ty X) W cls d σ H)) (hW : ∀ σ c H, W c σ H → Wf (fun cls d H => wx (ty X) W cls d σ H) c H)
    (ha : PDA X W (e :: es) m) (hst : (e :: es).all nStar = true) (hdb : (x == ("__debug__" : Str)) = false) : PD X W (.Call (.Name x p) (e :: es) [] pos) (evCall n g m) := by
  rw [List.all_cons, Bool.and_eq_true] at hst
  exact PE_imp (pe_callS F hr hg hm hk hb hx ha hdb (star_cons hst.1) (nostars hst.2)) fun σ _ _ h => call_reads (hW σ) h
theorem pe_callS0 {CX : CXT} {k : Nat} {f : Addr} {fd : FuncData} {ps : List Str} {sp : Sp} {E : St → XK} {x : Str} {p pos : Pos} (F : FnOk X.prog X.w X.K X.mg X.base CX k f fd ps sp) (hr : Room k X.A) (hg : Gl X x) (hm : X.mg x = some (.ref f)) (hk : PySem.W.keepIn X.K (.ref f) = true) (hb : Binds X.K fd ps []) (hx : ∀ σ, PassesAt CX X σ (E σ))
    (hdb : (x == ("__debug__" : Str)) = false) : PE X (.Call (.Name x p) [] [] pos) (tCallS sp E tNil) := by
  refine ⟨fun pins s σ H Q I h => ?_⟩
  refine wpAny_Call_Name_kw (ld_glob I hg hm ?_ hdb)
  exact PySem.W.callWith_K0 I.kIn hk (run_fnS (us := []) F hr hb (hx σ) I .nil h)
theorem pd_call0 {CX : CXT} {k : Nat} {f : Addr} {fd : FuncData} {ps : List Str} {Wf : WF} {n : Nat} {g : Fn} {x : Str} {p pos : Pos} (F : FnOk X.prog X.w X.K X.mg X.base CX k f fd ps (spF (ty X) Wf n g)) (hr : Room k X.A) (hg : Gl X x) (hm : X.mg x = some (.ref f)) (hk : PySem.W.keepIn X.K (.ref f) = true) (hb : Binds X.K fd ps [])
    (hx : ∀ σ, PassesAt CX X σ (fun cls d H => wx (ty X) W cls d σ H)) (hW : ∀ σ c H, W c σ H → Wf (fun cls d H => wx (ty X) W cls d σ H) c H) (hdb : (x == ("__debug__" : Str)) = false) : PD X W (.Call (.Name x p) [] [] pos) (evCall n g evNil) :=
  PE_imp (pe_callS0 F hr hg hm hk hb hx hdb) fun σ H Q h => by
    obtain ⟨ρ, S, l, R, L, p⟩ := call_reads (hW σ) h
    exact p ρ H [] R Ext.refl .nil
end
/-! ### a def's end -/
noncomputable def finR (keep : Bool) (S : Store) (v : Val) (S' : Store) : Res Val := if keep = true then .ok v S' else match v with
  | .ref n => if S.length ≤ n then (match freezeV v S' with
      | some (v', S'') => ofO (popO S v' S'')
      | none => .stuck) else ofO (popO S v S')
  | v => ofO (popO S v S')
noncomputable def exitR (keep : Bool) (S : Store) : SR → Res Val
  | .nx _ S' => finR keep S (.d .none) S'
  | .rt v S' => finR keep S v S'
  | .ex c _ S' => if keep = true then .exc c S' else (match popO S (.d .none) S' with
      | some (_, S'') => .exc c S''
      | none => .stuck)
  | _ => .stuck
noncomputable def fnB (keep : Bool) (n : Nat) (body : Sv) : Fn := fun as S => exitR keep S (body (as.map some ++ List.replicate (n - as.length) none) S)
theorem ofO_post {T : Ty} {W : WE} {σ : St} {ρ : List Addr} {S : Store} {H : Hp} {Q : VK} {v : Val} {S' : Store} (h : PostG T W σ (relV T) ρ S H (ofO (some (v, S'))) Q) : ∀ (ρ' : List Addr) (H' : Hp) (x : V), Rel T ρ' S' H' → Ext ρ S H ρ' S' H' → RepV T ρ' (frz ρ' S' H') x v → Q x H' := h
theorem finR_ok {T : Ty} {W : WE} {σ : St} {keep : Bool} {ρ ρ' : List Addr} {S S' : Store} {H H' : Hp} {Q : VK} {v : Val} {x : V} (R : Rel T ρ S H) (R' : Rel T ρ' S' H') (E : Ext ρ S H ρ' S' H') (q : RepV T ρ' (frz ρ' S' H') x v) (h : PostG T W σ (relV T) ρ S H (finR keep S v S') Q) : Q x H' := by
  have pop : ∀ {v : Val} {S' : Store} {ρ' : List Addr}, Rel T ρ' S' H' → Ext ρ S H ρ' S' H' → RepV T ρ' (frz ρ' S' H') x v → PostG T W σ (relV T) ρ S H (ofO (popO S v S')) Q → Q x H' := fun {v S' ρ'} R' E q h => by
    cases e : popO S v S' with
    | none =>
      rw [e] at h
      exact h.elim
    | some z =>
      obtain ⟨v', S''⟩ := z
      rw [e] at h
      obtain ⟨R2, E2, q2⟩ := popO_ok R R' E q e
      exact ofO_post h ρ H' x R2 E2 q2
  unfold finR at h
  split at h
  · exact h ρ' H' x R' E q
  · split at h
    · split at h
      · split at h
        · rename_i v' S'' e
          obtain ⟨R2, E2, q2⟩ := freezeV_ok R' q e
          exact pop R2 (E.trans E2) q2 h
        · exact h.elim
      · exact pop R' E q h
    · exact pop R' E q h
theorem exit_reads {T : Ty} {Wf : WF} {E : XK} {keep : Bool} {ρ : List Addr} {S : Store} {H : Hp} {Q : VK} (R : Rel T ρ S H) {r : SR} (h : PostG T (fun c _ H' => Wf E c H') [] (relV T) ρ S H (exitR keep S r) Q) : PostR T (fun c _ H' => Wf E c H') { nx := fun _ H' => Q .non H', rt := Q } ρ S H r := by
  cases r with
  | nx l S' => exact fun ρ' H' σ' R' E' _ => finR_ok R R' E' (v := .d .none) (x := .non) Rep.non h
  | rt v S' => exact fun ρ' H' x R' E' q => finR_ok R R' E' q h
  | bk l S' => exact h.elim
  | ct l S' => exact h.elim
  | stuck => exact h.elim
  | ex c l S' =>
    refine fun ρ' H' σ' R' E' L' => ?_
    rw [exitR] at h
    split at h
    · exact h ρ' H' R' E'
    · split at h
      · rename_i v' S'' e
        obtain ⟨R2, E2, q2⟩ := popO_ok R R' E' (v := .d .none) (x := .non) Rep.non e
        exact h ρ H' R2 E2
      · exact h.elim
theorem start_ok {T : Ty} {ρ : List Addr} {F : Hp} {N : List Str} {vs : List V} {as : List Val} (q : RepVs T ρ F vs as) : LocOk T ρ F (as.map some ++ List.replicate (N.length - as.length) none) (L2.start N vs) := by
  have hl := pr_len q
  refine ⟨by simp [L2.start, hl], fun i v e => ?_⟩
  unfold L2.start
  by_cases hi : i < as.length
  · rw [List.getElem?_append_left (by simpa using hi), List.getElem?_map] at e
    cases e2 : as[i]? with
    | none =>
      rw [e2] at e
      cases e
    | some a =>
      rw [e2] at e
      cases e
      obtain ⟨x, g1, g2⟩ := pr_getR q e2
      exact ⟨x, by rw [List.getElem?_append_left (by simp; omega), List.getElem?_map, g1]; rfl, g2⟩
  · rw [List.getElem?_append_right (by simpa using hi), List.getElem?_replicate] at e
    split at e <;> cases e
theorem fn_ok0 {P : Program} {w : World} {K : PySem.W.Frag} {mg : Str → Option Value} {base : Heap} {x qual : Str} {params : Arguments} {body : List Stmt} {scope : Scope} {kws : List (Str × V)} {f : Addr} {fd : FuncData} {N ps : List Str} {k n : Nat} {keep : Bool} {mb : Sv}
    (F : FunD K x qual params body scope [] kws f fd) (Sc : FnScope N ps scope) (hn : ps.length = n)
    (hbody : ∀ (cdv : Value) (A : Around) (outer : List Env) (s : Shared) (H : Hp) (E : XK), Room k (A.deeper (PyProof.Rows.envOfC qual scope s.heap.objs.size f cdv)) → PDSs (cxOf CX0 P w K mg base N qual scope f cdv A outer s H E).nox W0 body mb) :
    FnOk P w K mg base CX0 (k + 1) f fd ps (spF ⟨w, K, mg⟩ wf0 n (fnB keep N.length mb)) := by
  refine F.ok Sc (fun vs H Q E h => ?_) (fun cdv A outer s H vs Q E hr h => ⟨_, PSs.nox (hbody cdv A outer s H E hr), ?_⟩)
  · obtain ⟨ρ, S, as, R, q, hl, _⟩ := h
    rw [pr_len q, hl, hn]
  · obtain ⟨ρ, S, as, R, q, hl, p⟩ := h
    exact ⟨ρ, S, _, R, start_ok q, exit_reads (Wf := wf0) (E := E) R p⟩
theorem fn_stuck {P : Program} {w : World} {K : PySem.W.Frag} {mg : Str → Option Value} {base : Heap} {CX : CXT} {k : Nat} {f : Addr} {fd : FuncData} {ps : List Str} {T : Ty} {Wf : WF} {n : Nat} {g : Fn} (h : ∀ as S, g as S = .stuck) : FnOk P w K mg base CX k f fd ps (spF T Wf n g) :=
  ⟨fun vs H Q E ⟨ρ, S, as, _, _, _, p⟩ => by
    rw [h] at p
    exact p.elim, fun A outer s H args us vs Q E _ _ _ _ ⟨ρ, S, as, _, _, _, p⟩ => by
    rw [h] at p
    exact p.elim⟩
end FH
/-! sets of tuples of whole numbers and texts: what HandS.TupSets has for whole numbers alone, turned to mixed keys -/
namespace FH
open L2 PySem PySem.Spec PyProof.Rows
abbrev mHash (P : Program) (w : World) (k : List Key) : Int := tupleKeyHash (mixKind P w) k
abbrev IsM (P : Program) (w : World) (h : Heap) (k : List Key) (a : Addr) : Prop := IsTupleKey (mixKind P w) h k a
def MixV (v : Value) : Prop := (∃ i t, v = Value.int i t) ∨ ∃ x t, v = Value.str x t
theorem ofAClass_v (n : Nat) {v : Value} (h : MixV v) : ofAClassStatement n v = pure false := by
  rcases h with ⟨i, t, rfl⟩ | ⟨x, t, rfl⟩
  · cases n <;> rfl
  · cases n <;> rfl
theorem hashBy_v (n : Nat) {v : Value} (h : MixV v) : ∃ b, hashByValue n v = pure b := by
  rcases h with ⟨i, t, rfl⟩ | ⟨x, t, rfl⟩
  · exact ⟨true, by cases n <;> rfl⟩
  · exact ⟨false, by cases n <;> rfl⟩
section
variable {P : Program} {w : World} {A : Around} {E : Value → Shared → Prop} {s : Shared}
theorem items_mix {k : List Key} {vs : List Value} (h : ItemsAre (mixKind P w) k vs) : ∀ v ∈ vs, MixV v := by
  induction h with
  | nil => exact fun v hv => by cases hv
  | @cons k0 u ks us h1 _ ih =>
    intro v hv
    rcases List.mem_cons.mp hv with e | hv
    · rw [e]
      rcases keyIs_shape h1 with ⟨i, t, _, e2⟩ | ⟨x, t, _, e2⟩
      · exact .inl ⟨i, t, e2⟩
      · exact .inr ⟨x, t, e2⟩
    · exact ih v hv
theorem ofAClass_mix {k : List Key} {b : Addr} {Q : Bool → Shared → Prop} (hk : IsM P w s.heap k b) (h : Q false s) : wpAny (model P w) A (ofAClassStatement 8 (.ref b)) Q E s := by
  have hT := hk.typeIs
  obtain ⟨o, items, n, ho, _, hd, hi⟩ := hk
  unfold ofAClassStatement
  refine wpAny_bind (wpAny_typeOf hT ?_)
  dsimp only
  have e : (("tuple" : String) == "tuple") = true := by decide
  simp only [e, if_true, Bool.not_true, Bool.false_eq_true, if_false]
  try refine wpAny_bind (wpAny_pure ?_)
  try simp only [Bool.not_true, Bool.false_eq_true, if_false]
  show wpAny _ _ (seqItems? (.ref b) >>= _) _ _ s
  refine wpAny_bind (wpAny_seqItems ho hd ?_)
  dsimp only
  refine wpAny_bind ?_
  show wpAny _ _ (forIn items _ _) _ _ s
  rw [← Array.forIn_toList]
  refine wpAny_forIn_list _ (fun rest r s' => r.1 = none ∧ s' = s ∧ ∀ v ∈ rest, MixV v) _ ?_ ?_ _ _ ⟨rfl, rfl, items_mix hi⟩
  · rintro v rest r s' ⟨hr, rfl, hall⟩
    rw [ofAClass_v _ (hall v List.mem_cons_self)]
    refine wpAny_bind (wpAny_pure ?_)
    simp only [Bool.false_eq_true, if_false]
    exact wpAny_pure ⟨rfl, rfl, fun u hu' => hall u (List.mem_cons_of_mem _ hu')⟩
  · rintro ⟨r1, r2⟩ s' ⟨hr, rfl, _⟩
    simp only at hr
    subst hr
    exact wpAny_pure h
theorem hashBy_mix {k : List Key} {b : Addr} {Q : Bool → Shared → Prop} (hk : IsM P w s.heap k b) (h : ∀ c, Q c s) : wpAny (model P w) A (hashByValue 8 (.ref b)) Q E s := by
  have hT := hk.typeIs
  obtain ⟨o, items, n, ho, _, hd, hi⟩ := hk
  unfold hashByValue
  refine wpAny_bind (wpAny_specialOf hT F.slot_tuple_hash.lookup ?_)
  show wpAny _ _ (seqItems? (.ref b) >>= _) _ _ s
  refine wpAny_bind (wpAny_seqItems ho hd ?_)
  refine wpAny_bind ?_
  show wpAny _ _ (forIn items _ _) _ _ s
  rw [← Array.forIn_toList]
  refine wpAny_forIn_list _ (fun rest r s' => s' = s ∧ ∀ v ∈ rest, MixV v) _ ?_ ?_ _ _ ⟨rfl, items_mix hi⟩
  · rintro v rest r s' ⟨rfl, hall⟩
    obtain ⟨c, e⟩ := hashBy_v 7 (hall v List.mem_cons_self)
    rw [e]
    refine wpAny_bind (wpAny_pure ?_)
    cases c with
    | true =>
      simp only [Bool.not_true, Bool.false_eq_true, if_false]
      exact wpAny_pure ⟨rfl, fun u z => hall u (List.mem_cons_of_mem _ z)⟩
    | false =>
      simp only [Bool.not_false, if_true]
      exact wpAny_pure (wpAny_pure (h false))
  · rintro ⟨r1, r2⟩ s' ⟨rfl, _⟩
    cases r1 with
    | none => exact wpAny_pure (h true)
    | some c => exact wpAny_pure (h c)
/-- a search among tuples shows nothing -/
theorem seen_mix {k : List Key} {b : Addr} {Q : Bool → Shared → Prop} (hk : IsM P w s.heap k b) {ys : List Value} (hy : ∀ y ∈ ys, ∃ k' c, y = Value.ref c ∧ IsM P w s.heap k' c) (h : Q false s) :
    wpAny (model P w) A (searchCouldBeSeen (.ref b) ys) Q E s := by
  unfold searchCouldBeSeen
  refine wpAny_bind ?_
  refine wpAny_forIn_list _ (fun rest r s' => r.1 = none ∧ s' = s ∧ ∀ y ∈ rest, ∃ k' c, y = Value.ref c ∧ IsM P w s.heap k' c) _ ?_ ?_ _ _ ⟨rfl, rfl, hy⟩
  · rintro v rest r s' ⟨hr, rfl, hall⟩
    obtain ⟨k', c, rfl, hc⟩ := hall v List.mem_cons_self
    have rest' : ∀ y ∈ rest, ∃ k' c, y = Value.ref c ∧ IsM P w s'.heap k' c := fun u hu' => hall u (List.mem_cons_of_mem _ hu')
    dsimp only
    by_cases hv : (b == c || (carriedByValue (.ref b) && carriedByValue (.ref c))) = true
    · refine wp_if_pos hv ?_
      exact wpAny_pure ⟨rfl, rfl, rest'⟩
    · refine wp_if_neg hv ?_
      refine wpAny_bind (wpAny_eqIsQuiet_tuple hk ?_)
      simp only [Bool.not_true, Bool.false_eq_true, if_false]
      refine wpAny_bind (wpAny_eqIsQuiet_tuple hc ?_)
      simp only [Bool.not_true, Bool.false_eq_true, if_false]
      refine wpAny_bind (ofAClass_mix hk ?_)
      simp only [Bool.false_eq_true, if_false]
      refine wpAny_bind (ofAClass_mix hc ?_)
      simp only [Bool.false_eq_true, if_false]
      exact wpAny_pure ⟨rfl, rfl, rest'⟩
  · rintro ⟨r1, r2⟩ s' ⟨hr, rfl, _⟩
    simp only at hr
    subst hr
    exact wpAny_pure h

/-! ### the set of tuples -/
def rowsM (P : Program) (w : World) (L : List (Addr × List Key)) : List (Int × Value) := L.map fun p => (mHash P w p.2, Value.ref p.1)
structure SetMR (P : Program) (w : World) (h : Heap) (a : Addr) (L : List (Addr × List Key)) (es : Array (Int × Value)) (ep : Nat) (t : SetTable) : Prop where
  ob : ∃ o, h.get? a = some o ∧ o.ExactSet ∧ o.data = .set es ep t
  rows : es.toList = rowsM P w L
  tab : TabOk t (L.map fun p => mHash P w p.2)
  nd : (L.map (·.2)).Nodup
  tup : ∀ p ∈ L, IsM P w h p.2 p.1
  led : w.params.followText "set-order" = true ∨ t.led = true
  room : L.length * 5 < t.mask * 3
  few : L.length < 64
variable {a : Addr} {L : List (Addr × List Key)} {es : Array (Int × Value)} {ep : Nat} {t : SetTable}
theorem SetMR.size (R : SetMR P w s.heap a L es ep t) : es.size = L.length := by
  have h := congrArg List.length R.rows
  unfold rowsM at h
  rw [Array.length_toList, List.length_map] at h
  exact h
theorem SetMR.fits (R : SetMR P w s.heap a L es ep t) : t.fits es.size = true := by
  have h1 := R.tab.sz
  rw [List.length_map] at h1
  have h2 := R.size
  have h3 := R.room
  unfold SetTable.fits SetTable.fill
  rw [R.tab.dm, Bool.and_eq_true, beq_iff_eq, decide_eq_true_eq]
  show t.place.size = es.size ∧ t.place.size + 0 ≤ t.mask
  omega
theorem SetMR.entry (R : SetMR P w s.heap a L es ep t) {i : Nat} {p : Addr × List Key} (h : L[i]? = some p) : es[i]? = some (mHash P w p.2, Value.ref p.1) := by
  rw [← Array.getElem?_toList, R.rows]
  unfold rowsM
  rw [List.getElem?_map, h] <;> rfl
theorem SetMR.gw (R : SetMR P w s.heap a L es ep t) : ¬ t.gaveWay = true := by
  unfold SetTable.gaveWay
  rw [mask_odd R.tab.mok]
  decide
/-- THE SEARCH: from the c-th step of the way on -/
theorem seekM (R : SetMR P w s.heap a L es ep t) {x : Addr} {k : List Key} (hx : IsM P w s.heap k x) (hu : A.units < cLine) {K : Nat} (hKf : K < 10 * SetTable.turns t.mask)
    (hK : way t.mask (mHash P w k) K ∉ t.place.toList) (hKb : ∀ c, c < K → way t.mask (mHash P w k) c ∈ t.place.toList) {Q : SetFound → Shared → Prop}
    (hin : k ∈ L.map (·.2) → Q (.there none) s) (hout : k ∉ L.map (·.2) → Q (.free (way t.mask (mHash P w k) K) false) s) :
    ∀ (f c : Nat) (stand : Option SetTable.Probe), stand.getD (t.probeStart (mHash P w k)) = nth t.mask (runAt t.mask (SetTable.bits (mHash P w k) % (t.mask + 1)) (SetTable.bits (mHash P w k))) c → c ≤ K → K - c < f →
      (∀ (i : Nat) p, L[i]? = some p → p.2 = k → ∃ c', c ≤ c' ∧ c' < K ∧ t.place.toList[i]? = some (way t.mask (mHash P w k) c')) →
      wpAny (model P w) A (setSearchFrom a (.ref x) (mHash P w k) true f stand) Q E s
  | 0, c, stand, _, _, hf, _ => absurd hf (Nat.not_lt_zero _)
  | f + 1, c, stand, hst, hc, hf, hre => by
    obtain ⟨o, ho, hex, hd⟩ := R.ob
    rw [setSearchFrom_succ]
    refine wpAny_bind (wpAny_setState_of ho hd R.fits ?_)
    dsimp only
    refine wp_if_neg R.gw ?_
    try refine wpAny_bind (wpAny_pure ?_)
    have hnd : (nth t.mask (runAt t.mask (SetTable.bits (mHash P w k) % (t.mask + 1)) (SetTable.bits (mHash P w k))) c).dummy = none := by
      have key : ∀ (n : Nat) (p : SetTable.Probe), p.dummy = none → (nth t.mask p n).dummy = none := by
        intro n
        induction n with
        | zero => intro p h; exact h
        | succ n ih =>
          intro p h
          refine ih (adv t.mask p) ?_
          unfold adv
          split <;> exact h
      exact key c _ rfl
    have sh : ∀ q, nth t.mask (nth t.mask (runAt t.mask (SetTable.bits (mHash P w k) % (t.mask + 1)) (SetTable.bits (mHash P w k))) c) q = nth t.mask (runAt t.mask (SetTable.bits (mHash P w k) % (t.mask + 1)) (SetTable.bits (mHash P w k))) (c + q) := fun q => (nth_add t.mask c _ q).symm
    have e1 : ∀ q, (nth t.mask (nth t.mask (runAt t.mask (SetTable.bits (mHash P w k) % (t.mask + 1)) (SetTable.bits (mHash P w k))) c) q).j = way t.mask (mHash P w k) (c + q) := fun q => congrArg SetTable.Probe.j (sh q)
    have spec := go_spec t R.tab.ris R.tab.dm (fun i => (es[i]?.map (·.1)).getD 0) (mHash P w k) (10 * SetTable.turns t.mask) (K - c) _ hnd (by omega)
      (fun q hq => by rw [e1]; exact hKb (c + q) (by omega)) (by rw [e1, show c + (K - c) = K by omega]; exact hK)
    have hashAt : ∀ (i : Nat) p, L[i]? = some p → (fun i => (es[i]?.map (·.1)).getD 0) i = mHash P w p.2 := fun i p hp => by
      show (es[i]?.map (·.1)).getD 0 = _
      rw [R.entry hp] <;> rfl
    rcases spec with ⟨q, i, hq, hi, hh, hno, hpr⟩ | ⟨hno, hpr⟩
    · -- a candidate
      have hpr' : t.probe (fun i => (es[i]?.map (·.1)).getD 0) (mHash P w k) (stand.getD (t.probeStart (mHash P w k))) = some (.candidate (way t.mask (mHash P w k) (c + q)) i (nth t.mask (runAt t.mask (SetTable.bits (mHash P w k) % (t.mask + 1)) (SetTable.bits (mHash P w k))) (c + (q + 1)))) := by
        rw [hst, ← e1, ← sh]
        exact hpr
      rw [hpr']
      dsimp only
      rw [e1] at hi
      -- the entry
      have hil : i < L.length := by
        have h1 : i < t.place.toList.length := (List.getElem?_eq_some_iff.mp hi).1
        have h2 := R.tab.sz
        rw [List.length_map] at h2
        rw [Array.length_toList] at h1
        omega
      have hp : L[i]? = some L[i] := List.getElem?_eq_getElem hil
      generalize hpe : L[i] = p at hp
      have hmem : p ∈ L := List.mem_of_getElem? hp
      have hpt := R.tup p hmem
      have rest : wpAny (model P w) A (searchRest a (.ref x) (mHash P w k) true f es t (way t.mask (mHash P w k) (c + q)) i (nth t.mask (runAt t.mask (SetTable.bits (mHash P w k) % (t.mask + 1)) (SetTable.bits (mHash P w k))) (c + (q + 1)))) Q E s := by
        unfold searchRest
        rw [R.entry hp]
        dsimp only
        refine wpAny_bind (wpAny_holding (wpAny_eqBool_tuple hu hpt hx ?_))
        refine wpAny_bind (wpAny_setState_of ho hd R.fits ?_)
        dsimp only
        by_cases hkk : p.2 = k
        · refine wp_if_pos (by simp [hkk]) ?_
          refine wpAny_pure (hin ?_)
          exact List.mem_map.mpr ⟨p, hmem, hkk⟩
        · refine wp_if_neg (by simp [hkk]) ?_
          try refine wpAny_bind (wpAny_pure ?_)
          rw [sameMem]
          dsimp only
          have hsl : t.slot (way t.mask (mHash P w k) (c + q)) = .live i := slot_live R.tab.ris hi
          simp only [if_true, hsl, R.entry hp]
          refine wpAny_bind (wpAny_isSame_ref_self (wpAny_bind (wpAny_pure ?_)))
          simp only [if_true]
          refine wp_if_neg (by simp [hkk]) ?_
          refine seekM R hx hu hKf hK hKb hin hout f (c + (q + 1)) _ rfl (by omega) (by omega) fun i0 p0 h0 hk0 => ?_
          obtain ⟨c', a1, a2, a3⟩ := hre i0 p0 h0 hk0
          refine ⟨c', ?_, a2, a3⟩
          -- it isn't passed
          rcases Nat.lt_or_ge c' (c + q) with z | z
          · exfalso
            refine hno (c' - c) i0 (by omega) (by rw [e1, show c + (c' - c) = c' by omega]; exact a3) ?_
            exact (hashAt i0 p0 h0).trans (congrArg (mHash P w) hk0)
          · rcases Nat.lt_or_ge (c + q) c' with y | y
            · omega
            · exfalso
              have ec : c' = c + q := Nat.le_antisymm y z
              rw [ec] at a3
              have s0 := slot_live R.tab.ris a3
              rw [hsl] at s0
              injection s0 with s0
              rw [← s0, hp] at h0
              exact hkk ((congrArg Prod.snd (Option.some.inj h0)).trans hk0)
      by_cases hl : t.led = true
      · refine wp_if_neg (by simp [hl]) ?_
        try refine wpAny_bind (wpAny_pure ?_)
        exact rest
      · refine wp_if_pos (by simp [hl]) ?_
        refine wpAny_bind (seen_mix hx (fun y hy => ?_) ?_)
        · obtain ⟨e, he, ee⟩ := List.mem_map.mp hy
          have he1 : e ∈ es ∧ e.1 = mHash P w k := by simpa using he
          have he2 : e ∈ es.toList := by simpa using he1.1
          rw [R.rows] at he2
          obtain ⟨p2, hp2, e2⟩ := List.mem_map.mp he2
          refine ⟨p2.2, p2.1, ?_, R.tup p2 hp2⟩
          rw [← ee, ← e2]
        · refine wp_if_neg (by decide) ?_
          try refine wpAny_bind (wpAny_pure ?_)
          exact rest
    · -- the empty slot
      have hpr' : t.probe (fun i => (es[i]?.map (·.1)).getD 0) (mHash P w k) (stand.getD (t.probeStart (mHash P w k))) = some (.empty (way t.mask (mHash P w k) K) none) := by
        have e2 : way t.mask (mHash P w k) K = (nth t.mask (nth t.mask (runAt t.mask (SetTable.bits (mHash P w k) % (t.mask + 1)) (SetTable.bits (mHash P w k))) c) (K - c)).j := by
          rw [e1, show c + (K - c) = K by omega]
        rw [hst, e2]
        exact hpr
      rw [hpr']
      dsimp only
      refine wpAny_pure (hout fun hm => ?_)
      obtain ⟨p0, h0, hk0⟩ := List.mem_map.mp hm
      obtain ⟨i0, hi0, e0⟩ := List.getElem_of_mem h0
      have h00 : L[i0]? = some p0 := by rw [List.getElem?_eq_getElem hi0, e0]
      obtain ⟨c', a1, a2, a3⟩ := hre i0 p0 h00 hk0
      refine hno (c' - c) i0 (by omega) (by rw [e1, show c + (c' - c) = c' by omega]; exact a3) ?_
      exact (hashAt i0 p0 h00).trans (congrArg (mHash P w) hk0)

/-- the search as adding asks for it -/
theorem seekAt (R : SetMR P w s.heap a L es ep t) {x : Addr} {k : List Key} (hx : IsM P w s.heap k x) (hu : A.units < cLine) {Q : SetFound → Shared → Prop}
    (hin : k ∈ L.map (·.2) → Q (.there none) s)
    (hout : ∀ K, k ∉ L.map (·.2) → way t.mask (mHash P w k) K ∉ t.place.toList → (∀ c, c < K → way t.mask (mHash P w k) c ∈ t.place.toList) → Q (.free (way t.mask (mHash P w k) K) false) s) :
    wpAny (model P w) A (setSearch a (.ref x) (mHash P w k) true) Q E s := by
  have hroom := R.room
  obtain ⟨K, hKf, hK, hKb⟩ := R.tab.first (by rw [List.length_map]; omega) (mHash P w k)
  have hbig : K < 100000 := by
    have : 10 * SetTable.turns t.mask ≤ 1420 := by
      unfold SetTable.turns
      rcases R.tab.mok with e | e | e <;> omega
    omega
  unfold setSearch
  refine seekM R hx hu hKf hK hKb hin (fun hn => hout K hn hK hKb) 100000 0 none rfl (Nat.zero_le _) (by omega) fun i p hp hk => ?_
  have hi : (L.map fun p => mHash P w p.2)[i]? = some (mHash P w k) := by rw [List.getElem?_map, hp, ← hk] <;> rfl
  have hil : i < t.place.toList.length := by
    have h1 : i < L.length := (List.getElem?_eq_some_iff.mp hp).1
    have h2 := R.tab.sz
    rw [List.length_map] at h2
    rw [Array.length_toList]
    omega
  have hj := List.getElem?_eq_getElem hil
  obtain ⟨c, hc, e⟩ := R.tab.before hK hi hj
  exact ⟨c, Nat.zero_le _, hc, by rw [hj, e]⟩
end

section
variable {P : Program} {w : World} {A : Around} {E : Value → Shared → Prop} {s : Shared}
/-- a tuple isn't the set -/
theorem isM_same {h h' : Heap} {k : List Key} {a b : Addr} {o : Obj} {es : Array (Int × Value)} {ep : Nat} {t : SetTable} (hb : IsM P w h k b) (ho : h.get? a = some o) (hd : o.data = .set es ep t) (hs : Heap.SameBut a h h') : IsM P w h' k b := by
  obtain ⟨o', items, n, ho', hc, hd', hi⟩ := hb
  have hne : b ≠ a := by
    rintro rfl
    obtain rfl : o' = o := Option.some.inj (ho'.symm.trans ho)
    rw [hd] at hd'
    exact nomatch hd'
  exact ⟨o', items, n, (hs.2 b hne).trans ho', hc, hd', hi⟩
theorem rowsM_put (L : List (Addr × List Key)) (p : Nat) (x : Addr) (k : List Key) : rowsM P w (L.take p ++ (x, k) :: L.drop p) = (rowsM P w L).take p ++ (mHash P w k, Value.ref x) :: (rowsM P w L).drop p := by
  unfold rowsM
  rw [List.map_append, List.map_cons, List.map_take, List.map_drop]
theorem orderM (L : List (Addr × List Key)) (es : Array (Int × Value)) (order : Array Nat) (hr : es.toList = rowsM P w L) (hp : order.toList.Perm (List.range L.length)) :
    ∃ L2, (order.filterMap (es[·]?)).toList = rowsM P w L2 ∧ L2.Perm L ∧ (L2.map fun p => mHash P w p.2) = order.toList.map fun i => (es.map (·.1)).getD i 0 := by
  have hsz : es.size = L.length := by
    have h := congrArg List.length hr
    unfold rowsM at h
    rw [Array.length_toList, List.length_map] at h
    exact h
  have ent : ∀ i (h : i < L.length), es[i]? = some (mHash P w (L[i]).2, Value.ref (L[i]).1) := fun i h => by
    rw [← Array.getElem?_toList, hr]
    unfold rowsM
    rw [List.getElem?_map, List.getElem?_eq_getElem h] <;> rfl
  have key : ∀ l : List Nat, (∀ i ∈ l, i < L.length) → ∃ L2 : List (Addr × List Key), l.filterMap (fun i => es[i]?) = rowsM P w L2 ∧ L2 = l.filterMap (fun i => L[i]?) ∧ (L2.map fun p => mHash P w p.2) = l.map fun i => (es.map (·.1)).getD i 0 := by
    intro l
    induction l with
    | nil => intro _; exact ⟨[], rfl, rfl, rfl⟩
    | cons i l ih =>
      intro hl
      have hi := hl i List.mem_cons_self
      obtain ⟨L2, e1, e2, e3⟩ := ih fun j hj => hl j (List.mem_cons_of_mem _ hj)
      refine ⟨L[i] :: L2, ?_, ?_, ?_⟩
      · rw [List.filterMap_cons_some (ent i hi), e1] <;> rfl
      · rw [List.filterMap_cons_some (List.getElem?_eq_getElem hi), e2]
      · rw [List.map_cons, List.map_cons, e3]
        have hi2 : i < (es.map (·.1)).size := by rw [Array.size_map, hsz]; exact hi
        have e4 : (es.map (·.1)).getD i 0 = mHash P w (L[i]).2 := by
          have e5 : (es.map (·.1))[i]? = some (mHash P w (L[i]).2) := by rw [Array.getElem?_map, ent i hi] <;> rfl
          simp [Array.getD_eq_getD_getElem?, e5]
        rw [e4]
  obtain ⟨L2, e1, e2, e3⟩ := key order.toList fun i hi => List.mem_range.mp (hp.mem_iff.mp hi)
  refine ⟨L2, by first | (rw [Array.toList_filterMap]; exact e1) | simpa using e1, ?_, e3⟩
  have h1 : L2.Perm ((List.range L.length).filterMap fun i => L[i]?) := by
    rw [e2]
    exact hp.filterMap _
  have h2 : (List.range L.length).filterMap (fun i => L[i]?) = L := by
    have key2 : ∀ n, n ≤ L.length → (List.range n).filterMap (fun i => L[i]?) = L.take n := by
      intro n
      induction n with
      | zero => intro _; rfl
      | succ n ih =>
        intro hn
        have hlt : n < L.length := hn
        rw [List.range_succ, List.filterMap_append, ih (Nat.le_of_lt hlt), List.take_succ, List.getElem?_eq_getElem hlt]
        rw [List.filterMap_cons_some (List.getElem?_eq_getElem hlt)] <;> rfl
    rw [key2 L.length (Nat.le_refl _), List.take_length]
  rw [h2] at h1
  exact h1

variable {a : Addr} {L : List (Addr × List Key)} {es : Array (Int × Value)} {ep : Nat} {t : SetTable}
/-- the table laid anew, larger -/
theorem relayM {o : Obj} (ho : s.heap.get? a = some o) (hex : o.ExactSet) (hd : o.data = .set es ep t) (hrows : es.toList = rowsM P w L) (hsz : t.place.size = es.size) (hdm : t.dummies = #[]) (hfl : es.size ≤ t.mask)
    (nd : (L.map (·.2)).Nodup) (tup : ∀ p ∈ L, IsM P w s.heap p.2 p.1) (ld : w.params.followText "set-order" = true ∨ t.led = true) (few : L.length < 64) {wanted M : Nat}
    (hw : SetTable.sizeAbove wanted - 1 = M) (hM : MaskOk M) (hw2 : SetTable.sizeAbove wanted ≤ 128) (hn : L.length * 5 < M * 3) {Q : Unit → Shared → Prop}
    (hQ : ∀ h' L' es' ep' t', Heap.SameBut a s.heap h' → SetMR P w h' a L' es' ep' t' → L'.Perm L → Q () { s with heap := h' }) : wpAny (model P w) A (setRelay a wanted) Q E s := by
  have hsl : es.size = L.length := by
    have h := congrArg List.length hrows
    unfold rowsM at h
    rw [Array.length_toList, List.length_map] at h
    exact h
  have hfits : t.fits es.size = true := by
    unfold SetTable.fits SetTable.fill
    rw [hdm, Bool.and_eq_true, beq_iff_eq, decide_eq_true_eq]
    show t.place.size = es.size ∧ t.place.size + 0 ≤ t.mask
    omega
  obtain ⟨t', order, e, hp, T, em, el, ep', ed⟩ := relaid_ok t (hs := es.map (·.1)) (wanted := wanted) hw hM (by rw [Array.size_map, hsl]; omega)
  rw [Array.size_map, hsl] at hp
  obtain ⟨L2, r1, r2, r3⟩ := orderM L es order hrows hp
  rw [← r3] at T
  have hs2 : (order.filterMap (es[·]?)).size = es.size := by
    have h := congrArg List.length r1
    unfold rowsM at h
    rw [Array.length_toList, List.length_map, r2.length_eq] at h
    rw [h, hsl]
  rw [setRelay_eq]
  refine wpAny_bind (wpAny_setState_of ho hd hfits ?_)
  dsimp only
  refine wp_if_neg (by rw [sizeLine_eq]; omega) ?_
  try refine wpAny_bind (wpAny_pure ?_)
  rw [e]
  dsimp only
  refine wpAny_bind ?_
  refine wp_if_neg (by rw [hs2]; simp) ?_
  try refine wpAny_bind (wpAny_pure ?_)
  refine wpAny_pure ?_
  dsimp only
  refine wpAny_storeSet_of ho hd ?_ (by rw [hs2, hsl, sizeLine_eq]; omega)
  have sb : Heap.SameBut a s.heap (s.heap.update a (Obj.putSet (order.filterMap (es[·]?)) t')) := Heap.SameBut.update ..
  refine hQ _ L2 (order.filterMap (es[·]?)) (ep + 1) t' sb ?_ r2
  refine ⟨⟨_, store_at ho hd, ⟨hex.1, hex.2.1, hex.2.2⟩, rfl⟩, r1, T, ?_, fun p hpm => isM_same (tup p (r2.mem_iff.mp hpm)) ho hd sb, by rw [el]; exact ld, ?_, by rw [r2.length_eq]; exact few⟩
  · exact (r2.map (·.2)).nodup_iff.mpr nd
  · rw [r2.length_eq, em]
    exact hn

/-- ADDING -/
theorem addM (R : SetMR P w s.heap a L es ep t) {x : Addr} {k : List Key} (hx : IsM P w s.heap k x) (hu : A.units < cLine) (hfew : L.length + 1 < 64) {Q : Bool → Shared → Prop}
    (hQ : ∀ b h' L' es' ep' t', Heap.SameBut a s.heap h' → SetMR P w h' a L' es' ep' t' → (k ∈ L.map (·.2) → L' = L) → (k ∉ L.map (·.2) → L'.Perm ((x, k) :: L)) → Q b { s with heap := h' }) :
    wpAny (model P w) A (setAddHashed a (.ref x) (mHash P w k)) Q E s := by
  obtain ⟨o, ho, hex, hd⟩ := R.ob
  have hsl := R.size
  have hroom := R.room
  unfold setAddHashed
  refine wpAny_holding ?_
  rw [show (100000 : Nat) = 99999 + 1 from rfl, setAddHashedIn_succ]
  refine wpAny_bind (wpAny_setState_of ho hd R.fits ?_)
  dsimp only
  refine wp_if_neg (by simp [byScan, Value.scannable]) ?_
  try refine wpAny_bind (wpAny_pure ?_)
  refine wpAny_bind (seekAt R hx hu (fun hm => ?_) fun K hm hK hb => ?_)
  · dsimp only
    exact wpAny_pure (hQ false s.heap L es ep t (Heap.SameBut.refl a s.heap) R (fun _ => rfl) fun z => absurd hm z)
  · dsimp only
    refine wpAny_bind (wpAny_setState_of ho hd R.fits ?_)
    dsimp only
    obtain ⟨q1, q2, q3, q4, q5, q6, q7, q8, q9⟩ := R.tab.put hK hb
    generalize hpt : t.put (way t.mask (mHash P w k) K) = pt at q1 q3 q4 q5 q6 q7 q8 q9 ⊢
    obtain ⟨t1, p⟩ := pt
    dsimp only at q1 q3 q4 q5 q6 q7 q8 q9 ⊢
    subst q1
    have ask : ∀ {G : Bool → Sem Bool}, (∀ c, wpAny (model P w) A (G c) Q E s) → wpAny (model P w) A (if t1.plain = true then (do let b ← hashByValue 8 (.ref x); G b) else (do let b ← pure true; G b)) Q E s := fun {G} z => by
      by_cases hpl : t1.plain = true
      · rw [if_pos hpl]
        exact wpAny_bind (hashBy_mix hx z)
      · rw [if_neg hpl]
        exact wpAny_bind (wpAny_pure (z true))
    refine ask fun c => ?_
    suffices fin : ∀ t1 : SetTable, TabOk t1 ((L.map fun p => mHash P w p.2).take (SetTable.below t.place (way t.mask (mHash P w k) K)) ++ mHash P w k :: (L.map fun p => mHash P w p.2).drop (SetTable.below t.place (way t.mask (mHash P w k) K))) → t1.mask = t.mask → t1.led = t.led → t1.fill = (L.map fun p => mHash P w p.2).length + 1 →
        wpAny (model P w) A (do
          storeSet a (SetTable.insertAt es (SetTable.below t.place (way t.mask (mHash P w k) K)) (mHash P w k, Value.ref x)) t1
          if (!false && t1.tooFull) = true then setRelay a (SetTable.grown (es.size + 1))
          return true) Q E s by
      cases c with
      | true => exact fin t1 q3 q4 q5 q9
      | false => exact fin { t1 with plain := false } ⟨q3.ris, q3.dm, q3.sz, q3.mok, q3.bd, q3.reach⟩ q4 q5 q9
    clear ask hpt q3 q4 q5 q6 q7 q8 q9 t1
    intro t1 q3 q4 q5 q9
    have hin : (SetTable.insertAt es (SetTable.below t.place (way t.mask (mHash P w k) K)) (mHash P w k, Value.ref x)).toList = rowsM P w (L.take (SetTable.below t.place (way t.mask (mHash P w k) K)) ++ (x, k) :: L.drop (SetTable.below t.place (way t.mask (mHash P w k) K))) := by
      rw [SetTable.toList_insertAt, rowsM_put, R.rows]
    generalize hpp : SetTable.below t.place (way t.mask (mHash P w k) K) = p at q2 q3 hin ⊢
    have pm := put_perm L p (x, k)
    have hlen : (L.take p ++ (x, k) :: L.drop p).length = L.length + 1 := pm.length_eq
    have hhs : (L.take p ++ (x, k) :: L.drop p).map (fun p => mHash P w p.2) = (L.map fun p => mHash P w p.2).take p ++ mHash P w k :: (L.map fun p => mHash P w p.2).drop p := by
      rw [List.map_append, List.map_cons, List.map_take, List.map_drop]
    rw [← hhs] at q3
    have nd1 : ((L.take p ++ (x, k) :: L.drop p).map (·.2)).Nodup := by
      refine (pm.map (·.2)).nodup_iff.mpr ?_
      rw [List.map_cons]
      exact List.nodup_cons.mpr ⟨hm, R.nd⟩
    have hes : (SetTable.insertAt es p (mHash P w k, Value.ref x)).size = L.length + 1 := by
      have h := congrArg List.length hin
      unfold rowsM at h
      rw [Array.length_toList, List.length_map, hlen] at h
      exact h
    generalize SetTable.insertAt es p (mHash P w k, Value.ref x) = es1 at hin hes ⊢
    generalize L.take p ++ (x, k) :: L.drop p = L1 at pm hlen q3 nd1 hin
    refine wpAny_bind (wpAny_storeSet_of ho hd ?_ (by rw [hes, sizeLine_eq]; omega))
    have sb : Heap.SameBut a s.heap (s.heap.update a (Obj.putSet es1 t1)) := Heap.SameBut.update ..
    have ho1 := store_at (es' := es1) (t' := t1) ho hd
    generalize s.heap.update a (Obj.putSet es1 t1) = h1 at sb ho1 ⊢
    have tup1 : ∀ p ∈ L1, IsM P w h1 p.2 p.1 := fun p hp => by
      rcases List.mem_cons.mp (pm.mem_iff.mp hp) with e | hp
      · rw [e]; exact isM_same hx ho hd sb
      · exact isM_same (R.tup p hp) ho hd sb
    have ld1 : w.params.followText "set-order" = true ∨ t1.led = true := by rw [q5]; exact R.led
    by_cases hf : t1.tooFull = true
    · first
        | (refine wpAny_bind ?_; refine wp_if_pos (by simp [hf]) ?_)
        | (refine wp_if_pos (by simp [hf]) ?_; refine wpAny_bind ?_)
      have hfull : (L.length + 1) * 5 ≥ t1.mask * 3 := by
        have h := hf
        unfold SetTable.tooFull at h
        rw [decide_eq_true_eq, q9, List.length_map] at h
        exact h
      rw [hsl]
      have hsz1 : t1.place.size = es1.size := by
        have h := q3.sz
        rw [List.length_map, hlen] at h
        rw [h, hes]
      have cases2 : (t.mask = 7 ∧ L.length = 4) ∨ (t.mask = 31 ∧ L.length = 18) := by
        rcases R.tab.mok with e | e | e
        · left; rw [q4, e] at hfull; rw [e] at hroom; exact ⟨e, by omega⟩
        · right; rw [q4, e] at hfull; rw [e] at hroom; exact ⟨e, by omega⟩
        · exfalso; rw [q4, e] at hfull; omega
      have go : ∀ M, SetTable.sizeAbove (SetTable.grown (L.length + 1)) - 1 = M → MaskOk M → SetTable.sizeAbove (SetTable.grown (L.length + 1)) ≤ 128 → (L.length + 1) * 5 < M * 3 →
          wpAny (model P w) A (setRelay a (SetTable.grown (L.length + 1))) (fun _ s' => wpAny (model P w) A (pure true) Q E s') E { s with heap := h1 } := fun M h1' h2' h3' h4' => by
        refine relayM (s := { s with heap := h1 }) ho1 ⟨hex.1, hex.2.1, hex.2.2⟩ rfl hin hsz1 q3.dm (by rw [hes, q4]; rcases cases2 with ⟨e, e2⟩ | ⟨e, e2⟩ <;> omega) nd1 tup1 ld1 (by rw [hlen]; exact hfew) h1' h2' h3' (by rw [hlen]; exact h4') ?_
        intro h2 L2 es2 ep2 t2 sb2 R2 pm2
        refine wpAny_pure (hQ true h2 L2 es2 ep2 t2 (sb.trans sb2) R2 (fun z => absurd z hm) fun _ => pm2.trans pm)
      rcases cases2 with ⟨_, e2⟩ | ⟨_, e2⟩
      · refine go 31 (by rw [e2, size_20]) (.inr (.inl rfl)) (by rw [e2, size_20]; decide) (by omega)
      · refine go 127 (by rw [e2, size_76]) (.inr (.inr rfl)) (by rw [e2, size_76]; decide) (by omega)
    · first
        | refine wp_if_neg (by simp [hf]) ?_
        | (refine wpAny_bind ?_; refine wp_if_neg (by simp [hf]) ?_; refine wpAny_pure ?_)
      refine wpAny_pure (hQ true h1 L1 es1 (ep + 1) t1 sb ⟨⟨_, ho1, ⟨hex.1, hex.2.1, hex.2.2⟩, rfl⟩, hin, q3, nd1, tup1, ld1, ?_, by rw [hlen]; exact hfew⟩ (fun z => absurd z hm) fun _ => pm)
      have h := hf
      unfold SetTable.tooFull at h
      rw [decide_eq_true_eq, q9, List.length_map] at h
      rw [hlen]
      omega
end


/-- what the set has got from the first i items -/
structure GotM (ks : List (Addr × List Key)) (i : Nat) (L : List (Addr × List Key)) : Prop where
  sub : ∀ p ∈ L, p ∈ ks.take i
  all : ∀ p ∈ ks.take i, p.2 ∈ L.map (·.2)
  len : L.length ≤ i
theorem GotM.zero (ks : List (Addr × List Key)) : GotM ks 0 [] := ⟨fun p h => (by cases h), fun p h => (by simp at h), Nat.le_refl _⟩
theorem GotM.same {ks L : List (Addr × List Key)} {i : Nat} {x : Addr × List Key} (g : GotM ks i L) (h : ks[i]? = some x) (hm : x.2 ∈ L.map (·.2)) : GotM ks (i + 1) L := by
  refine ⟨fun p hp => ?_, fun p hp => ?_, Nat.le_succ_of_le g.len⟩
  · rw [take_next h]
    exact List.mem_append_left _ (g.sub p hp)
  · rw [take_next h] at hp
    rcases List.mem_append.mp hp with z | z
    · exact g.all p z
    · rw [List.mem_singleton.mp z]; exact hm
theorem GotM.more {ks L L' : List (Addr × List Key)} {i : Nat} {x : Addr × List Key} (g : GotM ks i L) (h : ks[i]? = some x) (pm : L'.Perm (x :: L)) : GotM ks (i + 1) L' := by
  refine ⟨fun p hp => ?_, fun p hp => ?_, ?_⟩
  · rw [take_next h]
    rcases List.mem_cons.mp (pm.mem_iff.mp hp) with e | z
    · rw [e]; exact List.mem_append_right _ (List.mem_singleton.mpr rfl)
    · exact List.mem_append_left _ (g.sub p z)
  · rw [(pm.map (·.2)).mem_iff, List.map_cons]
    rw [take_next h] at hp
    rcases List.mem_append.mp hp with z | z
    · exact List.mem_cons_of_mem _ (g.all p z)
    · rw [List.mem_singleton.mp z]; exact List.mem_cons_self
  · rw [pm.length_eq, List.length_cons]
    exact Nat.succ_le_succ g.len

section
variable {P : Program} {w : World} {A : Around} {E : Value → Shared → Prop} {s : Shared}
theorem isM_keep {h h' : Heap} {k : List Key} {b : Addr} (x : IsM P w h k b) (hk : ∀ c o, h.get? c = some o → h'.get? c = some o) : IsM P w h' k b := by
  obtain ⟨o, items, n, ho, r⟩ := x
  exact ⟨o, items, n, hk b o ho, r⟩
theorem SetMR.keep {h h' : Heap} {a : Addr} {L : List (Addr × List Key)} {es : Array (Int × Value)} {ep : Nat} {t : SetTable} (R : SetMR P w h a L es ep t) (ha : ∀ o, h.get? a = some o → h'.get? a = some o) (ht : ∀ p ∈ L, IsM P w h' p.2 p.1) : SetMR P w h' a L es ep t := by
  obtain ⟨o, ho, r⟩ := R.ob
  exact ⟨⟨o, ha o ho, r⟩, R.rows, R.tab, R.nd, ht, R.led, R.room, R.few⟩
/-- a new set -/
theorem setMR_fresh {h : Heap} {a : Addr} (ho : h.get? a = some { cls := .type "set", dict := none, data := .set #[] 0 (.fresh 0 0 (!w.params.followText "set-order")) }) : SetMR P w h a [] #[] 0 (.fresh 0 0 (!w.params.followText "set-order")) where
  ob := ⟨_, ho, ⟨rfl, rfl, rfl⟩, rfl⟩
  rows := rfl
  tab := ⟨List.Pairwise.nil, rfl, rfl, .inl rfl, fun x hx => (by cases hx), fun i h j hi => (by simp at hi)⟩
  nd := List.nodup_nil
  tup := fun p hp => (by cases hp)
  led := by
    show _ ∨ (!w.params.followText "set-order") = true
    cases w.params.followText "set-order"
    · exact .inr rfl
    · exact .inl rfl
  room := by
    show 0 * 5 < 7 * 3
    decide
  few := by
    show 0 < 64
    decide

/-- set.update's loop -/
theorem fillM {I : Addr} {fp wr : List Addr} {G : Array GenState → Array GenState → Prop} {n : Nat} {Pv : Nat → Value → Prop} {St : Nat → Shared → Prop} {R : Result → Shared → Prop}
    (W : WalksS P w A.in1 I fp wr G n Pv St) (S : Addr) (hSf : S ∉ fp) (ks : List (Addr × List Key)) (hn : n = ks.length) (hfew : ks.length < 64) (hval : ∀ i v, Pv i v → ∃ p, ks[i]? = some p ∧ v = .ref p.1)
    (h0 : Heap) (hk : ∀ p ∈ ks, IsM P w h0 p.2 p.1) (hS0 : h0.get? S = none) (hw0 : ∀ b ∈ wr, h0.get? b = none) (hu : A.in1.units < cLine) :
    ∀ (k i : Nat) (s : Shared), n - i = k → i ≤ n → St i s → (∀ b o, h0.get? b = some o → s.heap.get? b = some o) → (∃ L es ep t, SetMR P w s.heap S L es ep t ∧ GotM ks i L) →
      (∀ s' L es ep t, Moved (S :: wr) G s s' → SetMR P w s'.heap S L es ep t → GotM ks n L → (∀ b o, h0.get? b = some o → s'.heap.get? b = some o) → R (.ok (.ret .none)) s') →
      codeAny (model P w) A (.builtin "set.update.loop" ⟨[.ref S, .ref I], []⟩) R s := by
  have hSw : S ∉ wr := fun h => hSf (W.sub _ h)
  have hsub : ∀ b ∈ wr, b ∈ S :: wr := fun b hb => List.mem_cons_of_mem _ hb
  have keepM : ∀ {s s' : Shared}, Moved wr G s s' → (∀ b o, h0.get? b = some o → s.heap.get? b = some o) → ∀ b o, h0.get? b = some o → s'.heap.get? b = some o := fun hm hkp b o e =>
    hm.heap b o (fun hb => by rw [hw0 b hb] at e; cases e) (hkp b o e)
  intro k
  induction k with
  | zero =>
    intro i s hk' hi hst hkp ⟨L, es, ep, t, hS, g⟩ hR
    have hin : i = n := by omega
    subst hin
    refine codeAny_builtin F.entry_set_update_loop ?_
    rw [Around.under_plainId F.plain_set_update_loop _]
    show wpAny _ A.in1 (pyNext (.ref I) >>= _) _ _ s
    refine wpAny_bind (W.done s _ _ hst fun s' hm => ?_)
    show wpAny _ A.in1 (ret Value.none) _ _ s'
    have hkp' := keepM hm hkp
    have sub : ∀ p ∈ L, p ∈ ks := fun p hp => List.mem_of_mem_take (g.sub p hp)
    exact wpAny_pure (hR s' L es ep t (hm.mono hsub) (hS.keep (fun o e => hm.heap S o hSw e) fun p hp => isM_keep (hk p (sub p hp)) hkp') g hkp')
  | succ k ih =>
    intro i s hk' hi hst hkp ⟨L, es, ep, t, hS, g⟩ hR
    have hlt : i < n := by omega
    refine codeAny_builtin F.entry_set_update_loop ?_
    rw [Around.under_plainId F.plain_set_update_loop _]
    show wpAny _ A.in1 (pyNext (.ref I) >>= _) _ _ s
    refine wpAny_bind (W.item i s _ _ hlt hst fun v s' hP hst' hm => ?_)
    obtain ⟨p, hp, rfl⟩ := hval i v hP
    have hkp' := keepM hm hkp
    have sub : ∀ p ∈ L, p ∈ ks := fun p hp => List.mem_of_mem_take (g.sub p hp)
    have hS' : SetMR P w s'.heap S L es ep t := hS.keep (fun o e => hm.heap S o hSw e) fun q hq => isM_keep (hk q (sub q hq)) hkp'
    have hx : IsM P w s'.heap p.2 p.1 := isM_keep (hk p (List.mem_of_getElem? hp)) hkp'
    show wpAny _ A.in1 (holding [Value.ref p.1] (setAdd S (.ref p.1)) >>= _) _ _ s'
    refine wpAny_bind (wpAny_holding ?_)
    unfold setAdd
    refine wpAny_holding ?_
    refine wpAny_bind (wpAny_pyHash_tuple hu hx ?_)
    refine addM (s := { s' with toks := s'.toks + (p.2.length + 1) }) hS' hx hu (by have := g.len; omega) fun b h' L' es' ep' t' hsb hS2 c1 c2 => ?_
    have g' : GotM ks (i + 1) L' := by
      rcases Classical.em (p.2 ∈ L.map (·.2)) with c | c
      · rw [c1 c]; exact g.same hp c
      · exact g.more hp (c2 c)
    have hkp2 : ∀ b o, h0.get? b = some o → h'.get? b = some o := fun b o e => (hsb.2 b (fun z => by rw [z, hS0] at e; cases e)).trans (hkp' b o e)
    refine wpAny_pure ⟨plainId_quiet F.plain_set_update_loop _, ih (i + 1) _ (by omega) hlt (W.frame _ s' _ _ hst' (Nat.le_add_right _ _) fun b hb o e => ?_) hkp2 ⟨L', es', ep', t', hS2, g'⟩ fun s'' L2 es2 ep2 t2 hm'' hS'' g'' hkp'' => ?_⟩
    · rw [hsb.2 b (fun h : b = S => hSf (by rw [← h]; exact hb))]; exact e
    · refine hR s'' L2 es2 ep2 t2 (Moved.trans W.gtrans ((hm.mono hsub).then_heap (Nat.le_add_right _ _) fun b o hb e => ?_) hm'') hS'' g'' hkp''
      rw [hsb.2 b (fun h : b = S => hb (by rw [h]; exact List.mem_cons_self))]; exact e

set_option maxRecDepth 100000 in
set_option maxHeartbeats 3200000 in
/-- set(xs) -/
theorem call_setM {l : Addr} {items : Array Value} (ks : List (Addr × List Key)) {Q : Value → Shared → Prop} (hh : A.handled = none) (hl : s.heap.IsList l items) (hit : items.toList = ks.map fun p => Value.ref p.1)
    (hk : ∀ p ∈ ks, IsM P w s.heap p.2 p.1) (hfew : ks.length < 64) (hu : A.units + 3 < cLine)
    (h : ∀ (h' : Heap) (tk : Nat) L es ep t, SetMR P w h' s.heap.objs.size L es ep t → GotM ks ks.length L → (∀ b o, s.heap.get? b = some o → h'.get? b = some o) → Q (.ref s.heap.objs.size) { s with heap := h', toks := tk }) :
    wpAny (model P w) A (call (.type "set") [.ref l]) Q E s := by
  have hisz : items.size = ks.length := by
    have q := congrArg List.length hit
    rw [Array.length_toList, List.length_map] at q
    exact q
  obtain ⟨c, tl, hmro⟩ := F.called_set.mro
  have hmade := F.called_set.made
  have hsub := F.called_set.sub
  refine wpAny_call (codeAny_of_tree ?_)
  show wpAny _ _ (callAny (.type "set") _) _ _ _
  refine wpAny_pure ⟨Code.quiet_builtin _ (by decide +kernel), codeAny_builtin F.entry_type_call ?_⟩
  rw [Around.under_plain (weight_type_call_type "set" [.ref l] []) rfl]
  have h1 := F.called_set.notType
  have h2 := F.called_set.canCreate
  have hct := F.typeCall_set_1 (.ref l)
  repeat (any_goals (first | assumption | wp_step))

  refine codeAny_mono (code_set_led1 (.ref l) (E := E) (Q₁ := fun obj s₁ => obj = .ref s.heap.objs.size ∧ s₁ = { s with heap := s.heap.push { cls := .type "set", dict := none, data := .set #[] 0 (.fresh 0 0 (!w.params.followText "set-order")) } }) ⟨rfl, rfl⟩) fun r s₁ hr => ?_
  cases r with
  | error e => exact hr
  | ok fl =>
    cases fl with
    | ret obj =>
      obtain ⟨rfl, rfl⟩ := hr
      have hS : (s.heap.push { cls := .type "set", dict := none, data := .set #[] 0 (.fresh 0 0 (!w.params.followText "set-order")) }).get? s.heap.objs.size = some { cls := .type "set", dict := none, data := .set #[] 0 (.fresh 0 0 (!w.params.followText "set-order")) } := Heap.get?_push_size _ rfl
      have hT : Shared.TypeIs { s with heap := s.heap.push { cls := .type "set", dict := none, data := .set #[] 0 (.fresh 0 0 (!w.params.followText "set-order")) } } (.ref s.heap.objs.size) "set" := ⟨_, hS, rfl⟩
      have hli := F.called_set.init.lookup
      have hbi := F.called_set.init.bind (.ref s.heap.objs.size)
      repeat (any_goals (first | assumption | wp_step))

      refine codeAny_mono (codeAny_call_builtin (R := wants (fun r s₂ => r = .none ∧ ∃ h' tk L es ep t, s₂ = { s with heap := h', toks := tk } ∧ SetMR P w h' s.heap.objs.size L es ep t ∧ GotM ks ks.length L ∧
          (∀ b o, s.heap.get? b = some o → h'.get? b = some o)) E) F.called_set.init.plain F.entry_set_init (check_set_init_1 hT ?_)) fun r₂ s₂ hr₂ => ?_
      · obtain ⟨ol, hol, hcl, nl, hdl⟩ := hl
        obtain ⟨ocls, odict, odata, oslots⟩ := ol
        simp only at hcl hdl
        subst hcl; subst hdl
        have hol' : (s.heap.push { cls := .type "set", dict := none, data := .set #[] 0 (.fresh 0 0 (!w.params.followText "set-order")) }).get? l = some { cls := .type "list", dict := odict, data := .seq items nl, slots := oslots } := Heap.get?_push_of_some _ hol
        have hsls := F.sub_list_set
        have hslf := F.sub_list_frozenset
        have hne : (Value.type "list" == Value.type "dict") = false := by decide
        have hl1 : (s.heap.push { cls := .type "set", dict := none, data := .set #[] 0 (.fresh 0 0 (!w.params.followText "set-order")) }).IsList l items := ⟨_, hol', rfl, nl, rfl⟩
        unfold Builtin.«set.__init__» noKeywords Builtin.Frozenset.updateFrom
        generalize hPI : pyIter = PI
        wp_walk
        subst hPI

        refine wpAny_pyIter_list hl1 ?_
        refine wpAny_bind (wpAny_runValue ?_)
        have hlS : l < s.heap.objs.size := Heap.lt_size hol
        have hh3 : A.in1.in1.in1.handled = none := by simp [hh]
        have hz1 : (s.heap.push { cls := .type "set", dict := none, data := .set #[] 0 (.fresh 0 0 (!w.params.followText "set-order")) }).objs.size = s.heap.objs.size + 1 := Heap.size_push ..
        have hneI : l ≠ (s.heap.push { cls := .type "set", dict := none, data := .set #[] 0 (.fresh 0 0 (!w.params.followText "set-order")) }).objs.size := by
          rw [Heap.size_push]; exact Nat.ne_of_lt (Nat.lt_succ_of_lt hlS)
        have hSf : s.heap.objs.size ∉ [(s.heap.push { cls := .type "set", dict := none, data := .set #[] 0 (.fresh 0 0 (!w.params.followText "set-order")) }).objs.size, l] := by
          rw [Heap.size_push]; simp only [List.mem_cons, List.mem_singleton, List.not_mem_nil, or_false, not_or]
          exact ⟨Nat.ne_of_lt (Nat.lt_succ_self _), Nat.ne_of_gt hlS⟩
        have hval : ∀ (i : Nat) (v : Value), items[i]? = some v → ∃ p, ks[i]? = some p ∧ v = .ref p.1 := fun i v hv => by
          have q : items.toList[i]? = some v := by rw [Array.getElem?_toList]; exact hv
          rw [hit, List.getElem?_map] at q
          cases hq : ks[i]? with
          | none => rw [hq] at q; cases q
          | some p =>
            rw [hq] at q
            exact ⟨p, rfl, (Option.some.inj q).symm⟩
        have none_of : ∀ b, s.heap.objs.size ≤ b → s.heap.get? b = none := fun b hb => by
          cases q : s.heap.get? b with
          | none => rfl
          | some o => exact absurd (Nat.lt_of_lt_of_le (Heap.lt_size q) hb) (Nat.lt_irrefl _)
        refine fillM ((Walks.list hh3 _ l hneI items).toS) s.heap.objs.size
          hSf ks hisz hfew hval s.heap hk (none_of _ (Nat.le_refl _)) (fun b hb => none_of b (by
            rw [List.mem_singleton.mp hb, Heap.size_push]
            exact Nat.le_succ _)) hu (items.size - 0) 0 _ (by omega) (Nat.zero_le _)
          ⟨⟨_, Heap.get?_push_size _ rfl, rfl, rfl⟩, (hl1.push _)⟩ (fun b o e => Heap.get?_push_of_some _ (Heap.get?_push_of_some _ e)) ?hS0 ?hR
        case hS0 =>
          have hget : ((s.heap.push { cls := .type "set", dict := none, data := .set #[] 0 (.fresh 0 0 (!w.params.followText "set-order")) }).push { cls := .type "list_iterator", data := .fields #[.ref l, .int 0 0] }).get? s.heap.objs.size
              = some { cls := .type "set", dict := none, data := .set #[] 0 (.fresh 0 0 (!w.params.followText "set-order")) } := Heap.get?_push_of_some _ hS
          exact ⟨[], #[], 0, _, setMR_fresh hget, GotM.zero ks⟩
        case hR =>
          intro s' L es ep t hm hS' g' hkp
          obtain ⟨h', g2, d', tk', os'⟩ := s'
          have eg : g2 = s.gens := hm.gens
          have ed : d' = s.drawn := hm.drawn
          have eo : os' = s.os := hm.os
          subst eg; subst ed; subst eo
          show wpAny _ _ _ _ _ _
          refine wpAny_pure ?_
          show wpAny _ _ (ret Value.none) _ _ _
          rw [hisz] at g'
          exact wpAny_pure ⟨rfl, h', tk', L, es, ep, t, rfl, hS', g', hkp⟩

      · cases r₂ with
        | error e => exact hr₂
        | ok fl₂ =>
          cases fl₂ with
          | ret r =>
            obtain ⟨rfl, h', tk, L, es, ep, t, rfl, hS', g', hk'⟩ := hr₂
            repeat (any_goals (first | assumption | wp_step))
            exact h _ _ _ _ _ _ hS' g' hk'
          | _ => exact hr₂.elim
    | _ => exact hr.elim

end
end FH
namespace FH
open L2 PySem PySem.Spec
/-! ### sorted -/
abbrev dle : D → D → Bool := W.dataLe false id
theorem dle_tot : W.TotalLe dle := W.sortLe_total _ _ _
def sortOk (ds : List D) : Prop := W.AllAlike ds ∧ W.Sortable ds ∧ ∀ d ∈ ds, SeqAt.shaped d = true
def sortD (ds : List D) : List D := ds.mergeSort dle
def itemsD (v : Val) (S : Store) : Option (List D) := match asDic v S with
  | some m => some (m.map (·.1))
  | none => match asL v S with
    | some xs => allD xs
    | none => none
/-- what is sorted of a tuple, of a dict -/
def itemsK (v : Val) (S : Store) : Option (List D) := match v with
  | .d (.tuple ds) => some ds
  | v => (asDic v S).map fun m => m.map (·.1)
open Classical in
noncomputable def sortedL (vs : List Val) (S : Store) : Option (Val × Store) := match vs with
  | [v] => match asL v S with
    | some xs => match allD xs with
      | some ds => if sortOk ds ∧ ds.length ≤ sizeLine then some (.d (.list (sortD ds)), S) else none
      | none => none
    | none => match itemsK v S with
      | some ds => if sortOk ds ∧ ds.length ≤ sizeLine then some (.d (.list (sortD ds)), S) else none
      | none => none
  | _ => none
section
variable {X : Cx}
theorem each_pair {α β : Type} {R : α → β → Prop} : ∀ {xs : List α} {ys : List β}, W.EachIs R xs ys → Paired R xs ys
  | _, _, .nil => .nil
  | _, _, .cons r t => .cons r (each_pair t)
theorem pair_each {α β : Type} {R : α → β → Prop} : ∀ {xs : List α} {ys : List β}, Paired R xs ys → W.EachIs R xs ys
  | _, _, .nil => .nil
  | _, _, .cons r t => .cons r (pair_each t)
/-- values that stand for data -/
def StandsFor (T : Ty) (F : Hp) (u : Value) (d : D) : Prop := ∃ x, RelV x u ∧ Rep T F x d
theorem stands_of {T : Ty} {F : Hp} : ∀ {xs : List V} {us : List Value} {ds : List D}, Vals xs us → RepAll T F xs ds → W.EachIs (StandsFor T F) us ds
  | _, _, _, .nil, .nil => .nil
  | _, _, _, .cons r t, .cons q u => .cons ⟨_, r, q⟩ (stands_of t u)
theorem of_stands {T : Ty} {F : Hp} : ∀ {us : List Value} {ds : List D}, W.EachIs (StandsFor T F) us ds → ∃ xs, Vals xs us ∧ RepAll T F xs ds
  | _, _, .nil => ⟨[], .nil, .nil⟩
  | _, _, .cons ⟨x, r, q⟩ t => by
    obtain ⟨xs, h1, h2⟩ := of_stands t
    exact ⟨x :: xs, .cons r h1, .cons q h2⟩
theorem EachIs.imp_mem {α β : Type} {R R' : α → β → Prop} {xs : List α} {ys : List β} (h : W.EachIs R xs ys) (f : ∀ a b, R a b → b ∈ ys → R' a b) : W.EachIs R' xs ys := (W.each_mem h).mono fun a b z => f a b z.1 z.2
open PyProof.Rows in
theorem sorted_coll {P : Program} {w : World} {A : Around} {E : Value → Shared → Prop} {s : Shared} {x : Value} {vs : List Value} {ds : List D} {Rr : Value → D → Prop} {Q : Value → Shared → Prop}
    (hcol : ∀ (R : List Value → Shared → Prop) (E' : Value → Shared → Prop), (∀ h' tk, (∀ b o, s.heap.get? b = some o → h'.get? b = some o) → R vs { s with heap := h', toks := tk }) → wpAny (model P w) A.in1 (collect x) R E' s)
    (e : W.EachIs Rr vs ds) (er : W.EachIs (fun v b => ∃ as, Reads s.heap v b as) vs ds) (hal : W.AllAlike ds) (hk : W.Sortable ds) (hL : ds.length ≤ sizeLine) (hu : ∀ b, b ∈ ds → A.units + 2 + b.depth < cLine)
    (h : ∀ p out h' tk ep, (∀ b o, s.heap.get? b = some o → h'.get? b = some o) → h'.get? p = some (seqObj "list" (List.toArray out) ep) → (∃ h1 : Heap, (∀ b o, s.heap.get? b = some o → h1.get? b = some o) ∧ p = h1.objs.size) → out.length = ds.length → W.EachIs Rr out (ds.mergeSort dle) → Q (.ref p) { s with heap := h', toks := tk }) :
    wpAny (model P w) A (call (.builtin "sorted") [x]) Q E s := by
  refine call_function_entry_kw kind_sorted plain_sorted entry_sorted (args_sorted1 _) ?_
  unfold Builtin.«sorted»
  refine wpAny_bind (m := checkCount "sorted" 1 1 _) (wpAny_pure ?_)
  refine wpAny_bind (hcol _ _ fun h1 tk kp => ?_)
  have hL' : vs.length ≤ sizeLine := by
    rw [e.length]
    exact hL
  refine wpAny_bind (wpAny_newList ?_ hL')
  have er' : W.EachIs (fun v b => ∃ as, Reads (h1.push { cls := .type "list", data := .seq vs.toArray }) v (id b) as ∧ h1.objs.size ∉ as) vs ds := er.mono fun v b ⟨as, r⟩ => ⟨as, PyProof.Rows.Reads.keeps (fun b o z => Heap.get?_push_of_some _ (kp b o z)) r, fun z => by
    obtain ⟨o, ho⟩ := PyProof.On.reads_mem_get r _ z
    exact Nat.lt_irrefl _ (Heap.lt_size (kp _ _ ho))⟩
  have hg : (h1.push { cls := .type "list", data := .seq vs.toArray }).get? h1.objs.size = some (seqObj "list" vs.toArray 0) := Heap.get?_push_size _ rfl
  refine wpAny_bind (wpAny_holding (W.list_sort_data (A := A.in1) (s := { s with heap := h1.push { cls := .type "list", data := .seq vs.toArray }, toks := tk }) (R := Rr) (bs := ds) (enc := id) hg e er' (by rw [List.map_id]; exact hal) (by rw [List.map_id]; exact hk) hL (fun b hb => by have := hu b hb; show A.units + 1 + 1 + b.depth < cLine; omega) fun out ho eo => ?_))
  obtain ⟨ep, hep⟩ := sortedHeap_at (out := out.toArray) hg
  refine wpAny_pure ⟨_, rfl, h _ out _ tk ep (fun b o z => ?_) hep ⟨h1, kp, rfl⟩ ho eo⟩
  have hb := Heap.lt_size (kp b o z)
  rw [sortedHeap_old (Nat.ne_of_lt hb) (by rw [size_push']; exact Nat.lt_succ_of_lt hb)]
  exact Heap.get?_push_of_some _ (kp b o z)
theorem inv_laidF {pins : List (Addr × Obj)} {σ : St} {H : Hp} {s : Shared} {h' h1 : Heap} {a : Addr} {o : HO} {t' : Nat} (I : Inv X pins σ H s) (k : ∀ b u, s.heap.get? b = some u → h'.get? b = some u) (k1 : ∀ b u, s.heap.get? b = some u → h1.get? b = some u) (ha : a = h1.objs.size) (new : ObjOk X.prog X.w (upd H a o) h' a o) :
    Inv X pins σ (upd H a o) { s with heap := h', toks := t' } ∧ H a = none := by
  have hn : H a = none := by
    rw [ha]
    exact (I.hok.kept k1).fresh (Nat.le_refl _)
  have ne : ∀ b u, s.heap.get? b = some u → b ≠ a := fun b u e z => by
    rw [z, ha] at e
    exact Nat.lt_irrefl _ (Heap.lt_size (k1 _ _ e))
  refine ⟨I.un ⟨fun b u q _ _ _ => k b u q, fun b u q _ _ _ => ⟨u.slots, k b u q⟩, fun b u q n _ => by rw [upd_ne (ne b u q)]; exact n, fun b u q _ => ⟨u, k b u q⟩, fun b xs q => by rw [upd_ne (ne_of_none q hn)]; exact q, fun b u xs q => by rw [upd_ne (ne_of_none q hn)]; exact q,
    fun b ps q => ⟨#[], by rw [upd_ne (ne_of_none q hn), q]; simp⟩⟩ fun b u e => ?_, hn⟩
  by_cases hb : b = a
  · subst hb
    rw [upd_same] at e
    cases e
    exact new
  · rw [upd_ne hb] at e
    exact (I.hok b u e).stay (fun c v _ q => k c v q) (fun c q => by rw [upd_ne (ne_of_none q hn)]; exact q) fun c xs q => by rw [upd_ne (ne_of_none q hn)]; exact q
theorem Ents.keys {w : World} : ∀ {es : List DictEntry} {kvs vvs : List V} {ks : List D}, Ents w es kvs ks vvs → Vals kvs (es.map (·.key))
  | _, _, _, _, .nil => .nil
  | _, _, _, _, .cons _ _ c _ _ t => .cons c (Ents.keys t)
theorem cr_sorted (hu : X.A.units + 100 < cLine) (hc : X.calm = true) : CallR X (.builtin "sorted") (rL (ty X) sortedL) := by
  intro pins s σ H vs us Q I r h
  obtain ⟨ρ, S, as, R, q, p⟩ := h
  unfold sortedL at p
  split at p
  · rename_i v
    split at p
    · rename_i xs hxs
      split at p
      · rename_i ds hds
        split at p
        · rename_i hc
          obtain ⟨⟨c1, c2, c3⟩, c4⟩ := hc
          cases q with
          | cons qv qr =>
            cases qr
            obtain ⟨a, ys, rfl, h1, h2⟩ := asL_ok R qv hxs
            cases allD_eq hds
            rw [Vals.ref1 r]
            obtain ⟨its, rv, pl, hz⟩ := I.list (SqL.of h1)
            have ra := RepAll.of h2
            have st := stands_of rv ra
            refine W.sorted_data (R := StandsFor (ty X) (frz ρ S H)) (bs := ds) (enc := id) pl.isList st (EachIs.imp_mem st fun u d ⟨x, r1, r2⟩ hd => ?_) (by rw [List.map_id]; exact c1) (by rw [List.map_id]; exact c2) c4 (fun d hd => ?_) fun out ho eo => ?_
            · exact Dp.reads I d x u (Rep.dp frz_le r2 (SeqAt.canLay_of_shaped (c3 d hd))) r1
            · have := SeqAt.depth_of_shaped (c3 d hd)
              show X.A.units + 2 + d.depth < cLine
              omega
            · obtain ⟨zs, z1, z2⟩ := of_stands eo
              obtain ⟨ep, he⟩ := PyProof.Rows.sortedAll_at s.heap its out.toArray
              have hn : H (s.heap.objs.size + 1) = none := I.hok.fresh (Nat.le_succ _)
              have hlen : zs.length ≤ sizeLine := by
                rw [z1.length, ho]
                exact c4
              refine ⟨.ref _, upd H (s.heap.objs.size + 1) (.lst zs), I.laid (t' := s.toks) (fun _ _ => PyProof.Rows.sortedAll_old) (Nat.le_succ _) ⟨hlen, out, ep, z1, by simpa using he⟩, rfl, ?_⟩
              obtain ⟨R1, E1, f1⟩ := R.lay (o := .lst zs) hn
              exact p ρ _ _ R1 E1 (Rep.lst f1 (z2.mono E1.le))
        · exact p.elim
      · exact p.elim
    · rename_i hnl
      split at p
      · rename_i ds hds
        split at p
        · rename_i hc'
          obtain ⟨⟨c1, c2, c3⟩, c4⟩ := hc'
          have sl : sizeLine = 16777216 := sizeLine_eq
          cases q with
          | cons qv qr =>
            cases qr
            -- the items, collected
            have key : ∃ (a : Addr) (its : List Value) (ys : List V), us = [.ref a] ∧ Vals ys its ∧ RepAll (ty X) (frz ρ S H) ys ds ∧ ∀ (R : List Value → Shared → Prop) (E' : Value → Shared → Prop), (∀ h' tk, (∀ b o, s.heap.get? b = some o → h'.get? b = some o) → R its { s with heap := h', toks := tk }) → wpAny (model X.prog X.w) X.A.in1 (collect (.ref a)) R E' s := by
              unfold itemsK at hds
              split at hds
              · cases hds
                obtain ⟨a1, v1, rfl, h1, _, r1⟩ := asT_ok (S := S) qv rfl
                obtain ⟨hz, its, rv, ob, hob, hcl, hdt⟩ := I.hok a1 _ h1
                obtain ⟨nn, hdt⟩ := hdt
                refine ⟨a1, its, v1, Vals.ref1 r, rv, RepAll.of r1, fun R E' z => ?_⟩
                refine wpAny_collect_seq a1 (.inr rfl) hob hcl hdt (fun h' k => ?_) (by rw [List.size_toArray, ← rv.length]; exact hz)
                simpa using z h' s.toks k
              · obtain ⟨m, hm, rfl⟩ := Option.map_eq_some_iff.mp hds
                obtain ⟨a1, o, kvs, vvs, rfl, h1, d1, ra, _⟩ := asDic_ok R qv hm
                obtain ⟨es, ep, hd1, en⟩ := d1.dat
                have hg := (I.hok a1 _ h1).1
                refine ⟨a1, es.toList.map (·.key), kvs, Vals.ref1 r, Ents.keys en, ra, fun R E' z => ?_⟩
                have hsz : es.size ≤ sizeLine := by
                  have l1 := en.len.2.1
                  have l2 := d1.len
                  rw [← Array.length_toList, ← l1]
                  exact l2
                refine W.kdu_collect (PySem.KdlSrc.rawDict (es := es) (ep := ep) d1.sm) (I.ok.hd hc) ⟨o, hg, d1.ex, hd1⟩ hsz fun h' tk acc k it => ?_
                have e2 : acc.toList = es.toList.map (·.key) := by
                  refine List.ext_getElem? fun i => ?_
                  rw [Array.getElem?_toList, List.getElem?_map, Array.getElem?_toList]
                  by_cases hi : i < es.size
                  · have hi' : i < acc.size := by
                      rw [it.1]
                      exact hi
                    rw [Array.getElem?_eq_getElem hi', Array.getElem?_eq_getElem hi]
                    obtain ⟨_, ev⟩ := it.2 i acc[i] (Array.getElem?_eq_getElem hi')
                    rw [ev]
                    rfl
                  · have hi' : ¬ i < acc.size := by
                      rw [it.1]
                      exact hi
                    rw [Array.getElem?_eq_none (by omega), Array.getElem?_eq_none (by omega)]
                    rfl
                rw [e2]
                exact z h' tk k
            obtain ⟨a, its, ys, rfl, rv, ra, hcol⟩ := key
            have st := stands_of rv ra
            refine sorted_coll (Rr := StandsFor (ty X) (frz ρ S H)) (vs := its) (ds := ds) hcol st (EachIs.imp_mem st fun u d ⟨x, r1, r2⟩ hd => ?_) c1 c2 c4 (fun d hd => ?_) fun pp out h' tk ep kp hpp ⟨h1, k1, e1⟩ ho eo => ?_
            · exact Dp.reads I d x u (Rep.dp frz_le r2 (SeqAt.canLay_of_shaped (c3 d hd))) r1
            · have := SeqAt.depth_of_shaped (c3 d hd)
              omega
            · obtain ⟨zs, z1, z2⟩ := of_stands eo
              have hlen : zs.length ≤ sizeLine := by
                rw [z1.length, ho]
                exact c4
              obtain ⟨J, hn⟩ := inv_laidF (o := .lst zs) (t' := tk) I kp k1 e1 ⟨hlen, out, ep, z1, hpp⟩
              obtain ⟨R1, E1, f1⟩ := R.lay (o := .lst zs) hn
              exact ⟨.ref pp, _, J, rfl, p ρ _ _ R1 E1 (Rep.lst f1 (z2.mono E1.le))⟩
        · exact p.elim
      · exact p.elim
  · exact p.elim
end
/-! ### sorted(set(..)) of tuples of whole numbers and texts -/
def keyDt : Key → D
  | .inl i => .int i
  | .inr x => .str x
def encK (k : List Key) : D := .tuple (k.map keyDt)
theorem keyDt_toks (k : Key) : ∃ t, W.keyToks (keyDt k) = [t] ∧ (∀ k', W.keyToks (keyDt k') = [t] → k' = k) := by
  cases k with
  | inl i => exact ⟨.inl i, by simp [keyDt, W.keyToks], fun k' h => by
      cases k' with
      | inl j => simpa [keyDt, W.keyToks] using h
      | inr x => simp [keyDt, W.keyToks] at h⟩
  | inr x => exact ⟨.inr x.cps.toList, by simp [keyDt, W.keyToks], fun k' h => by
      cases k' with
      | inl j => simp [keyDt, W.keyToks] at h
      | inr y => exact congrArg Sum.inr (W.str_of_cps (by simpa [keyDt, W.keyToks] using h))⟩
theorem toks_inj : ∀ {k k' : List Key}, W.keyToksAll (k.map keyDt) = W.keyToksAll (k'.map keyDt) → k = k'
  | [], [], _ => rfl
  | [], _ :: _, h => by simp [W.keyToksAll] at h
  | _ :: _, [], h => by simp [W.keyToksAll] at h
  | x :: k, y :: k', h => by
    obtain ⟨t, e1, e2⟩ := keyDt_toks x
    obtain ⟨u, f1, f2⟩ := keyDt_toks y
    simp only [List.map_cons, W.keyToksAll, e1, f1, List.cons_append, List.nil_append, List.cons.injEq, true_and] at h
    obtain ⟨h1, h2⟩ := h
    subst h1
    rw [e2 y f1, toks_inj h2]
theorem dle_anti {k k' : List Key} (h1 : dle (encK k) (encK k') = true) (h2 : dle (encK k') (encK k) = true) : k = k' := by
  have e : W.keyToks (encK k) = W.keyToks (encK k') := (PyProof.Rows.listOrd PyProof.Rows.itemOrd).total _ _ (by simpa [dle, W.dataLe, W.sortLe] using h2) (by simpa [dle, W.dataLe, W.sortLe] using h1)
  unfold encK at e
  rw [W.keyToks, W.keyToks] at e
  exact toks_inj e
open Classical in
noncomputable def dedupC : List D → List D
  | [] => []
  | d :: r => if d ∈ r then dedupC r else d :: dedupC r
theorem mem_dedup {d : D} : ∀ {ds : List D}, d ∈ dedupC ds ↔ d ∈ ds
  | [] => Iff.rfl
  | x :: r => by
    rw [dedupC]
    split
    · rename_i h
      rw [mem_dedup, List.mem_cons]
      exact ⟨.inr, fun z => z.elim (fun e => e ▸ h) id⟩
    · rw [List.mem_cons, List.mem_cons, mem_dedup]
theorem nodup_dedup : ∀ {ds : List D}, (dedupC ds).Nodup
  | [] => List.nodup_nil
  | x :: r => by
    rw [dedupC]
    split
    · exact nodup_dedup
    · rename_i h
      exact List.nodup_cons.mpr ⟨fun z => h (mem_dedup.mp z), nodup_dedup⟩
noncomputable def setSort (ds : List D) : List D := sortD (dedupC ds)
theorem setSort_sorted (ds : List D) : (setSort ds).Pairwise fun a b => dle a b = true := W.sort_pairwise dle_tot _
theorem sortD_sorted (ds : List D) : (sortD ds).Pairwise fun a b => dle a b = true := W.sort_pairwise dle_tot _
theorem sortD_perm (ds : List D) : (sortD ds).Perm ds := List.mergeSort_perm _ _
theorem mem_sortD {d : D} {ds : List D} : d ∈ sortD ds ↔ d ∈ ds := (sortD_perm ds).mem_iff
theorem mem_setSort {d : D} {ds : List D} : d ∈ setSort ds ↔ d ∈ ds := by rw [setSort, mem_sortD, mem_dedup]
theorem nodup_setSort {ds : List D} : (setSort ds).Nodup := (sortD_perm _).nodup_iff.mpr nodup_dedup
theorem setSort_eq {ds m : List D} (hk : ∀ d ∈ ds, ∃ k, d = encK k) (hs : m.Pairwise fun a b => dle a b = true) (hn : m.Nodup) (hm : ∀ d, d ∈ m ↔ d ∈ ds) : m = setSort ds := by
  refine List.Perm.eq_of_pairwise (le := fun a b => dle a b = true) (fun a b ha hb h1 h2 => ?_) hs (setSort_sorted ds) ?_
  · obtain ⟨k, rfl⟩ := hk a ((hm a).mp ha)
    obtain ⟨k', rfl⟩ := hk b (mem_setSort.mp hb)
    rw [dle_anti h1 h2]
  · exact (List.perm_ext_iff_of_nodup hn nodup_setSort).mpr fun d => by rw [hm d, mem_setSort]
section
variable {P : Program} {w : World} {A : Around} {E : Value → Shared → Prop} {s : Shared}
theorem mix_reads {h : Heap} : ∀ {k : List Key} {vs : List Value}, ItemsAre (mixKind P w) k vs → ReadsAll h vs (k.map keyDt) []
  | [], _, .nil => .nil
  | x :: k, _, .cons h1 t => by
    have ih := mix_reads (h := h) t
    rcases keyIs_shape h1 with ⟨i, tk, rfl, rfl⟩ | ⟨z, tk, rfl, rfl⟩
    · exact ReadsAll.cons (as := []) (Reads.int i tk) ih
    · exact ReadsAll.cons (as := []) (Reads.str z tk) ih
theorem isM_reads {h : Heap} {k : List Key} {b : Addr} (x : IsM P w h k b) : Reads h (.ref b) (encK k) [] := by
  obtain ⟨o, items, n, ho, hc, hd, hi⟩ := x
  exact Reads.tuple ho hc hd (mix_reads hi)
theorem depth_keys : ∀ k : List Key, PyData.depthAll (k.map keyDt) = 0
  | [] => rfl
  | .inl i :: k => by
    rw [List.map_cons, PyData.depthAll, depth_keys k]
    rfl
  | .inr i :: k => by
    rw [List.map_cons, PyData.depthAll, depth_keys k]
    rfl
theorem depth_encK (k : List Key) : (encK k).depth ≤ 1 := by
  unfold encK
  rw [PyData.depth, depth_keys]
  exact Nat.le_refl _
theorem refs_each : ∀ {out : List Value} {L : List (Addr × List Key)}, W.EachIs (fun v (q : Addr × List Key) => v = Value.ref q.1) out L → out = L.map fun q => Value.ref q.1
  | _, _, .nil => rfl
  | _, _, .cons e t => by
    rw [List.map_cons, e, refs_each t]
theorem each_refs {R : Value → Addr × List Key → Prop} : ∀ {L : List (Addr × List Key)}, (∀ q ∈ L, R (.ref q.1) q) → W.EachIs R (L.map fun q => Value.ref q.1) L
  | [], _ => .nil
  | q :: L, h => .cons (h q List.mem_cons_self) (each_refs fun r z => h r (List.mem_cons_of_mem _ z))
/-- the values of a set are the addresses of its rows, in some order -/
theorem rows_order {L : List (Addr × List Key)} : ∀ {vs : List Value}, (∀ v ∈ vs, ∃ q ∈ L, v = Value.ref q.1) → ∃ L1 : List (Addr × List Key), vs = L1.map (fun q => Value.ref q.1) ∧ ∀ q ∈ L1, q ∈ L
  | [], _ => ⟨[], rfl, fun q z => by cases z⟩
  | v :: vs, h => by
    obtain ⟨q, hq, e⟩ := h v List.mem_cons_self
    obtain ⟨L1, e1, e2⟩ := rows_order fun u z => h u (List.mem_cons_of_mem _ z)
    exact ⟨q :: L1, by rw [List.map_cons, e, e1], fun r z => (List.mem_cons.mp z).elim (fun y => y ▸ hq) (e2 r)⟩
theorem sorted_setM {a : Addr} {L : List (Addr × List Key)} {es : Array (Int × Value)} {ep : Nat} {t : SetTable} {Q : Value → Shared → Prop} (R : SetMR P w s.heap a L es ep t) (hh : A.handled = none) (hu : A.units + 50 < cLine) (hal : W.AllAlike (L.map fun q => encK q.2)) (hne : ∀ q ∈ L, q.2 ≠ [])
    (hQ : ∀ s' p (out : Array Value) (c : Nat) (L' : List (Addr × List Key)), (∀ b o, s.heap.get? b = some o → s'.heap.get? b = some o) → s'.gens = s.gens → s'.os = s.os → s.heap.objs.size ≤ p →
      s'.heap.get? p = some (PyProof.Rows.seqObj "list" out c) → out.toList = L'.map (fun q => Value.ref q.1) → L'.Perm L → (L'.map fun q => encK q.2).Pairwise (fun x y => dle x y = true) → Q (.ref p) s') :
    wpAny (model P w) A (call (.builtin "sorted") [.ref a]) Q E s := by
  obtain ⟨o, ho, hex, hd⟩ := R.ob
  have hsz := R.size
  have hfew := R.few
  refine Calls.call_function_entry PyProof.Rows.kind_sorted PyProof.Rows.plain_sorted PyProof.Rows.entry_sorted (PyProof.Rows.args_sorted1 _) ?_
  unfold Builtin.«sorted»
  refine wpAny_bind (m := checkCount "sorted" 1 1 _) (wpAny_pure ?_)
  refine wpAny_bind (collect_set (A := A.in1) hh ⟨o, ho, hex.1, hd⟩ R.fits (by unfold scanBound; omega) R.tab.ris R.led fun s1 vs k1 hz g1 o1 pm => ?_)
  have hes : es.toList.map (·.2) = L.map fun q => Value.ref q.1 := by
    rw [R.rows]
    unfold rowsM
    rw [List.map_map]
    rfl
  rw [hes] at pm
  have nL : L.Nodup := nodup_of_map R.nd
  have one : ∀ q ∈ L, ∀ r ∈ L, q.1 = r.1 → q = r := fun q hq r hr e => by
    have a1 := R.tup q hq
    rw [e] at a1
    exact Prod.ext e (a1.inj (R.tup r hr))
  have nref : (L.map fun q => Value.ref q.1).Nodup := List.pairwise_map.mpr (List.Pairwise.imp_of_mem (fun {q r} hq hr z e => by
    injection e with e
    exact z (one q hq r hr e)) nL)
  obtain ⟨L1, e1, s1'⟩ := rows_order (L := L) (vs := vs) fun v hv => by
    obtain ⟨q, hq, e⟩ := List.mem_map.mp (pm.mem_iff.mp hv)
    exact ⟨q, hq, e.symm⟩
  have p1 : L1.Perm L := by
    rw [e1] at pm
    have n1 : L1.Nodup := nodup_of_map (pm.nodup_iff.mpr nref)
    refine (List.perm_ext_iff_of_nodup n1 nL).mpr fun q => ⟨s1' q, fun hq => ?_⟩
    obtain ⟨r, hr, e⟩ := List.mem_map.mp (pm.mem_iff.mpr (List.mem_map.mpr ⟨q, hq, rfl⟩))
    injection e with e
    rw [← one r (s1' r hr) q hq e]
    exact hr
  have l1 : L1.length < 64 := by
    rw [p1.length_eq]
    exact hfew
  have lv : vs.length = L1.length := by rw [e1, List.length_map]
  refine wpAny_bind (wpAny_newList ?_ (by rw [sizeLine_eq]; omega))
  have hoL : (s1.heap.push (PyProof.Rows.seqObj "list" vs.toArray 0)).get? s1.heap.objs.size = some (PyProof.Rows.seqObj "list" vs.toArray 0) := Heap.get?_push_size _ rfl
  have memL : ∀ q ∈ L1, IsM P w (s1.heap.push (PyProof.Rows.seqObj "list" vs.toArray 0)) q.2 q.1 := fun q hq => isM_keep (R.tup q (s1' q hq)) fun b u e => Heap.get?_push_of_some _ (k1 b u e)
  refine wpAny_bind (wpAny_holding (W.list_sort_data (s := { s1 with heap := s1.heap.push (PyProof.Rows.seqObj "list" vs.toArray 0) }) (R := fun v (q : Addr × List Key) => v = Value.ref q.1) (bs := L1) (enc := fun q => encK q.2) hoL
    (by rw [e1]; exact each_refs fun _ _ => rfl) (by rw [e1]; exact each_refs fun q hq => ⟨[], by rw [← e1]; exact isM_reads (memL q hq), by simp⟩) (fun d hd d' hd' => ?_) (.inl fun d hd => ?_) (by rw [sizeLine_eq]; omega) (fun q _ => ?_) fun out ho' eo => ?_))
  · obtain ⟨q, hq, rfl⟩ := List.mem_map.mp hd
    obtain ⟨r, hr, rfl⟩ := List.mem_map.mp hd'
    exact hal _ (List.mem_map.mpr ⟨q, s1' q hq, rfl⟩) _ (List.mem_map.mpr ⟨r, s1' r hr, rfl⟩)
  · obtain ⟨q, hq, rfl⟩ := List.mem_map.mp hd
    cases e : q.2 with
    | nil => exact absurd e (hne q (s1' q hq))
    | cons x r => exact ⟨keyDt x, r.map keyDt, by unfold encK; rw [List.map_cons]⟩
  · have := depth_encK q.2
    show A.in1.units + 1 + _ < _
    have e : A.in1.units = A.units + 1 := rfl
    omega
  · obtain ⟨c, hc⟩ := PyProof.Rows.sortedHeap_at (vs := vs) (out := out.toArray) hoL
    refine wpAny_pure ⟨_, rfl, hQ _ s1.heap.objs.size out.toArray c (L1.mergeSort (W.dataLe false fun q => encK q.2)) (fun b u e => ?_) g1 o1 hz hc (by simpa using refs_each eo) ((List.mergeSort_perm _ _).trans p1) ?_⟩
    · have q := k1 b u e
      have hlt := Heap.lt_size q
      show (PyProof.Rows.sortedHeap (s1.heap.push (PyProof.Rows.seqObj "list" vs.toArray 0)) s1.heap.objs.size vs out.toArray).get? b = some u
      rw [PyProof.Rows.sortedHeap_old (Nat.ne_of_lt hlt) (by rw [PyProof.Rows.size_push']; exact Nat.lt_succ_of_lt hlt)]
      exact Heap.get?_push_of_some _ q
    · exact List.pairwise_map.mpr (W.sort_pairwise (le := W.dataLe false fun q : Addr × List Key => encK q.2) (W.sortLe_total _ _ _) L1)
end
end FH
namespace FH
open L2 PySem PySem.Spec
/-- the set at a, by its rows -/
structure SetM0 (P : Program) (w : World) (h : Heap) (a : Addr) (L : List (Addr × List Key)) : Prop where
  ex : ∃ (es : Array (Int × Value)) (ep : Nat) (t : SetTable), (∃ o, h.get? a = some o ∧ o.ExactSet ∧ o.data = .set es ep t) ∧ es.toList = rowsM P w L ∧ TabOk t (L.map fun p => mHash P w p.2) ∧ (L.map (·.2)).Nodup ∧
    (w.params.followText "set-order" = true ∨ t.led = true) ∧ L.length * 5 < t.mask * 3 ∧ L.length < 64
def SetMO (P : Program) (w : World) (a : Addr) (L : List (Addr × List Key)) : HO := .ext fun h => SetM0 P w h a L
section
variable {P : Program} {w : World}
theorem SetMR.t0 {h : Heap} {a : Addr} {L : List (Addr × List Key)} {es : Array (Int × Value)} {ep : Nat} {t : SetTable} (R : SetMR P w h a L es ep t) : SetM0 P w h a L := ⟨es, ep, t, R.ob, R.rows, R.tab, R.nd, R.led, R.room, R.few⟩
theorem SetM0.full {h : Heap} {a : Addr} {L : List (Addr × List Key)} (R : SetM0 P w h a L) (ht : ∀ p ∈ L, IsM P w h p.2 p.1) : ∃ es ep t, SetMR P w h a L es ep t := by
  obtain ⟨es, ep, t, h1, h2, h3, h4, h5, h6, h7⟩ := R.ex
  exact ⟨es, ep, t, h1, h2, h3, h4, ht, h5, h6, h7⟩
theorem setMO_new {H : Hp} {h : Heap} {a : Addr} {L : List (Addr × List Key)} (R : SetM0 P w h a L) : ObjOk P w H h a (SetMO P w a L) := by
  have ⟨es, ep, t, ⟨o, ho, r⟩, q⟩ := R.ex
  refine ⟨R, ⟨o, ho⟩, fun h1 h2 p k => ?_⟩
  have ⟨es', ep', t', ⟨o', ho', r'⟩, q'⟩ := SetM0.ex p
  exact ⟨es', ep', t', ⟨o', k o' ho', r'⟩, q'⟩
theorem mix_items : ∀ {k : List Key} {us : List Value}, Vals (k.map kV) us → ItemsAre (mixKind P w) k us
  | [], _, .nil => .nil
  | .inl i :: k, _, .cons ⟨t, e⟩ r => by
    subst e
    exact .cons (mixKind_int P w i t) (mix_items r)
  | .inr x :: k, _, .cons ⟨t, e⟩ r => by
    subst e
    exact .cons (mixKind_str P w x t) (mix_items r)
end
theorem mix_refs : ∀ {ks : List (Addr × List Key)} {us : List Value}, Vals (ks.map fun p => V.ref p.1) us → us = ks.map fun p => Value.ref p.1
  | [], _, .nil => rfl
  | p :: ks, _, .cons r t => by
    cases r
    rw [mix_refs t]
    rfl
theorem refs_mix : ∀ ks : List (Addr × List Key), Vals (ks.map fun p => V.ref p.1) (ks.map fun p => Value.ref p.1)
  | [] => .nil
  | p :: ks => .cons rfl (refs_mix ks)
section
variable {X : Cx}
theorem inv_isM {pins : List (Addr × Obj)} {σ : St} {H : Hp} {s : Shared} {b : Addr} {k : List Key} (I : Inv X pins σ H s) (h : SqT X.K H b (k.map kV)) : IsM X.prog X.w s.heap k b := by
  obtain ⟨its, r, ⟨o, ho, hc, n, hd⟩, _⟩ := I.tuple h
  exact ⟨o, its.toArray, n, ho, hc, hd, by simpa using mix_items r⟩
def rSetM (K : PySem.W.Frag) (P : Program) (w : World) : List V → Hp → VK → Prop := fun xs H Q => ∃ (l : Addr) (ks : List (Addr × List Key)), xs = [V.ref l] ∧ SqL K H l (ks.map fun p => V.ref p.1) ∧ (∀ p ∈ ks, SqT K H p.1 (p.2.map kV)) ∧ ks.length < 64 ∧
  ∀ a L, H a = none → (∀ p ∈ L, p ∈ ks) → (∀ p ∈ ks, p.2 ∈ L.map (·.2)) → Q (.ref a) (upd H a (SetMO P w a L))
theorem cr_setM (hc : X.calm = true) (hu : X.A.units + 64 < cLine) : CallR X (.type "set") (rSetM X.K X.prog X.w) := by
  intro pins s σ H xs us Q I r h
  obtain ⟨l, ks, rfl, hl, hk, hf, q⟩ := h
  rw [Vals.ref1 r]
  obtain ⟨its, rv, pl, hz⟩ := I.list hl
  have hn : H s.heap.objs.size = none := I.hok.fresh (Nat.le_refl _)
  refine call_setM (P := X.prog) (w := X.w) ks (I.ok.hd hc) pl.isList (by simpa using mix_refs rv) (fun p hp => inv_isM I (hk p hp)) hf (by omega) fun h' tk L es ep t R g k => ?_
  refine ⟨.ref s.heap.objs.size, upd H s.heap.objs.size (SetMO X.prog X.w s.heap.objs.size L), I.laid (t' := tk) k (Nat.le_refl _) (setMO_new R.t0), rfl, q _ L hn (fun p hp => List.mem_of_mem_take (g.sub p hp)) fun p hp => g.all p (by rw [List.take_length]; exact hp)⟩
def rSortedM (K : PySem.W.Frag) (P : Program) (w : World) : List V → Hp → VK → Prop := fun vs H Q => ∃ (a : Addr) (L : List (Addr × List Key)), vs = [V.ref a] ∧ H a = some (SetMO P w a L) ∧ (∀ p ∈ L, SqT K H p.1 (p.2.map kV)) ∧ W.AllAlike (L.map fun q => encK q.2) ∧ (∀ q ∈ L, q.2 ≠ []) ∧
  ∀ (L' : List (Addr × List Key)) (p : Addr), L'.Perm L → (L'.map (·.2)).Nodup → (L'.map fun q => encK q.2).Pairwise (fun x y => dle x y = true) → H p = none → Q (.ref p) (upd H p (.lst (L'.map fun q => V.ref q.1)))
theorem cr_sortedM (hc : X.calm = true) (hu : X.A.units + 64 < cLine) : CallR X (.builtin "sorted") (rSortedM X.K X.prog X.w) := by
  intro pins s σ H vs us Q I r h
  obtain ⟨a, L, rfl, ha, hk, hal, hne, q⟩ := h
  have R0 : SetM0 X.prog X.w s.heap a L := (I.hok a _ ha).1
  obtain ⟨es, ep, t, R⟩ := R0.full fun p hp => inv_isM I (hk p hp)
  rw [Vals.ref1 r]
  refine sorted_setM R (I.ok.hd hc) (by omega) hal hne fun s' p out c L' k g o hp hg hout pm pw => ?_
  have hfew : L'.length < 64 := by
    rw [pm.length_eq]
    exact R.few
  have hlen : (L'.map fun q => V.ref q.1).length ≤ sizeLine := by
    rw [List.length_map, sizeLine_eq]
    omega
  have hn : H p = none := I.hok.fresh hp
  have hv : Vals (L'.map fun q => V.ref q.1) out.toList := by
    rw [hout]
    exact refs_mix L'
  have J : Inv X pins σ (upd H p (.lst (L'.map fun q => V.ref q.1))) { s with heap := s'.heap, gens := s'.gens, drawn := s'.drawn, toks := s'.toks } :=
    I.call (ch := []) (Un.laid k hp hn) (I.hok.laid k hp ⟨hlen, out.toList, c, hv, hg⟩) (by rw [g]; exact I.bare) (fun _ z => nomatch z)
  have e : s' = { s with heap := s'.heap, gens := s'.gens, drawn := s'.drawn, toks := s'.toks } := by
    cases s'
    cases s
    cases o
    rfl
  rw [e]
  exact ⟨.ref p, _, J, rfl, q L' p pm ((pm.map (·.2)).nodup_iff.mpr R.nd) pw hn⟩
/-! ### as one expression -/
def keyOfD : D → Option Key
  | .int i => some (.inl i)
  | .str x => some (.inr x)
  | _ => none
def keysOfD : List D → Option (List Key)
  | [] => some []
  | d :: r => match keyOfD d, keysOfD r with
    | some k, some ks => some (k :: ks)
    | _, _ => none
def tupKey : D → Option (List Key)
  | .tuple ds => keysOfD ds
  | _ => none
theorem keysOfD_eq : ∀ {ds : List D} {ks : List Key}, keysOfD ds = some ks → ds = ks.map keyDt
  | [], _, h => by
    cases h
    rfl
  | d :: r, _, h => by
    rw [keysOfD] at h
    split at h
    · rename_i k ks h1 h2
      cases h
      rw [keysOfD_eq h2]
      cases d <;> first | (cases h1; rfl) | cases h1
    · cases h
theorem tupKey_eq {d : D} {k : List Key} (h : tupKey d = some k) : d = encK k := by
  cases d <;> first | (unfold encK; rw [← keysOfD_eq h]) | cases h
open Classical in
noncomputable def setSortL (vs : List Val) (S : Store) : Option (Val × Store) := match vs with
  | [v] => match asL v S with
    | some xs => match allD xs with
      | some ds => if (∀ d ∈ ds, ∃ k, k ≠ [] ∧ tupKey d = some k) ∧ W.AllAlike ds ∧ ds.length < 64 then some (.d (.list (setSort ds)), S) else none
      | none => none
    | none => none
  | _ => none
theorem rep_keys {T : Ty} {F : Hp} : ∀ {xs : List V} {k : List Key}, RepAll T F xs (k.map keyDt) → xs = k.map kV
  | _, [], .nil => rfl
  | _, .inl i :: k, .cons h t => by
    cases h
    rw [rep_keys t]
    rfl
  | _, .inr i :: k, .cons h t => by
    cases h
    rw [rep_keys t]
    rfl
/-- the addresses of a list of such tuples -/
theorem rep_tups {T : Ty} {F : Hp} : ∀ {ds : List D} {xs : List V}, RepAll T F xs ds → (∀ d ∈ ds, ∃ k, k ≠ [] ∧ tupKey d = some k) → ∃ ks : List (Addr × List Key), xs = ks.map (fun p => V.ref p.1) ∧ ds = ks.map (fun p => encK p.2) ∧ ∀ p ∈ ks, F p.1 = some (.tup (p.2.map kV)) ∧ p.2 ≠ []
  | [], _, .nil, _ => ⟨[], rfl, rfl, fun p z => by cases z⟩
  | d :: ds, _, .cons h t, hk => by
    obtain ⟨k, k0, hk1⟩ := hk d List.mem_cons_self
    cases tupKey_eq hk1
    obtain ⟨ks, e1, e2, e3⟩ := rep_tups t fun d z => hk d (List.mem_cons_of_mem _ z)
    unfold encK at h
    cases h with
    | tup f1 r1 =>
      rename_i a ys
      refine ⟨(a, k) :: ks, by rw [List.map_cons, e1], by rw [List.map_cons, e2], fun p z => ?_⟩
      rcases List.mem_cons.mp z with e | z
      · subst e
        exact ⟨by rw [← rep_keys r1]; exact f1, k0⟩
      · exact e3 p z
theorem rep_of_key {T : Ty} {F : Hp} {a : Addr} {k : List Key} (h : F a = some (.tup (k.map kV))) : Rep T F (.ref a) (encK k) := by
  have key : ∀ k : List Key, RepAll T F (k.map kV) (k.map keyDt) := fun k => by
    induction k with
    | nil => exact .nil
    | cons x k ih =>
      cases x with
      | inl i => exact .cons (.int i) ih
      | inr x => exact .cons (.str x) ih
  exact .tup h (key k)
theorem rep_all_key {T : Ty} {F : Hp} : ∀ {ks : List (Addr × List Key)}, (∀ p ∈ ks, F p.1 = some (.tup (p.2.map kV))) → RepAll T F (ks.map fun p => V.ref p.1) (ks.map fun p => encK p.2)
  | [], _ => .nil
  | p :: ks, h => .cons (rep_of_key (h p List.mem_cons_self)) (rep_all_key fun q z => h q (List.mem_cons_of_mem _ z))
theorem pd_sortSet {W : WE} {e : Expr} {m : Loc → Store → Res (List Val)} {p1 p2 pos1 pos2 : Pos} (hc : X.calm = true) (hu : X.A.units + 100 < cLine) (hg1 : Gl X "sorted") (hm1 : X.mg "sorted" = none) (hg2 : Gl X "set") (hm2 : X.mg "set" = none) (hb1 : bootBuiltins "sorted" = some (.builtin "sorted")) (hb2 : bootBuiltins "set" = some (.type "set")) (ha : PDA X W [e] m) (hst : nStar e = true) :
    PD X W (.Call (.Name "sorted" p1) [.Call (.Name "set" p2) [e] [] pos2] [] pos1) (evL setSortL m) := by
  have h2 := pe_callTy (p := p2) (pos := pos2) (cr_setM hc (by omega)) hg2 hm2 hb2 ha (by decide) (by decide) (star_cons hst) (nostars rfl)
  refine PE_imp (pe_callB (p := p1) (pos := pos1) (cr_sortedM hc (by omega)) hg1 hm1 hb1 (pa_cons h2 pa_nil (star_cons rfl)) (by decide) (by decide) (star_cons rfl) (nostars rfl)) fun σ H Q h => ?_
  obtain ⟨ρ, S, l, R, L, p⟩ := seqL h
  refine ⟨ρ, S, l, R, L, p.imp fun xs H1 ⟨ρ1, S1, vs, R1, q, p1⟩ => ?_⟩
  unfold setSortL at p1
  split at p1
  · rename_i v
    split at p1
    · rename_i ys hys
      split at p1
      · rename_i ds hds
        split at p1
        · rename_i hc
          obtain ⟨c1, c2, c3⟩ := hc
          cases q with
          | cons qv qr =>
            cases qr
            obtain ⟨a, zs, rfl, g1, g2⟩ := asL_ok R1 qv hys
            cases allD_eq hds
            obtain ⟨ks, k1, k2, k3⟩ := rep_tups (RepAll.of g2) c1
            subst k1
            have hlen : ks.length = ds.length := by rw [k2, List.length_map]
            refine ⟨a, ks, rfl, SqL.of g1, fun p hp => SqT.of (frz_le _ _ (k3 p hp).1), by omega, fun b L0 hb sub sup => ?_⟩
            obtain ⟨R2, E2, f2⟩ := R1.lay (o := SetMO X.prog X.w b L0) hb
            have kept : ∀ q ∈ L0, frz ρ1 S1 (upd H1 b (SetMO X.prog X.w b L0)) q.1 = some (.tup (q.2.map kV)) := fun q hq => E2.le _ _ (k3 q (sub q hq)).1
            refine ⟨b, L0, rfl, upd_same, fun q hq => SqT.of (frz_le _ _ (kept q hq)), fun d hd d' hd' => ?_, fun q hq => (k3 q (sub q hq)).2, fun L' y pm nd pw hy => ?_⟩
            · obtain ⟨q, hq, rfl⟩ := List.mem_map.mp hd
              obtain ⟨r, hr, rfl⟩ := List.mem_map.mp hd'
              rw [k2] at c2
              exact c2 _ (List.mem_map.mpr ⟨q, sub q hq, rfl⟩) _ (List.mem_map.mpr ⟨r, sub r hr, rfl⟩)
            · obtain ⟨R3, E3, f3⟩ := R2.lay (o := .lst (L'.map fun q => V.ref q.1)) hy
              have er : (L'.map fun q => encK q.2) = setSort ds := by
                refine setSort_eq (fun d hd => ?_) pw ?_ fun d => ?_
                · obtain ⟨k, _, e⟩ := c1 d hd
                  exact ⟨k, tupKey_eq e⟩
                · have e : (L'.map fun q => encK q.2) = (L'.map (·.2)).map encK := by simp [Function.comp_def]
                  rw [e]
                  refine List.pairwise_map.mpr (List.Pairwise.imp (fun {k k'} z e => z ?_) nd)
                  unfold encK at e
                  injection e with e
                  exact toks_inj (by rw [e])
                · constructor
                  · intro z
                    obtain ⟨q, hq, rfl⟩ := List.mem_map.mp z
                    rw [k2]
                    exact List.mem_map.mpr ⟨q, sub q (pm.mem_iff.mp hq), rfl⟩
                  · intro z
                    rw [k2] at z
                    obtain ⟨q, hq, rfl⟩ := List.mem_map.mp z
                    obtain ⟨r, hr, e⟩ := List.mem_map.mp (sup q hq)
                    exact List.mem_map.mpr ⟨r, pm.mem_iff.mpr hr, by show encK r.2 = encK q.2; rw [e]⟩
              refine p1 ρ1 _ _ R3 (E2.trans E3) (Rep.lst f3 ?_)
              rw [← er]
              exact rep_all_key fun q hq => E3.le _ _ (kept q (pm.mem_iff.mp hq))
        · exact p1.elim
      · exact p1.elim
    · exact p1.elim
  · exact p1.elim
end
end FH
namespace FH
open L2 PySem PySem.Spec
/-! ### methods of built-in kinds -/
def isKind (T : String) (v : Val) (S : Store) : Bool := match v with
  | .d (.str _) => decide (T = "str")
  | v => (decide (T = "list") && (asL v S).isSome) || (decide (T = "dict") && (asDic v S).isSome)
abbrev OpM := Val → List Val → Store → Option (Val × Store)
def evM (T : String) (g : OpM) (o : Ev) (m : Loc → Store → Res (List Val)) : Ev := fun l S => (o l S).bind fun v S1 => if isKind T v S1 = true then (m l S1).bind fun vs S2 => ofO (g v vs S2) else .stuck
section
variable {X : Cx} {W : WE}
theorem kind_ok {pins : List (Addr × Obj)} {σ : St} {H : Hp} {s : Shared} {T : String} {x : V} {u : Value} {ρ : List Addr} {S : Store} {v : Val} (I : Inv X pins σ H s) (r : RelV x u) (R : Rel (ty X) ρ S H) (q : RepV (ty X) ρ (frz ρ S H) x v) (h : isKind T v S = true) :
    s.TypeIs u T ∧ ∀ a, u = .ref a → ∃ ob, s.heap.get? a = some ob ∧ ob.dict = none := by
  unfold isKind at h
  split at h
  · cases of_decide_eq_true h
    cases q.str_
    obtain ⟨t, rfl⟩ := r
    exact ⟨typeIs_str s _ t, fun _ e => nomatch e⟩
  · rw [Bool.or_eq_true, Bool.and_eq_true, Bool.and_eq_true] at h
    rcases h with ⟨h1, h2⟩ | ⟨h1, h2⟩
    · cases of_decide_eq_true h1
      cases e : asL v S with
      | none =>
        rw [e] at h2
        cases h2
      | some xs =>
        obtain ⟨a, vs, rfl, g1, g2⟩ := asL_ok R q e
        cases r
        obtain ⟨its, _, pl, _⟩ := I.list (SqL.of g1)
        refine ⟨pl.isList.typeIs, fun b e => ?_⟩
        cases e
        obtain ⟨o, n, e, c, hd, _⟩ := pl
        exact ⟨o, e, hd⟩
    · cases of_decide_eq_true h1
      cases e : asDic v S with
      | none =>
        rw [e] at h2
        cases h2
      | some m =>
        obtain ⟨a, o, kvs, vvs, rfl, g1, g2, _, _⟩ := asDic_ok R q e
        cases r
        have go : s.heap.get? a = some o := (I.hok a _ g1).1
        refine ⟨⟨o, go, g2.ex.1⟩, fun b e => ?_⟩
        cases e
        exact ⟨o, go, g2.ex.2.1⟩
theorem pd_bm {T id : String} {name : Str} {g : OpM} {o e : Expr} {es : List Expr} {mo : Ev} {m : Loc → Store → Res (List Val)} {apos cpos : Pos} (pa : PlainAttrs T) (slot : Slot T name id) (hty : typeOf (.builtin id) = pure (.type "method_descriptor")) (hm : MtR X id (rM (ty X) g)) (ho : PD X W o mo) (ha : PDA X W (e :: es) m)
    (hbase : attributeBase o name X.env (eval o X.env) = eval o X.env) (hst : (e :: es).all nStar = true)
    (hfew : ((backTo cpos (starEach (e :: es) X.env)).all (fun x => !x.1) && (backToKw cpos (keywordEach [] X.env)).all (fun x => x.1.isSome)
      && decide ((e :: es).length + ([] : List Keyword).length + (if ([] : List Keyword).isEmpty then 0 else 1) < 30)) = true)
    (hline : (apos.endLine == cpos.line) = true) : PD X W (.Call (.Attribute o name apos) (e :: es) [] cpos) (evM T g mo m) := by
  rw [List.all_cons, Bool.and_eq_true] at hst
  refine ⟨fun pins s σ H Q I ⟨ρ, S, l, R, L, p⟩ => ?_⟩
  have h1 : tD (ty X) W mo σ H fun x H1 => ∃ ρ1 S1 v, Rel (ty X) ρ1 S1 H1 ∧ RepV (ty X) ρ1 (frz ρ1 S1 H1) x v ∧ isKind T v S1 = true ∧ tDA (ty X) W m σ H1 fun xs H2 => rM (ty X) g x xs H2 Q := by
    refine ⟨ρ, S, l, R, L, p.bind.imp fun x H1 ⟨ρ1, S1, v, R1, E1, q, _, p1⟩ => ?_⟩
    split at p1
    · rename_i hk
      refine ⟨ρ1, S1, v, R1, q, hk, ρ1, S1, l, R1, L.mono E1.pre E1.le, p1.bind.imp fun xs H2 ⟨ρ2, S2, vs, R2, E2, q2, _, p2⟩ => ?_⟩
      exact ⟨ρ2, S2, v, vs, R2, q.mono E2.pre E2.le, q2, Post0.of p2⟩
    · exact p1.elim
  refine wpAny_Call_method_late hbase hfew hline rfl (thn (ho.run pins s σ H _ I h1) fun u s1 ⟨x, H1, I1, r1, ρ1, S1, v, R1, q1, k1, h2⟩ => ?_)
  obtain ⟨t1, t2⟩ := kind_ok I1 r1 R1 q1 k1
  refine ⟨T, id, pa, slot, hty, t1, t2, ?_⟩
  have hA := ha.run cpos pins s1 σ H1 _ I1 h2
  rw [star_cons hst.1] at hA ⊢
  refine Calls.callWith_builtin (by show (false || (backTo cpos (starEach es X.env)).any (·.1)) = false; rw [nostars hst.2]; rfl) (Calls.evalArgs_plain ?_)
  exact thn hA fun us s2 ⟨vs, H2, I2, r2, q2⟩ => hm pins s2 σ H2 x vs u us Q I2 r1 r2 q2
theorem pd_bm0 {T id : String} {name : Str} {g : OpM} {o : Expr} {mo : Ev} {apos cpos : Pos} (pa : PlainAttrs T) (slot : Slot T name id) (hty : typeOf (.builtin id) = pure (.type "method_descriptor")) (hm : MtR X id (rM (ty X) g)) (ho : PD X W o mo)
    (hbase : attributeBase o name X.env (eval o X.env) = eval o X.env) (hline : (apos.endLine == cpos.line) = true) : PD X W (.Call (.Attribute o name apos) [] [] cpos) (evM T g mo evNil) := by
  refine ⟨fun pins s σ H Q I ⟨ρ, S, l, R, L, p⟩ => ?_⟩
  have h1 : tD (ty X) W mo σ H fun x H1 => ∃ ρ1 S1 v, Rel (ty X) ρ1 S1 H1 ∧ RepV (ty X) ρ1 (frz ρ1 S1 H1) x v ∧ isKind T v S1 = true ∧ rM (ty X) g x [] H1 Q := by
    refine ⟨ρ, S, l, R, L, p.bind.imp fun x H1 ⟨ρ1, S1, v, R1, E1, q, _, p1⟩ => ?_⟩
    split at p1
    · rename_i hk
      exact ⟨ρ1, S1, v, R1, q, hk, ρ1, S1, v, [], R1, q, .nil, Post0.of p1⟩
    · exact p1.elim
  refine wpAny_Call_method0_late hbase hline (thn (ho.run pins s σ H _ I h1) fun u s1 ⟨x, H1, I1, r1, ρ1, S1, v, R1, q1, k1, h2⟩ => ?_)
  obtain ⟨t1, t2⟩ := kind_ok I1 r1 R1 q1 k1
  exact ⟨T, id, pa, slot, hty, t1, t2, Calls.callWith_builtin rfl (PySem.evalArgs_none (hm pins s1 σ H1 x [] u [] Q I1 r1 .nil h2))⟩
end
end FH
/-! the rules in short, for code that lets no exception out -/
namespace FH
open L2 PySem PySem.Spec
section
variable {X : Cx}
theorem gv {W : WE} (i : Nat) {x : Str} {pos : Pos} (hN : X.N[i]? = some x := by rfl) (hv : Vis X.env.scope x := by first | exact .inl rfl | exact .inr (.inl rfl) | exact .inr (.inr rfl)) (hd : (x == ("__debug__" : Str)) = false := by decide) (hcd : (x == ("__classdict__" : Str)) = false := by decide) : PD X W (.Name x pos) (evVar i) := pd_var hN hv hd hcd
theorem gStr {W : WE} {z x : Str} {pos : Pos} (h : ∃ t, X.mg x = some (.str z t)) (hg : Gl X x := by rfl) (hd : (x == ("__debug__" : Str)) = false := by decide) : PD X W (.Name x pos) (evC (.d (.str z))) := by
  obtain ⟨t, e⟩ := h
  exact pd_glob (z := .str z) hg e ⟨t, rfl⟩ (fun _ _ => Rep.str z) hd
theorem gInt {W : WE} {z : Int} {x : Str} {pos : Pos} (h : ∃ t, X.mg x = some (.int z t)) (hg : Gl X x := by rfl) (hd : (x == ("__debug__" : Str)) = false := by decide) : PD X W (.Name x pos) (evC (.d (.int z))) := by
  obtain ⟨t, e⟩ := h
  exact pd_glob (z := .int z) hg e ⟨t, rfl⟩ (fun _ _ => Rep.int z) hd
theorem gTy {W : WE} {n : String} {x : Str} {pos : Pos} (hm : X.mg x = none) (hv : bootBuiltins x = some (.type n) := by rfl) (hg : Gl X x := by rfl) (hn : x ≠ "__name__" := by decide) (hd : (x == ("__debug__" : Str)) = false := by decide) : PD X W (.Name x pos) (evC (.ty n)) :=
  PE_imp (pe_bltn (v := .ty n) hg hm hv rfl hn hd) fun _ _ _ => tC_of (v := .ty n) fun _ _ => rfl
theorem gA0 {W : WE} : PDA X W [] evNil := pda_nil
theorem gA {W : WE} {e : Expr} {es : List Expr} {a : Ev} {r : Loc → Store → Res (List Val)} (ha : PD X W e a) (hr : PDA X W es r) (hs : nStar e = true := by rfl) : PDA X W (e :: es) (evCons a r) := pda_cons' hs ha hr
theorem gIx {W : WE} {a b : Expr} {ma mb : Ev} {pos : Pos} (hu : X.A.units + 100 < cLine) (ha : PD X W a ma) (hb : PD X W b mb) (hs : PlainIx b := by intro _ _; rfl) : PD X W (.Subscript a b pos) (ev2 ixV ma mb) := pd_ix hu hs ha hb
theorem gCmp {W : WE} {op : CmpOp} {a b : Expr} {ma mb : Ev} {pos : Pos} (hu : X.A.units + 100 < cLine) (ha : PD X W a ma) (hb : PD X W b mb) (hm : behindInMarks op b = false := by with_unfolding_all rfl) : PD X W (.Compare a [op] [b] pos) (ev2 (cmpV op) ma mb) := pd_cmp (or_cmp hu op) ha hb hm
theorem tCmp_ {W : WE} {op : CmpOp} {a b : Expr} {ma mb : Ev} {pos : Pos} (hu : X.A.units + 100 < cLine) (ha : PD X W a ma) (hb : PD X W b mb) (hm : behindInMarks op b = false := by with_unfolding_all rfl) : PDT X W (.Compare a [op] [b] pos) (evB (ev2 (cmpV op) ma mb)) := pdt_cmp (or_cmp hu op) ha hb hm
theorem gChain {W : WE} {op op' : CmpOp} {a b c : Expr} {ma mb mc : Ev} {pos : Pos} (hu : X.A.units + 100 < cLine) (ha : PD X W a ma) (hb : PD X W b mb) (hc : PD X W c mc) (hm : lastMarks [op, op'] [b, c] = false := by with_unfolding_all rfl) : PD X W (.Compare a [op, op'] [b, c] pos) (evChain (cmpV op) (cmpV op') ma mb mc) := pd_chain (or_cmp hu op) (or_cmp hu op') ha hb hc hm
theorem tChain_ {W : WE} {op op' : CmpOp} {a b c : Expr} {ma mb mc : Ev} {pos : Pos} (hu : X.A.units + 100 < cLine) (ha : PD X W a ma) (hb : PD X W b mb) (hc : PD X W c mc) (hm : lastMarks [op, op'] [b, c] = false := by with_unfolding_all rfl) : PDT X W (.Compare a [op, op'] [b, c] pos) (evB (evChain (cmpV op) (cmpV op') ma mb mc)) := pdt_chain (or_cmp hu op) (or_cmp hu op') ha hb hc hm
theorem tVal {W : WE} {e : Expr} {m : Ev} (h : PD X W e m) (he : ∀ whole, isTrue e X.env whole = (do let v ← whole; standAt e.pos; holding [v] (truthy v)) := by intro _; rfl) : PDT X W e (evB m) := pdt_val h he
/-- a built-in function, a built-in type -/
theorem gB {W : WE} {x : Str} {p pos : Pos} {e : Expr} {es : List Expr} {m : Loc → Store → Res (List Val)} {id : String} {g : OpL} (hc : CallR X (.builtin id) (rL (ty X) g)) (hm : X.mg x = none) (ha : PDA X W (e :: es) m) (hv : bootBuiltins x = some (.builtin id) := by rfl) (hg : Gl X x := by rfl) (hst : (e :: es).all nStar = true := by rfl)
    (hn : x ≠ "__name__" := by decide) (hdb : (x == ("__debug__" : Str)) = false := by decide) : PD X W (.Call (.Name x p) (e :: es) [] pos) (evL g m) := pd_callB hc hg hm hv ha hst hn hdb
theorem gT {W : WE} {x : Str} {p pos : Pos} {e : Expr} {es : List Expr} {m : Loc → Store → Res (List Val)} {T : String} {g : OpL} (hc : CallR X (.type T) (rL (ty X) g)) (hm : X.mg x = none) (ha : PDA X W (e :: es) m) (hv : bootBuiltins x = some (.type T) := by rfl) (hg : Gl X x := by rfl) (hst : (e :: es).all nStar = true := by rfl)
    (hn : x ≠ "__name__" := by decide) (hdb : (x == ("__debug__" : Str)) = false := by decide) : PD X W (.Call (.Name x p) (e :: es) [] pos) (evL g m) := pd_callTy hc hg hm hv ha hst hn hdb
theorem gSortSet {W : WE} {e : Expr} {m : Loc → Store → Res (List Val)} {p1 p2 pos1 pos2 : Pos} (hu : X.A.units + 100 < cLine) (hm1 : X.mg "sorted" = none) (hm2 : X.mg "set" = none) (ha : PDA X W [e] m) (hst : nStar e = true := by rfl) (hc : X.calm = true := by rfl) (hg1 : Gl X "sorted" := by rfl) (hg2 : Gl X "set" := by rfl)
    (hb1 : bootBuiltins "sorted" = some (.builtin "sorted") := by rfl) (hb2 : bootBuiltins "set" = some (.type "set") := by rfl) :
    PD X W (.Call (.Name "sorted" p1) [.Call (.Name "set" p2) [e] [] pos2] [] pos1) (evL setSortL m) := pd_sortSet hc hu hg1 hm1 hg2 hm2 hb1 hb2 ha hst
theorem gDisp {W : WE} {own : Bool} {pos : Pos} {keys : List (Option Expr)} {values : List Expr} {ps : List (Ev × Ev)} (hu : X.A.units + 100 < cLine) (h : PDP X W pos keys values ps) (h0 : keys ≠ [] := by simp) (h15 : keys.length ≤ 15 := by decide) : PD X W (.Dict keys values pos) (evDisp own ps) := pd_disp (by omega) h h0 h15
/-! ### own functions, known by name -/
def FnK (P : Program) (w : World) (K : PySem.W.Frag) (mg : Str → Option Value) (base : Heap) (k : Nat) (x : Str) (ps : List Str) (g : Fn) : Prop :=
  mg x = some (.ref (He.ga K x)) ∧ ∃ fd, FnOk P w K mg base CX0 k (He.ga K x) fd ps (spF ⟨w, K, mg⟩ wf0 ps.length g) ∧ Binds K fd ps [] ∧ PySem.W.keepIn K (.ref (He.ga K x)) = true ∧ ∃ o, K.lookup (He.ga K x) = some o ∧ o.data = .func fd
theorem gC {k n : Nat} {ps : List Str} {g : Fn} {x : Str} {p pos : Pos} {e : Expr} {es : List Expr} {m : Loc → Store → Res (List Val)} (F : FnK X.prog X.w X.K X.mg X.base k x ps g) (hr : Room k X.A) (ha : PDA X W0 (e :: es) m) (hn : ps.length = n := by rfl) (hg : Gl X x := by rfl) (hst : (e :: es).all nStar = true := by rfl) (hdb : (x == ("__debug__" : Str)) = false := by decide) :
    PD X W0 (.Call (.Name x p) (e :: es) [] pos) (evCall n g m) := by
  obtain ⟨h1, fd, h2, h3, h4, _⟩ := F
  subst hn
  exact pd_call h2 hr hg h1 h4 h3 (fun _ _ _ _ _ _ _ z => z.elim) (fun _ _ _ z => z.elim) ha hst hdb
theorem gC0 {k : Nat} {g : Fn} {x : Str} {p pos : Pos} (F : FnK X.prog X.w X.K X.mg X.base k x [] g) (hr : Room k X.A) (hg : Gl X x := by rfl) (hdb : (x == ("__debug__" : Str)) = false := by decide) : PD X W0 (.Call (.Name x p) [] [] pos) (evCall 0 g evNil) := by
  obtain ⟨h1, fd, h2, h3, h4, _⟩ := F
  exact pd_call0 h2 hr hg h1 h4 h3 (fun _ _ _ _ _ _ _ z => z.elim) (fun _ _ _ z => z.elim) hdb
theorem gM {W : WE} {T id : String} {name : Str} {g : OpM} {o e : Expr} {es : List Expr} {mo : Ev} {m : Loc → Store → Res (List Val)} {apos cpos : Pos} (pa : PlainAttrs T) (slot : Slot T name id) (hty : typeOf (.builtin id) = pure (.type "method_descriptor")) (hm : MtR X id (rM (ty X) g)) (ho : PD X W o mo) (ha : PDA X W (e :: es) m)
    (hbase : attributeBase o name X.env (eval o X.env) = eval o X.env := by rfl) (hst : (e :: es).all nStar = true := by rfl)
    (hfew : ((backTo cpos (starEach (e :: es) X.env)).all (fun x => !x.1) && (backToKw cpos (keywordEach [] X.env)).all (fun x => x.1.isSome)
      && decide ((e :: es).length + ([] : List Keyword).length + (if ([] : List Keyword).isEmpty then 0 else 1) < 30)) = true := by rfl)
    (hline : (apos.endLine == cpos.line) = true := by rfl) : PD X W (.Call (.Attribute o name apos) (e :: es) [] cpos) (evM T g mo m) := pd_bm pa slot hty hm ho ha hbase hst hfew hline
theorem gM0 {W : WE} {T id : String} {name : Str} {g : OpM} {o : Expr} {mo : Ev} {apos cpos : Pos} (pa : PlainAttrs T) (slot : Slot T name id) (hty : typeOf (.builtin id) = pure (.type "method_descriptor")) (hm : MtR X id (rM (ty X) g)) (ho : PD X W o mo)
    (hbase : attributeBase o name X.env (eval o X.env) = eval o X.env := by rfl) (hline : (apos.endLine == cpos.line) = true := by rfl) : PD X W (.Call (.Attribute o name apos) [] [] cpos) (evM T g mo evNil) := pd_bm0 pa slot hty hm ho hbase hline
/-! ### targets, walks, comprehensions -/
theorem tgN (i : Nat) {x : Str} {pos : Pos} (hN : X.N.Nodup) (hi : X.N[i]? = some x := by rfl) (hx : L2.Loc X.env.scope x := by first | exact .inl rfl | exact .inr rfl) (hf : X.fn x = true ∨ X.env.scope.names.lookup x = some .local := by first | exact .inl rfl | exact .inr rfl) : PG X (.Name x pos) (gD (ty X) (tgName i)) := pgd_name hN hi hx hf
theorem tgs0 : PGs X [] (gsD (ty X) []) := pgsd_nil
theorem tgs (i : Nat) {x : Str} {pos : Pos} {es : List Expr} {is : List Nat} (hN : X.N.Nodup) (h : PGs X es (gsD (ty X) is)) (hi : X.N[i]? = some x := by rfl) (hx : L2.Loc X.env.scope x := by first | exact .inl rfl | exact .inr rfl) (hf : X.fn x = true ∨ X.env.scope.names.lookup x = some .local := by first | exact .inl rfl | exact .inr rfl) : PGs X (.Name x pos :: es) (gsD (ty X) (i :: is)) := pgsd_cons hN hi hx hf h
theorem tgT {es : List Expr} {k : Nat} {pos : Pos} {is : List Nat} (h : PGs X es (gsD (ty X) is)) (hc : X.calm = true := by rfl) (he : es.all isName = true := by rfl) (hl : es.length = is.length := by rfl) : PG X (.Tuple es k pos) (gD (ty X) (tgTup is)) := pgd_tup hc he hl h
theorem gRange {W : WE} {tg a : Expr} {m : Ev} {p pos : Pos} (hm : X.mg "range" = none) (ha : PD X W a m) (hg : Gl X "range" := by rfl) (hs : nStar a = true := by rfl) : PI X tg (.Call (.Name "range" p) [a] [] pos) (iD (ty X) W (evRange (evCons m evNil))) :=
  pid_range1 hg hm (gA ha gA0 hs) hs (evCons_len fun _ _ _ _ z => evNil_len z)
theorem gZip {W : WE} {e e2 : Expr} {m : Loc → Store → Res (List Val)} {p pos tpos : Pos} {elts : List Expr} {kk : Nat} (hm : X.mg "zip" = none) (ha : PDA X W [e, e2] m) (hg : Gl X "zip" := by rfl) (h1 : nStar e = true := by rfl) (h2 : nStar e2 = true := by rfl) :
    PI X (.Tuple elts kk tpos) (.Call (.Name "zip" p) [e, e2] [] pos) (iD (ty X) W (evZip m)) := pid_zip hg hm ha h1 h2
theorem gLC {W : WE} {own : Bool} {elt tg iter : Expr} {ifs : List Expr} {scope : Scope} (ow : List (Str × Nat)) {vs : List Nat} {pos : Pos} {it : Loc → Store → Res Walked} {t : Tg} {c : Tv} {e : Ev} (hN : X.N.Nodup) (hi : PI X tg iter (iD (ty X) W it))
    (hg : ∀ (s : Shared) (H : Hp) (C : Addr) (cl : List (Str × Addr)) (fp : List Addr), PG (X.blk s H scope (compEnvC scope cl C X.env) fp) tg (gD (ty X) t)) (ht : ∀ (s : Shared) (H : Hp) (C : Addr) (cl : List (Str × Addr)) (fp : List Addr), PTs (X.blk s H scope (compEnvC scope cl C X.env) fp) ifs (tDT (ty X) W0 c))
    (he : ∀ (s : Shared) (H : Hp) (C : Addr) (cl : List (Str × Addr)) (fp : List Addr), PE (X.blk s H scope (compEnvC scope cl C X.env) fp) elt (tD (ty X) W0 e)) (ok : blkC X.N X.env.scope scope ow = true := by rfl) (hvs : ow.map (·.2) = vs := by rfl) (hc : X.calm = true := by rfl) (hsub : ∀ i ∈ t.1, i ∈ vs := by decide) (hs : ∀ x, foldedSetIterable iter X.env x = pure x := by intro _; rfl) :
    PD X W (.ListComp elt [⟨tg, iter, ifs, 0⟩] scope pos) (evLC own it t vs c e) := pd_lc hc hN hi (blkOk_by ok) hvs hg ht he hsub hs
theorem sSetLC {W : WE} {own : Bool} (i : Nat) {y : Str} {py : Pos} {elt tg iter : Expr} {ifs : List Expr} {scope : Scope} (ow : List (Str × Nat)) {vs : List Nat} {pos spos : Pos} {it : Loc → Store → Res Walked} {t : Tg} {c : Tv} {e : Ev} (hN : X.N.Nodup) (hi : PI X tg iter (iD (ty X) W it))
    (hg : ∀ (s : Shared) (H : Hp) (C : Addr) (cl : List (Str × Addr)) (fp : List Addr), PG (X.blk s H scope (compEnvC scope cl C X.env) fp) tg (gD (ty X) t)) (ht : ∀ (s : Shared) (H : Hp) (C : Addr) (cl : List (Str × Addr)) (fp : List Addr), PTs (X.blk s H scope (compEnvC scope cl C X.env) fp) ifs (tDT (ty X) W0 c))
    (he : ∀ (s : Shared) (H : Hp) (C : Addr) (cl : List (Str × Addr)) (fp : List Addr), PE (X.blk s H scope (compEnvC scope cl C X.env) fp) elt (tD (ty X) W0 e)) (hy : X.N[i]? = some y := by rfl) (hyl : X.env.scope.names.lookup y = some .local := by rfl)
    (hsw : swapsWith (.ListComp elt [⟨tg, iter, ifs, 0⟩] scope pos) (some (.Name y py)) spos.line X.env = pure true := by rfl) (ok : blkC X.N X.env.scope scope ow = true := by rfl) (hvs : ow.map (·.2) = vs := by rfl) (hc : X.calm = true := by rfl) (hsub : ∀ i ∈ t.1, i ∈ vs := by decide) (hs : ∀ x, foldedSetIterable iter X.env x = pure x := by intro _; rfl) :
    PDS X W (.Assign [.Name y py] (.ListComp elt [⟨tg, iter, ifs, 0⟩] scope pos) spos) (sSet (evLC own it t vs c e) (tgName i)) := pds_setLc hc hN hy hyl hsw hi (blkOk_by ok) hvs hg ht he hsub hs
/-! ### statements -/
theorem sSetN {W : WE} {i : Nat} {x : Str} {e : Expr} {m : Ev} {pos' pos : Pos} (hN : X.N.Nodup) (he : PD X W e m) (hi : X.N[i]? = some x := by rfl) (hx : L2.Loc X.env.scope x := by first | exact .inl rfl | exact .inr rfl) (hs : swapsWith e (some (.Name x pos')) pos.line X.env = pure false := by rfl) (hf : X.fn x = true ∨ X.env.scope.names.lookup x = some .local := by first | exact .inl rfl | exact .inr rfl) :
    PDS X W (.Assign [.Name x pos'] e pos) (sSet m (tgName i)) := pds_set hN hi hx he hs hf
theorem sAsg {W : WE} {tg e : Expr} {m : Ev} {t : Tg} {pos : Pos} (he : PD X W e m) (hg : PG X tg (gD (ty X) t)) (hs : swapsWithSole [tg] e pos.line X.env = pure false := by rfl) (hw : swappedStores [tg] e X.env = pure none := by rfl) (h1 : (assignEach [tg] X.env).map (·.2) = [assign tg X.env] := by rfl) : PDS X W (.Assign [tg] e pos) (sSet m t) := pds_asg he hg hs hw h1
theorem sPar2 {W : WE} {i j : Nat} {x y : Str} {a b : Expr} {m : Loc → Store → Res (List Val)} {px py pt pos : Pos} {kt k2 pt2} (hN : X.N.Nodup) (ha : PDA X W [a, b] m) (hc : X.calm = true := by rfl) (hi : X.N[i]? = some x := by rfl) (hj : X.N[j]? = some y := by rfl) (hij : i ≠ j := by decide)
    (hx : X.env.scope.names.lookup x = some .local := by rfl) (hy : X.env.scope.names.lookup y = some .local := by rfl)
    (hw : swappedStores [.Tuple [.Name x px, .Name y py] kt pt] (.Tuple [a, b] k2 pt2) X.env = pure (some [x, y]) := by rfl)
    (hs : swapsWithSole [.Tuple [.Name x px, .Name y py] kt pt] (.Tuple [a, b] k2 pt2) pos.line X.env = pure false := by rfl) :
    PDS X W (.Assign [.Tuple [.Name x px, .Name y py] kt pt] (.Tuple [a, b] k2 pt2) pos) (sPar [i, j] m) := pds_par hc hN hi hj hij hx hy ha hw hs
theorem sPar3 {W : WE} {i j k : Nat} {x y z : Str} {a b c : Expr} {m : Loc → Store → Res (List Val)} {px py pz pt pos : Pos} {kt k2 pt2} (hN : X.N.Nodup) (ha : PDA X W [a, b, c] m) (hc : X.calm = true := by rfl) (hi : X.N[i]? = some x := by rfl) (hj : X.N[j]? = some y := by rfl) (hl : X.N[k]? = some z := by rfl) (hij : i ≠ j := by decide) (hil : i ≠ k := by decide) (hjl : j ≠ k := by decide)
    (hx : X.env.scope.names.lookup x = some .local := by rfl) (hy : X.env.scope.names.lookup y = some .local := by rfl) (hz : X.env.scope.names.lookup z = some .local := by rfl)
    (hw : swappedStores [.Tuple [.Name x px, .Name y py, .Name z pz] kt pt] (.Tuple [a, b, c] k2 pt2) X.env = pure (some [x, y, z]) := by rfl)
    (hs : swapsWithSole [.Tuple [.Name x px, .Name y py, .Name z pz] kt pt] (.Tuple [a, b, c] k2 pt2) pos.line X.env = pure false := by rfl) :
    PDS X W (.Assign [.Tuple [.Name x px, .Name y py, .Name z pz] kt pt] (.Tuple [a, b, c] k2 pt2) pos) (sPar [i, j, k] m) := pds_par3 hc hN hi hj hl hij hil hjl hx hy hz ha hw hs
theorem sUnp {W : WE} {ts es : List Expr} {is : List Nat} {m : Loc → Store → Res (List Val)} {pt pt2 pos : Pos} {kt k2} (hg : PGs X ts (gsD (ty X) is)) (ha : PDA X W es m) (hlen : ∀ l S vs S', m l S = .ok vs S' → vs.length = es.length) (hc : X.calm = true := by rfl) (hsz : es.length ≤ 100 := by decide) (he : ts.all isName = true := by rfl) (hl : ts.length = is.length := by rfl) (hel : es.length = is.length := by rfl)
    (hw : swappedStores [.Tuple ts kt pt] (.Tuple es k2 pt2) X.env = pure none := by rfl) (hs : swapsWithSole [.Tuple ts kt pt] (.Tuple es k2 pt2) pos.line X.env = pure false := by rfl) (h1 : (assignEach [.Tuple ts kt pt] X.env).map (·.2) = [assign (.Tuple ts kt pt) X.env] := by rfl) :
    PDS X W (.Assign [.Tuple ts kt pt] (.Tuple es k2 pt2) pos) (sPar is m) := pds_unp hc hsz he hl hel hg ha hlen hw hs h1
theorem sSubI {W : WE} {o i e : Expr} {mo mi me : Ev} {tpos pos : Pos} (hu : X.A.units + 100 < cLine) (ho : PD X W o mo) (hi : PD X W i mi) (he : PD X W e me)
    (ha : ∀ v, assign (.Subscript o i tpos) X.env v = (do
      let ov ← holding [v] (eval o X.env)
      let iv ← holding [v, ov] (eval i X.env)
      standAt tpos
      holding [v, ov, iv] (setItem ov iv v)
      release [v, ov, iv] []) := by intro _; rfl)
    (hs : swapsWithSole [.Subscript o i tpos] e pos.line X.env = pure false := by rfl) (hw : swappedStores [.Subscript o i tpos] e X.env = pure none := by rfl) (h1 : (assignEach [.Subscript o i tpos] X.env).map (·.2) = [assign (.Subscript o i tpos) X.env] := by rfl) :
    PDS X W (.Assign [.Subscript o i tpos] e pos) (sSub me mo mi) := pds_sub hu ho hi he ha hs hw h1
theorem sAugI {W : WE} {o i e : Expr} {mo mi me : Ev} {tpos pos : Pos} (hu : X.A.units + 100 < cLine) (ho : PD X W o mo) (hi : PD X W i mi) (he : PD X W e me)
    (ha : ∀ ov iv new, augStore i ov iv new = (do holding [new, ov, iv] (setItem ov iv new); release [new, ov, iv] []; pure .next) := by intros; rfl) : PDS X W (.AugAssign (.Subscript o i tpos) .Add e pos) (sAugS mo mi me iaddV) := pds_augS hu ho hi he ha
theorem sExp {W : WE} {e : Expr} {m : Ev} {pos : Pos} (he : PD X W e m) (hs : swapsWith e none pos.line X.env = pure false := by rfl) : PDS X W (.Expr e pos) (sDrop m) := pds_expr he hs
end
section
variable {X : Cx}
/-- a loop, where no exception is looked for -/
theorem sForN {tg iter : Expr} {body : List Stmt} {it : Loc → Store → Res Walked} {t : Tg} {mb : Sv} {pos : Pos} (hi : PI X.nox tg iter (iD (ty X) W0 it)) (hg : PG X.nox tg (gD (ty X) t)) (hb : PDSs X.nox W0 body mb) (hc : X.calm = true := by rfl)
    (hs : ∀ x, foldedSetIterable iter X.env x = pure x := by intro _; rfl) : PDS X.nox W0 (.For tg iter body [] pos) (sFor it t mb) := pds_for (X := X.nox) PassesOwn.never hc hi hg hb hs
theorem sWhileN {c : Expr} {body : List Stmt} {n : Nat} {mc : Tv} {mb : Sv} {pos : Pos} (hc : PDT X.nox W0 c mc) (hb : PDSs X.nox W0 body mb) : PDS X.nox W0 (.While c body [] pos) (whGo mc mb n) := pds_while (X := X.nox) PassesOwn.never hc hb
end
theorem funD_look {K : PySem.W.Frag} {x q : Str} {ps : Arguments} {body : List Stmt} {scope : Scope} {dvs : List V} {kws : List (Str × V)} {f : Addr} {fd : FuncData} (F : FunD K x q ps body scope dvs kws f fd) : ∃ o, K.lookup f = some o ∧ o.data = .func fd := by
  obtain ⟨oc, od, dV, kV, doc, pm, an, cdv, ct, osl, e, lk, _⟩ := F.ex
  exact ⟨_, lk, rfl⟩
theorem FnK.fd {P : Program} {w : World} {K : PySem.W.Frag} {mg : Str → Option Value} {base : Heap} {k : Nat} {x q : Str} {as : Arguments} {body : List Stmt} {scope : Scope} {dvs : List V} {kws : List (Str × V)} {ps : List Str} {g : Fn} {fd : FuncData} (h : FnK P w K mg base k x ps g) (F : FunD K x q as body scope dvs kws (He.ga K x) fd) :
    FnOk P w K mg base CX0 k (He.ga K x) fd ps (spF ⟨w, K, mg⟩ wf0 ps.length g) := by
  obtain ⟨_, fd2, h2, _, _, o, e, d⟩ := h
  obtain ⟨o', e', d'⟩ := funD_look F
  rw [e] at e'
  cases e'
  rw [d] at d'
  cases d'
  exact h2
theorem rel0 {T : Ty} {H : Hp} : Rel T [] [] H := ⟨rfl, List.nodup_nil, fun a h => absurd h (by simp), fun n a o h => absurd h (by simp)⟩
theorem frz0 {H : Hp} : frz [] [] H = H := funext fun b => frz_of_not fun ⟨n, o, e, _⟩ => absurd e (by simp)
/-- a def of the top keeps its promise -/
theorem fnK_of {P : Program} {w : World} {K : PySem.W.Frag} {mg : Str → Option Value} {base : Heap} {x : Str} {st : Stmt} {fd : FuncData} {N ps : List Str} {k : Nat} {keep : Bool} {mb : Sv}
    (hm : mg x = some (.ref (He.ga K x))) (F : FunD K x x (defArgs st) (defBody st) (defScope st) [] [] (He.ga K x) fd) (Sc : FnScope N ps (defScope st)) (hb : Binds K fd ps [])
    (hbody : ∀ (cdv : Value) (A : Around) (outer : List Env) (s : Shared) (H : Hp) (E : XK), Room k (A.deeper (PyProof.Rows.envOfC x (defScope st) s.heap.objs.size (He.ga K x) cdv)) → PDSs (cxOf CX0 P w K mg base N x (defScope st) (He.ga K x) cdv A outer s H E).nox W0 (defBody st) mb) :
    FnK P w K mg base (k + 1) x ps (fnB keep N.length mb) := ⟨hm, fd, fn_ok0 F Sc rfl hbody, hb, F.kp, funD_look F⟩
theorem fnK_stuck {P : Program} {w : World} {K : PySem.W.Frag} {mg : Str → Option Value} {base : Heap} {x : Str} {st : Stmt} {fd : FuncData} {ps : List Str} {g : Fn} (hm : mg x = some (.ref (He.ga K x))) (F : FunD K x x (defArgs st) (defBody st) (defScope st) [] [] (He.ga K x) fd) (hb : Binds K fd ps []) (h : ∀ as S, g as S = .stuck) :
    FnK P w K mg base 0 x ps g := ⟨hm, fd, fn_stuck h, hb, F.kp, funD_look F⟩
theorem hu_room {k : Nat} {A : Around} (h : Room k A) : A.units + 100 < cLine := by
  have := h.un
  omega
end FH
/-! texts: joined, split, cut, read as numbers -/
namespace FH
open L2 PySem PySem.Spec PyProof.Rows
def allS : List Val → Option (List Str)
  | [] => some []
  | .d (.str x) :: r => (allS r).map (x :: ·)
  | _ :: _ => none
theorem allS_ok {T : Ty} {ρ : List Addr} {F : Hp} : ∀ {xs : List V} {vs : List Val} {ys : List Str}, RepVs T ρ F xs vs → allS vs = some ys → xs = ys.map V.str
  | _, _, _, .nil, h => by
    cases h
    rfl
  | _, _, _, .cons (b := v) r t, h => by
    cases v with
    | d x =>
      cases x with
      | str z =>
        obtain ⟨zs, e, rfl⟩ := Option.map_eq_some_iff.mp (show (allS _).map _ = some _ from h)
        rw [allS_ok t e, RepV.str_ r]
        rfl
      | _ => cases h
    | _ => cases h
def joinM : OpM := fun v vs S => match v, vs with
  | .d (.str a), [x] => match asQ x S with
    | some xs => match allS xs with
      | some ys => if (ys.map (·.length)).sum + ys.length * a.length ≤ 16777216 then some (.d (.str (Txt.join a ys)), S) else none
      | none => none
    | none => none
  | _, _ => none
def splitM : OpM := fun v vs S => match v, vs with
  | .d (.str a), [.d (.str b)] => if (b.length == 0) = false ∧ a.length + 2 ≤ sizeLine then mkL ((Txt.split a b).map fun x => .d (.str x)) S else none
  | _, _ => none
def partM : OpM := fun v vs S => match v, vs with
  | .d (.str a), [.d (.str b)] => if (b.length == 0) = false ∧ a.length ≤ sizeLine then mkT [.d (.str (Txt.partition a b).1), .d (.str (Txt.partition a b).2.1), .d (.str (Txt.partition a b).2.2)] S else none
  | _, _ => none
def intL : OpL := fun vs S => match vs with
  | [.d (.str a)] => match PySem.intText? a with
    | some n => if a.length ≤ 640 then some (.d (.int n), S) else none
    | none => none
  | _ => none
def strX : OpL := fun vs S => match vs with
  | [.d (.int i)] => if i.natAbs.log2 < 1920 then some (.d (.str (toString i)), S) else none
  | [.d (.str a)] => some (.d (.str a), S)
  | _ => none
theorem pr_strs {T : Ty} {ρ : List Addr} {F : Hp} : ∀ ys : List Str, RepVs T ρ F (ys.map V.str) (ys.map fun x => Val.d (.str x))
  | [] => .nil
  | y :: ys => .cons (Rep.str y) (pr_strs ys)
section
variable {X : Cx}
theorem mt_joinM : MtR X "str.join" (rM (ty X) joinM) := by
  intro pins s σ H x xs v us Q I rx rv h
  obtain ⟨ρ, S, a, vs, R, qx, q, p⟩ := h
  unfold joinM at p
  split at p
  · rename_i a z
    split at p
    · rename_i ws e
      split at p
      · rename_i ys e2
        split at p
        · rename_i hz
          cases q with
          | cons qy t =>
            cases t
            obtain ⟨a1, v1, rfl, h1, r1⟩ := asQ_ok X.K R qy e
            have e3 := allS_ok r1 e2
            subst e3
            exact mt_join pins s σ H _ _ v us Q I rx rv ⟨a, a1, ys, qx.str_, rfl, h1, hz, p ρ H _ R Ext.refl (Rep.str _)⟩
        · exact p.elim
      · exact p.elim
    · exact p.elim
  · exact p.elim
theorem mt_splitM : MtR X "str.split" (rM (ty X) splitM) := by
  intro pins s σ H x xs v us Q I rx rv h
  obtain ⟨ρ, S, a, vs, R, qx, q, p⟩ := h
  unfold splitM at p
  split at p
  · rename_i a b
    split at p
    · rename_i hz
      cases q with
      | cons qy t =>
        cases t
        exact mt_split pins s σ H _ _ v us Q I rx rv ⟨a, b, qx.str_, by rw [RepV.str_ qy], hz.1, hz.2, fun p' hp => post_mkL R (pr_strs _) hp p⟩
    · exact p.elim
  · exact p.elim
theorem mt_partM : MtR X "str.partition" (rM (ty X) partM) := by
  intro pins s σ H x xs v us Q I rx rv h
  obtain ⟨ρ, S, a, vs, R, qx, q, p⟩ := h
  unfold partM at p
  split at p
  · rename_i a b
    split at p
    · rename_i hz
      cases q with
      | cons qy t =>
        cases t
        exact mt_partition pins s σ H _ _ v us Q I rx rv ⟨a, b, qx.str_, by rw [RepV.str_ qy], hz.1, hz.2, fun p' hp => post_mkT (xs := [.d (.str (Txt.partition a b).1), .d (.str (Txt.partition a b).2.1), .d (.str (Txt.partition a b).2.2)]) R (.cons (Rep.str _) (.cons (Rep.str _) (.cons (Rep.str _) .nil))) hp p⟩
    · exact p.elim
  · exact p.elim
theorem cr_int_ : CallR X (.type "int") (rL (ty X) intL) := by
  intro pins s σ H xs us Q I r h
  obtain ⟨ρ, S, vs, R, q, p⟩ := h
  unfold intL at p
  split at p
  · split at p
    · rename_i a n e
      split at p
      · rename_i hz
        cases q with
        | cons qx t =>
          cases t
          exact call_int_str pins s σ H _ us Q I r ⟨_, n, by rw [RepV.str_ qx], e, hz, p ρ H _ R Ext.refl (Rep.int _)⟩
      · exact p.elim
    · exact p.elim
  · exact p.elim
theorem cr_strX : CallR X (.type "str") (rL (ty X) strX) := by
  intro pins s σ H xs us Q I r h
  obtain ⟨ρ, S, vs, R, q, p⟩ := h
  unfold strX at p
  split at p
  · split at p
    · rename_i i hz
      cases q with
      | cons qx t =>
        cases t
        exact call_str_int pins s σ H _ us Q I r ⟨i, by rw [qx.int_], hz, p ρ H _ R Ext.refl (Rep.str _)⟩
    · exact p.elim
  · cases q with
    | cons qx t =>
      cases t
      exact SkE.call_str_str pins s σ H _ us Q I r ⟨_, by rw [RepV.str_ qx], p ρ H _ R Ext.refl (Rep.str _)⟩
  · exact p.elim
/-- a text, or another one where it is empty -/
def evOrS (a b : Ev) : Ev := fun l S => (a l S).bind fun v S1 => match v with
  | .d (.str z) => if z.length ≤ sizeLine then (if z.length = 0 then b l S1 else .ok (.d (.str z)) S1) else .stuck
  | _ => .stuck
theorem pd_orS {W : WE} {a b : Expr} {rest : List Expr} {ma mb : Ev} {pos : Pos} (ha : PD X W a ma) (hb : PD X W (.BoolOp .Or (b :: rest) pos) mb) : PD X W (.BoolOp .Or (a :: b :: rest) pos) (evOrS ma mb) := PE_imp (pe_orT ha hb) fun σ H Q ⟨ρ, S, l, R, L, p⟩ => by
  refine ⟨ρ, S, l, R, L, p.bind.imp fun x H1 ⟨ρ1, S1, v, R1, E1, q, _, p1⟩ => ?_⟩
  split at p1
  · rename_i z _
    split at p1
    · rename_i hz
      cases (RepV.str_ q)
      refine ⟨((z.length : Int) != 0), ⟨hz, rfl⟩, ?_⟩
      split at p1
      · rename_i h0
        rw [if_neg (by rw [h0]; decide)]
        exact ⟨ρ1, S1, l, R1, L.mono E1.pre E1.le, p1⟩
      · rename_i h0
        rw [if_pos (by simp; omega)]
        exact p1 ρ1 H1 _ R1 Ext.refl q
    · exact p1.elim
  · exact p1.elim
end
end FH
/-! reckoning with what the code computes -/
namespace FH
open L2 PySem PySem.Spec
@[simp] theorem evVar_0 {v : Val} {l : Loc} {S : Store} : evVar 0 (some v :: l) S = .ok v S := rfl
@[simp] theorem evVar_s {i : Nat} {v : Option Val} {l : Loc} {S : Store} : evVar (i + 1) (v :: l) S = evVar i l S := rfl
theorem take_self {α : Type} (S : List α) : S.take S.length = S := List.take_length
theorem cutOk_refl (S : Store) : cutOk S S := fun i o hi h => .inl h
theorem popO_id {S : Store} {v : Val} (h : v.cl S.length) : popO S v S = some (v, S) := by
  unfold popO
  rw [if_pos ⟨cutOk_refl S, h⟩, List.take_length]
@[simp] theorem finR_d {S : Store} {x : D} : finR false S (.d x) S = .ok (.d x) S := by
  unfold finR
  rw [if_neg (by decide)]
  show ofO (popO S (.d x) S) = _
  rw [popO_id (show Val.cl S.length (.d x) from trivial)]
  rfl
@[simp] theorem exitR_rt {k : Bool} {S S' : Store} {v : Val} : exitR k S (.rt v S') = finR k S v S' := rfl
@[simp] theorem exitR_nx {k : Bool} {S S' : Store} {l : Loc} : exitR k S (.nx l S') = finR k S (.d .none) S' := rfl
def isWhole (d : D) (a b : Int) : Bool := match d with
  | .int i => decide (a ≤ i) && decide (i ≤ b)
  | _ => false
/-! ### locks -/
theorem set_same {S : Store} {n : Nat} {o : Ob} (e : S[n]? = some o) : S.set n o = S := by
  refine List.ext_getElem? fun j => ?_
  by_cases hj : n = j
  · subst hj
    rw [List.getElem?_set_self (List.getElem?_eq_some_iff.mp e).1, e]
  · rw [List.getElem?_set_ne hj]
theorem lock_ref {S : Store} {n : Nat} : lockS (.ref n) S = match S[n]? with
    | some (.lk _) => S
    | some .gone => S
    | some o => S.set n (.lk o)
    | none => S := rfl
theorem unlock_ref {S S' : Store} {n : Nat} : unlockS (.ref n) S S' = match S[n]? with
    | some (.lk _) => S'
    | some .gone => S'
    | some o => S'.set n o
    | none => S' := rfl
theorem unlock_lock (v : Val) (S t : Store) : unlockS v S (lockS v S ++ t) = S ++ t := by
  cases v with
  | ref n =>
    rw [unlock_ref, lock_ref]
    cases e : S[n]? with
    | none => rfl
    | some o =>
      have hl := (List.getElem?_eq_some_iff.mp e).1
      cases o with
      | lk u => rfl
      | gone => rfl
      | lst xs =>
        show (S.set n (.lk (.lst xs)) ++ t).set n (.lst xs) = _
        rw [List.set_append_left _ _ (by simpa using hl), List.set_set, set_same e]
      | dic xs =>
        show (S.set n (.lk (.dic xs)) ++ t).set n (.dic xs) = _
        rw [List.set_append_left _ _ (by simpa using hl), List.set_set, set_same e]
      | ins c xs =>
        show (S.set n (.lk (.ins c xs)) ++ t).set n (.ins c xs) = _
        rw [List.set_append_left _ _ (by simpa using hl), List.set_set, set_same e]
      | tab c xs =>
        show (S.set n (.lk (.tab c xs)) ++ t).set n (.tab c xs) = _
        rw [List.set_append_left _ _ (by simpa using hl), List.set_set, set_same e]
  | _ => rfl
theorem unlock_lock0 (v : Val) (S : Store) : unlockS v S (lockS v S) = S := by
  have := unlock_lock v S []
  simpa using this
/-! ### comprehensions that write nothing -/
section
variable {it : Loc → Store → Res Walked} {t : Tg} {vs : List Nat} {c : Tv} {e : Ev} {l : Loc} {S : Store} {v : Val}
/-- one item: left out, or one value -/
def TurnIs (t : Tg) (vs : List Nat) (c : Tv) (e : Ev) (l : Loc) (S : Store) (x : Val) : Option Val → Prop
  | none => ∃ l', t.2 x (wipeL l vs) = some l' ∧ ∀ acc : List Val, c l' (S ++ [.lst acc]) = .ok false (S ++ [.lst acc])
  | some y => ∃ l', t.2 x (wipeL l vs) = some l' ∧ ∀ acc : List Val, c l' (S ++ [.lst acc]) = .ok true (S ++ [.lst acc]) ∧ e l' (S ++ [.lst acc]) = .ok y (S ++ [.lst acc])
theorem goAll_pure {f : Val → Option Val} : ∀ {items : List Val} {acc : List Val}, (∀ x ∈ items, TurnIs t vs c e l S x (f x)) → acc.length + items.length ≤ sizeLine → goAll (lcTurn S.length t vs c e l) items (S ++ [.lst acc]) = .ok () (S ++ [.lst (acc ++ items.filterMap f)])
  | [], acc, _, _ => by simp [goAll]
  | x :: items, acc, h, hz => by
    have hx := h x List.mem_cons_self
    have hr := fun y z => h y (List.mem_cons_of_mem x z)
    rw [List.length_cons] at hz
    rw [goAll]
    cases e1 : f x with
    | none =>
      rw [e1] at hx
      obtain ⟨l', h1, h2⟩ := hx
      have : lcTurn S.length t vs c e l x (S ++ [.lst acc]) = .ok () (S ++ [.lst acc]) := by
        unfold lcTurn
        rw [h1]
        simp [h2 acc]
      rw [this, List.filterMap_cons_none e1]
      exact goAll_pure hr (by omega)
    | some y =>
      rw [e1] at hx
      obtain ⟨l', h1, h2⟩ := hx
      have : lcTurn S.length t vs c e l x (S ++ [.lst acc]) = .ok () (S ++ [.lst (acc ++ [y])]) := by
        unfold lcTurn
        rw [h1]
        simp only [(h2 acc).1, (h2 acc).2, Res.bind, if_true, List.getElem?_concat_length, List.set_append_right _ _ (Nat.le_refl _), Nat.sub_self]
        rw [if_pos (by omega)]
        rfl
      rw [this, List.filterMap_cons_some e1]
      have := goAll_pure (f := f) (acc := acc ++ [y]) hr (by rw [List.length_append]; simp; omega)
      simpa using this
theorem freeze_last {S : Store} {ds : List D} : freezeV (.ref S.length) (S ++ [.lst (ds.map .d)]) = some (.d (.list ds), S ++ [.gone]) := by
  unfold freezeV
  simp only [List.getElem?_concat_length, allD_map]
  rw [List.set_append_right _ _ (Nat.le_refl _), Nat.sub_self]
  rfl
theorem fin_last {S : Store} {ds : List D} : fin false S (S ++ [.lst (ds.map .d)]) = .ok (.d (.list ds)) S := by
  unfold fin
  rw [if_neg (by decide), freeze_last]
  show ofO (popO S (.d (.list ds)) (S ++ [.gone])) = _
  rw [popO_self _ (show Val.cl S.length (.d (.list ds)) from trivial)]
  rfl
theorem evLC_pure {items : List Val} (hit : it l S = .ok (items, v) S) (f : Val → Option Val) (ds : List D) (hf : ∀ x ∈ items, TurnIs t vs c e l (lockS v S) x (f x)) (hd : items.filterMap f = ds.map .d) (hz : items.length ≤ sizeLine) : evLC false it t vs c e l S = .ok (.d (.list ds)) S := by
  unfold evLC
  rw [hit]
  simp only [Res.bind]
  have h := goAll_pure (S := lockS v S) (acc := []) hf (by simpa using hz)
  rw [lockS_len] at h
  rw [h, hd]
  simp only [calmR, Res.bind, List.nil_append]
  rw [fin_last]
  simp only [unlR]
  rw [unlock_lock0]
end
/-! ### leaves -/
section
variable {l : Loc} {S S1 S2 : Store} {a b : Ev} {p q : Bool}
theorem evAnd_b (ha : a l S = .ok (.d (.bool p)) S1) (hb : p = true → b l S1 = .ok (.d (.bool q)) S1) : evAnd a b l S = .ok (.d (.bool (p && q))) S1 := by
  unfold evAnd evB
  rw [ha]
  cases p with
  | true => simp [hb rfl]
  | false => simp
theorem evOr_b (ha : a l S = .ok (.d (.bool p)) S1) (hb : p = false → b l S1 = .ok (.d (.bool q)) S1) : evOr a b l S = .ok (.d (.bool (p || q))) S1 := by
  unfold evOr evB
  rw [ha]
  cases p with
  | true => simp
  | false => simp [hb rfl]
theorem evNot_b (ha : a l S = .ok (.d (.bool p)) S1) : evNot a l S = .ok (.d (.bool (!p))) S1 := by
  unfold evNot evB
  rw [ha]
  rfl
theorem evB_b (ha : a l S = .ok (.d (.bool p)) S1) : evB a l S = .ok p S1 := by
  unfold evB
  rw [ha]
  rfl
theorem cAnd_b {a b : Tv} (ha : a l S = .ok p S1) (hb : p = true → b l S1 = .ok q S1) : cAnd a b l S = .ok (p && q) S1 := by
  unfold cAnd
  rw [ha]
  cases p with
  | true => simp [hb rfl]
  | false => simp
theorem cOr_b {a b : Tv} (ha : a l S = .ok p S1) (hb : p = false → b l S1 = .ok q S1) : cOr a b l S = .ok (p || q) S1 := by
  unfold cOr
  rw [ha]
  cases p with
  | true => simp
  | false => simp [hb rfl]
theorem cNot_b {a : Tv} (ha : a l S = .ok p S1) : cNot a l S = .ok (!p) S1 := by
  unfold cNot
  rw [ha]
  rfl
theorem sRet_v {m : Ev} {v : Val} (h : m l S = .ok v S1) : sRet m l S = .rt v S1 := by
  unfold sRet sW
  rw [h]
theorem sIf_b {c : Tv} {x y : Sv} (h : c l S = .ok p S1) : sIf c x y l S = if p = true then x l S1 else y l S1 := by
  unfold sIf sW
  rw [h]
  cases p <;> rfl
theorem fnB_ret {n : Nat} {body : Sv} {as : List Val} {x : D} (h : body (as.map some ++ List.replicate (n - as.length) none) S = .rt (.d x) S) : fnB false n body as S = .ok (.d x) S := by
  unfold fnB
  rw [h, exitR_rt, finR_d]
theorem evL_v {g : OpL} {m : Loc → Store → Res (List Val)} {vs : List Val} {r : Val × Store} (h : m l S = .ok vs S1) (hg : g vs S1 = some r) : evL g m l S = .ok r.1 r.2 := by
  unfold evL
  rw [h]
  show ofO (g vs S1) = _
  rw [hg]
  rfl
theorem ev2_v {g : Op2} {x y : Val} {r : Val × Store} (h : a l S = .ok x S1) (h2 : b l S1 = .ok y S2) (hg : g x y S2 = some r) : ev2 g a b l S = .ok r.1 r.2 := by
  unfold ev2
  rw [h]
  simp only [Res.bind]
  rw [h2]
  simp only [Res.bind]
  rw [hg]
  rfl
theorem evCons_v {r : Loc → Store → Res (List Val)} {v : Val} {vs : List Val} (h : a l S = .ok v S1) (h2 : r l S1 = .ok vs S2) : evCons a r l S = .ok (v :: vs) S2 := by
  unfold evCons
  rw [h]
  simp only [Res.bind]
  rw [h2]
theorem evCall_v {n : Nat} {f : Fn} {m : Loc → Store → Res (List Val)} {vs : List Val} {v : Val} (h : m l S = .ok vs S1) (hn : vs.length = n) (hf : f vs S1 = .ok v S2) : evCall n f m l S = .ok v S2 := by
  unfold evCall
  rw [h]
  simp only [Res.bind]
  rw [if_pos hn, hf]
end
@[simp] theorem le_int {i j : Int} {S : Store} : cmpV .LtE (.d (.int i)) (.d (.int j)) S = some (.d (.bool (decide (i ≤ j))), S) := rfl
@[simp] theorem lt_int_ {i j : Int} {S : Store} : cmpV .Lt (.d (.int i)) (.d (.int j)) S = some (.d (.bool (decide (i < j))), S) := rfl
@[simp] theorem gt_int_ {i j : Int} {S : Store} : cmpV .Gt (.d (.int i)) (.d (.int j)) S = some (.d (.bool (decide (j < i))), S) := rfl
@[simp] theorem ge_int_ {i j : Int} {S : Store} : cmpV .GtE (.d (.int i)) (.d (.int j)) S = some (.d (.bool (decide (j ≤ i))), S) := rfl
mutual
/-- data whose texts are plain and not long -/
def goodD : D → Bool
  | .str z => PyData.strOk z && decide (z.length ≤ 100000)
  | .list xs => goodAll xs
  | .tuple xs => goodAll xs
  | .dict _ => false
  | .none => true
  | .bool _ => true
  | .int _ => true
def goodAll : List D → Bool
  | [] => true
  | x :: xs => goodD x && goodAll xs
end
mutual
theorem good_lay : ∀ {d : D}, goodD d = true → d.canLay0 = true
  | .none, _ => by simp [PyData.canLay0]
  | .bool _, _ => by simp [PyData.canLay0]
  | .int _, _ => by simp [PyData.canLay0]
  | .str z, h => by
    simp only [goodD, Bool.and_eq_true] at h
    simp [PyData.canLay0, h.1]
  | .list xs, h => by
    rw [goodD] at h
    rw [PyData.canLay0]
    exact good_layAll h
  | .tuple xs, h => by
    rw [goodD] at h
    rw [PyData.canLay0]
    exact good_layAll h
  | .dict _, h => by simp [goodD] at h
theorem good_layAll : ∀ {ds : List D}, goodAll ds = true → PyData.canLayAll0 ds = true
  | [], _ => by simp [PyData.canLayAll0]
  | d :: ds, h => by
    rw [goodAll, Bool.and_eq_true] at h
    rw [PyData.canLayAll0, good_lay h.1, good_layAll h.2]
    rfl
end
theorem good_mem : ∀ {ds : List D}, goodAll ds = true → ∀ d ∈ ds, goodD d = true
  | [], _, _, h => by cases h
  | x :: ds, h, d, hd => by
    rw [goodAll, Bool.and_eq_true] at h
    rcases List.mem_cons.mp hd with e | hd
    · rw [e]
      exact h.1
    · exact good_mem h.2 d hd
theorem good_of : ∀ {ds : List D}, (∀ d ∈ ds, goodD d = true) → goodAll ds = true
  | [], _ => rfl
  | x :: ds, h => by
    rw [goodAll, h x List.mem_cons_self, good_of fun d hd => h d (List.mem_cons_of_mem _ hd)]
    rfl
theorem shaped_good {d : D} (h : goodD d = true) (hd : d.depth ≤ 64) : SeqAt.shaped d = true := by simp [SeqAt.shaped, good_lay h, hd]
theorem shaped_int (i : Int) : SeqAt.shaped (.int i) = true := by simp [SeqAt.shaped, PyData.canLay0, PyData.depth]
theorem shaped_str {z : Str} (h : PyData.strOk z = true) : SeqAt.shaped (.str z) = true := by simp [SeqAt.shaped, PyData.canLay0, PyData.depth, h]
theorem shaped_none : SeqAt.shaped .none = true := by simp [SeqAt.shaped, PyData.canLay0, PyData.depth]
theorem shaped_bool (b : Bool) : SeqAt.shaped (.bool b) = true := by simp [SeqAt.shaped, PyData.canLay0, PyData.depth]
@[simp] theorem eq_int_ {i j : Int} {S : Store} : cmpV .Eq (.d (.int i)) (.d (.int j)) S = some (.d (.bool (decide (i = j))), S) := by
  simp [cmpV, cmpB, eqB, toP, shaped_int, PyData.eqv, Bool.beq_eq_decide_eq]
@[simp] theorem ne_int_ {i j : Int} {S : Store} : cmpV .NotEq (.d (.int i)) (.d (.int j)) S = some (.d (.bool (!decide (i = j))), S) := by
  simp [cmpV, cmpB, eqB, toP, shaped_int, PyData.eqv, Bool.beq_eq_decide_eq]
@[simp] theorem eq_str_ {i j : Str} {S : Store} (hi : PyData.strOk i = true) (hj : PyData.strOk j = true) : cmpV .Eq (.d (.str i)) (.d (.str j)) S = some (.d (.bool (decide (i = j))), S) := by
  simp [cmpV, cmpB, eqB, toP, shaped_str hi, shaped_str hj, PyData.eqv, Bool.beq_eq_decide_eq]
@[simp] theorem ne_str_ {i j : Str} {S : Store} (hi : PyData.strOk i = true) (hj : PyData.strOk j = true) : cmpV .NotEq (.d (.str i)) (.d (.str j)) S = some (.d (.bool (!decide (i = j))), S) := by
  simp [cmpV, cmpB, eqB, toP, shaped_str hi, shaped_str hj, PyData.eqv, Bool.beq_eq_decide_eq]
@[simp] theorem len_str_ {z : Str} {S : Store} (h : z.length ≤ sizeLine) : lenL [.d (.str z)] S = some (.d (.int z.length), S) := by simp [lenL, lenN, h]
@[simp] theorem len_tup_ {ds : List D} {S : Store} : lenL [.d (.tuple ds)] S = some (.d (.int ds.length), S) := rfl
@[simp] theorem len_lst_ {ds : List D} {S : Store} : lenL [.d (.list ds)] S = some (.d (.int ds.length), S) := by simp [lenL, lenN, asDic, asL]
@[simp] theorem len_scr_ {ns : List Int} {S : Store} : lenL [.scr ns] S = some (.d (.int ns.length), S) := rfl
@[simp] theorem add_str_ {x y : Str} {S : Store} (h : x.length + y.length ≤ sizeLine) : addV (.d (.str x)) (.d (.str y)) S = some (.d (.str (x ++ y)), S) := by simp [addV, h]
@[simp] theorem all_bools {bs : List Bool} {S : Store} : allL [.d (.list (bs.map .bool))] S = some (.d (.bool (bs.all id)), S) := by
  have h := allB_map bs
  simp only [allL, asL, List.map_map]
  rw [show (Val.d ∘ PyData.bool) = (fun b => Val.d (.bool b)) from rfl, h]
  rfl
@[simp] theorem any_bools {bs : List Bool} {S : Store} : anyL [.d (.list (bs.map .bool))] S = some (.d (.bool (bs.any id)), S) := by
  have h := allB_map bs
  simp only [anyL, asL, List.map_map]
  rw [show (Val.d ∘ PyData.bool) = (fun b => Val.d (.bool b)) from rfl, h]
  rfl
/-! ### subscripts and slices of tuples -/
theorem atI_nat {α : Type} {xs : List α} {k : Nat} {x : α} (h : xs[k]? = some x) : atI xs (k : Int) = some x := by
  have hl := (List.getElem?_eq_some_iff.mp h).1
  unfold atI ixN
  rw [if_pos (by omega), if_pos (by omega)]
  simp [h]
@[simp] theorem ix_t0 {a : D} {r : List D} {S : Store} : ixV (.d (.tuple (a :: r))) (.d (.int 0)) S = some (.d a, S) := by
  have := atI_nat (xs := a :: r) (k := 0) (x := a) rfl
  simp only [ixV, ixQ, asDic, ixI]
  rw [show (0 : Int) = ((0 : Nat) : Int) from rfl, this]
  rfl
@[simp] theorem ix_t1 {a b : D} {r : List D} {S : Store} : ixV (.d (.tuple (a :: b :: r))) (.d (.int 1)) S = some (.d b, S) := by
  have := atI_nat (xs := a :: b :: r) (k := 1) (x := b) rfl
  simp only [ixV, ixQ, asDic, ixI]
  rw [show (1 : Int) = ((1 : Nat) : Int) from rfl, this]
  rfl
@[simp] theorem ix_t2 {a b c : D} {r : List D} {S : Store} : ixV (.d (.tuple (a :: b :: c :: r))) (.d (.int 2)) S = some (.d c, S) := by
  have := atI_nat (xs := a :: b :: c :: r) (k := 2) (x := c) rfl
  simp only [ixV, ixQ, asDic, ixI]
  rw [show (2 : Int) = ((2 : Nat) : Int) from rfl, this]
  rfl
@[simp] theorem ix_t3 {a b c d : D} {r : List D} {S : Store} : ixV (.d (.tuple (a :: b :: c :: d :: r))) (.d (.int 3)) S = some (.d d, S) := by
  have := atI_nat (xs := a :: b :: c :: d :: r) (k := 3) (x := d) rfl
  simp only [ixV, ixQ, asDic, ixI]
  rw [show (3 : Int) = ((3 : Nat) : Int) from rfl, this]
  rfl
@[simp] theorem ix_t4 {a b c d e : D} {r : List D} {S : Store} : ixV (.d (.tuple (a :: b :: c :: d :: e :: r))) (.d (.int 4)) S = some (.d e, S) := by
  have := atI_nat (xs := a :: b :: c :: d :: e :: r) (k := 4) (x := e) rfl
  simp only [ixV, ixQ, asDic, ixI]
  rw [show (4 : Int) = ((4 : Nat) : Int) from rfl, this]
  rfl
theorem cut_from {α : Type} (xs : List α) (k : Nat) : cutG xs (some (k : Int)) none = xs.drop k := by
  unfold cutG
  rw [HT.sIx_nat, HT.sIx_none]
  rcases Nat.le_total k xs.length with h | h
  · rw [Nat.min_eq_left h, List.take_of_length_le (by rw [List.length_drop]; exact Nat.le_refl _)]
  · rw [Nat.min_eq_right h, List.drop_eq_nil_of_le h, List.drop_length, List.take_nil]
theorem cut_to {α : Type} (xs : List α) (k : Nat) : cutG xs none (some (k : Int)) = xs.take k := by
  unfold cutG
  rw [HT.sIx_nat, HT.sIx_none, Nat.sub_zero, List.drop_zero]
  rcases Nat.le_total k xs.length with h | h
  · rw [Nat.min_eq_left h]
  · rw [Nat.min_eq_right h, List.take_length, List.take_of_length_le h]
theorem cut_part {α : Type} (xs : List α) (j k : Nat) : cutG xs (some (j : Int)) (some (k : Int)) = (xs.drop j).take (k - j) := by
  unfold cutG
  rw [HT.sIx_nat, HT.sIx_nat]
  rcases Nat.le_total j xs.length with h | h
  · rw [Nat.min_eq_left h]
    rcases Nat.le_total k xs.length with h2 | h2
    · rw [Nat.min_eq_left h2]
    · rw [Nat.min_eq_right h2, List.take_of_length_le (by rw [List.length_drop]; exact Nat.le_refl _), List.take_of_length_le (by rw [List.length_drop]; omega)]
  · rw [Nat.min_eq_right h, List.drop_length, List.drop_eq_nil_of_le h, List.take_nil, List.take_nil]
@[simp] theorem sl_from1 {ds : List D} {S : Store} : slV (.d (.tuple ds)) (some 1) none S = some (.d (.tuple (ds.drop 1)), S) := by
  have := cut_from ds 1
  simp only [slV]
  rw [show ((1 : Int)) = ((1 : Nat) : Int) from rfl, this]
@[simp] theorem sl_to1 {ds : List D} {S : Store} : slV (.d (.tuple ds)) none (some 1) S = some (.d (.tuple (ds.take 1)), S) := by
  have := cut_to ds 1
  simp only [slV]
  rw [show ((1 : Int)) = ((1 : Nat) : Int) from rfl, this]
@[simp] theorem sl_from2 {ds : List D} {S : Store} : slV (.d (.tuple ds)) (some 2) none S = some (.d (.tuple (ds.drop 2)), S) := by
  have := cut_from ds 2
  simp only [slV]
  rw [show ((2 : Int)) = ((2 : Nat) : Int) from rfl, this]
@[simp] theorem sl_to2 {ds : List D} {S : Store} : slV (.d (.tuple ds)) none (some 2) S = some (.d (.tuple (ds.take 2)), S) := by
  have := cut_to ds 2
  simp only [slV]
  rw [show ((2 : Int)) = ((2 : Nat) : Int) from rfl, this]
@[simp] theorem sl_from3 {ds : List D} {S : Store} : slV (.d (.tuple ds)) (some 3) none S = some (.d (.tuple (ds.drop 3)), S) := by
  have := cut_from ds 3
  simp only [slV]
  rw [show ((3 : Int)) = ((3 : Nat) : Int) from rfl, this]
@[simp] theorem sl_to3 {ds : List D} {S : Store} : slV (.d (.tuple ds)) none (some 3) S = some (.d (.tuple (ds.take 3)), S) := by
  have := cut_to ds 3
  simp only [slV]
  rw [show ((3 : Int)) = ((3 : Nat) : Int) from rfl, this]
@[simp] theorem sl_from4 {ds : List D} {S : Store} : slV (.d (.tuple ds)) (some 4) none S = some (.d (.tuple (ds.drop 4)), S) := by
  have := cut_from ds 4
  simp only [slV]
  rw [show ((4 : Int)) = ((4 : Nat) : Int) from rfl, this]
@[simp] theorem sl_to4 {ds : List D} {S : Store} : slV (.d (.tuple ds)) none (some 4) S = some (.d (.tuple (ds.take 4)), S) := by
  have := cut_to ds 4
  simp only [slV]
  rw [show ((4 : Int)) = ((4 : Nat) : Int) from rfl, this]
@[simp] theorem sl_part13 {ds : List D} {S : Store} : slV (.d (.tuple ds)) (some 1) (some 3) S = some (.d (.tuple ((ds.drop 1).take 2)), S) := by
  have := cut_part ds 1 3
  simp only [slV]
  rw [show ((1 : Int)) = ((1 : Nat) : Int) from rfl, show ((3 : Int)) = ((3 : Nat) : Int) from rfl, this]
@[simp] theorem sl_part14 {ds : List D} {S : Store} : slV (.d (.tuple ds)) (some 1) (some 4) S = some (.d (.tuple ((ds.drop 1).take 3)), S) := by
  have := cut_part ds 1 4
  simp only [slV]
  rw [show ((1 : Int)) = ((1 : Nat) : Int) from rfl, show ((4 : Int)) = ((4 : Nat) : Int) from rfl, this]
@[simp] theorem tup_data {ds : List D} {S : Store} (h : ds.length ≤ sizeLine) : tupO (ds.map .d) S = some (.d (.tuple ds), S) := by
  have e : ∀ ds : List D, freezeAll (ds.map .d) S = some (ds.map .d, S) := fun ds => by
    induction ds with
    | nil => rfl
    | cons d ds ih =>
      rw [List.map_cons, freezeAll]
      show (match (some (Val.d d, S) : Option (Val × Store)) with | some (v', S1) => (match freezeAll (ds.map Val.d) S1 with | some (vs', S2) => some (v' :: vs', S2) | none => none) | none => none) = _
      simp only [ih]
  unfold tupO
  rw [e]
  simp only [List.length_map]
  rw [if_pos h]
  unfold mkT
  rw [allD_map]
@[simp] theorem is_none_ {v : Val} {S : Store} : cmpV .Is v (.d .none) S = some (.d (.bool (isNon v)), S) := by
  simp [cmpV, cmpB, isB]
@[simp] theorem is_bool_ {a b : Bool} {S : Store} : cmpV .Is (.d (.bool a)) (.d (.bool b)) S = some (.d (.bool (decide (a = b))), S) := rfl
@[simp] theorem isnot_bool_ {a b : Bool} {S : Store} : cmpV .IsNot (.d (.bool a)) (.d (.bool b)) S = some (.d (.bool (!decide (a = b))), S) := rfl
theorem sub_int_ {i j : Int} {S : Store} : subV (.d (.int i)) (.d (.int j)) S = some (.d (.int (i - j)), S) := rfl
theorem add_int_ {i j : Int} {S : Store} : addV (.d (.int i)) (.d (.int j)) S = some (.d (.int (i + j)), S) := rfl
theorem mod_int_ {i j : Int} {S : Store} (h : 0 < j) : modV (.d (.int i)) (.d (.int j)) S = some (.d (.int (i % j)), S) := by simp [modV, h]
end FH
/-! runs that end well -/
namespace FH
open L2 PySem PySem.Spec
def Ends {α : Type} (r : Res α) (P : α → Store → Prop) : Prop := ∃ a S, r = .ok a S ∧ P a S
theorem Ends.ok {α : Type} {a : α} {S : Store} {P : α → Store → Prop} (h : P a S) : Ends (.ok a S) P := ⟨a, S, rfl, h⟩
theorem Ends.of {α : Type} {r : Res α} {a : α} {S : Store} {P : α → Store → Prop} (e : r = .ok a S) (h : P a S) : Ends r P := ⟨a, S, e, h⟩
theorem Ends.bind {α β : Type} {r : Res α} {k : α → Store → Res β} {P : α → Store → Prop} {Q : β → Store → Prop} (h : Ends r P) (hk : ∀ a S, P a S → Ends (k a S) Q) : Ends (r.bind k) Q := by
  obtain ⟨a, S, rfl, p⟩ := h
  exact hk a S p
theorem Ends.mono {α : Type} {r : Res α} {P Q : α → Store → Prop} (h : Ends r P) (f : ∀ a S, P a S → Q a S) : Ends r Q := by
  obtain ⟨a, S, e, p⟩ := h
  exact ⟨a, S, e, f a S p⟩
def Goes (r : SR) (N : Loc → Store → Prop) (R : Val → Store → Prop) : Prop := match r with
  | .nx l S => N l S
  | .rt v S => R v S
  | _ => False
section
variable {l : Loc} {S : Store} {N N' : Loc → Store → Prop} {R : Val → Store → Prop}
theorem Goes.mono {r : SR} (h : Goes r N R) (f : ∀ l S, N l S → N' l S) : Goes r N' R := by
  cases r with
  | nx l S => exact f l S h
  | rt v S => exact h
  | _ => exact h
theorem go_seq {a b : Sv} (h : Goes (a l S) N' R) (h2 : ∀ l S, N' l S → Goes (b l S) N R) : Goes (sSeq a b l S) N R := by
  unfold sSeq
  cases e : a l S with
  | nx l1 S1 =>
    rw [e] at h
    exact h2 l1 S1 h
  | rt v S1 =>
    rw [e] at h
    exact h
  | _ =>
    rw [e] at h
    exact h.elim
theorem go_w {α : Type} {m : Loc → Store → Res α} {k : α → Sv} {P : α → Store → Prop} (h : Ends (m l S) P) (hk : ∀ v S1, P v S1 → Goes (k v l S1) N R) : Goes (sW m k l S) N R := by
  obtain ⟨v, S1, e, p⟩ := h
  unfold sW
  rw [e]
  exact hk v S1 p
theorem go_set {m : Ev} {t : Tg} {P : Val → Store → Prop} (h : Ends (m l S) P) (hk : ∀ v S1, P v S1 → ∃ l', t.2 v l = some l' ∧ N l' S1) : Goes (sSet m t l S) N R := go_w h fun v S1 p => by
  obtain ⟨l', e, n⟩ := hk v S1 p
  unfold goT
  rw [e]
  exact n
theorem go_name {m : Ev} {i : Nat} {P : Val → Store → Prop} (h : Ends (m l S) P) (hi : i < l.length) (hk : ∀ v S1, P v S1 → N (l.set i (some v)) S1) : Goes (sSet m (tgName i) l S) N R := go_set h fun v S1 p => ⟨l.set i (some v), by simp [tgName, hi], hk v S1 p⟩
theorem go_par {is : List Nat} {m : Loc → Store → Res (List Val)} {P : List Val → Store → Prop} (h : Ends (m l S) P) (hk : ∀ vs S1, P vs S1 → ∃ l', setAll is vs l = some l' ∧ N l' S1) : Goes (sPar is m l S) N R := go_w h fun v S1 p => by
  obtain ⟨l', e, n⟩ := hk v S1 p
  show Goes (match setAll is v l with | some l' => .nx l' S1 | none => .stuck) N R
  rw [e]
  exact n
theorem go_if {c : Tv} {a b : Sv} {P : Bool → Store → Prop} (h : Ends (c l S) P) (hk : ∀ p S1, P p S1 → Goes ((if p = true then a else b) l S1) N R) : Goes (sIf c a b l S) N R := go_w h fun p S1 z => hk p S1 z
theorem go_ret {m : Ev} {P : Val → Store → Prop} (h : Ends (m l S) P) (hk : ∀ v S1, P v S1 → R v S1) : Goes (sRet m l S) N R := go_w h fun v S1 p => hk v S1 p
theorem go_drop {m : Ev} {P : Val → Store → Prop} (h : Ends (m l S) P) (hk : ∀ v S1, P v S1 → N l S1) : Goes (sDrop m l S) N R := go_w h fun v S1 p => hk v S1 p
theorem go_nx (h : N l S) : Goes (sNx l S) N R := h
theorem go_sub {m o i : Ev} {P : Val → Store → Prop} (h : Ends (m l S) P) (hk : ∀ v S1, P v S1 → ∃ a b S2, o l S1 = .ok a S1 ∧ i l S1 = .ok b S1 ∧ setV a b v S1 = some S2 ∧ N l S2) : Goes (sSub m o i l S) N R := go_w h fun v S1 p => by
  obtain ⟨a, b, S2, e1, e2, e3, n⟩ := hk v S1 p
  simp only [sW, e1, e2, e3]
  exact n
theorem en_cons {a : Ev} {r : Loc → Store → Res (List Val)} {P : Val → Store → Prop} {Q : Val → List Val → Store → Prop} (h : Ends (a l S) P) (hk : ∀ v S1, P v S1 → Ends (r l S1) (Q v)) : Ends (evCons a r l S) fun vs S2 => ∃ v us, vs = v :: us ∧ Q v us S2 :=
  h.bind fun v S1 p => (hk v S1 p).bind fun us S2 q => .ok ⟨v, us, rfl, q⟩
theorem en_nil {P : List Val → Store → Prop} (h : P [] S) : Ends (evNil l S) P := .ok h
theorem en_call {n : Nat} {f : Fn} {m : Loc → Store → Res (List Val)} {vs : List Val} {P : Val → Store → Prop} (h : m l S = .ok vs S) (hn : vs.length = n) (hf : Ends (f vs S) P) : Ends (evCall n f m l S) P := by
  obtain ⟨a, S1, e, p⟩ := hf
  exact ⟨a, S1, evCall_v h hn e, p⟩
theorem en_fn {k : Bool} {n : Nat} {body : Sv} {as : List Val} {R' : Val → Store → Prop} (h : Goes (body (as.map some ++ List.replicate (n - as.length) none) S) N R) (hn : ∀ l' S', N l' S' → Ends (finR k S (.d .none) S') R') (hr : ∀ v S', R v S' → Ends (finR k S v S') R') : Ends (fnB k n body as S) R' := by
  unfold fnB
  cases e : body (as.map some ++ List.replicate (n - as.length) none) S with
  | nx l' S' =>
    rw [e] at h
    exact hn l' S' h
  | rt v S' =>
    rw [e] at h
    exact hr v S' h
  | _ =>
    rw [e] at h
    exact h.elim
/-- a loop by an invariant -/
theorem go_for {it : Loc → Store → Res Walked} {t : Tg} {body : Sv} {items : List Val} {w : Val} (hit : it l S = .ok (items, w) S) (I : Nat → Loc → Store → Prop) (h0 : I 0 l (lockS w S))
    (hs : ∀ (i : Nat) (x : Val) (l' : Loc) (S' : Store), items[i]? = some x → I i l' S' → ∃ l1, t.2 x l' = some l1 ∧ Goes (body l1 S') (I (i + 1)) fun v S2 => R v (unlockS w S S2)) (hd : ∀ l' S', I items.length l' S' → N l' (unlockS w S S')) : Goes (sFor it t body l S) N R := by
  have key : ∀ (k i : Nat) (l' : Loc) (S' : Store), items.length - i = k → i ≤ items.length → I i l' S' → Goes (forGo t body (items.drop i) l' S') (I items.length) fun v S2 => R v (unlockS w S S2) := by
    intro k
    induction k with
    | zero =>
      intro i l' S' hk hi z
      have e : i = items.length := by omega
      rw [e, List.drop_length, forGo]
      rw [e] at z
      exact z
    | succ k ih =>
      intro i l' S' hk hi z
      have hlt : i < items.length := by omega
      rw [List.drop_eq_getElem_cons hlt, forGo]
      obtain ⟨l1, e1, g⟩ := hs i items[i] l' S' (List.getElem?_eq_getElem hlt) z
      rw [e1]
      dsimp only
      cases e2 : body l1 S' with
      | nx l2 S2 =>
        rw [e2] at g
        exact ih (i + 1) l2 S2 (by omega) hlt g
      | rt v S2 =>
        rw [e2] at g
        exact g
      | bk l2 S2 =>
        rw [e2] at g
        exact g.elim
      | ct l2 S2 =>
        rw [e2] at g
        exact g.elim
      | ex c l2 S2 =>
        rw [e2] at g
        exact g.elim
      | stuck =>
        rw [e2] at g
        exact g.elim
  have g := key items.length 0 l (lockS w S) (by omega) (Nat.zero_le _) h0
  rw [List.drop_zero] at g
  unfold sFor sW
  rw [hit]
  dsimp only
  cases e : forGo t body items l (lockS w S) with
  | nx l2 S2 =>
    rw [e] at g
    exact hd l2 S2 g
  | rt v S2 =>
    rw [e] at g
    exact g
  | bk l2 S2 =>
    rw [e] at g
    exact g.elim
  | ct l2 S2 =>
    rw [e] at g
    exact g.elim
  | ex c l2 S2 =>
    rw [e] at g
    exact g.elim
  | stuck =>
    rw [e] at g
    exact g.elim
/-! one statement, then the rest -/
theorem gs_name {m : Ev} {i : Nat} {b : Sv} {P : Val → Store → Prop} (h : Ends (m l S) P) (hi : i < l.length) (hk : ∀ v S1, P v S1 → Goes (b (l.set i (some v)) S1) N R) : Goes (sSeq (sSet m (tgName i)) b l S) N R := by
  obtain ⟨v, S1, e, p⟩ := h
  have := hk v S1 p
  unfold sSeq sSet sW
  rw [e]
  simp only [goT, tgName, hi, if_true]
  exact this
theorem gs_set {m : Ev} {t : Tg} {b : Sv} {P : Val → Store → Prop} (h : Ends (m l S) P) (hk : ∀ v S1, P v S1 → ∃ l', t.2 v l = some l' ∧ Goes (b l' S1) N R) : Goes (sSeq (sSet m t) b l S) N R := by
  obtain ⟨v, S1, e, p⟩ := h
  obtain ⟨l', e2, g⟩ := hk v S1 p
  unfold sSeq sSet sW
  rw [e]
  simp only [goT, e2]
  exact g
theorem gs_par {is : List Nat} {m : Loc → Store → Res (List Val)} {b : Sv} {P : List Val → Store → Prop} (h : Ends (m l S) P) (hk : ∀ vs S1, P vs S1 → ∃ l', setAll is vs l = some l' ∧ Goes (b l' S1) N R) : Goes (sSeq (sPar is m) b l S) N R := by
  obtain ⟨v, S1, e, p⟩ := h
  obtain ⟨l', e2, g⟩ := hk v S1 p
  unfold sSeq sPar sW
  rw [e]
  simp only [e2]
  exact g
theorem gs_if {c : Tv} {x y b : Sv} {P : Bool → Store → Prop} (h : Ends (c l S) P) (hk : ∀ p S1, P p S1 → Goes (sSeq (if p = true then x else y) b l S1) N R) : Goes (sSeq (sIf c x y) b l S) N R := by
  obtain ⟨p, S1, e, z⟩ := h
  have := hk p S1 z
  unfold sSeq sIf sW
  rw [e]
  exact this
theorem gs_ret {c : Tv} {m : Ev} {b : Sv} {p : Bool} (h : c l S = .ok p S) (hy : p = true → Goes (sRet m l S) N R) (hn : p = false → Goes (b l S) N R) : Goes (sSeq (sIf c (sRet m) sNx) b l S) N R := by
  refine gs_if (P := fun q S1 => q = p ∧ S1 = S) (.of h ⟨rfl, rfl⟩) fun q S1 ⟨e1, e2⟩ => ?_
  subst e1 e2
  cases q with
  | true =>
    have := hy rfl
    unfold sSeq
    rw [if_pos rfl]
    cases e : sRet m l S1 with
    | nx l1 S2 =>
      exfalso
      unfold sRet sW at e
      split at e <;> cases e
    | rt v S2 =>
      rw [e] at this
      exact this
    | _ =>
      rw [e] at this
      exact this.elim
  | false => exact hn rfl
theorem gs_drop {m : Ev} {b : Sv} {P : Val → Store → Prop} (h : Ends (m l S) P) (hk : ∀ v S1, P v S1 → Goes (b l S1) N R) : Goes (sSeq (sDrop m) b l S) N R := go_seq (N' := fun l' S' => l' = l ∧ Goes (b l S') N R) (go_drop h fun v S1 p => ⟨rfl, hk v S1 p⟩) fun l' S' ⟨e, g⟩ => e ▸ g
theorem gs_sub {m o i : Ev} {b : Sv} {P : Val → Store → Prop} (h : Ends (m l S) P) (hk : ∀ v S1, P v S1 → ∃ x y S2, o l S1 = .ok x S1 ∧ i l S1 = .ok y S1 ∧ setV x y v S1 = some S2 ∧ Goes (b l S2) N R) : Goes (sSeq (sSub m o i) b l S) N R :=
  go_seq (N' := fun l' S' => l' = l ∧ Goes (b l S') N R) (go_sub h fun v S1 p => by
    obtain ⟨x, y, S2, e1, e2, e3, g⟩ := hk v S1 p
    exact ⟨x, y, S2, e1, e2, e3, rfl, g⟩) fun l' S' ⟨e, g⟩ => e ▸ g
end
/-! ### lists of the store -/
section
variable {l : Loc} {S S1 S2 : Store} {n : Nat}
theorem sz100 {k : Nat} (h : k ≤ 100) : k ≤ sizeLine := Nat.le_trans h (by decide)
theorem lst_own {m : Loc → Store → Res (List Val)} {vs : List Val} (h : m l S = .ok vs S1) (hz : vs.length ≤ 100) : evLst true m l S = .ok (.ref S1.length) (S1 ++ [.lst vs]) := by
  unfold evLst
  refine evL_v (r := (.ref S1.length, S1 ++ [.lst vs])) h ?_
  unfold lstO
  rw [if_pos (sz100 hz), if_pos rfl]
  rfl
theorem lst_frz {m : Loc → Store → Res (List Val)} {ds : List D} (h : m l S = .ok (ds.map .d) S1) (hz : ds.length ≤ 100) : evLst false m l S = .ok (.d (.list ds)) S1 := by
  unfold evLst
  refine evL_v (r := (.d (.list ds), S1)) h ?_
  unfold lstO
  rw [if_pos (by rw [List.length_map]; exact sz100 hz), if_neg (by decide)]
  unfold mkL
  rw [allD_map]
theorem evM_v {T : String} {g : OpM} {o : Ev} {m : Loc → Store → Res (List Val)} {v : Val} {vs : List Val} {r : Val × Store} (h : o l S = .ok v S1) (hk : isKind T v S1 = true) (hm : m l S1 = .ok vs S2) (hg : g v vs S2 = some r) : evM T g o m l S = .ok r.1 r.2 := by
  unfold evM
  rw [h]
  simp only [Res.bind]
  rw [if_pos hk, hm]
  simp only [Res.bind]
  rw [hg]
  rfl
theorem kind_lst {xs : List Val} (h : S[n]? = some (.lst xs)) : isKind "list" (.ref n) S = true := by simp [isKind, asL, h]
theorem kind_dic {xs : List (D × Val)} (h : S[n]? = some (.dic xs)) : isKind "dict" (.ref n) S = true := by simp [isKind, asDic, h]
theorem ext_v {xs : List Val} {ys : List D} (h : S[n]? = some (.lst xs)) (hz : xs.length + ys.length ≤ 100000) : extM (.ref n) [.d (.list ys)] S = some (.d .none, S.set n (.lst (xs ++ ys.map .d))) := by
  have hz' : xs.length + ys.length ≤ sizeLine := Nat.le_trans hz (by decide)
  simp [extM, h, asL, putO, hz']
theorem app_v {xs : List Val} {y : Val} (h : S[n]? = some (.lst xs)) (hz : xs.length < 100000) : appM (.ref n) [y] S = some (.d .none, S.set n (.lst (xs ++ [y]))) := by
  have hz' : xs.length < sizeLine := Nat.lt_of_lt_of_le hz (by decide)
  simp [appM, h, putO, hz']
theorem add_ref {xs ys : List D} (h : S[n]? = some (.lst (xs.map .d))) (hz : xs.length + ys.length ≤ 100000) : addV (.ref n) (.d (.list ys)) S = some (.d (.list (xs ++ ys)), S) := by
  have hz' : xs.length + ys.length ≤ sizeLine := Nat.le_trans hz (by decide)
  have e : xs.map Val.d ++ ys.map .d = (xs ++ ys).map .d := by simp
  simp [addV, asL, h, hz', mkL]
  rw [e, allD_map]
theorem add_lst {xs ys : List D} (hz : xs.length + ys.length ≤ 100000) : addV (.d (.list xs)) (.d (.list ys)) S = some (.d (.list (xs ++ ys)), S) := by
  have hz' : xs.length + ys.length ≤ sizeLine := Nat.le_trans hz (by decide)
  have e : xs.map Val.d ++ ys.map .d = (xs ++ ys).map .d := by simp
  simp [addV, asL, hz', mkL]
  rw [e, allD_map]
theorem get_last {o : Ob} : (S ++ [o])[S.length]? = some o := List.getElem?_concat_length
theorem set_last {o u : Ob} : (S ++ [o]).set S.length u = S ++ [u] := by
  rw [List.set_append_right _ _ (Nat.le_refl _), Nat.sub_self]
  rfl
end
/-! ### rows of data -/
def DL (P : List D → Store → Prop) : List Val → Store → Prop := fun vs S => ∃ ds : List D, vs = ds.map .d ∧ P ds S
section
variable {l : Loc} {S : Store} {P : List D → Store → Prop}
theorem dl_nil (h : P [] S) : Ends (evNil l S) (DL P) := .ok ⟨[], rfl, h⟩
theorem dl_pure {a : Ev} {r : Loc → Store → Res (List Val)} {x : D} (ha : a l S = .ok (.d x) S) (hr : Ends (r l S) (DL fun ds S' => P (x :: ds) S')) : Ends (evCons a r l S) (DL P) := by
  obtain ⟨vs, S', e, ds, e2, p⟩ := hr
  exact .of (evCons_v ha e) ⟨x :: ds, by rw [e2]; rfl, p⟩
theorem dl_eff {a : Ev} {r : Loc → Store → Res (List Val)} {Q : D → Store → Prop} (ha : Ends (a l S) fun v S1 => ∃ x, v = .d x ∧ Q x S1) (hr : ∀ x S1, Q x S1 → Ends (r l S1) (DL fun ds S' => P (x :: ds) S')) : Ends (evCons a r l S) (DL P) := by
  obtain ⟨v, S1, e, x, e1, q⟩ := ha
  subst e1
  obtain ⟨vs, S', e3, ds, e2, p⟩ := hr x S1 q
  exact .of (evCons_v e e3) ⟨x :: ds, by rw [e2]; rfl, p⟩
theorem dl_tup {m : Loc → Store → Res (List Val)} {R : Val → Store → Prop} (h : Ends (m l S) (DL fun ds S' => ds.length ≤ 100 ∧ R (.d (.tuple ds)) S')) : Ends (evTup m l S) R := by
  obtain ⟨vs, S', e, ds, e2, hz, p⟩ := h
  subst e2
  exact .of (evL_v e (tup_data (sz100 hz))) p
end
/-! ### comprehensions over rows of data -/
def onD (g : D → Option D) : Val → Option Val
  | .d d => (g d).map .d
  | _ => none
theorem filterMap_onD (g : D → Option D) : ∀ ds : List D, (ds.map Val.d).filterMap (onD g) = (ds.filterMap g).map .d
  | [] => rfl
  | d :: ds => by
    have ih := filterMap_onD g ds
    rw [List.map_cons, List.filterMap_cons, List.filterMap_cons, ih]
    cases e : g d <;> simp [onD, e]
theorem filterMap_if {α : Type} (p : α → Bool) : ∀ ds : List α, (ds.filterMap fun d => if p d = true then some d else none) = ds.filter p
  | [] => rfl
  | d :: ds => by
    rw [List.filterMap_cons, List.filter_cons, filterMap_if p ds]
    cases p d <;> simp
section
variable {it : Loc → Store → Res Walked} {t : Tg} {vs : List Nat} {c : Tv} {e : Ev} {l : Loc} {S : Store} {v : Val}
theorem lc_data {ds : List D} (hit : it l S = .ok (ds.map .d, v) S) (g : D → Option D) (hf : ∀ d ∈ ds, TurnIs t vs c e l (lockS v S) (.d d) ((g d).map .d)) (hz : ds.length ≤ 100000) : evLC false it t vs c e l S = .ok (.d (.list (ds.filterMap g))) S :=
  evLC_pure hit (onD g) _ (fun x hx => by
    obtain ⟨d, hd, rfl⟩ := List.mem_map.mp hx
    exact hf d hd) (filterMap_onD g ds) (by rw [List.length_map]; exact Nat.le_trans hz (by decide))
theorem lc_map {ds : List D} (hit : it l S = .ok (ds.map .d, v) S) (h : D → D) (hf : ∀ d ∈ ds, TurnIs t vs c e l (lockS v S) (.d d) (some (.d (h d)))) (hz : ds.length ≤ 100000) : evLC false it t vs c e l S = .ok (.d (.list (ds.map h))) S := by
  have := lc_data hit (fun d => some (h d)) hf hz
  rw [show (ds.filterMap fun d => some (h d)) = ds.map h from by rw [← List.filterMap_eq_map]; rfl] at this
  exact this
theorem lc_filter {ds : List D} (hit : it l S = .ok (ds.map .d, v) S) (p : D → Bool) (hf : ∀ d ∈ ds, TurnIs t vs c e l (lockS v S) (.d d) (if p d = true then some (.d d) else none)) (hz : ds.length ≤ 100000) : evLC false it t vs c e l S = .ok (.d (.list (ds.filter p))) S := by
  have := lc_data hit (fun d => if p d = true then some d else none) (fun d hd => by
    have := hf d hd
    cases q : p d with
    | true =>
      rw [q, if_pos rfl] at this
      rw [if_pos rfl]
      exact this
    | false =>
      rw [q, if_neg (by decide)] at this
      rw [if_neg (by decide)]
      exact this) hz
  rw [this, filterMap_if]
end
end FH
/-! expressions that always give the same -/
namespace FH
open L2 PySem PySem.Spec
def Cst (m : Ev) (d : D) : Prop := ∀ l S, m l S = .ok (.d d) S
def CstL (m : Loc → Store → Res (List Val)) (ds : List D) : Prop := ∀ l S, m l S = .ok (ds.map .d) S
theorem cst_c {d : D} : Cst (evC (.d d)) d := fun _ _ => rfl
theorem cst_nil : CstL evNil [] := fun _ _ => rfl
theorem cst_cons {a : Ev} {r : Loc → Store → Res (List Val)} {d : D} {ds : List D} (h : Cst a d) (hr : CstL r ds) : CstL (evCons a r) (d :: ds) := fun l S => evCons_v (h l S) (hr l S)
theorem cst_tup {m : Loc → Store → Res (List Val)} {ds : List D} (h : CstL m ds) (hz : ds.length ≤ 100) : Cst (evTup m) (.tuple ds) := fun l S => evL_v (h l S) (tup_data (sz100 hz))
theorem cst_lst {m : Loc → Store → Res (List Val)} {ds : List D} (h : CstL m ds) (hz : ds.length ≤ 100) : Cst (evLst false m) (.list ds) := fun l S => lst_frz (h l S) hz
theorem cst_neg {m : Ev} {i : Int} (h : Cst m (.int i)) : Cst (ev1 negV m) (.int (-i)) := fun l S => by simp [h l S, negV]
theorem gs_ext {i : Nat} {l : Loc} {S : Store} {N : Loc → Store → Prop} {R : Val → Store → Prop} {m : Loc → Store → Res (List Val)} {b : Sv} {xs ys : List D} (hv : evVar i l (S ++ [.lst (xs.map .d)]) = .ok (.ref S.length) (S ++ [.lst (xs.map .d)])) (hm : CstL m ys) (hz : ys.length ≤ 100) (hx : xs.length ≤ 10000)
    (hk : Goes (b l (S ++ [.lst ((xs ++ ys).map .d)])) N R) : Goes (sSeq (sDrop (evM "list" extM (evVar i) (evCons (evLst false m) evNil))) b l (S ++ [.lst (xs.map .d)])) N R := by
  refine gs_drop (P := fun _ S1 => S1 = S ++ [.lst ((xs ++ ys).map .d)]) (.of (evM_v hv (kind_lst get_last) (evCons_v (cst_lst hm hz l _) rfl) (ext_v get_last (by rw [List.length_map]; omega))) ?_) fun v S1 e => by
    subst e
    exact hk
  rw [set_last, List.map_append]
theorem cst_a13 : Cst (ev2 mulV (evC (.d (.str "a"))) (evC (.d (.int 13)))) (.str "aaaaaaaaaaaaa") := fun l S => by
  have e : mulV (.d (.str "a")) (.d (.int 13)) S = some (.d (.str "aaaaaaaaaaaaa"), S) := by
    unfold mulV
    dsimp only
    rw [if_pos (by decide +kernel)]
    have : repS "a" (13 : Int).toNat = "aaaaaaaaaaaaa" := by decide +kernel
    rw [this]
  simp [e]
theorem ends_eq {r : Res Val} {v : Val} {S : Store} (h : Ends r fun a S1 => a = v ∧ S1 = S) : r = .ok v S := by
  obtain ⟨a, S1, e, e1, e2⟩ := h
  rw [e, e1, e2]
/-- a list that a def has made and gives back -/
theorem fin_new {S : Store} {ds : List D} : finR false S (.ref S.length) (S ++ [.lst (ds.map .d)]) = .ok (.d (.list ds)) S := by
  unfold finR
  rw [if_neg (by decide)]
  simp only [Nat.le_refl, if_true, freeze_last]
  rw [popO_self _ (show Val.cl S.length (.d (.list ds)) from trivial)]
  rfl
end FH
/-! a lambda with a parameter: its object lies in the base -/
namespace FLm
open PySem PySem.Spec PyProof.Rows L2 LamX
abbrev lEnv (qual : Str) (scope : Scope) (cl : List (Str × Addr)) (L f c' : Addr) : Env := PySem.W.envX qual scope L f (.ref c') cl
/-- the context of the lambda's body -/
def lCx (P : Program) (w : World) (K : PySem.W.Frag) (mg : Str → Option Value) (base : Heap) (N : List Str) (qual : Str) (scope : Scope) (cl : List (Str × Addr)) (f c' : Addr) (A : Around) (outer : List Env) (s : Shared) (H : Hp) (E : XK) : Cx where
  prog := P
  w := w
  K := K
  mg := mg
  base := base
  A := A.deeper (lEnv qual scope cl s.heap.objs.size f c')
  N := N
  s_0 := s
  H_0 := H
  env := lEnv qual scope cl s.heap.objs.size f c'
  outer := outer
  stack := lEnv qual scope cl s.heap.objs.size f c' :: outer
  ex := []
  fn := fun _ => false
  calm := true
  pn := []
  xe := fun e s' => wpAny (model P w) (A.deeper (lEnv qual scope cl s.heap.objs.size f c')) (leaving (lEnv qual scope cl s.heap.objs.size f c') e) (fun _ s'' => L2.CX P w outer H s E e s'') (fun e' s'' => L2.CX P w outer H s E e' s'') s'
/-- the lambda's names: one parameter, captured ones -/
structure LamN (scope : Scope) (cl : List (Str × Addr)) (p : Str) : Prop where
  kind : scope.kind = .function
  co : scope.isCoroutine = false
  gen : scope.isGenerator = false
  nocell : ∀ y ∈ scope.names, y.2 ≠ .cell
  par : scope.names.lookup p = some .local
  own : ∀ y, scope.names.lookup y = some .local → y = p
  free : ∀ y, scope.names.lookup y = some .free → ∃ c, cl.lookup y = some c
  inj : ∀ x y c, cl.lookup x = some c → cl.lookup y = some c → x = y
section
variable {P : Program} {w : World} {K : PySem.W.Frag} {mg : Str → Option Value} {base : Heap} {N : List Str} {qual p : Str} {scope : Scope} {cl : List (Str × Addr)} {f c' : Addr} {A : Around} {outer : List Env} {s : Shared} {H : Hp} {E : XK} {σ : L2.St} {h₁ : Heap} {tk : Nat} {u : Value}
theorem lam_start (L : LamN scope cl p) (e0 : Env0 P w K mg base A outer s H) (hd : A.handled = none) (hN : σ.length = N.length) (hcell : ∀ y c, cl.lookup y = some c → ∃ v, base.IsCell c v)
    (hσ : ∀ (i : Nat) (x : Str) (v : V), N[i]? = some x → σ[i]? = some (some v) → (x = p ∧ RelV v u) ∨ ∃ c u', cl.lookup x = some c ∧ scope.names.lookup x = some .free ∧ base.IsCell c (some u') ∧ RelV v u')
    (hns : h₁.Ns s.heap.objs.size fun y => ([(p, u)] : List (Str × Value)).reverse.lookup y) (kp : ∀ b o, s.heap.get? b = some o → h₁.get? b = some o) :
    Inv (lCx P w K mg base N qual scope cl f c' A outer s H E) [] σ H { s with heap := h₁, toks := tk } := by
  have noA : ∀ b : Addr, b ∉ (lCx P w K mg base N qual scope cl f c' A outer s H E).ex := fun b z => absurd (show b ∈ ([] : List Addr) from z) (by simp)
  have cellK : ∀ {c : Addr} {v : Option Value}, base.IsCell c v → h₁.IsCell c v ∧ H c = none := fun {c v} ⟨o, ho, hd⟩ => ⟨⟨o, kp _ _ (e0.bs c o ho).1, hd⟩, (e0.bs c o ho).2⟩
  refine ⟨⟨e0.mod, L.kind, rfl, rfl, Nat.le_refl _, L.inj, fun y hy => ?_, fun y c z _ => ?_, fun _ => hd, Around.frames_deeper e0.frames, .inr ⟨rfl, rfl⟩, fun b z => absurd z (noA b), e0.bs, e0.bsz, fun b _ _ => noA b,
      fun b z => absurd z (noA b), e0.funs, e0.frf⟩,
    rfl, e0.bare, Un.kept kp, ⟨_, hns, fun i y v e1 e2 e3 => ?_⟩, fun y c e => ?_, e0.hok.fresh (Nat.le_refl _), fun y c e => ?_, fun q hq => absurd (show q ∈ ([] : List (Addr × Obj)) ++ [] from hq) (by simp), e0.hok.kept kp, hN⟩
  · have hy : scope.names.lookup y = some .cell ∨ scope.names.lookup y = some .free := hy
    rcases hy with hy | hy
    · exact absurd rfl (L.nocell _ (PySem.mem_of_lookup hy))
    · exact L.free y hy
  · have z : false = true := z
    cases z
  · rcases hσ i y v e1 e2 with ⟨rfl, r⟩ | ⟨c, u', h1, h2, h3, r⟩
    · exact ⟨u, r, .inl ⟨L.par, by simp [List.lookup]⟩⟩
    · exact ⟨u', r, .inr ⟨.inr h2, c, h1, (cellK h3).1⟩⟩
  · obtain ⟨v, z⟩ := hcell y c e
    exact ⟨v, (cellK z).1⟩
  · obtain ⟨v, z⟩ := hcell y c e
    exact (cellK z).2
/-- the lambda's promise -/
theorem lam_call {params : Arguments} {body : Expr} {pm ctv : Value} {k : Nat} {tb : TE} {Q : VK} {v : V} (L : LamN scope cl p) (hf : base.get? f = some (PySem.W.kla_obj "<lambda>" qual params body scope cl pm c' ctv))
    (hbind : bindArgs (PySem.W.kla_fn "<lambda>" qual params body scope cl pm (.ref c') ctv) ⟨[u], []⟩ = pure [(p, u)])
    (hbody : ∀ (A : Around) (outer : List Env) (s : Shared) (H : Hp), Room k (A.deeper (lEnv qual scope cl s.heap.objs.size f c')) → PE (lCx P w K mg base N qual scope cl f c' A outer s H E) body tb)
    (hr : Room (k + 1) A) (e0 : Env0 P w K mg base A outer s H) (hc : H c' = some (CodeO c' qual)) (hN : σ.length = N.length) (hcell : ∀ y c, cl.lookup y = some c → ∃ v, base.IsCell c v)
    (hσ : ∀ (i : Nat) (x : Str) (v : V), N[i]? = some x → σ[i]? = some (some v) → (x = p ∧ RelV v u) ∨ ∃ c u', cl.lookup x = some c ∧ scope.names.lookup x = some .free ∧ base.IsCell c (some u') ∧ RelV v u') (ht : tb σ H Q) :
    codeAny (model P w) A (.call (.ref f) ⟨[u], []⟩) (CR (L2.CX P w) outer P w H s Q E) s := by
  have of1 := (e0.bs f _ hf).1
  obtain ⟨⟨oc, vs, t, hoc, hdc, hvc⟩, _, _⟩ := e0.hok c' _ hc
  refine PySem.W.kla_callFunE hr.depth of1 rfl L.co L.gen rfl ⟨c', oc, vs, t, rfl, hoc, hdc, hvc⟩ ?_
  rw [hbind]
  refine wpAny_pure (wpAny_newFunctionEnv L.nocell (fun y hy => by rw [List.mem_singleton.mp hy]; exact L.par) (fun h₁ hns hsb => ⟨(e0.mod.nolimit.keeps fun b o e => (e0.bs b o e).1).fresh _ hsb, ?_⟩) L.kind)
  show codeAny _ _ (.expr body (lEnv qual scope cl s.heap.objs.size f c')) _ _
  have kp : ∀ b o, s.heap.get? b = some o → h₁.get? b = some o := fun b o e => hsb.extBut b o (Nat.ne_of_lt (Heap.lt_size e)) (Heap.get?_push_of_some _ e)
  have J : Inv (lCx P w K mg base N qual scope cl f c' A outer s H E) [] σ H { s with heap := h₁, toks := s.toks + ([(p, u)] : List (Str × Value)).length } := lam_start L e0 hr.hd hN hcell hσ hns kp
  refine PySem.W.kla_codeExpr (wpAny_mono ((hbody _ _ s H (hr.deeper _)).run [] _ _ H Q J ht) (fun v s' hq => ?_) fun e s' hq => hq)
  obtain ⟨w', H', J', rv, q⟩ := hq
  exact ⟨w', H', J'.os, J'.bare, J'.base, J'.hok, rv, q⟩
end
end FLm
namespace FLm
open PySem PySem.Spec PyProof.Rows L2 LamX
/-- a promise of one value, of the function at f -/
def Lam1 (P : Program) (w : World) (K : PySem.W.Frag) (mg : Str → Option Value) (base : Heap) (k : Nat) (f : Addr) (sp : V → Hp → VK → Prop) : Prop :=
  (∃ o fd, base.get? f = some o ∧ o.data = .func fd ∧ PySem.W.FnAt f base) ∧
  ∀ (A : Around) (outer : List Env) (s : Shared) (H : Hp) (u : Value) (v : V) (Q : VK), Room k A → Env0 P w K mg base A outer s H → RelV v u → sp v H Q → codeAny (model P w) A (.call (.ref f) ⟨[u], []⟩) (CR (L2.CX P w) outer P w H s Q fun _ _ _ => False) s
section
variable {X : Cx}
theorem fnAt_keeps {f : Addr} {h h' : Heap} (x : PySem.W.FnAt f h) (k : ∀ b o, h.get? b = some o → h'.get? b = some o) : PySem.W.FnAt f h' := by
  obtain ⟨a, b, c, d, e⟩ := x
  exact ⟨a, b, c, d, k _ _ e⟩
/-- x(e), x a name that holds the lambda -/
theorem pe_lam1 {k i : Nat} {f : Addr} {sp : V → Hp → VK → Prop} {x : Str} {p pos : Pos} {e : Expr} {t : TE} (F : Lam1 X.prog X.w X.K X.mg X.base k f sp) (hr : Room k X.A) (hN : X.N[i]? = some x) (hv : Vis X.env.scope x) (ha : PE X e t)
    (hdb : (x == ("__debug__" : Str)) = false := by decide) (hcd : (x == ("__classdict__" : Str)) = false := by decide) (he : starEach [e] X.env = (false, eval e X.env) :: starEach [] X.env := by rfl) :
    PE X (.Call (.Name x p) [e] [] pos) (fun σ H Q => σ[i]? = some (some (.ref f)) ∧ t σ H fun v H1 => sp v H1 Q) := by
  refine ⟨fun pins s σ H Q I h => ?_⟩
  obtain ⟨hs, ht⟩ := h
  obtain ⟨⟨o, fd, ho, hd, fa⟩, run⟩ := F
  refine wpAny_Call_Name_kw (thn ((pe_var (pos := p) hN hv hdb hcd).run pins s σ H (fun v H1 => v = .ref f ∧ H1 = H) I ⟨.ref f, hs, rfl, rfl⟩) fun u s1 ⟨v, H1, I1, r1, q1⟩ => ?_)
  obtain ⟨rfl, rfl⟩ := q1
  cases r1
  refine PySem.W.callWith_F (fnAt_keeps fa I1.bk) ?_ he (by rfl)
  rw [he]
  show wpAny _ _ (spliced ((false, eval e X.env) :: backTo pos (starEach [] X.env))) _ _ s1
  refine Calls.spliced_cons (thn (ha.run pins s1 σ _ _ I1 ht) fun u s2 ⟨v, H2, I2, r2, q2⟩ => ?_)
  refine Calls.spliced_nil ⟨fnAt_keeps fa I2.bk, ?_⟩
  show wpAny _ _ (call (.ref f) [u]) _ _ _
  refine wpAny_call (codeAny_mono (run X.A X.stack s2 H2 u v Q hr I2.env0 r2 q2) fun r s' hq => ?_)
  cases r with
  | error e =>
    obtain ⟨a, B, H', cls, d, _, _, _, _, _, _, _, z⟩ := hq
    exact z.elim
  | ok fl =>
    cases fl with
    | ret u => exact I2.after hq
    | next => exact False.elim hq
    | brk => exact False.elim hq
    | cont => exact False.elim hq
end
end FLm
/-! lambdas in the data layer: made, handed to a def, called there -/
namespace FH
open L2 PySem PySem.Spec LamX FLm
/-- the lambda is made: its code object is new, or found in the table -/
theorem lam_make3 {X : Cx} {pins : List (Addr × Obj)} {σ : L2.St} {H : Hp} {s : Shared} {c P : Addr} {q : Str} {ps : Array Value} {params : Arguments} {body : Expr} {scope : Scope} {pos : Pos} {E : Value → Shared → Prop} {Q : Value → Shared → Prop} (I : Inv X pins σ H s) (TB : TabB X.base X.mg c P) (hcode : X.env.code = .ref c)
    (hq : X.env.qual ++ "<lambda>" = q) (hP : H P = some (.tbl ps)) (ht : TriplesOk ps.toList) (ha : ∀ (pos : Pos) (cv : Value), codeAmong pos ps.toList = some cv → ∃ c', cv = .ref c' ∧ H c' = some (CodeO c' q)) (hdef : defaultsOf params X.env = ([], [])) (hfree : ∀ y ∈ scope.names, y.2 = .free → ∃ c, X.env.cells.lookup y.1 = some c)
    (h : ∀ (f c' : Addr) (pm ctv : Value) (H1 : Hp) (s' : Shared), Inv X pins σ H1 s' → ((H1 = H ∧ codeAmong pos ps.toList = some (.ref c')) ∨ (H c' = none ∧ H1 = upd (upd H P (.tbl (ps ++ #[rawInt pos.line, rawInt pos.col, .ref c']))) c' (CodeO c' q))) →
      s'.heap.get? f = some (PySem.W.kla_obj "<lambda>" q params body scope (cloFrom X.env.cells scope.names []) pm c' ctv) → H1 f = none → f ∉ frs X.stack → H1 c' = some (CodeO c' q) → Q (.ref f) s') :
    wpAny (model X.prog X.w) X.A (eval (.Lambda params body scope pos) X.env) Q E s := by
  subst hq
  refine PySem.W.kla_eval hdef ?_
  have bP : s.heap.BuiltinsAt X.mg P := TB.bm.keeps I.bk
  have hP' : s.heap.get? P = some { cls := .none, data := .fields ps } := I.hok P _ hP
  have nofr : ∀ f, s.heap.objs.size ≤ f → f ∉ frs X.stack := fun f hf z => by
    rcases List.mem_cons.mp (I.stkSub _ z) with e | e
    · have h1 := I.lt
      rw [← e] at h1
      exact Nat.lt_irrefl _ (Nat.lt_of_lt_of_le h1 hf)
    · exact I.nofs hf e
  cases hc : codeAmong pos ps.toList with
  | none =>
    refine PySem.W.kla_makeFunction (mg := X.mg) (c := c) (P := P) (ps := ps) (closure_ok hfree) I.ok.glob (I.mod.glob.keeps I.bk) hcode (TB.code.keeps I.bk) hP' ht hc TB.gP bP fun c' ctv h' tk hx hge hlt hrec htb => ?_
    obtain ⟨c2, oc, vs, t, e2, hoc, hd, hv⟩ := hrec
    cases e2
    have hsz : s.heap.objs.size ≤ h'.objs.size := Nat.le_trans hge (Nat.le_of_lt hlt)
    have nC : H c' = none := I.hok.fresh hge
    have I1 := inv_table (t' := tk) (more := #[rawInt pos.line, rawInt pos.col, .ref c']) (h' := h'.push (PySem.W.kla_obj "<lambda>" (X.env.qual ++ "<lambda>") params body scope (cloFrom X.env.cells scope.names []) ((X.mg "__name__").getD .none) c' ctv)) I hP
      (fun b o hb e => Heap.get?_push_of_some _ (hx b o hb e)) (Heap.get?_push_of_some _ htb) hge ⟨oc, vs, t, Heap.get?_push_of_some _ hoc, hd, hv⟩
    refine h h'.objs.size c' ((X.mg "__name__").getD .none) ctv _ _ I1 (.inr ⟨nC, rfl⟩) (Heap.get?_push_size _ rfl) ?_ (nofr _ hsz) upd_same
    have n1 : h'.objs.size ≠ c' := Nat.ne_of_gt hlt
    have n2 : h'.objs.size ≠ P := Nat.ne_of_gt (Nat.lt_of_lt_of_le (Heap.lt_size hP') hsz)
    rw [upd_ne n1, upd_ne n2]
    exact I.hok.fresh hsz
  | some cv =>
    obtain ⟨c', e, hco⟩ := ha pos cv hc
    subst e
    refine PySem.W.kla_makeFunctionHit (mg := X.mg) (c := c) (P := P) (ps := ps) (closure_ok hfree) I.ok.glob (I.mod.glob.keeps I.bk) hcode (TB.code.keeps I.bk) hP' ht hc bP fun ctv h' tk hx hsz => ?_
    have I1 : Inv X pins σ H { s with heap := h'.push (PySem.W.kla_obj "<lambda>" (X.env.qual ++ "<lambda>") params body scope (cloFrom X.env.cells scope.names []) ((X.mg "__name__").getD .none) c' ctv), toks := tk } := I.kept fun b o e => Heap.get?_push_of_some _ (hx b o e)
    exact h h'.objs.size c' ((X.mg "__name__").getD .none) ctv H _ I1 (.inl ⟨rfl, hc⟩) (Heap.get?_push_size _ rfl) (I.hok.fresh hsz) (nofr _ hsz) hco
/-- the store behind the making of a lambda -/
theorem Rel.lam {T : Ty} {ρ : List Addr} {S : Store} {H H1 : Hp} {n : Nat} {P c' : Addr} {x : Str × Option Str} {q : Str} {ps : Array Value} {pos : Pos} (R : Rel T ρ S H) (hn : ρ[n]? = some P) (hS : S[n]? = some (.tab x q)) (hP : H P = some (.tbl ps))
    (h : (H1 = H ∧ codeAmong pos ps.toList = some (.ref c')) ∨ (H c' = none ∧ H1 = upd (upd H P (.tbl (ps ++ #[rawInt pos.line, rawInt pos.col, .ref c']))) c' (CodeO c' q))) : Rel T ρ S H1 ∧ Ext ρ S H ρ S H1 ∧ frz ρ S H1 c' = some (CodeO c' q) := by
  rcases h with ⟨rfl, hc⟩ | ⟨hc, rfl⟩
  · have ob := R.obj n P _ hn hS
    rw [hP] at ob
    obtain ⟨e, ps', e1, e2, e3⟩ := ob
    cases e1
    obtain ⟨c2, z1, z2⟩ := e3 pos _ hc
    cases z1
    exact ⟨R, Ext.refl, z2⟩
  obtain ⟨R1, E1, f1⟩ := R.lay (o := CodeO c' q) hc
  have ne : P ≠ c' := ne_of_none hP hc
  have hP1 : upd H c' (CodeO c' q) P = some (.tbl ps) := by
    rw [upd_ne ne]
    exact hP
  have ob := R1.obj n P _ hn hS
  rw [hP1] at ob
  obtain ⟨e, ps', e1, e2, e3⟩ := ob
  cases e1
  have eL : (ps ++ #[rawInt pos.line, rawInt pos.col, .ref c']).toList = ps.toList ++ [rawInt pos.line, rawInt pos.col, .ref c'] := by simp
  obtain ⟨R2, E2⟩ := R1.put (o := .tbl (ps ++ #[rawInt pos.line, rawInt pos.col, .ref c'])) hn hS rfl (ob' := .tab x q) rfl (fun _ => by simp) ⟨e, _, rfl, by rw [eL]; exact PySem.TriplesOk_snoc _ _ _ _ e2, fun p' cv hcv => by
    rw [eL] at hcv
    rcases among_app _ e2 hcv with z | z
    · exact e3 p' cv z
    · exact ⟨c', z, f1⟩⟩
  have eS : S.set n (.tab x q) = S := set_same hS
  rw [eS] at R2 E2
  have eH : upd (upd H c' (CodeO c' q)) P (.tbl (ps ++ #[rawInt pos.line, rawInt pos.col, .ref c'])) = upd (upd H P (.tbl (ps ++ #[rawInt pos.line, rawInt pos.col, .ref c']))) c' (CodeO c' q) := by
    funext b
    by_cases h1 : b = P
    · rw [h1, upd_same, upd_ne ne, upd_same]
    · by_cases h2 : b = c'
      · rw [h2, upd_ne (Ne.symm ne), upd_same, upd_same]
      · rw [upd_ne h1, upd_ne h2, upd_ne h2, upd_ne h1]
  rw [eH] at R2 E2
  exact ⟨R2, E1.trans E2, E2.le _ _ f1⟩
/-- all that is not tracked, but the frames -/
def bas (s : Shared) (H : Hp) (fr : List Addr) : Heap := PySem.W.hideAll (hidT s.heap H) fr
theorem bas_get {s : Shared} {H : Hp} {fr : List Addr} {b : Addr} {o : Obj} (e : s.heap.get? b = some o) (n : H b = none) (f : b ∉ fr) : (bas s H fr).get? b = some o := PySem.W.hideAll_get _ (hidT_get e n) f
theorem of_bas {s : Shared} {H : Hp} {fr : List Addr} {b : Addr} {o : Obj} (e : (bas s H fr).get? b = some o) : s.heap.get? b = some o ∧ H b = none := of_hidT (PySem.W.of_hideAll _ e)
section
variable {X : Cx} {pins : List (Addr × Obj)} {σ : L2.St} {H : Hp} {s : Shared}
theorem bas_base (I : Inv X pins σ H s) : ∀ b o, X.base.get? b = some o → (bas s H (frs X.stack)).get? b = some o := fun b o e =>
  bas_get (I.bk b o e) (I.bs b o e).2 fun z => by
    have h := (I.env0.funs.mem z).1
    rw [e] at h
    cases h
theorem bas_env0 (I : Inv X pins σ H s) : Env0 X.prog X.w X.K X.mg (bas s H (frs X.stack)) X.A X.stack s H :=
  have k := bas_base I
  have m := I.ok.mod
  ⟨I.env0.frames, ⟨m.kin.keeps k, m.glob.keeps k, (let ⟨mb, h1, h2⟩ := m.blt; ⟨mb, h1.keeps k, h2⟩), m.nolimit.keeps k⟩, fun b o e => of_bas e, by
    unfold bas
    rw [PySem.W.hideAll_size, hidT_size]
    exact Nat.le_refl _, funFrames_none I.env0.funs (fun L hL => PySem.W.hideAll_none _ hL), I.env0.frf, I.env0.hok, I.env0.bare⟩
end
/-! ### what a lambda promises -/
def spLam (T : Ty) (id : LamId) (mb : Ev) : V → Hp → VK → Prop := fun x H Q => ∃ ρ S v cd, Rel T ρ S H ∧ RepV T ρ (frz ρ S H) x v ∧ RepV T ρ (frz ρ S H) (.ref id.f) (.lam id cd) ∧ PostG T W0 [] (relV T) ρ S H (mb (some v :: cd.map fun d => some (.d d)) S) Q
def lamM (j : Nat) (mb : Ev) : Ev := match j with
  | 0 => fun _ _ => .stuck
  | _ + 1 => mb
theorem post_w0 {T : Ty} {σ σ' : St} {ρ : List Addr} {S : Store} {H : Hp} {Q : VK} : ∀ {r : Res Val}, PostG T W0 σ (relV T) ρ S H r Q → PostG T W0 σ' (relV T) ρ S H r Q
  | .ok _ _, h => h
  | .exc _ _, h => h
  | .stuck, h => h
def caught : List Nat → Loc → Option (List D)
  | [], _ => some []
  | j :: r, l => match l[j]?, caught r l with
    | some (some (.d d)), some ds => some (d :: ds)
    | _, _ => none
theorem caught_ok {T : Ty} {ρ : List Addr} {F : Hp} {l : Loc} {σ : St} (L : LocOk T ρ F l σ) : ∀ {js : List Nat} {cd : List D}, caught js l = some cd → ∃ cv : List V, RepAll T F cv cd ∧ cv.length = js.length ∧ ∀ (i j : Nat) (v : V), js[i]? = some j → cv[i]? = some v → σ[j]? = some (some v)
  | [], _, h => by
    cases h
    exact ⟨[], .nil, rfl, fun i j v e => by cases e⟩
  | j :: r, _, h => by
    rw [caught] at h
    split at h
    · rename_i d ds e1 e2
      cases h
      obtain ⟨cv, c1, c2, c3⟩ := caught_ok L e2
      obtain ⟨x, x1, x2⟩ := L.2 j _ e1
      refine ⟨x :: cv, .cons x2 c1, by simp [c2], fun i j' v g1 g2 => ?_⟩
      cases i with
      | zero =>
        cases g1
        cases g2
        exact x1
      | succ i => exact c3 i j' v g1 g2
    · cases h
theorem lam_loc {T : Ty} {ρ : List Addr} {F : Hp} {x : V} {v : Val} (h : RepV T ρ F x v) {cv : List V} {cd : List D} (r : RepAll T F cv cd) : LocOk T ρ F (some v :: cd.map fun d => some (.d d)) (some x :: cv.map some) := by
  have hl := r.pr (ρ := ρ)
  refine ⟨by simp [pr_len hl], fun i u e => ?_⟩
  cases i with
  | zero =>
    cases e
    exact ⟨x, rfl, h⟩
  | succ i =>
    rw [List.getElem?_cons_succ, List.getElem?_map] at e
    cases g : cd[i]? with
    | none =>
      rw [g] at e
      cases e
    | some d =>
      rw [g] at e
      cases e
      obtain ⟨y, y1, y2⟩ := pr_getR hl (show (cd.map Val.d)[i]? = some (.d d) by rw [List.getElem?_map, g]; rfl)
      exact ⟨y, by rw [List.getElem?_cons_succ, List.getElem?_map, y1]; rfl, y2⟩
/-- the names of a lambda of one parameter -/
def lamNB (sc scope : Scope) (p : Str) : Bool :=
  decide (scope.kind = .function) && !scope.isCoroutine && !scope.isGenerator && decide (scope.names.lookup p = some .local) &&
    scope.names.all fun y => !decide (y.2 = .cell) && (!decide (y.2 = .local) || decide (y.1 = p)) && (!decide (y.2 = .free) || decide (sc.names.lookup y.1 = some .cell) || decide (sc.names.lookup y.1 = some .free))
section
variable {X : Cx} {pins : List (Addr × Obj)} {σ : L2.St} {H : Hp} {s : Shared}
theorem lamN_free {scope : Scope} {p : Str} (h : lamNB X.env.scope scope p = true) (ok : X.Ok) : ∀ y ∈ scope.names, y.2 = .free → ∃ c, X.env.cells.lookup y.1 = some c := fun y hy e => by
  unfold lamNB at h
  simp only [Bool.and_eq_true, Bool.or_eq_true, Bool.not_eq_true', decide_eq_true_eq, decide_eq_false_iff_not, List.all_eq_true] at h
  rcases (h.2 y hy).2 with (z | z) | z
  · exact absurd e z
  · exact ok.has _ (.inl z)
  · exact ok.has _ (.inr z)
theorem clo_cell {scope : Scope} (hfree : ∀ y ∈ scope.names, y.2 = .free → ∃ c, X.env.cells.lookup y.1 = some c) {y : Str} {c : Addr} (e : (cloFrom X.env.cells scope.names []).lookup y = some c) : X.env.cells.lookup y = some c := by
  rcases cloFrom_mem (PySem.mem_of_lookup e) with hm | ⟨h1, h2⟩
  · cases hm
  · obtain ⟨c1, hc⟩ := hfree _ h1 rfl
    have hc : X.env.cells.lookup y = some c1 := hc
    have e2 : c = c1 := by
      rw [h2, hc] <;> rfl
    rw [e2]
    exact hc
theorem clo_has {scope : Scope} {y : Str} (hl : scope.names.lookup y = some .free) : ∃ c, (cloFrom X.env.cells scope.names []).lookup y = some c := by
  have hy : (y, NameKind.free) ∈ scope.names := PySem.mem_of_lookup hl
  exact mem_lookup (cloFrom_has (cells := X.env.cells) (acc := []) hy)
theorem lamN_of {scope : Scope} {p : Str} (h : lamNB X.env.scope scope p = true) (ok : X.Ok) : LamN scope (cloFrom X.env.cells scope.names []) p := by
  have hf := lamN_free h ok
  unfold lamNB at h
  simp only [Bool.and_eq_true, Bool.or_eq_true, Bool.not_eq_true', decide_eq_true_eq, decide_eq_false_iff_not, List.all_eq_true] at h
  obtain ⟨⟨⟨⟨h1, h2⟩, h3⟩, h4⟩, h5⟩ := h
  refine ⟨h1, h2, h3, fun y hy => (h5 y hy).1.1, h4, fun y e => ?_, fun y e => clo_has e, fun x y c e1 e2 => ok.inj x y c (clo_cell hf e1) (clo_cell hf e2)⟩
  rcases (h5 _ (PySem.mem_of_lookup e)).1.2 with z | z
  · exact absurd rfl z
  · exact z
/-- the lambda keeps its promise, from all that is not tracked -/
theorem lam_of {params : Arguments} {body : Expr} {scope : Scope} {p q : Str} {js : List Nat} {ys : List Str} {mb : Ev} {f c' : Addr} {pm ctv : Value} {cv : List V} (I : Inv X pins σ H s) (hb : lamNB X.env.scope scope p = true)
    (hf : s.heap.get? f = some (PySem.W.kla_obj "<lambda>" q params body scope (cloFrom X.env.cells scope.names []) pm c' ctv)) (hfn : H f = none) (hfr : f ∉ frs X.stack)
    (hbind : ∀ (q : Str) (cl : List (Str × Addr)) (pm cv ctv u : Value), bindArgs (PySem.W.kla_fn "<lambda>" q params body scope cl pm cv ctv) ⟨[u], []⟩ = pure [(p, u)])
    (hfn2 : ∀ y c, X.env.cells.lookup y = some c → c ∉ frs X.stack)
    (hjs : js.length = ys.length) (hcv : cv.length = js.length) (hN : ∀ (i j : Nat) (y : Str), js[i]? = some j → ys[i]? = some y → X.N[j]? = some y ∧ scope.names.lookup y = some .free) (hσ : ∀ (i j : Nat) (v : V), js[i]? = some j → cv[i]? = some v → σ[j]? = some (some v))
    (hbody : ∀ (k : Nat) (base : Heap) (cl : List (Str × Addr)) (A : Around) (outer : List Env) (s : Shared) (H : Hp), Room k (A.deeper (lEnv q scope cl s.heap.objs.size f c')) → PD (lCx X.prog X.w X.K X.mg base (p :: ys) q scope cl f c' A outer s H (fun _ _ _ => False)) W0 body mb) :
    ∀ j, Lam1 X.prog X.w X.K X.mg (bas s H (frs X.stack)) j f (spLam (ty X) ⟨f, c', q, cv⟩ (lamM j mb)) := by
  have hf' := bas_get hf hfn hfr
  have hfree := lamN_free hb I.ok
  have L := lamN_of hb I.ok
  have cellB : ∀ {y : Str} {c : Addr} {v : Option Value}, X.env.cells.lookup y = some c → s.heap.IsCell c v → (bas s H (frs X.stack)).IsCell c v := fun {y c v} e ⟨o, ho, hd⟩ => ⟨o, bas_get ho (I.freeC y c e) (hfn2 y c e), hd⟩
  refine fun j => ⟨⟨_, _, hf', rfl, _, _, _, _, hf'⟩, fun A outer s1 H1 u x Q hr e0 rx h => ?_⟩
  obtain ⟨ρ, S, v, cd, R, qx, ⟨_, qc, qr⟩, po⟩ := h
  cases j with
  | zero => exact po.elim
  | succ k =>
    have hlen : (some x :: cv.map some : St).length = (p :: ys).length := by simp [hcv, hjs]
    refine lam_call (N := p :: ys) (tb := tD (ty X) W0 mb) (σ := some x :: cv.map some) (v := x) L hf' (hbind _ _ _ _ _ _) (fun A outer s H hr => hbody k _ _ A outer s H hr) hr e0 (frz_le _ _ qc) hlen (fun y c e => ?_) (fun i y v' e1 e2 => ?_) ⟨ρ, S, _, R, lam_loc qx qr, post_w0 po⟩
    · have e' := clo_cell hfree e
      obtain ⟨v, z⟩ := I.cell y c e'
      exact ⟨v, cellB e' z⟩
    · cases i with
      | zero =>
        cases e1
        cases e2
        exact .inl ⟨rfl, rx⟩
      | succ i =>
        rw [List.getElem?_cons_succ] at e1 e2
        rw [List.getElem?_map] at e2
        cases g : cv[i]? with
        | none =>
          rw [g] at e2
          cases e2
        | some v2 =>
          rw [g] at e2
          obtain rfl : v2 = v' := Option.some.inj (Option.some.inj e2)
          have hi : i < js.length := by
            rw [← hcv]
            exact (List.getElem?_eq_some_iff.mp g).1
          obtain ⟨n1, n2⟩ := hN i js[i] y (List.getElem?_eq_getElem hi) e1
          have hs := hσ i js[i] v2 (List.getElem?_eq_getElem hi) g
          obtain ⟨c, hc⟩ := clo_has (X := X) n2
          have hc' := clo_cell hfree hc
          obtain ⟨m, hn, hl⟩ := I.loc
          have hvis : Vis X.env.scope y := by
            have hb' := hb
            unfold lamNB at hb'
            simp only [Bool.and_eq_true, Bool.or_eq_true, Bool.not_eq_true', decide_eq_true_eq, decide_eq_false_iff_not, List.all_eq_true] at hb'
            rcases (hb'.2 _ (PySem.mem_of_lookup n2)).2 with (z | z) | z
            · exact absurd rfl z
            · exact .inr (.inl z)
            · exact .inr (.inr z)
          have hnl : X.env.scope.names.lookup y ≠ some .local := fun z => by
            have hb' := hb
            unfold lamNB at hb'
            simp only [Bool.and_eq_true, Bool.or_eq_true, Bool.not_eq_true', decide_eq_true_eq, decide_eq_false_iff_not, List.all_eq_true] at hb'
            rcases (hb'.2 _ (PySem.mem_of_lookup n2)).2 with (z2 | z2) | z2
            · exact absurd rfl z2
            · rw [z] at z2
              cases z2
            · rw [z] at z2
              cases z2
          obtain ⟨u2, r2, q2⟩ := hl js[i] y v2 n1 hs hvis
          rcases q2 with ⟨k', _⟩ | ⟨_, c3, e3, z3⟩
          · exact absurd k' hnl
          · rw [hc'] at e3
            cases e3
            exact .inr ⟨c, u2, hc, n2, cellB hc' z3, r2⟩
end
/-! ### a def that gets a lambda -/
open Classical in
noncomputable def allId (f : LamId → Res Val) : Res Val := if ∀ i j, f i = f j then f ⟨0, 0, "", []⟩ else .stuck
def hasTab (x : Str × Option Str) (q : Str) (S : Store) : Prop := ∃ n : Nat, S[n]? = some (.tab x q)
open Classical in
noncomputable def evCallL (x : Str × Option Str) (q : Str) (js : List Nat) (g : LamId → Ev → Fn) (mb m : Ev) : Ev := fun l S => (m l S).bind fun v S1 => match caught js l with
  | some cd => if hasTab x q S1 then calmR (allId fun id => g id mb [v, .lam id cd] S1) else .stuck
  | none => .stuck
def FnL (P : Program) (w : World) (K : PySem.W.Frag) (mg : Str → Option Value) (k : Nat) (x : Str) (ps : List Str) (g : LamId → Ev → Fn) : Prop :=
  (mg x = some (.ref (He.ga K x)) ∧ PySem.W.keepIn K (.ref (He.ga K x)) = true) ∧ ∀ (base : Heap) (id : LamId) (mb : Ev), (∀ j, Lam1 P w K mg base j id.f (spLam ⟨w, K, mg⟩ id (lamM j mb))) → FnK P w K mg base k x ps (g id mb)
section
variable {X : Cx} {W : WE}
theorem gCL {k : Nat} {mk : Str × Option Str} {q x : Str} {ps : List Str} {g : LamId → Ev → Fn} {js : List Nat} (pn : Str) (ys : List Str) {mb m : Ev} {e body : Expr} {params : Arguments} {scope : Scope} {p lpos pos : Pos} (F : FnL X.prog X.w X.K X.mg k x ps g) (hr : Room k X.A) (TB : TabB X.base X.mg (He.cT X.K mk).1 (He.cT X.K mk).2)
    (ha : PD X W e m) (hcode : X.env.code = .ref (He.cT X.K mk).1)
    (hbody : ∀ (k : Nat) (f c' : Addr) (base : Heap) (cl : List (Str × Addr)) (A : Around) (outer : List Env) (s : Shared) (H : Hp), Room k (A.deeper (lEnv q scope cl s.heap.objs.size f c')) → PD (lCx X.prog X.w X.K X.mg base (pn :: ys) q scope cl f c' A outer s H (fun _ _ _ => False)) W0 body mb)
    (hq : X.env.qual ++ "<lambda>" = q := by rfl) (hps : ps.length = 2 := by rfl) (hb : lamNB X.env.scope scope pn = true := by rfl) (hfn : ∀ y, X.fn y = true := by intro _; rfl)
    (hN : (js.zip ys).all (fun p => decide (X.N[p.1]? = some p.2) && decide (scope.names.lookup p.2 = some .free)) = true := by rfl) (hjs : js.length = ys.length := by rfl)
    (hbind : ∀ (q : Str) (cl : List (Str × Addr)) (pm cv ctv u : Value), bindArgs (PySem.W.kla_fn "<lambda>" q params body scope cl pm cv ctv) ⟨[u], []⟩ = pure [(pn, u)] := by intros; rfl)
    (hdef : defaultsOf params X.env = ([], []) := by rfl) (he : nStar e = true := by rfl) (hg : Gl X x := by rfl) (hdb : (x == ("__debug__" : Str)) = false := by decide) :
    PD X W (.Call (.Name x p) [e, .Lambda params body scope lpos] [] pos) (evCallL mk q js g mb m) := by
  refine ⟨fun pins s σ H Q I h => ?_⟩
  obtain ⟨ρ, S, l, R, L, po⟩ := h
  obtain ⟨hm, F⟩ := F
  refine wpAny_Call_Name_kw (ld_glob I hg hm.1 ?_ hdb)
  refine PySem.W.callWith_K (h₀ := X.base) I.ok.mod.kin hm.2 ?_ (star_cons he) (by rfl)
  rw [star_cons he]
  show wpAny _ _ (spliced ((false, eval e X.env) :: (false, eval (.Lambda params body scope lpos) X.env) :: backTo pos (starEach [] X.env))) _ _ s
  refine Calls.spliced_cons (thn (ha.run pins s σ H _ I ⟨ρ, S, l, R, L, po.bind⟩) fun u s1 ⟨xv, H1, I1, r1, q1⟩ => ?_)
  obtain ⟨ρ1, S1, v, R1, E1, qv, _, p1⟩ := q1
  have L1 := L.mono E1.pre E1.le
  split at p1
  · rename_i cd hcd
    split at p1
    · rename_i hT
      obtain ⟨n, hn⟩ := hT
      have hlt : n < ρ1.length := by
        rw [R1.len]
        exact (List.getElem?_eq_some_iff.mp hn).1
      have hρ : ρ1[n]? = some ρ1[n] := List.getElem?_eq_getElem hlt
      obtain ⟨e1, tps, e2, e3, e4⟩ := R1.obj n _ _ hρ hn
      rw [e1] at hρ e2
      obtain ⟨cv, c1, c2, c3⟩ := caught_ok L1 hcd
      refine Calls.spliced_cons (lam_make3 I1 TB hcode hq e2 e3 (fun pos cv h => by
        obtain ⟨c', z1, z2⟩ := e4 pos cv h
        exact ⟨c', z1, frz_le _ _ z2⟩) hdef (lamN_free hb I.ok) fun f c' pm ctv H2 s2 I2 hH hf hfn' hfr hco => ?_)
      refine Calls.spliced_nil ⟨I2.kIn, ?_⟩
      obtain ⟨R2, E2, fc⟩ := R1.lam hρ hn e2 hH
      have hfree2 : ∀ y c, X.env.cells.lookup y = some c → c ∉ frs X.stack := fun y c e z => by
        rcases List.mem_cons.mp (I2.stkSub _ z) with g | g
        · obtain ⟨m, ⟨o, es, ep, e1, e2, _⟩, _⟩ := I2.loc
          obtain ⟨v, o', e3, e4⟩ := I2.cell y c e
          rw [g, e1] at e3
          cases e3
          rw [e2] at e4
          cases e4
        · have h1 := I2.ok.cab y c (hfn y) e
          obtain ⟨_, o, e1, _⟩ := I2.ok.funs.mem g
          exact Nat.lt_irrefl _ (Nat.lt_of_lt_of_le (Heap.lt_size e1) h1)
      have LL := lam_of (js := js) (ys := ys) (mb := mb) (cv := cv) I2 hb hf hfn' hfr hbind hfree2 hjs c2 (fun i j y g1 g2 => by
        rw [List.all_eq_true] at hN
        have hz : (j, y) ∈ js.zip ys := by
          refine List.mem_of_getElem? (i := i) ?_
          rw [List.getElem?_zip_eq_some]
          exact ⟨g1, g2⟩
        have z := hN _ hz
        simp only [Bool.and_eq_true, decide_eq_true_eq] at z
        exact z) c3 (fun k base cl A outer s H hr => hbody k f c' base cl A outer s H hr)
      obtain ⟨_, fd, F1, hb1, _, _⟩ := F _ ⟨f, c', q, cv⟩ mb LL
      have b := hb1 s2 [u, .ref f] I2.kIn (by rw [List.append_nil, hps]; rfl)
      rw [List.append_nil] at b
      have qv2 : RepV (ty X) ρ1 (frz ρ1 S1 H2) xv v := qv.mono E2.pre E2.le
      have ql : RepV (ty X) ρ1 (frz ρ1 S1 H2) (.ref f) (.lam ⟨f, c', q, cv⟩ cd) := ⟨rfl, fc, c1.mono E2.le⟩
      show wpAny _ _ (call (.ref (He.ga X.K x)) [u, .ref f]) _ _ _
      unfold allId at p1
      split at p1
      · rename_i hall
        rw [hall _ ⟨f, c', q, cv⟩] at p1
        refine wpAny_call (codeAny_mono (F1.run X.A X.stack s2 H2 ⟨[u, .ref f], []⟩ [u, .ref f] [xv, .ref f] Q (fun _ _ _ => False) hr (bas_env0 I2) b (.cons r1 (.cons rfl .nil)) ⟨ρ1, S1, _, R2, .cons qv2 (.cons ql .nil), hps.symm, ?_⟩) fun r s' hq => ?_)
        · have p2 : PostG (ty X) W σ (relV (ty X)) ρ1 S1 H2 (calmR (g ⟨f, c', q, cv⟩ mb [v, .lam ⟨f, c', q, cv⟩ cd] S1)) Q := PostG.start E2 p1
          revert p2
          cases g ⟨f, c', q, cv⟩ mb [v, .lam ⟨f, c', q, cv⟩ cd] S1 with
          | ok a S2 => exact fun h => h
          | exc c S2 => exact fun h => h.elim
          | stuck => exact fun h => h
        · cases r with
          | error e => exact (show False from hq).elim
          | ok fl =>
            cases fl with
            | ret u => exact I2.after hq
            | next => exact False.elim hq
            | brk => exact False.elim hq
            | cont => exact False.elim hq
      · exact p1.elim
    · exact p1.elim
  · exact p1.elim
end
/-! ### a lambda called by the name that holds it -/
open Classical in
noncomputable def evLam (i : Nat) (id : LamId) (mb m : Ev) : Ev := fun l S => match l[i]? with
  | some (some (.lam id' cd)) => if id' = id then (m l S).bind fun v S1 => calmR (mb (some v :: cd.map fun d => some (.d d)) S1) else .stuck
  | _ => .stuck
section
variable {X : Cx} {W : WE}
theorem gLam (i : Nat) {k : Nat} {id : LamId} {mb m : Ev} {x : Str} {e : Expr} {p pos : Pos} (F : ∀ j, Lam1 X.prog X.w X.K X.mg X.base j id.f (spLam (ty X) id (lamM j mb))) (hr : Room k X.A) (ha : PD X W e m) (hN : X.N[i]? = some x := by rfl) (hv : Vis X.env.scope x := by first | exact .inl rfl | exact .inr (.inl rfl) | exact .inr (.inr rfl))
    (he : nStar e = true := by rfl) (hdb : (x == ("__debug__" : Str)) = false := by decide) (hcd : (x == ("__classdict__" : Str)) = false := by decide) : PD X W (.Call (.Name x p) [e] [] pos) (evLam i id (lamM k mb) m) :=
  PE_imp (pe_lam1 (F k) hr hN hv ha hdb hcd (star_cons he)) fun σ H Q ⟨ρ, S, l, R, L, po⟩ => by
    unfold evLam at po
    split at po
    · rename_i id' cd hl
      split at po
      · rename_i hid
        subst hid
        obtain ⟨y, y1, y2, y3, y4⟩ := L.2 i _ hl
        subst y2
        refine ⟨y1, ρ, S, l, R, L, po.bind.imp fun xv H1 ⟨ρ1, S1, v, R1, E1, qv, _, p1⟩ => ?_⟩
        refine ⟨ρ1, S1, v, cd, R1, qv, ⟨rfl, E1.le _ _ y3, y4.mono E1.le⟩, ?_⟩
        revert p1
        cases lamM k mb (some v :: cd.map fun d => some (.d d)) S1 with
        | ok a S2 => exact fun h => h
        | exc c S2 => exact fun h => h.elim
        | stuck => exact fun h => h
      · exact po.elim
    · exact po.elim
end
/-- the def's code object is the one that the head knows -/
theorem code_of {K : PySem.W.Frag} {x q : Str} {p : Str × Option Str} {as : Arguments} {body : List Stmt} {scope : Scope} {dvs : List V} {kws : List (Str × V)} {fd : FuncData} (F : FunD K x q as body scope dvs kws (He.fAd K p) fd) : fd.code = .ref (He.cT K p).1 := by
  obtain ⟨oc, od, dV, kV, doc, pm, an, cdv, ct, osl, rfl, lk, hcd, _, _⟩ := F.ex
  obtain ⟨c, rfl⟩ := He.codeIn_ref hcd
  have e := He.codeOf_eq (c := c) lk rfl
  show Value.ref c = .ref (He.codeOf K p)
  rw [e]
theorem fn_ok1 {P : Program} {w : World} {K : PySem.W.Frag} {mg : Str → Option Value} {base : Heap} {x qual : Str} {p : Str × Option Str} {params : Arguments} {body : List Stmt} {scope : Scope} {kws : List (Str × V)} {fd : FuncData} {N ps : List Str} {k n : Nat} {keep : Bool} {mb : Sv}
    (F : FunD K x qual params body scope [] kws (He.fAd K p) fd) (Sc : FnScope N ps scope) (hn : ps.length = n)
    (hbody : ∀ (cdv : Value) (A : Around) (outer : List Env) (s : Shared) (H : Hp) (E : XK), cdv = .ref (He.cT K p).1 → Room k (A.deeper (PyProof.Rows.envOfC qual scope s.heap.objs.size (He.fAd K p) cdv)) → PDSs (cxOf CX0 P w K mg base N qual scope (He.fAd K p) cdv A outer s H E).nox W0 body mb) :
    FnOk P w K mg base CX0 (k + 1) (He.fAd K p) fd ps (spF ⟨w, K, mg⟩ wf0 n (fnB keep N.length mb)) := by
  have hc := code_of F
  obtain ⟨oc, od, dV, kV, doc, pm, an, cdv, ct, osl, rfl, lk, hcd, _, _⟩ := F.ex
  refine fn_of lk hcd Sc (fun vs H Q E h => ?_) fun A outer s H vs Q E hr h => ⟨_, PSs.nox (hbody cdv A outer s H E hc hr), ?_⟩
  · obtain ⟨ρ, S, as, R, q, hl, _⟩ := h
    rw [pr_len q, hl, hn]
  · obtain ⟨ρ, S, as, R, q, hl, p⟩ := h
    exact ⟨ρ, S, _, R, start_ok q, exit_reads (Wf := wf0) (E := E) R p⟩
/-- a def of the top that makes a lambda -/
theorem fnK_ofC {P : Program} {w : World} {K : PySem.W.Frag} {mg : Str → Option Value} {base : Heap} {x : Str} {st : Stmt} {fd : FuncData} {N ps : List Str} {k : Nat} {keep : Bool} {mb : Sv}
    (hm : mg x = some (.ref (He.ga K x))) (F : FunD K x x (defArgs st) (defBody st) (defScope st) [] [] (He.ga K x) fd) (Sc : FnScope N ps (defScope st)) (hb : Binds K fd ps [])
    (hbody : ∀ (cdv : Value) (A : Around) (outer : List Env) (s : Shared) (H : Hp) (E : XK), cdv = .ref (He.cT K (x, none)).1 → Room k (A.deeper (PyProof.Rows.envOfC x (defScope st) s.heap.objs.size (He.ga K x) cdv)) → PDSs (cxOf CX0 P w K mg base N x (defScope st) (He.ga K x) cdv A outer s H E).nox W0 (defBody st) mb) :
    FnK P w K mg base (k + 1) x ps (fnB keep N.length mb) := ⟨hm, fd, fn_ok1 (p := (x, none)) F Sc rfl hbody, hb, F.kp, funD_look F⟩
/-- what is owned is let go ahead of its use -/
@[simp] def evFrz (m : Ev) : Ev := fun l S => (m l S).bind fun v S1 => ofO (freezeV v S1)
theorem gFrz {X : Cx} {W : WE} {e : Expr} {m : Ev} (h : PD X W e m) : PD X W e (evFrz m) := PE_imp h fun σ H Q ⟨ρ, S, l, R, L, p⟩ => ⟨ρ, S, l, R, L, p.bind.imp fun x H1 ⟨ρ1, S1, v, R1, E1, q, _, p1⟩ => by
  cases e : freezeV v S1 with
  | none =>
    rw [e] at p1
    exact p1.elim
  | some z =>
    rw [e] at p1
    obtain ⟨R2, E2, q2⟩ := freezeV_ok (v' := z.1) (S' := z.2) R1 q e
    exact p1 ρ1 H1 x R2 E2 q2⟩
end FH
/-! dict comprehensions in the data layer -/
namespace FH
open L2 PySem PySem.Spec
/-- the dict at D gets y: z -/
def PutU (T : Ty) (D : Addr) (y z : V) (H5 : Hp) (Nx : Hp → Prop) : Prop := ∃ (F : Hp) (ρ : List Addr) (o : Obj) (kvs vvs : List V) (m : List (FH.D × Val)) (k : FH.D) (v : Val), H5 D = some (dHO D o) ∧ DObj T.w D o kvs (m.map (·.1)) vvs ∧ RepAll T F kvs (m.map (·.1)) ∧ RepVs T ρ F vvs (m.map (·.2)) ∧ Le F H5 ∧ Rep T F y k ∧ keyOk k = true ∧ RepV T ρ F z v ∧ m.length < sizeLine ∧
  ∀ o' kvs' vvs', DObj T.w D o' kvs' ((dput m k v).map (·.1)) vvs' → RepAll T F kvs' ((dput m k v).map (·.1)) → RepVs T ρ F vvs' ((dput m k v).map (·.2)) → Nx (upd H5 D (dHO D o'))
def tDcU (T : Ty) (wi : TI) (g : TG) (tt : TT) (tk tv : TE) (vs : List Nat) : TE := fun σ H Q => wi σ H fun J H1 => ∀ D, H1 D = none → (D == sysModules) = false → ∃ W : Nat → Nat → Hp → Prop, (∃ m, W 0 m (upd H1 D (dHO D { cls := .type "dict", data := .dict #[] }))) ∧ ∀ i m H, W i m H →
  (J.stop i H ∧ Q (.ref D) H) ∨ (J.go i H ∧ ∃ Nx : Hp → Prop, (∀ H', Nx H' → ∃ m', m' < m ∧ W (i + 1) m' H') ∧ ∀ x H', J.yld i H x H' → g x (L2.wipe σ vs) H' fun σ2 H2 => L2.wipe σ2 vs = L2.wipe σ vs ∧ tt σ2 H2 fun b H3 =>
    if b = true then tk σ2 H3 fun y H4 => tv σ2 H4 fun z H5 => PutU T D y z H5 Nx else Nx H3)
section
variable {X : Cx}
theorem dcu_core {pins : List (Addr × Obj)} {s : Shared} {σ : St} {H : Hp} {Q : VK} {kx vx tg iter : Expr} {ifs : List Expr} {scope : Scope} {own : List (Str × Nat)} {pos pos' : Pos} {wi : TI} {g : TG} {tt : TT} {tk tv : TE} {use : Option (Value → Sem Unit)} {Qf : Value → Shared → Prop}
    (hc : X.calm = true) (hN : X.N.Nodup) (I : Inv X pins σ H s) (hi : PI X tg iter wi) (ok : BlkOk X.N X.env.scope scope own)
    (hg : ∀ (s : Shared) (H : Hp) (C : Addr) (cl : List (Str × Addr)) (fp : List Addr), PG (X.blk s H scope (compEnvC scope cl C X.env) fp) tg g) (ht : ∀ (s : Shared) (H : Hp) (C : Addr) (cl : List (Str × Addr)) (fp : List Addr), PTs (X.blk s H scope (compEnvC scope cl C X.env) fp) ifs tt)
    (hk : ∀ (s : Shared) (H : Hp) (C : Addr) (cl : List (Str × Addr)) (fp : List Addr), PE (X.blk s H scope (compEnvC scope cl C X.env) fp) kx tk)
    (he : ∀ (s : Shared) (H : Hp) (C : Addr) (cl : List (Str × Addr)) (fp : List Addr), PE (X.blk s H scope (compEnvC scope cl C X.env) fp) vx tv) (hs : ∀ x, foldedSetIterable iter X.env x = pure x)
    (hu : X.A.units + 100 < cLine) (h : tDcU (ty X) wi g tt tk tv (own.map (·.2)) σ H Q)
    (hRR : ∀ D C s' m H', Inv X pins σ H' s' → Q (.ref D) H' → s'.heap.Ns C m → FpOk X pins H' C → compPost (model X.prog X.w) X.A X.xe use Qf (.ref D) C (.ok .next) s') :
    wpAny (model X.prog X.w) X.A (comprehension (.DictComp kx vx [⟨tg, iter, ifs, 0⟩] scope pos) scope X.env pos' newDict false (eval iter X.env) use) Qf X.xe s := by
  have hfree : ∀ y ∈ scope.names, y.2 = .free → ∃ c, X.env.cells.lookup y.1 = some c := fun y hy e => by
    rcases ok.free y hy e with k | k
    · exact I.ok.has _ (.inl k)
    · exact I.ok.has _ (.inr k)
  refine wpAny_comprehension_free (use := use) rfl hs (closure_ok hfree) ok.kind (fun y hy e => by rw [ok.uniq y hy, e])
    (thn (hi.run pins s σ H _ I h) fun xv s1 hx => thn hx fun itv s2 h2 => ?_)
  obtain ⟨it, fp, tn, J, H2, e, I2, T, st2, f2, q⟩ := h2
  subst e
  refine wpAny_newObj_type (newEnv_comp ?_)
  generalize hD : s2.heap.objs.size = D
  have hDn : H2 D = none := I2.hok.fresh (Nat.le_of_eq hD)
  have hsm : (D == sysModules) = false := by
    rw [← hD]
    exact fresh_dict I2
  obtain ⟨W, ⟨m0, w0⟩, turn⟩ := q D hDn hsm
  -- the new list
  generalize hs3 : ({ s2 with heap := s2.heap.push { cls := .type "dict", data := .dict #[] } } : Shared) = s3
  have I3 : Inv X pins σ (upd H2 D (dHO D { cls := .type "dict", data := .dict #[] })) s3 := by
    rw [← hs3]
    refine I2.laid (t' := s2.toks) (fun b o e => Heap.get?_push_of_some _ e) (Nat.le_of_eq hD) ?_
    rw [← hD]
    exact ⟨Heap.get?_push_size _ rfl, ⟨_, Heap.get?_push_size _ rfl⟩, fun h1 h2 e k => k _ e⟩
  have h3 : s3.heap = s2.heap.push { cls := .type "dict", data := .dict #[] } := by rw [← hs3]
  have sz : ∀ b ∈ fp, b < s2.heap.objs.size := fun b hb => by
    obtain ⟨o, e, _⟩ := T.obj _ _ st2 b hb
    exact Heap.lt_size e
  have f3 : ∀ b ∈ fp, FpOk X pins (upd H2 D (dHO D { cls := .type "dict", data := .dict #[] })) b ∧ b < s3.heap.objs.size := fun b hb => by
    have hlt := sz b hb
    refine ⟨⟨?_, (f2 b hb).2⟩, by rw [h3, Heap.size_push]; exact Nat.lt_succ_of_lt hlt⟩
    rw [upd_ne (by rw [← hD]; exact Nat.ne_of_lt hlt)]
    exact (f2 b hb).1
  have st3 : tn 0 s3.heap := T.keep _ _ _ st2 fun b _ o e => by rw [h3]; exact Heap.get?_push_of_some _ e
  have I4 := block_start I3 ok hN f3
  have pg := hg s3 (upd H2 D (dHO D { cls := .type "dict", data := .dict #[] })) s3.heap.objs.size (cellsFrom (s3.heap.objs.size + 1) scope.names (cloFrom X.env.cells scope.names [])) fp
  have pt := ht s3 (upd H2 D (dHO D { cls := .type "dict", data := .dict #[] })) s3.heap.objs.size (cellsFrom (s3.heap.objs.size + 1) scope.names (cloFrom X.env.cells scope.names [])) fp
  have pk := hk s3 (upd H2 D (dHO D { cls := .type "dict", data := .dict #[] })) s3.heap.objs.size (cellsFrom (s3.heap.objs.size + 1) scope.names (cloFrom X.env.cells scope.names [])) fp
  have pe := he s3 (upd H2 D (dHO D { cls := .type "dict", data := .dict #[] })) s3.heap.objs.size (cellsFrom (s3.heap.objs.size + 1) scope.names (cloFrom X.env.cells scope.names [])) fp
  show codeAny _ _ (.compStart (.DictComp kx vx [⟨tg, iter, ifs, 0⟩] scope pos) 0 (.ref it) (.ref D) (compEnvC scope (cellsFrom (s3.heap.objs.size + 1) scope.names (cloFrom X.env.cells scope.names [])) s3.heap.objs.size X.env)) (compPost (model X.prog X.w) X.A X.xe use Qf (.ref D) s3.heap.objs.size) { s3 with heap := pushCells (s3.heap.push { cls := .type "dict", data := .dict #[] }) scope.names }
  have nfp : ∀ b ∈ fp, (upd H2 D (dHO D { cls := .type "dict", data := .dict #[] })) b = none := fun b hb => (f3 b hb).1.1
  generalize hce : compEnvC scope (cellsFrom (s3.heap.objs.size + 1) scope.names (cloFrom X.env.cells scope.names [])) s3.heap.objs.size X.env = ce at I4 pg pt pk pe ⊢
  have cL : ce.locals = s3.heap.objs.size := by subst hce; rfl
  generalize hH3 : upd H2 D (dHO D { cls := .type "dict", data := .dict #[] }) = H3 at I3 I4 pg pt pk pe w0 nfp f3
  generalize hs4 : ({ s3 with heap := pushCells (s3.heap.push { cls := .type "dict", data := .dict #[] }) scope.names } : Shared) = s4 at I4 ⊢
  have st4 : tn 0 s4.heap := T.keep _ _ _ st3 fun b _ o e => by rw [← hs4]; exact pushCells_keeps _ _ _ _ (Heap.get?_push_of_some _ e)
  have stat : ∀ {σ' : St} {H' : Hp} {s' : Shared}, Inv (X.blk s3 H3 scope ce fp) [] σ' H' s' → (∀ b ∈ fp, H' b = none) → ∀ b ∈ fp, FpOk (X.blk s3 H3 scope ce fp) [] H' b := fun {σ' H' s'} I' hn b hb =>
    ⟨hn b hb, (I'.ok.exf b hb).1, I'.ok.exfs b hb, .inl hb, fun x c e => (I'.ok.exf b hb).2 x c e, fun p hp => absurd (show p ∈ ([] : List (Addr × Obj)) ++ [] from hp) (by simp)⟩
  have loop : codeAny (model X.prog X.w) X.A (.compLoop (.DictComp kx vx [⟨tg, iter, ifs, 0⟩] scope pos) 0 (.ref it) (.ref D) ce) (compPost (model X.prog X.w) X.A X.xe use Qf (.ref D) s3.heap.objs.size) s4 := by
    refine compLoop_anyD (fun n s' => ∃ i H', Inv (X.blk s3 H3 scope ce fp) [] (wipe σ (own.map (·.2))) H' s' ∧ tn i s'.heap ∧ (∀ b ∈ fp, H' b = none) ∧ W i n H') ?_ m0 ⟨0, H3, I4, st4, nfp, w0⟩
    rintro n s5 ⟨i, H5, I5, st5, n5, w5⟩
    rcases turn i n H5 w5 with ⟨stop, qq⟩ | ⟨go, Nx, hNx, step⟩
    · have td := T.done (X.blk s3 H3 scope ce fp) rfl rfl rfl hc i [] s5 _ H5 (fun _ _ => False) I5 (stat I5 n5) st5 stop
      refine thnF td fun r s6 ⟨hr, I6⟩ => ?_
      subst hr
      -- back in the def's context
      have I7 : Inv X pins σ H5 s6 := I3.call' (ch := fp) I6.os I6.base I6.hok I6.bare fun b hb => ⟨(f3 b hb).1.2.2.2.1, (f3 b hb).1.2.1, (f3 b hb).1.2.2.2.2.1, (f3 b hb).1.2.2.2.2.2⟩
      have nC : H5 s3.heap.objs.size = none := by
        have z : H5 ce.locals = none := I6.free
        rw [cL] at z
        exact z
      obtain ⟨m, hn, _⟩ := I6.loc
      have hn : s6.heap.Ns ce.locals m := hn
      rw [cL] at hn
      exact hRR D s3.heap.objs.size s6 m H5 I7 qq hn (I3.fpOk (Nat.le_refl _) nC)
    · have ti := T.item (X.blk s3 H3 scope ce fp) rfl rfl rfl hc i [] s5 _ H5 (fun _ _ => False) I5 (stat I5 n5) st5 go
      refine thnF ti fun r s6 ⟨u, hr, h6⟩ => ?_
      subst hr
      refine thnF h6 fun _ s7 ⟨x, H7, I7, r7, y7, st7, n7⟩ => ?_
      have I7' := I7.pinned (stat I7 n7) (T.obj _ _ st7)
      refine thnF (pg.run _ s7 _ H7 x u _ I7' r7 (step x H7 y7)) fun _ s8 ⟨σ8, H8, I8, hw8, q8⟩ => ?_
      refine thnF (pt.run _ s8 σ8 H8 _ I8 q8) fun b s9 ⟨H9, I9, q9⟩ => ?_
      -- the turn's end
      have fin : ∀ {s' : Shared} {H' : Hp}, Inv (X.blk s3 H3 scope ce fp) ([] ++ pinsAt fp s7.heap) σ8 H' s' → Nx H' → ∃ m, m < n ∧ ∃ i H', Inv (X.blk s3 H3 scope ce fp) [] (wipe σ (own.map (·.2))) H' s' ∧ tn i s'.heap ∧ (∀ b ∈ fp, H' b = none) ∧ W i m H' := fun {s' H'} I' nx => by
        obtain ⟨m', hm, w'⟩ := hNx H' nx
        have pin' : ∀ b ∈ fp, ∀ o, s7.heap.get? b = some o → s'.heap.get? b = some o ∧ H' b = none := fun b hb o e =>
          let z := I'.pin (b, o) (List.mem_append_right _ (List.mem_append_right _ (mem_pinsAt hb e)))
          ⟨z.1, z.2.1⟩
        have hl : (wipe σ (own.map (·.2))).length = σ8.length := by rw [← hw8, wipe_length]
        refine ⟨m', hm, i + 1, H', (I'.unpinned (pins := [])).weak hl (fun j v e => ?_), T.keep _ _ _ st7 fun b hb o e => (pin' b hb o e).1, fun b hb => ?_, w'⟩
        · rw [← hw8] at e
          exact (wipe_some e).1
        · obtain ⟨o, e, _⟩ := T.obj _ _ st7 b hb
          exact (pin' b hb o e).2
      cases b with
      | false =>
        simp only [Bool.false_eq_true, if_false] at q9 ⊢
        exact fin I9 q9
      | true =>
        simp only [if_true] at q9 ⊢
        refine thnF (pk.run _ s9 σ8 H9 _ I9 q9) fun z s10 ⟨yk, H10, I10, r10, q10⟩ => ?_
        refine thnF (pe.run _ s10 σ8 H10 _ I10 q10) fun z2 s11 ⟨yv, H11, I11, r11, F, ρ, o, kvs, vvs, m, k, v, hD11, dj, ra, rb, le, qk, hk, qv, hz11, nx⟩ => ?_
        refine wpAny_mono (dput_H (X := X.blk s3 H3 scope ce fp) (ρ := ρ) (F := F) (f := fun x y => dictSet D x y) (Nat.lt_of_le_of_lt (Nat.add_le_add_left (by decide) _) hu) I11 hD11 dj ra rb le r10 qk hk r11 qv hz11
          (fun {nk es ep nks} h1 h2 h3 h4 h5 h6 => uset (Nat.lt_of_le_of_lt (Nat.add_le_add_left (by decide) _) hu) h1 h2 h3 h4 h5 h6) fun o' kvs' vvs' s' I' d' k' r' => fin I' (nx o' kvs' vvs' d' k' r')) (fun _ _ h => h) fun _ _ h => h.elim
  exact codeAny_compStart_dict loop (T.self X.A 0 _ _ _ st4 loop)
theorem pe_dcu {kx vx tg iter : Expr} {ifs : List Expr} {scope : Scope} {own : List (Str × Nat)} {pos : Pos} {wi : TI} {g : TG} {tt : TT} {tk tv : TE} (hu : X.A.units + 100 < cLine) (hc : X.calm = true) (hN : X.N.Nodup) (hi : PI X tg iter wi) (ok : BlkOk X.N X.env.scope scope own)
    (hg : ∀ (s : Shared) (H : Hp) (C : Addr) (cl : List (Str × Addr)) (fp : List Addr), PG (X.blk s H scope (compEnvC scope cl C X.env) fp) tg g) (ht : ∀ (s : Shared) (H : Hp) (C : Addr) (cl : List (Str × Addr)) (fp : List Addr), PTs (X.blk s H scope (compEnvC scope cl C X.env) fp) ifs tt)
    (hk : ∀ (s : Shared) (H : Hp) (C : Addr) (cl : List (Str × Addr)) (fp : List Addr), PE (X.blk s H scope (compEnvC scope cl C X.env) fp) kx tk)
    (he : ∀ (s : Shared) (H : Hp) (C : Addr) (cl : List (Str × Addr)) (fp : List Addr), PE (X.blk s H scope (compEnvC scope cl C X.env) fp) vx tv) (hs : ∀ x, foldedSetIterable iter X.env x = pure x) :
    PE X (.DictComp kx vx [⟨tg, iter, ifs, 0⟩] scope pos) (tDcU (ty X) wi g tt tk tv (own.map (·.2))) := by
  refine ⟨fun pins s σ H Q I h => ?_⟩
  rw [arm_eval_DictComp]
  refine dcu_core hc hN I hi ok hg ht hk he hs hu h fun D C s' m H' I' q hn f => ⟨m, hn, fun h'' sb => ?_⟩
  obtain ⟨f0, f1, f2, f3, f4, f5⟩ := f
  exact ⟨.ref D, H', I'.turned (t' := s'.toks) (fun b o hb e => (sb.2 b hb).trans e) f0 f1 f3 f4 f5, rfl, q⟩
end
end FH
/-! dict comprehensions and comprehensions of two walks, in the data layer -/
namespace FH
open L2 PySem PySem.Spec
noncomputable def dcTurn (n : Nat) (t : Tg) (vs : List Nat) (c : Tv) (k e : Ev) (l : Loc) (v : Val) (S : Store) : Res Unit := match t.2 v (wipeL l vs) with
  | some l' => (c l' S).bind fun b S1 => if b = true then (k l' S1).bind fun y S2 => (e l' S2).bind fun z S3 => match S3[n]?, y with
      | some (.dic m), .d kk => if keyOk kk = true ∧ m.length < sizeLine then .ok () (S3.set n (.dic (dput m kk z))) else .stuck
      | _, _ => .stuck
    else .ok () S1
  | none => .stuck
noncomputable def evDC (own : Bool) (it : Loc → Store → Res Walked) (t : Tg) (vs : List Nat) (c : Tv) (k e : Ev) : Ev := fun l S => (it l S).bind fun w S1 =>
  (calmR (goAll (dcTurn S1.length t vs c k e l) w.1 (lockS w.2 S1 ++ [.dic []]))).bind fun _ S2 => unlR w.2 S1 (fin own (lockS w.2 S1) S2)
def lc2Turn (n : Nat) (t : Tg) (vs : List Nat) (c : Tv) (it1 : Loc → Store → Res Walked) (t1 : Tg) (vs1 : List Nat) (c1 : Tv) (e : Ev) (l : Loc) (v : Val) (S : Store) : Res Unit := match t.2 v (wipeL l vs) with
  | some l' => (c l' S).bind fun b S1 => if b = true then (it1 l' S1).bind fun w S2 => (goAll (lcTurn n t1 vs1 c1 e l') w.1 (lockS w.2 S2)).bind fun _ S3 => .ok () (unlockS w.2 S2 S3) else .ok () S1
  | none => .stuck
noncomputable def evLC2 (own : Bool) (it : Loc → Store → Res Walked) (t : Tg) (vs : List Nat) (c : Tv) (it1 : Loc → Store → Res Walked) (t1 : Tg) (vs1 : List Nat) (c1 : Tv) (e : Ev) : Ev := fun l S => (it l S).bind fun w S1 =>
  (calmR (goAll (lc2Turn S1.length t vs c it1 t1 vs1 c1 e l) w.1 (lockS w.2 S1 ++ [.lst []]))).bind fun _ S2 => unlR w.2 S1 (fin own (lockS w.2 S1) S2)
section
variable {X : Cx} {W : WE}
theorem dc_reads {tg : Expr} {own : Bool} {it : Loc → Store → Res Walked} {t : Tg} {vs : List Nat} {c : Tv} {k e : Ev} {T : Ty} (hsub : ∀ i ∈ t.1, i ∈ vs) {σ : St} {H : Hp} {Q : VK} (h : tD T W (evDC own it t vs c k e) σ H Q) :
    tDcU T (iD T W it) (gD T t) (tDT T W0 c) (tD T W0 k) (tD T W0 e) vs σ H Q := by
  obtain ⟨ρ, S, l, R0, L, p⟩ := h
  refine ⟨ρ, S, l, R0, L, ?_⟩
  unfold evDC at p
  cases e0 : it l S with
  | exc cc S1 =>
    rw [e0] at p
    exact p
  | stuck =>
    rw [e0] at p
    exact p
  | ok w S1 =>
    rw [e0] at p
    dsimp only [Res.bind] at p
    refine fun ρ1 H1 J Rl R1 E1 wk D hD hsm => ?_
    cases e1 : goAll (dcTurn S1.length t vs c k e l) w.1 (lockS w.2 S1 ++ [.dic []]) with
    | exc cc S2 =>
      rw [e1] at p
      exact p.elim
    | stuck =>
      rw [e1] at p
      exact p.elim
    | ok u S2 =>
      rw [e1] at p
      dsimp only [calmR] at p
      have L1 : LocOk T ρ1 (frz ρ1 (lockS w.2 S1) H1) l σ := by
        rw [(lock_ok w.2 R1).2]
        exact L.mono E1.pre E1.le
      obtain ⟨RD, ED⟩ := Rl.new (o := dHO D { cls := .type "dict", data := .dict #[] }) (ob := .dic []) hD rfl ⟨_, [], [], rfl, dObj_empty hsm, .nil, .nil⟩
      have hn : (lockS w.2 S1).length = S1.length := lockS_len _ _
      refine ⟨fun i m H => m = w.1.length - i ∧ i ≤ w.1.length ∧ ∃ ρi Si, Rel T ρi Si H ∧ Ext ρ1 (lockS w.2 S1) H1 ρi Si H ∧ ρi[S1.length]? = some D ∧ goAll (dcTurn S1.length t vs c k e l) (w.1.drop i) Si = .ok u S2,
        ⟨_, rfl, Nat.zero_le _, _, _, RD, ED, by rw [← hn, ← Rl.len]; simp, e1⟩, ?_⟩
      rintro i m Hi ⟨rfl, hi, ρi, Si, Ri, Ei, hDi, hgo⟩
      by_cases hlt : i < w.1.length
      · refine .inr ⟨wk.go ρi Si Hi Ri Ei i hlt, fun H' => ∃ ρj Sj, Rel T ρj Sj H' ∧ Ext ρ1 (lockS w.2 S1) H1 ρj Sj H' ∧ ρj[S1.length]? = some D ∧ goAll (dcTurn S1.length t vs c k e l) (w.1.drop (i + 1)) Sj = .ok u S2, ?_, fun x H' hy => ?_⟩
        · rintro H' ⟨ρj, Sj, hh⟩
          exact ⟨w.1.length - (i + 1), by omega, rfl, hlt, ρj, Sj, hh⟩
        · obtain ⟨ρ', R', E', q'⟩ := wk.yld ρi Si Hi Ri Ei i w.1[i] (List.getElem?_eq_getElem hlt) x H' hy
          rw [List.drop_eq_getElem_cons hlt, goAll] at hgo
          obtain ⟨_, Sa, ha, hrest⟩ := bind_ok hgo
          unfold dcTurn at ha
          cases ht : t.2 w.1[i] (wipeL l vs) with
          | none =>
            rw [ht] at ha
            cases ha
          | some l' =>
            rw [ht] at ha
            obtain ⟨b, Sb, hb, hb2⟩ := bind_ok ha
            have Ei' := Ei.trans E'
            have Lw : LocOk T ρ' (frz ρ' Si H') (wipeL l vs) (L2.wipe σ vs) := (L1.mono Ei'.pre Ei'.le).wipe vs
            refine ⟨ρ', Si, w.1[i], wipeL l vs, R', q', Lw, ?_⟩
            rw [ht]
            refine fun σ2 L2 A2 => ⟨A2.wipe hsub, ρ', Si, l', R', L2, ?_⟩
            rw [hb]
            refine fun ρb Hb bb Rb Eb qb => ?_
            cases qb
            have Db : ρb[S1.length]? = some D := pre_get (E'.pre.trans Eb.pre) hDi
            cases b with
            | false =>
              rw [if_neg (by decide)] at hb2 ⊢
              cases hb2
              exact ⟨ρb, _, Rb, Ei'.trans Eb, Db, hrest⟩
            | true =>
              rw [if_pos rfl] at hb2 ⊢
              obtain ⟨y, Sc, hc, hc2⟩ := bind_ok hb2
              refine ⟨ρb, Sb, l', Rb, L2.mono Eb.pre Eb.le, ?_⟩
              rw [hc]
              refine fun ρc Hc yv Rc Ec qc => ?_
              obtain ⟨z, Sd, hd, hd2⟩ := bind_ok hc2
              refine ⟨ρc, Sc, l', Rc, L2.mono (Eb.trans Ec).pre (Eb.trans Ec).le, ?_⟩
              rw [hd]
              refine fun ρd Hd zv Rd Ed qd => ?_
              have Dd : ρd[S1.length]? = some D := pre_get (Ec.pre.trans Ed.pre) Db
              split at hd2
              · rename_i mm kk hg
                split at hd2
                · rename_i hz
                  cases hd2
                  obtain ⟨ob, kvs, vvs, g1, g2, g3, g4⟩ := Rd.obj _ _ _ Dd hg
                  refine ⟨frz ρd Sd Hd, ρd, ob, kvs, vvs, mm, kk, z, g1, g2, g3, g4, frz_le, RepV.mono Ed.pre Ed.le qc, hz.1, qd, hz.2, fun o' kvs' vvs' d' k' r' => ?_⟩
                  obtain ⟨Re, Ee⟩ := put_dic Rd Dd hg d' k' r'
                  exact ⟨ρd, _, Re, (((Ei'.trans Eb).trans Ec).trans Ed).trans Ee, Dd, hrest⟩
                · cases hd2
              · cases hd2
      · have ei : i = w.1.length := by omega
        refine .inl ⟨wk.stop ρi Si Hi Ri Ei i (by omega), ?_⟩
        rw [ei, List.drop_length, goAll] at hgo
        cases hgo
        exact fin_unl R1 Rl E1 Ri Ei (by rw [hn]; exact hDi) p
theorem gDC {own : Bool} {kx vx tg iter : Expr} {ifs : List Expr} {scope : Scope} (ow : List (Str × Nat)) {vs : List Nat} {pos : Pos} {it : Loc → Store → Res Walked} {t : Tg} {c : Tv} {k e : Ev} (hu : X.A.units + 100 < cLine) (hN : X.N.Nodup) (hi : PI X tg iter (iD (ty X) W it))
    (hg : ∀ (s : Shared) (H : Hp) (C : Addr) (cl : List (Str × Addr)) (fp : List Addr), PG (X.blk s H scope (compEnvC scope cl C X.env) fp) tg (gD (ty X) t)) (ht : ∀ (s : Shared) (H : Hp) (C : Addr) (cl : List (Str × Addr)) (fp : List Addr), PTs (X.blk s H scope (compEnvC scope cl C X.env) fp) ifs (tDT (ty X) W0 c))
    (hk : ∀ (s : Shared) (H : Hp) (C : Addr) (cl : List (Str × Addr)) (fp : List Addr), PE (X.blk s H scope (compEnvC scope cl C X.env) fp) kx (tD (ty X) W0 k))
    (he : ∀ (s : Shared) (H : Hp) (C : Addr) (cl : List (Str × Addr)) (fp : List Addr), PE (X.blk s H scope (compEnvC scope cl C X.env) fp) vx (tD (ty X) W0 e)) (ok : blkC X.N X.env.scope scope ow = true := by rfl) (hvs : ow.map (·.2) = vs := by rfl) (hc : X.calm = true := by rfl) (hsub : ∀ i ∈ t.1, i ∈ vs := by decide) (hs : ∀ x, foldedSetIterable iter X.env x = pure x := by intro _; rfl) :
    PD X W (.DictComp kx vx [⟨tg, iter, ifs, 0⟩] scope pos) (evDC own it t vs c k e) := by
  subst hvs
  exact PE_imp (pe_dcu hu hc hN hi (blkOk_by ok) hg ht hk he hs) fun σ H Q q => dc_reads (tg := tg) hsub q
theorem lc2_reads {tg : Expr} {own : Bool} {it it1 : Loc → Store → Res Walked} {t t1 : Tg} {vs vs1 : List Nat} {c c1 : Tv} {e : Ev} {T : Ty} (hsub : ∀ i ∈ t.1, i ∈ vs) (hsub1 : ∀ i ∈ t1.1, i ∈ vs1) {σ : St} {H : Hp} {Q : VK} (h : tD T W (evLC2 own it t vs c it1 t1 vs1 c1 e) σ H Q) :
    tLc2 (iD T W it) (gD T t) (tDT T W0 c) (iD T W0 it1) (gD T t1) (tDT T W0 c1) (tD T W0 e) vs vs1 σ H Q := by
  obtain ⟨ρ, S, l, R0, L, p⟩ := h
  refine ⟨ρ, S, l, R0, L, ?_⟩
  unfold evLC2 at p
  cases e0 : it l S with
  | exc cc S1 =>
    rw [e0] at p
    exact p
  | stuck =>
    rw [e0] at p
    exact p
  | ok w S1 =>
    rw [e0] at p
    dsimp only [Res.bind] at p
    refine fun ρ1 H1 J Rl R1 E1 wk D hD => ?_
    cases e1 : goAll (lc2Turn S1.length t vs c it1 t1 vs1 c1 e l) w.1 (lockS w.2 S1 ++ [.lst []]) with
    | exc cc S2 =>
      rw [e1] at p
      exact p.elim
    | stuck =>
      rw [e1] at p
      exact p.elim
    | ok u S2 =>
      rw [e1] at p
      dsimp only [calmR] at p
      have L1 : LocOk T ρ1 (frz ρ1 (lockS w.2 S1) H1) l σ := by
        rw [(lock_ok w.2 R1).2]
        exact L.mono E1.pre E1.le
      obtain ⟨RD, ED⟩ := Rl.new (o := .lst []) (ob := .lst []) hD rfl ⟨[], rfl, .nil⟩
      have hn : (lockS w.2 S1).length = S1.length := lockS_len _ _
      refine ⟨fun i m H => m = w.1.length - i ∧ i ≤ w.1.length ∧ ∃ ρi Si, Rel T ρi Si H ∧ Ext ρ1 (lockS w.2 S1) H1 ρi Si H ∧ ρi[S1.length]? = some D ∧ goAll (lc2Turn S1.length t vs c it1 t1 vs1 c1 e l) (w.1.drop i) Si = .ok u S2,
        ⟨_, rfl, Nat.zero_le _, _, _, RD, ED, by rw [← hn, ← Rl.len]; simp, e1⟩, ?_⟩
      rintro i m Hi ⟨rfl, hi, ρi, Si, Ri, Ei, hDi, hgo⟩
      by_cases hlt : i < w.1.length
      · refine .inr ⟨wk.go ρi Si Hi Ri Ei i hlt, fun H' => ∃ ρj Sj, Rel T ρj Sj H' ∧ Ext ρ1 (lockS w.2 S1) H1 ρj Sj H' ∧ ρj[S1.length]? = some D ∧ goAll (lc2Turn S1.length t vs c it1 t1 vs1 c1 e l) (w.1.drop (i + 1)) Sj = .ok u S2, ?_, fun x H' hy => ?_⟩
        · rintro H' ⟨ρj, Sj, hh⟩
          exact ⟨w.1.length - (i + 1), by omega, rfl, hlt, ρj, Sj, hh⟩
        · obtain ⟨ρ', R', E', q'⟩ := wk.yld ρi Si Hi Ri Ei i w.1[i] (List.getElem?_eq_getElem hlt) x H' hy
          rw [List.drop_eq_getElem_cons hlt, goAll] at hgo
          obtain ⟨_, Sa, ha, hrest⟩ := bind_ok hgo
          unfold lc2Turn at ha
          cases ht : t.2 w.1[i] (wipeL l vs) with
          | none =>
            rw [ht] at ha
            cases ha
          | some l' =>
            rw [ht] at ha
            obtain ⟨b, Sb, hb, hb2⟩ := bind_ok ha
            have Ei' := Ei.trans E'
            have Lw : LocOk T ρ' (frz ρ' Si H') (wipeL l vs) (L2.wipe σ vs) := (L1.mono Ei'.pre Ei'.le).wipe vs
            refine ⟨ρ', Si, w.1[i], wipeL l vs, R', q', Lw, ?_⟩
            rw [ht]
            refine fun σ2 L2 A2 => ⟨A2.wipe hsub, ρ', Si, l', R', L2, ?_⟩
            rw [hb]
            refine fun ρb Hb bb Rb Eb qb => ?_
            cases qb
            have Db : ρb[S1.length]? = some D := pre_get (E'.pre.trans Eb.pre) hDi
            cases b with
            | false =>
              rw [if_neg (by decide)] at hb2 ⊢
              cases hb2
              exact ⟨ρb, _, Rb, Ei'.trans Eb, Db, hrest⟩
            | true =>
              rw [if_pos rfl] at hb2 ⊢
              have Lb := L2.mono Eb.pre Eb.le
              obtain ⟨w2, S3, hc, hc2⟩ := bind_ok hb2
              obtain ⟨u3, S4, hd, hd2⟩ := bind_ok hc2
              cases hd2
              refine ⟨ρb, Sb, l', Rb, Lb, ?_⟩
              rw [hc]
              refine fun ρc Hc J1 Rcl Rc Ec wk1 => ?_
              have Lc : LocOk T ρc (frz ρc (lockS w2.2 S3) Hc) l' σ2 := by
                rw [(lock_ok w2.2 Rc).2]
                exact Lb.mono Ec.pre Ec.le
              have Ebc := (Ei'.trans Eb).trans Ec
              have Dc : ρc[S1.length]? = some D := pre_get Ec.pre Db
              refine ⟨fun j m H => m = w2.1.length - j ∧ j ≤ w2.1.length ∧ ∃ ρj Sj, Rel T ρj Sj H ∧ Ext ρc (lockS w2.2 S3) Hc ρj Sj H ∧ goAll (lcTurn S1.length t1 vs1 c1 e l') (w2.1.drop j) Sj = .ok u3 S4,
                ⟨_, rfl, Nat.zero_le _, _, _, Rcl, Ext.refl, hd⟩, ?_⟩
              rintro j m Hj ⟨rfl, hj, ρj, Sj, Rj, Ej, hgj⟩
              have Dj : ρj[S1.length]? = some D := pre_get Ej.pre Dc
              by_cases hlj : j < w2.1.length
              · refine .inr ⟨wk1.go ρj Sj Hj Rj Ej j hlj, fun H' => ∃ ρk Sk, Rel T ρk Sk H' ∧ Ext ρc (lockS w2.2 S3) Hc ρk Sk H' ∧ goAll (lcTurn S1.length t1 vs1 c1 e l') (w2.1.drop (j + 1)) Sk = .ok u3 S4, ?_, fun x1 H1' hy1 => ?_⟩
                · rintro H' ⟨ρk, Sk, hh⟩
                  exact ⟨w2.1.length - (j + 1), by omega, rfl, hlj, ρk, Sk, hh⟩
                · obtain ⟨ρ2, R2, E2, q2⟩ := wk1.yld ρj Sj Hj Rj Ej j w2.1[j] (List.getElem?_eq_getElem hlj) x1 H1' hy1
                  rw [List.drop_eq_getElem_cons hlj, goAll] at hgj
                  obtain ⟨_, Sm, hm, hrest1⟩ := bind_ok hgj
                  unfold lcTurn at hm
                  cases ht1 : t1.2 w2.1[j] (wipeL l' vs1) with
                  | none =>
                    rw [ht1] at hm
                    cases hm
                  | some l3 =>
                    rw [ht1] at hm
                    obtain ⟨b1, Sn, hn1, hn2⟩ := bind_ok hm
                    have Ej' := Ej.trans E2
                    have Lw1 : LocOk T ρ2 (frz ρ2 Sj H1') (wipeL l' vs1) (_root_.L2.wipe σ2 vs1) := (Lc.mono Ej'.pre Ej'.le).wipe vs1
                    refine ⟨ρ2, Sj, w2.1[j], wipeL l' vs1, R2, q2, Lw1, ?_⟩
                    rw [ht1]
                    refine fun σ3 L3 A3 => ⟨A3.wipe hsub1, ρ2, Sj, l3, R2, L3, ?_⟩
                    rw [hn1]
                    refine fun ρn Hn bn Rn En qn => ?_
                    cases qn
                    cases b1 with
                    | false =>
                      rw [if_neg (by decide)] at hn2 ⊢
                      cases hn2
                      exact ⟨ρn, _, Rn, Ej'.trans En, hrest1⟩
                    | true =>
                      rw [if_pos rfl] at hn2 ⊢
                      obtain ⟨y, So, ho, ho2⟩ := bind_ok hn2
                      refine ⟨ρn, Sn, l3, Rn, L3.mono En.pre En.le, ?_⟩
                      rw [ho]
                      refine fun ρo Ho yv Ro Eo qo => ?_
                      have Do : ρo[S1.length]? = some D := pre_get ((E2.pre.trans En.pre).trans Eo.pre) Dj
                      cases hg : So[S1.length]? with
                      | none =>
                        rw [hg] at ho2
                        cases ho2
                      | some ob =>
                        rw [hg] at ho2
                        cases ob with
                        | lst acc =>
                          dsimp only at ho2
                          split at ho2
                          · rename_i hz
                            cases ho2
                            obtain ⟨ws, g1, g2⟩ := Ro.obj _ _ _ Do hg
                            obtain ⟨Rp, Ep⟩ := Ro.put (o := .lst (ws ++ [yv])) Do hg rfl (ob' := .lst (acc ++ [y])) rfl (fun _ => by simp) ⟨_, rfl, pr_app g2 (.cons qo .nil)⟩
                            exact ⟨ws, g1, by rw [pr_len g2]; exact hz, ρo, _, Rp, ((Ej'.trans En).trans Eo).trans Ep, hrest1⟩
                          · cases ho2
                        | _ => cases ho2
              · have ej : j = w2.1.length := by omega
                rw [ej, List.drop_length, goAll] at hgj
                cases hgj
                obtain ⟨Ru, Eu, fu⟩ := unlock_ok w2.2 Rc Rj Ej
                exact .inl ⟨wk1.stop ρj _ Hj Rj Ej j (by omega), ρj, _, Ru, Ebc.trans Eu, Dj, hrest⟩
      · have ei : i = w.1.length := by omega
        refine .inl ⟨wk.stop ρi Si Hi Ri Ei i (by omega), ?_⟩
        rw [ei, List.drop_length, goAll] at hgo
        cases hgo
        exact fin_unl R1 Rl E1 Ri Ei (by rw [hn]; exact hDi) p
theorem gLC2 {own : Bool} {elt tg iter tg1 iter1 : Expr} {ifs ifs1 : List Expr} {scope : Scope} (ow : List (Str × Nat)) {vs vs1 : List Nat} {pos : Pos} {it it1 : Loc → Store → Res Walked} {t t1 : Tg} {c c1 : Tv} {e : Ev} (hN : X.N.Nodup) (hi : PI X tg iter (iD (ty X) W it))
    (hg : ∀ (s : Shared) (H : Hp) (C : Addr) (cl : List (Str × Addr)) (fp : List Addr), PG (X.blk s H scope (compEnvC scope cl C X.env) fp) tg (gD (ty X) t)) (ht : ∀ (s : Shared) (H : Hp) (C : Addr) (cl : List (Str × Addr)) (fp : List Addr), PTs (X.blk s H scope (compEnvC scope cl C X.env) fp) ifs (tDT (ty X) W0 c))
    (hi1 : ∀ (s : Shared) (H : Hp) (C : Addr) (cl : List (Str × Addr)) (fp : List Addr), PI (X.blk s H scope (compEnvC scope cl C X.env) fp) tg1 iter1 (iD (ty X) W0 it1))
    (hg1 : ∀ (s : Shared) (H : Hp) (C : Addr) (cl : List (Str × Addr)) (fp : List Addr), PG (X.blk s H scope (compEnvC scope cl C X.env) fp) tg1 (gD (ty X) t1)) (ht1 : ∀ (s : Shared) (H : Hp) (C : Addr) (cl : List (Str × Addr)) (fp : List Addr), PTs (X.blk s H scope (compEnvC scope cl C X.env) fp) ifs1 (tDT (ty X) W0 c1))
    (he : ∀ (s : Shared) (H : Hp) (C : Addr) (cl : List (Str × Addr)) (fp : List Addr), PE (X.blk s H scope (compEnvC scope cl C X.env) fp) elt (tD (ty X) W0 e)) (ok : blkC X.N X.env.scope scope ow = true := by rfl) (hvs : ow.map (·.2) = vs := by rfl) (hv1 : ∀ i ∈ vs1, i ∈ vs := by decide) (hc : X.calm = true := by rfl) (hsub : ∀ i ∈ t.1, i ∈ vs := by decide) (hsub1 : ∀ i ∈ t1.1, i ∈ vs1 := by decide)
    (hs : ∀ x, foldedSetIterable iter X.env x = pure x := by intro _; rfl) (hs1 : ∀ env x, foldedSetIterable iter1 env x = pure x := by intro _ _; rfl) :
    PD X W (.ListComp elt [⟨tg, iter, ifs, 0⟩, ⟨tg1, iter1, ifs1, 0⟩] scope pos) (evLC2 own it t vs c it1 t1 vs1 c1 e) := by
  subst hvs
  exact PE_imp (pe_lc2 hc hN hi (blkOk_by ok) hv1 hg ht hi1 hg1 ht1 he hs hs1) fun σ H Q q => lc2_reads (tg := tg) hsub hsub1 q
end
end FH
/-! methods of dicts: get, pop, update -/
namespace FH
open L2 PySem PySem.Spec
section
variable {prog : Program} {w : World} {A : Around} {E : Value → Shared → Prop} {s : Shared} {d : Addr} {kv v : Value} {k : NestedKey} {o : Obj} {es : Array DictEntry} {ep : Nat} {ks : List NestedKey}
theorem ucallGet {dflt : Value} {Q : Value → Shared → Prop} (hu : A.units + 9 < cLine) (sm : (d == sysModules) = false) (hk : NestedIs s.heap k kv) (dk : k.depth ≤ 8) (u : UD w s.heap d o es ep ks)
    (hn : k ∉ ks → Q dflt { s with toks := s.toks + k.draws }) (hs : ∀ (j : Nat) (e : DictEntry), ks[j]? = some k → es[j]? = some e → Q e.val { s with toks := s.toks + k.draws }) : wpAny (model prog w) A (call (.builtin "dict.get") [.ref d, kv, dflt]) Q E s := by
  refine call_meetsIn F.slot_dict_get u.ty F.entry_dict_get (F.args_dict_get_3 _ _ _) (S := fun A' R s' => A' = A ∧ s' = s ∧ (k ∉ ks → R (.ok (.ret dflt)) { s with toks := s.toks + k.draws }) ∧ ∀ (j : Nat) (e : DictEntry), ks[j]? = some k → es[j]? = some e → R (.ok (.ret e.val)) { s with toks := s.toks + k.draws })
    (fun A' R s' hS => ?_) ⟨rfl, rfl, hn, hs⟩
  obtain ⟨rfl, rfl, h1, h2⟩ := hS
  show wpAny _ _ (dictGet d kv >>= _) _ _ _
  refine wpAny_bind (uget (by show A'.units + 1 + 8 < cLine; omega) hk dk u (fun h => ?_) fun j e hj he => ?_)
  · show wpAny _ _ (Builtin.Dict.missed d kv >>= _) _ _ _
    exact wpAny_bind (wpAny_missed_other sm (wpAny_pure (h1 h)))
  · exact wpAny_pure (h2 j e hj he)
theorem utakeOut {a : Addr} {Q : Option DictEntry → Shared → Prop} (hu : A.units + 8 < cLine) (hk : NestedIs s.heap k (.ref a)) (dk : k.depth ≤ 8) (u : UD w s.heap d o es ep ks) (hz : es.size ≤ sizeLine) (j : Nat) (e : DictEntry) (hj : ks[j]? = some k) (he : es[j]? = some e)
    (hs : ∀ h' o', NewD s.heap d (es.eraseIdxIfInBounds j) (ep + 1) h' o' → Q (some e) { s with heap := h', toks := s.toks + k.draws }) : wpAny (model prog w) A (Builtin.Dict.takeOut d (.ref a)) Q E s := by
  unfold Builtin.Dict.takeOut
  refine wpAny_holding (wpAny_bind (pyHash_key k _ A s _ hk (by omega) ?_))
  refine wpAny_bind (ufind (s := { s with toks := s.toks + k.draws }) hu hk dk u.get u.dat u.ent u.nd (fun h => absurd (List.mem_of_getElem? hj) h) fun i hi => ?_)
  cases nodup_get u.nd hj hi
  refine wpAny_bind (wpAny_dictEntries (s := { s with toks := s.toks + k.draws }) u.get u.dat ?_)
  rw [he]
  refine wpAny_bind (wpAny_updateDictKeys (hz := hz) (s := { s with toks := s.toks + k.draws }) u.get u.dat (wpAny_pure ?_))
  exact hs _ _ ⟨Heap.get?_update_self _ u.get (Obj.isFreed_of_dict (Obj.data_mapDictKeys u.dat _)), u.ex.mapDictKeys _, Obj.data_mapDictKeys u.dat _, Heap.SameBut.update ..⟩
theorem ucallPop {a : Addr} {Q : Value → Shared → Prop} (hu : A.units + 9 < cLine) (hk : NestedIs s.heap k (.ref a)) (dk : k.depth ≤ 8) (u : UD w s.heap d o es ep ks) (hz : es.size ≤ sizeLine) (j : Nat) (e : DictEntry) (hj : ks[j]? = some k) (he : es[j]? = some e)
    (hs : ∀ h' o', NewD s.heap d (es.eraseIdxIfInBounds j) (ep + 1) h' o' → Q e.val { s with heap := h', toks := s.toks + k.draws }) : wpAny (model prog w) A (call (.builtin "dict.pop") [.ref d, .ref a]) Q E s := by
  refine call_meetsIn F.slot_dict_pop u.ty F.entry_dict_pop (F.args_dict_pop_2 _ _) (S := fun A' R s' => A' = A ∧ s' = s ∧ ∀ h' o', NewD s.heap d (es.eraseIdxIfInBounds j) (ep + 1) h' o' → R (.ok (.ret e.val)) { s with heap := h', toks := s.toks + k.draws })
    (fun A' R s' hS => ?_) ⟨rfl, rfl, hs⟩
  obtain ⟨rfl, rfl, h1⟩ := hS
  unfold Builtin.«dict.pop»
  refine wpAny_bind ?_
  unfold Builtin.Dict.keyAndDefault
  refine wpAny_bind (wpAny_notOrdered_dict u.ty ?_)
  show wpAny _ _ (pure (d, Value.ref a, none)) _ _ s'
  refine wpAny_pure ?_
  simp only [keyPart, Option.isSome_none, Bool.false_eq_true, if_false]
  refine wpAny_bind (wpAny_dictEntries u.get u.dat (wpAny_bind (wpAny_pure ?_)))
  have hemp : ¬ es.isEmpty = true := fun z => by
    have h0 : es.size = 0 := by simpa using z
    have h1 : j < es.size := (Array.getElem?_eq_some_iff.mp he).1
    omega
  rw [if_neg hemp]
  refine wpAny_bind (utakeOut (by show A'.units + 1 + 8 < cLine; omega) hk dk u hz j e hj he fun h' o' n => ?_)
  simp only [Option.isNone_some, Bool.false_eq_true, if_false]
  exact wpAny_bind (wpAny_letGo (wpAny_pure (h1 h' o' n)))
theorem usetH {Q : Unit → Shared → Prop} (hu : A.units + 8 < cLine) (hk : NestedIs s.heap k kv) (dk : k.depth ≤ 8) (u : UD w s.heap d o es ep ks) (hz : es.size ≤ sizeLine)
    (hn : k ∉ ks → ∀ h' o', NewD s.heap d (es.push ⟨k.hash w, kv, v⟩) (ep + 1) h' o' → Q () { s with heap := h' })
    (hs : ∀ (j : Nat), ks[j]? = some k → ∀ h' o', NewD s.heap d (es.modify j fun e => { e with val := v }) ep h' o' → Q () { s with heap := h' }) : wpAny (model prog w) A (dictSetHashed d kv (k.hash w) v) Q E s := by
  unfold dictSetHashed
  refine wpAny_holding (wpAny_bind (ufind hu hk dk u.get u.dat u.ent u.nd (fun h => ?_) fun j hj => ?_))
  · refine wpAny_bind (wpAny_rule (wpAny_updateDictKeys (hz := hz) u.get u.dat ?_))
    exact hn h _ _ ⟨Heap.get?_update_self _ u.get (Obj.isFreed_of_dict (Obj.data_mapDictKeys u.dat _)), u.ex.mapDictKeys _, Obj.data_mapDictKeys u.dat _, Heap.SameBut.update ..⟩
  · refine wpAny_bind (wpAny_rule (wpAny_bind (wpAny_updateDict u.get u.dat (wpAny_point ?_))))
    exact hs j hj _ _ ⟨Heap.get?_update_self _ u.get (Obj.isFreed_of_dict (Obj.data_mapDict u.dat _)), u.ex.mapDict _, Obj.data_mapDict u.dat _, Heap.SameBut.update ..⟩
end
/-! ### as methods -/
def isTup : D → Bool
  | .tuple _ => true
  | _ => false
noncomputable def popD : OpM := fun v vs S => match v, vs with
  | .ref n, [.d k] => match S[n]? with
    | some (.dic m) => match dlook m k with
      | some z => if keyOk k = true ∧ isTup k = true then some (z, S.set n (.dic (ddel m k))) else none
      | none => none
    | _ => none
  | _, _ => none
noncomputable def dputAll (m : List (D × Val)) (more : List (D × Val)) : List (D × Val) := more.foldl (fun m p => dput m p.1 p.2) m
noncomputable def getM2 : OpM := fun v vs S => match asDic v S, vs with
  | some m, [.d k, z] => if keyOk k = true then some ((dlook m k).getD z, S) else none
  | _, _ => none
open Classical in
noncomputable def updM : OpM := fun v vs S => match v, vs with
  | .ref n, [u] => match S[n]?, asDic u S with
    | some (.dic m), some m2 => if m ≠ [] ∧ m.length + m2.length ≤ 1000000 ∧ u ≠ .ref n then some (.d .none, S.set n (.dic (dputAll m m2))) else none
    | _, _ => none
  | _, _ => none
theorem map_erase {α β : Type} (f : α → β) : ∀ (l : List α) (j : Nat), (l.eraseIdx j).map f = (l.map f).eraseIdx j
  | [], _ => by simp
  | _ :: _, 0 => rfl
  | a :: l, j + 1 => by
    show f a :: (l.eraseIdx j).map f = f a :: (l.map f).eraseIdx j
    rw [map_erase f l j]
section
variable {X : Cx}
theorem mt_getD (hu : X.A.units + 100 < cLine) : MtR X "dict.get" (rM (ty X) getM2) := by
  intro pins s σ H x xs v us Q I rx rv h
  obtain ⟨ρ, S, a, vs, R, qx, q, p⟩ := h
  unfold getM2 at p
  split at p
  · rename_i m k z hm
    split at p
    · rename_i hk
      cases q with
      | @cons kx _ _ _ qk t =>
        cases t with
        | @cons zx _ _ _ qz t =>
          cases t
          cases rv with
          | cons rk t2 =>
            cases t2 with
            | cons rz t3 =>
              cases t3
              obtain ⟨d, o, es, ep, nks, nk, kvs, vvs, rfl, h1, h2, h3, h4, u1, u2, u3, k1, k2, k3⟩ := dic_key I R rk qk qx hm rfl hk
              cases rx
              refine ucallGet (by omega) h2.sm k3 k2 u1 (fun hn => ?_) fun j e hj he => ?_
              · have hd : dlook m k = none := dlook_none.mpr fun z => hn ((toKeys_mem u2 k1).mpr z)
                rw [hd] at p
                exact ⟨_, H, I.tok _, rz, p ρ H zx R Ext.refl qz⟩
              · cases hd : dlook m k with
                | none => exact absurd ((toKeys_mem u2 k1).mp (List.mem_of_getElem? hj)) (dlook_none.mp hd)
                | some z2 =>
                  rw [hd] at p
                  obtain ⟨j2, e2, vv, n1, ge, _, r1, r2⟩ := dlook_at (X := X) u2 u3 h4 k1 hd
                  cases nodup_get u1.nd hj n1
                  rw [he] at ge
                  cases ge
                  exact ⟨vv, H, I.tok _, r1, p ρ H vv R Ext.refl r2⟩
    · exact p.elim
  · exact p.elim
theorem mt_popD (hu : X.A.units + 100 < cLine) : MtR X "dict.pop" (rM (ty X) popD) := by
  intro pins s σ H x xs v us Q I rx rv h
  obtain ⟨ρ, S, a, vs, R, qx, q, p⟩ := h
  unfold popD at p
  split at p
  · rename_i n k
    split at p
    · rename_i m e
      split at p
      · rename_i z hz
        split at p
        · rename_i hk
          obtain ⟨a1, e1, rfl⟩ := (show ∃ a, ρ[n]? = some a ∧ x = .ref a from qx)
          have hm : asDic (.ref n) S = some m := by
            unfold asDic
            dsimp only
            rw [e]
          cases q with
          | @cons kx _ _ _ qk t =>
            cases t
            cases rv with
            | @cons _ ku _ _ rk t2 =>
              cases t2
              obtain ⟨d, o, es, ep, nks, nk, kvs, vvs, e4, h1, h2, h3, h4, u1, u2, u3, k1, k2, k3⟩ := dic_key (b := .ref n) (y := .ref a1) I R rk qk ⟨a1, e1, rfl⟩ hm rfl hk.1
              cases e4
              cases rx
              obtain ⟨j, en, vv, n1, ge, gm, r1, r2⟩ := dlook_at (X := X) u2 u3 h4 k1 hz
              obtain ⟨ka, rfl⟩ : ∃ ka, ku = .ref ka := by
                have hk2 := hk.2
                cases (show Rep (ty X) _ kx k from qk) <;> first | exact ⟨_, rk⟩ | cases hk2
              have sz : es.size = m.length := by
                have := u3.len.2.1
                rw [List.length_map] at this
                rw [this, Array.length_toList]
              have hlen := h2.len
              rw [List.length_map] at hlen
              refine ucallPop (by omega) k3 k2 u1 (by omega) j en n1 ge fun h' o' nn => ?_
              have ed := ddel_old h2.nd gm
              have dj : DObj X.w a1 o' (kvs.eraseIdx j) ((ddel m k).map (·.1)) (vvs.eraseIdx j) := by
                rw [ed, map_erase]
                refine ⟨nn.2.1, ⟨_, _, nn.2.2.1, ?_⟩, h2.nd.eraseIdx j, h2.sm, Nat.le_trans (List.length_eraseIdx_le _ _) h2.len⟩
                have ee : (es.eraseIdxIfInBounds j).toList = es.toList.eraseIdx j := by
                  obtain ⟨l⟩ := es
                  simp
                rw [ee]
                exact u3.erase
              have ra : RepAll (ty X) (frz ρ S H) (kvs.eraseIdx j) ((ddel m k).map (·.1)) := by
                rw [ed, map_erase]
                have z := pr_erase j (RepAll.pr (ρ := ρ) h3)
                rw [← map_erase] at z
                exact RepAll.of z
              have rb : RepVs (ty X) ρ (frz ρ S H) (vvs.eraseIdx j) ((ddel m k).map (·.2)) := by
                rw [ed, map_erase]
                exact pr_erase j h4
              obtain ⟨R1, E1⟩ := put_dic R e1 e dj ra rb
              exact ⟨vv, _, newD_inv I h1 nn, r1, p ρ _ vv R1 E1 (r2.mono E1.pre E1.le)⟩
        · exact p.elim
      · exact p.elim
    · exact p.elim
  · exact p.elim
end
section
variable {X : Cx} {pins : List (Addr × Obj)} {s : Shared} {σ : St} {H F : Hp} {d : Addr} {o : Obj} {kvs vvs : List V} {m : List (D × Val)} {ρ : List Addr} {kx vx : V} {ku vu : Value} {k : D} {v : Val}
theorem dput_G (hu : X.A.units + 9 < cLine) {f : Value → Value → Sem Unit} {tk : NestedKey → Nat} {Q : Unit → Shared → Prop} (I : Inv X pins σ H s) (hd : H d = some (dHO d o)) (dj : DObj X.w d o kvs (m.map (·.1)) vvs) (ra : RepAll (ty X) F kvs (m.map (·.1))) (rb : RepVs (ty X) ρ F vvs (m.map (·.2))) (le : Le F H)
    (rk : RelV kx ku) (qk : Rep (ty X) F kx k) (hk : keyOk k = true) (rv : RelV vx vu) (qv : RepV (ty X) ρ F vx v) (hz : m.length < sizeLine)
    (hf : ∀ {nk : NestedKey} {es : Array DictEntry} {ep : Nat} {nks : List NestedKey}, toKey k = some nk → NestedIs s.heap nk ku → nk.depth ≤ 8 → UD X.w s.heap d o es ep nks → es.size ≤ sizeLine → (nk ∉ nks → ∀ h' o', NewD s.heap d (es.push ⟨nk.hash X.w, ku, vu⟩) (ep + 1) h' o' → Q () { s with heap := h', toks := tk nk }) →
      (∀ (j : Nat), nks[j]? = some nk → ∀ h' o', NewD s.heap d (es.modify j fun e => { e with val := vu }) ep h' o' → Q () { s with heap := h', toks := tk nk }) → wpAny (model X.prog X.w) X.A (f ku vu) Q X.xe s)
    (q : ∀ o' kvs' vvs' s', Inv X pins σ (upd H d (dHO d o')) s' → DObj X.w d o' kvs' ((dput m k v).map (·.1)) vvs' → RepAll (ty X) F kvs' ((dput m k v).map (·.1)) → RepVs (ty X) ρ F vvs' ((dput m k v).map (·.2)) → Q () s') :
    wpAny (model X.prog X.w) X.A (f ku vu) Q X.xe s := by
  obtain ⟨es, ep, nks, u1, u2, u3⟩ := DObj.ud (T := ty X) le I.hok hd dj ra
  obtain ⟨nk, k1, k2⟩ := keyOk_get hk
  have k3 := Rep.key le I.hok qk rk k1
  have sz : es.size = m.length := by
    have := u3.len.2.1
    rw [List.length_map] at this
    rw [this, Array.length_toList]
  refine hf k1 k3 k2 u1 (by omega) (fun hn h' o' n => ?_) fun j hj h' o' n => ?_
  · have hnm : k ∉ m.map (·.1) := fun z => hn ((toKeys_mem u2 k1).mpr z)
    have e1 := dput_new (v := v) hnm
    refine q o' (kvs ++ [kx]) (vvs ++ [vx]) _ (newD_inv I hd n) ?_ ?_ ?_
    · rw [e1, List.map_append]
      refine ⟨n.2.1, ⟨_, _, n.2.2.1, ?_⟩, ?_, dj.sm, ?_⟩
      · rw [Array.toList_push]
        exact u3.snoc k1 k2 rk rv rfl
      · rw [List.nodup_append]
        refine ⟨dj.nd, by simp, fun a ha b hb => ?_⟩
        have : b = k := by simpa using hb
        rw [this]
        exact fun z => hnm (z ▸ ha)
      · rw [List.length_append, List.length_map]
        exact hz
    · rw [e1, List.map_append]
      have := pr_app (RepAll.pr (ρ := ρ) ra) (ys' := [Val.d k]) (.cons qk .nil)
      exact RepAll.of (ρ := ρ) (by rw [List.map_append]; exact this)
    · rw [e1, List.map_append]
      exact pr_app rb (.cons qv .nil)
  · obtain ⟨k', g1, g2⟩ := toKeys_back u2 hj
    have ek := toKey_inj k k' nk k1 g2
    subst ek
    rw [List.getElem?_map] at g1
    obtain ⟨p, g3, g4⟩ := Option.map_eq_some_iff.mp g1
    obtain ⟨k', w0⟩ := p
    cases g4
    have e1 := dput_old (v := v) dj.nd g3
    have e2 : (m.set j (k', v)).map (·.1) = m.map (·.1) := by
      rw [List.map_set]
      refine List.ext_getElem? fun i => ?_
      by_cases h : j = i
      · subst h
        rw [List.getElem?_set_self (by rw [List.length_map]; exact (List.getElem?_eq_some_iff.mp g3).1), List.getElem?_map, g3]
        rfl
      · rw [List.getElem?_set_ne h]
    refine q o' kvs (vvs.set j vx) _ (newD_inv I hd n) ?_ ?_ ?_
    · rw [e1, e2]
      refine ⟨n.2.1, ⟨_, _, n.2.2.1, ?_⟩, dj.nd, dj.sm, dj.len⟩
      rw [Array.toList_modify]
      exact Ents.set rv u3
    · rw [e1, e2]
      exact ra
    · rw [e1, List.map_set]
      exact pr_set qv j rb
end
/-- a built-in's inside -/
abbrev inX (X : Cx) : Cx := { X with A := X.A.in1, xe := fun _ _ => False }
theorem inv_in {X : Cx} {pins : List (Addr × Obj)} {σ : St} {H : Hp} {s : Shared} (I : Inv X pins σ H s) : Inv (inX X) pins σ H s :=
  ⟨⟨I.ok.mod, I.ok.kind, I.ok.glob, I.ok.blt, I.ok.above, I.ok.inj, I.ok.has, I.ok.cab, I.ok.hd, I.ok.frames, I.ok.stk, I.ok.exf, I.ok.bs, I.ok.bsz, I.ok.noex, I.ok.exfs, I.ok.funs, I.ok.frf⟩, I.os, I.bare, I.base, I.loc, I.cell, I.free, I.freeC, I.pin, I.hok, I.len⟩
theorem inv_out {X : Cx} {pins : List (Addr × Obj)} {σ : St} {H : Hp} {s : Shared} (I : Inv (inX X) pins σ H s) : Inv X pins σ H s :=
  ⟨⟨I.ok.mod, I.ok.kind, I.ok.glob, I.ok.blt, I.ok.above, I.ok.inj, I.ok.has, I.ok.cab, I.ok.hd, I.ok.frames, I.ok.stk, I.ok.exf, I.ok.bs, I.ok.bsz, I.ok.noex, I.ok.exfs, I.ok.funs, I.ok.frf⟩, I.os, I.bare, I.base, I.loc, I.cell, I.free, I.freeC, I.pin, I.hok, I.len⟩
theorem upd_self {H : Hp} {a : Addr} {o : HO} (h : H a = some o) : upd H a o = H := by
  funext b
  by_cases e : b = a
  · rw [e, upd_same, h]
  · rw [upd_ne e]
theorem dputAll_snoc {m more : List (D × Val)} {i : Nat} {p : D × Val} (h : more[i]? = some p) : dputAll m (more.take (i + 1)) = dput (dputAll m (more.take i)) p.1 p.2 := by
  unfold dputAll
  rw [List.take_succ, h]
  simp
theorem dput_len {m : List (D × Val)} {k : D} {v : Val} : (dput m k v).length ≤ m.length + 1 := by
  induction m with
  | nil => simp [dput]
  | cons p r ih =>
    unfold dput
    split
    · simp
    · simp only [List.length_cons]
      omega
theorem dputAll_len : ∀ {more m : List (D × Val)}, (dputAll m more).length ≤ m.length + more.length
  | [], m => by simp [dputAll]
  | p :: r, m => by
    have h1 := dputAll_len (more := r) (m := dput m p.1 p.2)
    have h2 := dput_len (m := m) (k := p.1) (v := p.2)
    show (dputAll (dput m p.1 p.2) r).length ≤ _
    simp only [List.length_cons]
    omega
section
variable {X : Cx}
theorem merge_run (hu : X.A.units + 100 < cLine) {pins : List (Addr × Obj)} {s : Shared} {σ : St} {H F : Hp} {ρ : List Addr} {a1 a2 : Addr} {o1 o2 : Obj} {kvs vvs kvs2 vvs2 : List V} {m m2 : List (D × Val)} {nm : String} {Q : Unit → Shared → Prop} (I : Inv X pins σ H s)
    (h1 : H a1 = some (dHO a1 o1)) (d1 : DObj X.w a1 o1 kvs (m.map (·.1)) vvs) (ra1 : RepAll (ty X) F kvs (m.map (·.1))) (rb1 : RepVs (ty X) ρ F vvs (m.map (·.2))) (h2 : H a2 = some (dHO a2 o2)) (d2 : DObj X.w a2 o2 kvs2 (m2.map (·.1)) vvs2) (ra2 : RepAll (ty X) F kvs2 (m2.map (·.1))) (rb2 : RepVs (ty X) ρ F vvs2 (m2.map (·.2)))
    (ne : a1 ≠ a2) (le : ∀ o, Le F (upd H a1 o)) (hm : m ≠ []) (hz : m.length + m2.length ≤ 1000000)
    (q : ∀ o' kvs' vvs' s', Inv (inX X) pins σ (upd H a1 (dHO a1 o')) s' → DObj X.w a1 o' kvs' ((dputAll m m2).map (·.1)) vvs' → RepAll (ty X) F kvs' ((dputAll m m2).map (·.1)) → RepVs (ty X) ρ F vvs' ((dputAll m m2).map (·.2)) → Q () s') :
    wpAny (model X.prog X.w) X.A.in1 (Builtin.Dict.mergeDict nm a1 a2) Q (fun _ _ => False) s := by
  have sl : sizeLine = 16777216 := sizeLine_eq
  obtain ⟨es2, ep2, hd2, en2⟩ := d2.dat
  obtain ⟨es1, ep1, hd1, en1⟩ := d1.dat
  have g1 : s.heap.get? a1 = some o1 := (I.hok a1 _ h1).1
  have g2 : s.heap.get? a2 = some o2 := (I.hok a2 _ h2).1
  have hl2 : es2.size = m2.length := by
    have := en2.len.2.1
    rw [List.length_map] at this
    rw [this, Array.length_toList]
  have hl1 : es1.size = m.length := by
    have := en1.len.2.1
    rw [List.length_map] at this
    rw [this, Array.length_toList]
  have g2' : ∀ {o' : Obj} {s' : Shared}, Inv (inX X) pins σ (upd H a1 (dHO a1 o')) s' → s'.heap.get? a2 = some o2 := fun {o' s'} I' => (I'.hok a2 _ (show upd H a1 (dHO a1 o') a2 = some (dHO a2 o2) by rw [upd_ne (Ne.symm ne)]; exact h2)).1
  unfold Builtin.Dict.mergeDict
  rw [if_neg (by simpa using ne)]
  unfold Builtin.Dict.showsAll
  rw [if_neg (by rw [d2.sm]; exact Bool.false_ne_true)]
  refine wpAny_bind (wpAny_pure ?_)
  refine wpAny_bind (wpAny_dictEntries g2 hd2 ?_)
  have loop : wpAny (model X.prog X.w) X.A.in1 (do
      let epoch ← dictEpoch a2
      let l ← dictEntries a2
      forIn [:l.size] PUnit.unit fun i (_ : PUnit) => (do
          let l' ← dictEntries a2
          match l'[i]? with
            | some e => do
              holding [e.key, e.val] (dictSetHashed a1 e.key e.hash e.val)
              let ep' ← dictEpoch a2
              if (ep' != epoch) = true then do
                  (unsupported (toString nm ++ toString ":source-changed-during-callback") : Sem PUnit)
                  pure (ForInStep.yield PUnit.unit)
                else pure (ForInStep.yield PUnit.unit)
            | _ => do
              (unsupported "internal:dict-merge" : Sem PUnit)
              pure (ForInStep.yield PUnit.unit) : Sem (ForInStep PUnit))
      pure ()) Q (fun _ _ => False) s := by
    refine wpAny_bind (wpAny_dictEpoch g2 hd2 ?_)
    refine wpAny_bind (wpAny_dictEntries g2 hd2 ?_)
    refine wpAny_bind ?_
    rw [Std.Legacy.Range.forIn_eq_forIn_range']
    simp only [Std.Legacy.Range.size, Nat.sub_zero, Nat.add_sub_cancel, Nat.div_one]
    refine wpAny_forIn_list _
      (fun rest _ s' => ∃ i o' kvs' vvs', rest = List.range' i (es2.size - i) ∧ i ≤ es2.size ∧ Inv (inX X) pins σ (upd H a1 (dHO a1 o')) s' ∧ DObj X.w a1 o' kvs' ((dputAll m (m2.take i)).map (·.1)) vvs' ∧ RepAll (ty X) F kvs' ((dputAll m (m2.take i)).map (·.1)) ∧ RepVs (ty X) ρ F vvs' ((dputAll m (m2.take i)).map (·.2)))
      _ ?_ ?_ _ _ ⟨0, o1, kvs, vvs, by simp, Nat.zero_le _, by rw [upd_self h1]; exact inv_in I, d1, ra1, rb1⟩
    · rintro x rest b s' ⟨i, o', kvs', vvs', hr, hi, I', d', ra', rb'⟩
      have hlt : i < es2.size := by
        rcases Nat.lt_or_ge i es2.size with h | h
        · exact h
        · rw [Nat.sub_eq_zero_of_le h] at hr
          simp at hr
      obtain ⟨rfl, hrest⟩ : x = i ∧ rest = List.range' (i + 1) (es2.size - (i + 1)) := by
        have e : es2.size - i = (es2.size - (i + 1)) + 1 := by omega
        rw [e, List.range'_succ] at hr
        injection hr with h1 h2
        exact ⟨h1, h2⟩
      refine wpAny_bind (wpAny_dictEntries (g2' I') hd2 ?_)
      have ge : es2[x]? = some es2[x] := Array.getElem?_eq_getElem hlt
      rw [ge]
      obtain ⟨kv, vv, kk, nk, e1, e2, e3, e4, e5, e6, e7, e8⟩ := en2.at_ (show es2.toList[x]? = some es2[x] by rw [Array.getElem?_toList]; exact ge)
      obtain ⟨k0, z1, z2⟩ := pr_getL (RepAll.pr (ρ := ρ) ra2) e1
      obtain ⟨v0, y1, y2⟩ := pr_getL rb2 e2
      rw [List.getElem?_map, e3] at z1
      cases z1
      rw [List.getElem?_map] at e3 y1
      obtain ⟨pp, p1, p2⟩ := Option.map_eq_some_iff.mp e3
      rw [p1] at y1
      cases y1
      cases p2
      have hk : keyOk pp.1 = true := by
        unfold keyOk
        rw [e4]
        exact decide_eq_true e5
      have hlen := dputAll_len (more := m2.take x) (m := m)
      have htk : (m2.take x).length ≤ m2.length := by
        rw [List.length_take]
        omega
      refine wpAny_bind (wpAny_holding (dput_G (X := inX X) (tk := fun _ => s'.toks) (f := fun a b => dictSetHashed a1 a es2[x].hash b) (F := F) (ρ := ρ) (by show X.A.units + 1 + 9 < cLine; omega) I' upd_same d' ra' rb' (le _) e6 z2 hk e7 y2 (by omega) (fun {nk' es' ep' nks'} t1 t2 t3 t4 t5 t6 t7 => ?_) fun o3 kvs3 vvs3 s3 I3 d3 ra3 rb3 => ?_))
      · rw [e4] at t1
        cases t1
        rw [e8]
        exact usetH (by show X.A.units + 1 + 8 < cLine; omega) t2 t3 t4 t5 t6 t7
      · rw [upd_upd] at I3
        refine wpAny_bind (wpAny_dictEpoch (g2' I3) hd2 ?_)
        rw [if_neg (by simp)]
        refine wpAny_pure ⟨x + 1, o3, kvs3, vvs3, hrest, hlt, I3, ?_, ?_, ?_⟩
        · rw [dputAll_snoc p1]
          exact d3
        · rw [dputAll_snoc p1]
          exact ra3
        · rw [dputAll_snoc p1]
          exact rb3
    · rintro b s' ⟨i, o', kvs', vvs', hr, hi, I', d', ra', rb'⟩
      have hin : i = m2.length := by
        rw [← hl2]
        rcases Nat.lt_or_ge i es2.size with h | h
        · have e : es2.size - i = (es2.size - (i + 1)) + 1 := by omega
          rw [e, List.range'_succ] at hr
          exact nomatch hr
        · exact Nat.le_antisymm hi h
      rw [hin, List.take_length] at d' ra' rb'
      exact wpAny_pure (q o' kvs' vvs' s' I' d' ra' rb')
  dsimp only
  split
  · refine wpAny_bind (wpAny_dictEntries g1 hd1 ?_)
    split
    · rename_i hemp
      have h0 : es1.size = 0 := by simpa using hemp
      rw [hl1] at h0
      exact absurd (List.length_eq_zero_iff.mp h0) hm
    · exact loop
  · exact loop
theorem mt_updD (hu : X.A.units + 100 < cLine) : MtR X "dict.update" (rM (ty X) updM) := by
  intro pins s σ H x xs v us Q I rx rv h
  obtain ⟨ρ, S, a, vs, R, qx, q, p⟩ := h
  unfold updM at p
  split at p
  · rename_i n u
    split at p
    · rename_i m m2 e hu2
      split at p
      · rename_i hc
        obtain ⟨a1, e1, rfl⟩ := (show ∃ a, ρ[n]? = some a ∧ x = .ref a from qx)
        obtain ⟨o1, kvs, vvs, h1, d1, ra1, rb1⟩ := R.obj n a1 _ e1 e
        have own1 : Owns ρ S a1 := ⟨n, _, e1, e, rfl⟩
        cases q with
        | @cons y _ _ _ qu t =>
          cases t
          cases rv with
          | @cons _ uu _ _ ru t2 =>
            cases t2
            obtain ⟨a2, o2, kvs2, vvs2, rfl, h2, d2, ra2, rb2⟩ := asDic_ok R qu hu2
            have ne : a1 ≠ a2 := fun z => by
              subst z
              cases u with
              | d dd =>
                cases dd with
                | dict mm =>
                  cases (show Rep (ty X) (frz ρ S H) (.ref a1) (.dict mm) from qu) with
                  | dic f _ _ _ =>
                    rw [frz_of_own own1] at f
                    cases f
                | _ => cases hu2
              | ref j =>
                obtain ⟨b, b1, b2⟩ := (show ∃ a, ρ[j]? = some a ∧ V.ref a1 = .ref a from qu)
                cases b2
                exact hc.2.2 (by rw [nodup_get R.nd e1 b1])
              | _ => cases hu2
            have le : ∀ o, Le (frz ρ S H) (upd H a1 o) := fun o b w z => by
              have nb : b ≠ a1 := fun g => by
                rw [g, frz_of_own own1] at z
                cases z
              rw [upd_ne nb]
              exact frz_le _ _ z
            cases rx
            cases ru
            have ty1 : s.TypeIs (.ref a1) "dict" := ⟨o1, (I.hok a1 _ h1).1, d1.ex.1⟩
            have ty2 : s.TypeIs (.ref a2) "dict" := ⟨o2, (I.hok a2 _ h2).1, d2.ex.1⟩
            refine call_meetsIn F.slot_dict_update ty1 F.entry_dict_update (F.args_dict_update_2 _ _) (S := fun A' R s' => A' = X.A ∧ s' = s ∧ ∀ s2, EP X pins σ Q .none s2 → R (.ok (.ret .none)) s2) (fun A' R2 s' hS => ?_) ⟨rfl, rfl, fun s2 z => z⟩
            obtain ⟨rfl, rfl, hR⟩ := hS
            refine meets_dict_update_arg ty1 ?_
            unfold Builtin.Dict.updateFrom
            refine wpAny_bind (wpAny_typeOf ty2 ?_)
            rw [if_neg (by decide)]
            refine wpAny_bind ?_
            unfold Builtin.Dict.merge
            refine wpAny_bind ?_
            unfold Builtin.Dict.readDirectly
            refine wpAny_bind (wpAny_isInstance ty2 isSubtype_dict_dict ?_)
            simp only [Bool.not_true, Bool.false_eq_true, if_false]
            refine wpAny_bind (wpAny_specialOf ty2 F.slot_dict_iter.lookup (wpAny_pure ?_))
            simp only [beq_self_eq_true, if_true]
            refine wpAny_bind (wpAny_pure ?_)
            refine wpAny_mono (merge_run hu I h1 d1 ra1 rb1 h2 d2 ra2 rb2 ne le hc.1 hc.2.1 fun o' kvs' vvs' s3 I3 d3 ra3 rb3 => ?_) (fun _ _ z => z) (fun _ _ z => z.elim)
            obtain ⟨R1, E1⟩ := put_dic R e1 e d3 ra3 rb3
            exact wpAny_bind (wpAny_pure (wpAny_pure (hR s3 ⟨.non, _, inv_out I3, rfl, p ρ _ .non R1 E1 Rep.non⟩)))
      · exact p.elim
    · exact p.elim
  · exact p.elim
end
end FH
namespace FH
open L2 PySem PySem.Spec
/-- list(x), a list that will change -/
def listO : OpL := fun vs S => match vs with
  | [v] => match asQ v S with
    | some xs => mkLo xs S
    | none => none
  | _ => none
section
variable {X : Cx}
theorem post_mkLo {T : Ty} {ρ : List Addr} {S : Store} {H : Hp} {xs : List Val} {vs : List V} {Q : VK} {p : Addr} (R : Rel T ρ S H) (r : RepVs T ρ (frz ρ S H) vs xs) (hp : H p = none) (h : Post0 T ρ S H (mkLo xs S) Q) : Q (.ref p) (upd H p (.lst vs)) := by
  obtain ⟨R1, E1⟩ := R.new (o := .lst vs) (ob := .lst xs) hp rfl ⟨vs, rfl, r⟩
  exact h (ρ ++ [p]) _ _ R1 E1 ⟨p, by rw [← R.len]; simp, rfl⟩
theorem cr_listO : CallR X (.type "list") (rL (ty X) listO) := by
  intro pins s σ H xs us Q I r h
  obtain ⟨ρ, S, vs, R, q, p⟩ := h
  unfold listO at p
  split at p
  · split at p
    · rename_i v xs e
      cases q with
      | cons qx t =>
        cases t
        obtain ⟨a1, v1, rfl, h1, r1⟩ := asQ_ok X.K R qx e
        exact call_list_of pins s σ H _ us Q I r ⟨a1, v1, rfl, h1, fun l hl => post_mkLo R r1 hl p⟩
    · exact p.elim
  · exact p.elim
end
end FH
/-! reckoning: dicts, lambdas, loops -/
namespace FH
open L2 PySem PySem.Spec
/-! ### dicts as rows of data -/
def lf (m : List (D × D)) : List (D × Val) := m.map fun p => (p.1, .d p.2)
theorem lf_keys (m : List (D × D)) : (lf m).map (·.1) = m.map (·.1) := by simp [lf, Function.comp_def]
theorem lf_vals (m : List (D × D)) : (lf m).map (·.2) = (m.map (·.2)).map .d := by simp [lf, Function.comp_def]
theorem lf_len (m : List (D × D)) : (lf m).length = m.length := by simp [lf]
theorem lf_put (k v : D) : ∀ m : List (D × D), dput (lf m) k (.d v) = lf (dput m k v)
  | [] => rfl
  | p :: r => by
    show dput ((p.1, Val.d p.2) :: lf r) k (.d v) = lf (dput (p :: r) k v)
    rw [dput, dput]
    by_cases h : p.1 = k
    · rw [if_pos h, if_pos h]
      rfl
    · rw [if_neg h, if_neg h, lf_put k v r]
      rfl
theorem lf_look (k : D) : ∀ m : List (D × D), dlook (lf m) k = (dlook m k).map .d
  | [] => rfl
  | p :: r => by
    show dlook ((p.1, Val.d p.2) :: lf r) k = (dlook (p :: r) k).map .d
    rw [dlook, dlook]
    by_cases h : p.1 = k
    · rw [if_pos h, if_pos h]
      rfl
    · rw [if_neg h, if_neg h, lf_look k r]
theorem lf_del (k : D) : ∀ m : List (D × D), ddel (lf m) k = lf (ddel m k)
  | [] => rfl
  | p :: r => by
    show ddel ((p.1, Val.d p.2) :: lf r) k = lf (ddel (p :: r) k)
    rw [ddel, ddel]
    by_cases h : p.1 = k
    · rw [if_pos h, if_pos h]
    · rw [if_neg h, if_neg h, lf_del k r]
      rfl
theorem lf_putAll (more : List (D × D)) : ∀ m : List (D × D), dputAll (lf m) (lf more) = lf (more.foldl (fun m p => dput m p.1 p.2) m) := by
  induction more with
  | nil => exact fun m => rfl
  | cons p r ih =>
    intro m
    show dputAll (dput (lf m) p.1 (.d p.2)) (lf r) = _
    rw [lf_put]
    exact ih _
section
variable {S : Store} {n : Nat} {m : List (D × Val)} {k : D}
theorem asDic_ref (h : S[n]? = some (.dic m)) : asDic (.ref n) S = some m := by simp [asDic, h]
theorem asDic_lk (h : S[n]? = some (.lk (.dic m))) : asDic (.ref n) S = some m := by simp [asDic, h]
theorem asDic_d {m : List (D × D)} : asDic (.d (.dict m)) S = some (lf m) := rfl
theorem in_dic {v : Val} (h : asDic v S = some m) (hv : ∀ z, v ≠ .d (.str z)) (ht : ∀ z, v ≠ .d (.tuple z)) (hk : keyOk k = true) : cmpV .In (.d k) v S = some (.d (.bool (dlook m k).isSome), S) := by
  have e : inB (.d k) v S = some (dlook m k).isSome := by
    unfold inB
    split
    · rename_i z
      exact absurd rfl (hv z)
    · rename_i z
      exact absurd rfl (ht z)
    · rw [h]
      simp [inDic, h, hk]
  simp [cmpV, cmpB, e]
theorem notin_dic {v : Val} (h : asDic v S = some m) (hv : ∀ z, v ≠ .d (.str z)) (ht : ∀ z, v ≠ .d (.tuple z)) (hk : keyOk k = true) : cmpV .NotIn (.d k) v S = some (.d (.bool (!(dlook m k).isSome)), S) := by
  have e : inB (.d k) v S = some (dlook m k).isSome := by
    unfold inB
    split
    · rename_i z
      exact absurd rfl (hv z)
    · rename_i z
      exact absurd rfl (ht z)
    · rw [h]
      simp [inDic, h, hk]
  simp [cmpV, cmpB, e]
theorem ix_dicv {v z : Val} (h : asDic v S = some m) (hk : keyOk k = true) (hl : dlook m k = some z) : ixV v (.d k) S = some (z, S) := by
  simp [ixV, ixQ, h, ixDic, hk, hl]
theorem len_dic {v : Val} (h : asDic v S = some m) (hv : ∀ z, v ≠ .d (.str z)) (ht : ∀ z, v ≠ .d (.tuple z)) (hs : ∀ z, v ≠ .scr z) : lenL [v] S = some (.d (.int m.length), S) := by
  have e : lenN v S = some m.length := by
    unfold lenN
    split
    · rename_i z
      exact absurd rfl (hv z)
    · rename_i z
      exact absurd rfl (ht z)
    · rename_i z
      exact absurd rfl (hs z)
    · rw [h]
  simp [lenL, e]
end
/-! ### dict comprehensions that write nothing -/
section
variable {t : Tg} {vs : List Nat} {c : Tv} {k e : Ev} {l : Loc} {S : Store}
/-- one item: left out, or a key and a value -/
def TurnD (t : Tg) (vs : List Nat) (c : Tv) (k e : Ev) (l : Loc) (S : Store) (x : D) : Option (D × D) → Prop
  | none => ∃ l', t.2 (.d x) (wipeL l vs) = some l' ∧ ∀ acc : List (D × Val), c l' (S ++ [.dic acc]) = .ok false (S ++ [.dic acc])
  | some (y, z) => ∃ l', t.2 (.d x) (wipeL l vs) = some l' ∧ keyOk y = true ∧ ∀ acc : List (D × Val), c l' (S ++ [.dic acc]) = .ok true (S ++ [.dic acc]) ∧ k l' (S ++ [.dic acc]) = .ok (.d y) (S ++ [.dic acc]) ∧ e l' (S ++ [.dic acc]) = .ok (.d z) (S ++ [.dic acc])
noncomputable def putAllD (m : List (D × D)) (ps : List (D × D)) : List (D × D) := ps.foldl (fun m p => dput m p.1 p.2) m
theorem dput_lenD {m : List (D × D)} {k v : D} : (dput m k v).length ≤ m.length + 1 := by
  induction m with
  | nil => simp [dput]
  | cons p r ih =>
    unfold dput
    split
    · simp
    · simp only [List.length_cons]
      omega
theorem goAll_dc {f : D → Option (D × D)} : ∀ {items : List D} {acc : List (D × D)}, (∀ x ∈ items, TurnD t vs c k e l S x (f x)) → acc.length + items.length ≤ 100000 →
    goAll (dcTurn S.length t vs c k e l) (items.map .d) (S ++ [.dic (lf acc)]) = .ok () (S ++ [.dic (lf (putAllD acc (items.filterMap f)))])
  | [], acc, _, _ => rfl
  | x :: items, acc, h, hz => by
    have h1 := h x List.mem_cons_self
    have h2 : ∀ y ∈ items, TurnD t vs c k e l S y (f y) := fun y hy => h y (List.mem_cons_of_mem _ hy)
    simp only [List.length_cons] at hz
    rw [List.map_cons, goAll]
    have sl : sizeLine = 16777216 := sizeLine_eq
    cases hf : f x with
    | none =>
      rw [hf] at h1
      obtain ⟨l', e1, e2⟩ := h1
      have g : dcTurn S.length t vs c k e l (.d x) (S ++ [.dic (lf acc)]) = .ok () (S ++ [.dic (lf acc)]) := by
        unfold dcTurn
        rw [e1]
        simp only [e2, Res.bind]
        rfl
      rw [g]
      simp only [Res.bind]
      rw [List.filterMap_cons, hf]
      exact goAll_dc h2 (by omega)
    | some p =>
      obtain ⟨y, z⟩ := p
      rw [hf] at h1
      obtain ⟨l', e1, hk, e2⟩ := h1
      obtain ⟨q1, q2, q3⟩ := e2 (lf acc)
      have g : dcTurn S.length t vs c k e l (.d x) (S ++ [.dic (lf acc)]) = .ok () (S ++ [.dic (lf (dput acc y z))]) := by
        unfold dcTurn
        rw [e1]
        simp only [q1, Res.bind, if_true, q2, q3, List.getElem?_concat_length]
        rw [if_pos ⟨hk, by rw [lf_len]; omega⟩, lf_put, List.set_append_right _ _ (Nat.le_refl _), Nat.sub_self]
        rfl
      rw [g]
      simp only [Res.bind]
      rw [List.filterMap_cons, hf]
      have := dput_lenD (m := acc) (k := y) (v := z)
      exact goAll_dc h2 (by omega)
theorem dc_own {it : Loc → Store → Res Walked} {w : Val} {items : List D} {f : D → Option (D × D)} (hit : it l S = .ok (items.map .d, w) S) (hf : ∀ x ∈ items, TurnD t vs c k e l (lockS w S) x (f x)) (hz : items.length ≤ 100000) :
    evDC true it t vs c k e l S = .ok (.ref S.length) (S ++ [.dic (lf (putAllD [] (items.filterMap f)))]) := by
  have hn : (lockS w S).length = S.length := lockS_len _ _
  unfold evDC
  rw [hit]
  simp only [Res.bind]
  have g := goAll_dc (acc := []) hf (by simpa using hz)
  rw [hn] at g
  rw [show lockS w S ++ [Ob.dic []] = lockS w S ++ [.dic (lf [])] from rfl, g]
  simp only [calmR]
  unfold fin
  rw [if_pos rfl, hn]
  simp only [unlR]
  rw [unlock_lock]
theorem freeze_dic {m : List (D × D)} : freezeV (.ref S.length) (S ++ [.dic (lf m)]) = some (.d (.dict m), S ++ [.gone]) := by
  unfold freezeV
  simp only [get_last, lf_vals, allD_map, lf_keys, set_last]
  have e : (m.map (·.1)).zip (m.map (·.2)) = m := by
    rw [List.zip_map', List.map_id'']
    intro p
    rfl
  rw [e]
theorem cut_gone {S : Store} {v : Val} (h : v.cl S.length) : popO S v (S ++ [.gone]) = some (v, S) := by
  unfold popO
  rw [if_pos ⟨fun i o hi e => .inl (by rw [List.getElem?_append_left hi] at e; exact e), h⟩]
  simp
theorem dc_frz {it : Loc → Store → Res Walked} {w : Val} {items : List D} {f : D → Option (D × D)} (hit : it l S = .ok (items.map .d, w) S) (hf : ∀ x ∈ items, TurnD t vs c k e l (lockS w S) x (f x)) (hz : items.length ≤ 100000) :
    evDC false it t vs c k e l S = .ok (.d (.dict (putAllD [] (items.filterMap f)))) S := by
  have hn : (lockS w S).length = S.length := lockS_len _ _
  unfold evDC
  rw [hit]
  simp only [Res.bind]
  have g := goAll_dc (acc := []) hf (by simpa using hz)
  rw [hn] at g
  rw [show lockS w S ++ [Ob.dic []] = lockS w S ++ [.dic (lf [])] from rfl, g]
  simp only [calmR]
  unfold fin
  rw [if_neg (by decide), freeze_dic]
  simp only [cut_gone (S := lockS w S) (v := .d _) trivial, ofO, unlR]
  rw [unlock_lock0]
end
/-! ### lambdas -/
theorem evLam_v {i : Nat} {id : LamId} {mb m : Ev} {l : Loc} {S : Store} {v u : Val} {cd : List D} (hl : l[i]? = some (some (.lam id cd))) (hm : m l S = .ok v S) (hb : mb (some v :: cd.map fun d => some (.d d)) S = .ok u S) : evLam i id mb m l S = .ok u S := by
  unfold evLam
  simp only [hl, if_true, hm, Res.bind, hb, calmR]
theorem callL_v {x : Str × Option Str} {q : Str} {js : List Nat} {g : LamId → Ev → Fn} {mb m : Ev} {l : Loc} {S : Store} {v u : Val} {cd : List D} (hm : m l S = .ok v S) (hc : caught js l = some cd) (hT : hasTab x q S) (hg : ∀ id, g id mb [v, .lam id cd] S = .ok u S) : evCallL x q js g mb m l S = .ok u S := by
  unfold evCallL
  simp only [hm, Res.bind, hc]
  rw [if_pos hT]
  unfold allId
  rw [if_pos (fun i j => (hg i).trans (hg j).symm)]
  show calmR (g _ mb [v, .lam _ cd] S) = _
  rw [hg]
  rfl
/-! ### while -/
theorem go_wh {c : Tv} {body : Sv} {N : Loc → Store → Prop} {R : Val → Store → Prop} (I : Nat → Loc → Store → Prop)
    (turn : ∀ m l S, I m l S → ∃ b, c l S = .ok b S ∧ (b = true → Goes (body l S) (fun l' S' => ∃ m', m' < m ∧ I m' l' S') R) ∧ (b = false → N l S)) :
    ∀ {n m : Nat} {l : Loc} {S : Store}, I m l S → m < n → Goes (whGo c body n l S) N R
  | 0, _, _, _, _, h => absurd h (Nat.not_lt_zero _)
  | n + 1, m, l, S, hI, h => by
    obtain ⟨b, e, h1, h2⟩ := turn m l S hI
    unfold whGo
    rw [e]
    cases b with
    | false => exact h2 rfl
    | true =>
      have g := h1 rfl
      cases hb : body l S with
      | nx l' S' =>
        rw [hb] at g
        obtain ⟨m', hm, hI'⟩ := g
        simp only [hb]
        exact go_wh I turn hI' (by omega)
      | rt v S' =>
        rw [hb] at g
        simp only [hb]
        exact g
      | _ =>
        rw [hb] at g
        exact g.elim
end FH
/-! the end of a law whose lambdas write tables of code objects -/
namespace FH
open L2 PySem PySem.Spec PyProof.Rows
theorem walk_ofTE {l : PySem.W.OpenLaw} {n k : Nat} {q : Program} {loose : List Str} {XP : (Str → Option Value) → Heap → Prop} {YP : World → Heap → Prop} {d : DefRec} {CX : CXT} {x : Str}
    (hn : l.most = some n) (hn2 : n ≤ sizeLine) (hdf : d.params.defaults = []) (hr : Room k callerA)
    (F : ∀ (w : World) (mg : Str → Option Value) (fa : Addr) (h : Heap), YP w h → h.Ns mainGlobals mg → mg d.name = some (.ref fa) → ∃ K : PySem.W.Frag, K.In h ∧ LamX.LawAtS l w K CX k n x mg fa h)
    (hCX : ∀ (H : Hp) (s : Shared) (e : Value) (s' : Shared), CX [] H s (fun _ _ _ => False) e s' → False) :
    PySem.W.WalkO q loose XP YP l.row.toRowW d [] (fun f vs => PySem.call f vs) := by
  refine Att.attach_callB hn hdf fun w s₀ s₁ mg mb fa o pm cd doc a vs ns G Y ho hd hcd hmg hobj hints hlen hbits hg => ?_
  obtain ⟨K, KX, fd, cs, sp, hT, nT, C, hb, hsp, hF⟩ := F w mg fa _ Y G.T.g hmg
  exact LamX.law_callTs KX G.T.g G.T.b G.T.builtins G.T.nolimit hg hT nT C G.T.bmain hobj hints (Nat.le_trans hlen hn2) hr hF hb (fun H hH hS => hsp H a ns hlen hbits hH hS) fun H e s' => hCX H s₁ e s'
abbrev Tabs : Type := List (He.Defn × Str)
def tabsA (K : PySem.W.Frag) (ts : Tabs) : List Addr := ts.map fun p => (He.cT K p.1).2
def tabsS (ts : Tabs) : Store := ts.map fun p => .tab p.1 p.2
def tabsC (K : PySem.W.Frag) (ts : Tabs) : List (Addr × Addr) := ts.map fun p => He.cT K p.1
def tabsX (ts : Tabs) (K : PySem.W.Frag) : Bool := decide ((tabsA K ts).Nodup)
theorem relT {T : Ty} {H : Hp} {ts : Tabs} (nd : (tabsA T.K ts).Nodup) (hH : ∀ p ∈ tabsC T.K ts, H p.2 = some (.tbl #[])) : Rel T (tabsA T.K ts) (tabsS ts) H := by
  have hH' : ∀ p ∈ ts, H (He.cT T.K p.1).2 = some (.tbl #[]) := fun p hp => hH _ (List.mem_map.mpr ⟨p, hp, rfl⟩)
  refine ⟨by simp [tabsA, tabsS], nd, fun a ha => ?_, fun n a o ha ho => ?_⟩
  · obtain ⟨p, hp, rfl⟩ := List.mem_map.mp ha
    exact ⟨_, hH' p hp⟩
  · unfold tabsA at ha
    unfold tabsS at ho
    rw [List.getElem?_map] at ha ho
    cases e : ts[n]? with
    | none =>
      rw [e] at ha
      cases ha
    | some p =>
      rw [e] at ha ho
      cases ha
      cases ho
      exact ⟨rfl, #[], hH' p (List.mem_of_getElem? e), trivial, fun pos cv z => by cases z⟩
theorem sqlT {K : PySem.W.Frag} {H : Hp} {ts : Tabs} {S : Store} {a : Addr} {xs : List V} (hH : ∀ p ∈ tabsC K ts, H p.2 = some (.tbl #[])) (h : SqL K H a xs) : SqL K (frz (tabsA K ts) S H) a xs := by
  have key : ∀ o, H a = some o → (∀ ps, o ≠ .tbl ps) → frz (tabsA K ts) S H a = some o := fun o e ne => by
    unfold frz
    rw [if_neg]
    · exact e
    · rintro ⟨n, ob, h1, _, _⟩
      obtain ⟨p, hp, e2⟩ := List.mem_map.mp (List.mem_of_getElem? h1)
      have := hH _ (List.mem_map.mpr ⟨p, hp, rfl⟩)
      rw [e2, e] at this
      exact ne _ (Option.some.inj this)
  rcases h with (h | ⟨o, h⟩) | h
  · exact .inl (.inl (key _ h fun _ z => by cases z))
  · exact .inl (.inr ⟨o, key _ h fun _ z => by cases z⟩)
  · exact .inr h
end FH
namespace Lw
open L2 PySem PySem.Spec FH
def top (i : Nat) : Stmt := PySem.Challenge.pw_farhands_k02_pasts.main.body.getD i (.Pass ⟨0, 0, 0, 0⟩)
abbrev s_is_whole : Stmt := top 8
abbrev s_is_word : Stmt := top 9
abbrev s_is_value : Stmt := top 10
abbrev s_is_name : Stmt := top 11
abbrev s_is_right : Stmt := top 12
abbrev s_is_on_entry : Stmt := top 13
abbrev s_is_what : Stmt := top 14
abbrev s_is_deed : Stmt := top 15
abbrev s_ordered : Stmt := top 16
abbrev s_pasts_of : Stmt := top 17
abbrev s_are_deeds : Stmt := top 18
abbrev s_need_deeds : Stmt := top 19
abbrev s_need_names : Stmt := top 20
abbrev s_past : Stmt := top 21
abbrev s_are_apart : Stmt := top 22
abbrev s__law_draw : Stmt := top 24
abbrev s__law_pick : Stmt := top 25
abbrev s__law_heads : Stmt := top 26
abbrev s__law_thing : Stmt := top 27
abbrev s__law_history : Stmt := top 28
abbrev s__law_shuffled : Stmt := top 29
abbrev s_law : Stmt := top 30
abbrev Tab := Nat → Fn
abbrev TabL := LamId → Ev → Fn
abbrev i_is_whole : Nat := 0
abbrev i_is_word : Nat := 1
abbrev i_is_value : Nat := 2
abbrev i_is_name : Nat := 3
abbrev i_is_right : Nat := 4
abbrev i_is_on_entry : Nat := 5
abbrev i_is_what : Nat := 6
abbrev i_is_deed : Nat := 7
abbrev i_ordered : Nat := 8
abbrev i_pasts_of : Nat := 9
abbrev i_are_deeds : Nat := 10
abbrev i_need_deeds : Nat := 11
abbrev i_need_names : Nat := 12
abbrev i_past : Nat := 13
abbrev i_are_apart : Nat := 14
abbrev i__law_draw : Nat := 15
abbrev i__law_pick : Nat := 16
abbrev i__law_heads : Nat := 17
abbrev i__law_thing : Nat := 18
abbrev i__law_history : Nat := 19
abbrev i__law_shuffled : Nat := 20
abbrev i_law : Nat := 21
noncomputable def b_is_whole (Φ : Tab) : Sv := sRet (evAnd (evL isinstL (evCons (evVar 0) (evCons (evC (.ty "int")) (evNil)))) (evAnd (evNot (evL isinstL (evCons (evVar 0) (evCons (evC (.ty "bool")) (evNil))))) (evChain (cmpV .LtE) (cmpV .LtE) (evVar 1) (evVar 0) (evVar 2))))
noncomputable def b_is_word (Φ : Tab) : Sv := sRet (evAnd (evL isinstL (evCons (evVar 0) (evCons (evC (.ty "str")) (evNil)))) (evAnd (evChain (cmpV .LtE) (cmpV .LtE) (evC (.d (.int 1))) (evL lenL (evCons (evVar 0) (evNil))) (evC (.d (.int 8)))) (evL allL (evCons (evLC false (evIter (evVar 0)) (tgName 1) [1] (cYes) (ev2 (cmpV .In) (evVar 1) (evC (.d (.str "abcdefghijklmnopqrstuvwxyz"))))) (evNil)))))
noncomputable def b_is_value (Φ : Tab) : Sv := sRet (evAnd (evL isinstL (evCons (evVar 0) (evCons (evC (.ty "str")) (evNil)))) (evAnd (ev2 (cmpV .LtE) (evL lenL (evCons (evVar 0) (evNil))) (evC (.d (.int 12)))) (evL allL (evCons (evLC false (evIter (evVar 0)) (tgName 1) [1] (cYes) (ev2 (cmpV .In) (evVar 1) (ev2 addV (evC (.d (.str "abcdefghijklmnopqrstuvwxyz"))) (evC (.d (.str "0123456789")))))) (evNil)))))
noncomputable def b_is_name (Φ : Tab) : Sv := sRet (evAnd (evL isinstL (evCons (evVar 0) (evCons (evC (.ty "tuple")) (evNil)))) (evAnd (ev2 (cmpV .Eq) (evL lenL (evCons (evVar 0) (evNil))) (evC (.d (.int 2)))) (evAnd (evCall 1 (Φ i_is_word) (evCons (ev2 ixV (evVar 0) (evC (.d (.int 0)))) (evNil))) (evCall 3 (Φ i_is_whole) (evCons (ev2 ixV (evVar 0) (evC (.d (.int 1)))) (evCons (evC (.d (.int 1))) (evCons (evC (.d (.int 9999))) (evNil))))))))
noncomputable def b_is_right (Φ : Tab) : Sv := sRet (evAnd (evL isinstL (evCons (evVar 0) (evCons (evC (.ty "str")) (evNil)))) (ev2 (cmpV .In) (evVar 0) (evTup (evCons (evC (.d (.str "write"))) (evCons (evC (.d (.str "lead"))) (evNil))))))
noncomputable def b_is_on_entry (Φ : Tab) : Sv := sSeq (sPar [1, 2] (evCons (ev2 ixV (evVar 0) (evC (.d (.int 0)))) (evCons (evSl (evVar 0) (some (evC (.d (.int 3)))) none) (evNil)))) (sSeq (sIf (cOr (evB (ev2 (cmpV .Lt) (evL lenL (evCons (evVar 0) (evNil))) (evC (.d (.int 3))))) (cOr (cNot (evB (evCall 1 (Φ i_is_word) (evCons (ev2 ixV (evVar 0) (evC (.d (.int 1)))) (evNil))))) (cNot (evB (evCall 1 (Φ i_is_word) (evCons (ev2 ixV (evVar 0) (evC (.d (.int 2)))) (evNil))))))) (sRet (evC (.d (.bool false)))) (sNx)) (sSeq (sIf (evB (ev2 (cmpV .Eq) (evVar 1) (evC (.d (.str "drop"))))) (sRet (ev2 (cmpV .Eq) (evVar 2) (evTup (evNil)))) (sNx)) (sSeq (sIf (evB (ev2 (cmpV .Eq) (evVar 1) (evC (.d (.str "put"))))) (sRet (evAnd (ev2 (cmpV .Eq) (evL lenL (evCons (evVar 2) (evNil))) (evC (.d (.int 1)))) (evCall 1 (Φ i_is_value) (evCons (ev2 ixV (evVar 2) (evC (.d (.int 0)))) (evNil))))) (sNx)) (sSeq (sIf (evB (ev2 (cmpV .Eq) (evVar 1) (evC (.d (.str "add"))))) (sRet (evAnd (ev2 (cmpV .Eq) (evL lenL (evCons (evVar 2) (evNil))) (evC (.d (.int 1)))) (evCall 3 (Φ i_is_whole) (evCons (ev2 ixV (evVar 2) (evC (.d (.int 0)))) (evCons (ev2 subV (evC (.d (.int 0))) (evC (.d (.int 1000)))) (evCons (evC (.d (.int 1000))) (evNil))))))) (sNx)) (sSeq (sIf (evB (ev2 (cmpV .Eq) (evVar 1) (evC (.d (.str "strike"))))) (sRet (evAnd (ev2 (cmpV .Eq) (evL lenL (evCons (evVar 2) (evNil))) (evC (.d (.int 1)))) (evCall 1 (Φ i_is_name) (evCons (ev2 ixV (evVar 2) (evC (.d (.int 0)))) (evNil))))) (sNx)) (sRet (evAnd (ev2 (cmpV .Eq) (evL lenL (evCons (evVar 2) (evNil))) (evC (.d (.int 2)))) (evAnd (evOr (ev2 (cmpV .Is) (ev2 ixV (evVar 2) (evC (.d (.int 0)))) (evC (.d .none))) (evCall 1 (Φ i_is_name) (evCons (ev2 ixV (evVar 2) (evC (.d (.int 0)))) (evNil)))) (evCall 1 (Φ i_is_value) (evCons (ev2 ixV (evVar 2) (evC (.d (.int 1)))) (evNil)))))))))))
noncomputable def b_is_what (Φ : Tab) : Sv := sSeq (sIf (cOr (cNot (evB (evL isinstL (evCons (evVar 0) (evCons (evC (.ty "tuple")) (evNil)))))) (cOr (evB (ev2 (cmpV .Lt) (evL lenL (evCons (evVar 0) (evNil))) (evC (.d (.int 2))))) (cNot (evB (evL isinstL (evCons (ev2 ixV (evVar 0) (evC (.d (.int 0)))) (evCons (evC (.ty "str")) (evNil)))))))) (sRet (evC (.d (.bool false)))) (sNx)) (sSeq (sPar [1, 2] (evCons (ev2 ixV (evVar 0) (evC (.d (.int 0)))) (evCons (evL lenL (evCons (evVar 0) (evNil))) (evNil)))) (sSeq (sIf (evB (ev2 (cmpV .In) (evVar 1) (evTup (evCons (evC (.d (.str "put"))) (evCons (evC (.d (.str "drop"))) (evCons (evC (.d (.str "add"))) (evCons (evC (.d (.str "line"))) (evCons (evC (.d (.str "strike"))) (evNil))))))))) (sRet (evCall 1 (Φ i_is_on_entry) (evCons (evVar 0) (evNil)))) (sNx)) (sSeq (sIf (evB (ev2 (cmpV .Eq) (evVar 1) (evC (.d (.str "open"))))) (sRet (evAnd (ev2 (cmpV .Eq) (evVar 2) (evC (.d (.int 2)))) (evCall 1 (Φ i_is_word) (evCons (ev2 ixV (evVar 0) (evC (.d (.int 1)))) (evNil))))) (sNx)) (sSeq (sIf (evB (ev2 (cmpV .Eq) (evVar 1) (evC (.d (.str "give"))))) (sRet (evAnd (ev2 (cmpV .Eq) (evVar 2) (evC (.d (.int 4)))) (evAnd (evCall 1 (Φ i_is_word) (evCons (ev2 ixV (evVar 0) (evC (.d (.int 1)))) (evNil))) (evAnd (evCall 1 (Φ i_is_word) (evCons (ev2 ixV (evVar 0) (evC (.d (.int 2)))) (evNil))) (evCall 1 (Φ i_is_right) (evCons (ev2 ixV (evVar 0) (evC (.d (.int 3)))) (evNil))))))) (sNx)) (sSeq (sIf (evB (ev2 (cmpV .Eq) (evVar 1) (evC (.d (.str "call"))))) (sSeq (sIf (cOr (evB (ev2 (cmpV .NotEq) (evVar 2) (evC (.d (.int 5))))) (cOr (cNot (evB (evCall 1 (Φ i_is_word) (evCons (ev2 ixV (evVar 0) (evC (.d (.int 1)))) (evNil))))) (cOr (cNot (evB (evCall 1 (Φ i_is_word) (evCons (ev2 ixV (evVar 0) (evC (.d (.int 2)))) (evNil))))) (cNot (evB (evCall 1 (Φ i_is_right) (evCons (ev2 ixV (evVar 0) (evC (.d (.int 3)))) (evNil)))))))) (sRet (evC (.d (.bool false)))) (sNx)) (sRet (evL isinstL (evCons (ev2 ixV (evVar 0) (evC (.d (.int 4)))) (evCons (evC (.ty "bool")) (evNil)))))) (sNx)) (sSeq (sIf (evB (ev2 (cmpV .Eq) (evVar 1) (evC (.d (.str "ask"))))) (sRet (evAnd (ev2 (cmpV .Eq) (evVar 2) (evC (.d (.int 4)))) (evAnd (evCall 1 (Φ i_is_word) (evCons (ev2 ixV (evVar 0) (evC (.d (.int 1)))) (evNil))) (evAnd (evCall 1 (Φ i_is_value) (evCons (ev2 ixV (evVar 0) (evC (.d (.int 2)))) (evNil))) (evCall 1 (Φ i_is_word) (evCons (ev2 ixV (evVar 0) (evC (.d (.int 3)))) (evNil))))))) (sNx)) (sSeq (sIf (evB (ev2 (cmpV .In) (evVar 1) (evTup (evCons (evC (.d (.str "take"))) (evCons (evC (.d (.str "done"))) (evNil)))))) (sRet (evAnd (ev2 (cmpV .Eq) (evVar 2) (evC (.d (.int 2)))) (evCall 1 (Φ i_is_name) (evCons (ev2 ixV (evVar 0) (evC (.d (.int 1)))) (evNil))))) (sNx)) (sRet (evAnd (ev2 (cmpV .Eq) (evVar 1) (evC (.d (.str "pass")))) (evAnd (ev2 (cmpV .Eq) (evVar 2) (evC (.d (.int 3)))) (evAnd (evCall 1 (Φ i_is_name) (evCons (ev2 ixV (evVar 0) (evC (.d (.int 1)))) (evNil))) (evCall 1 (Φ i_is_word) (evCons (ev2 ixV (evVar 0) (evC (.d (.int 2)))) (evNil))))))))))))))
noncomputable def b_is_deed (Φ : Tab) : Sv := sSeq (sIf (cOr (cNot (evB (evL isinstL (evCons (evVar 0) (evCons (evC (.ty "tuple")) (evNil)))))) (cOr (evB (ev2 (cmpV .NotEq) (evL lenL (evCons (evVar 0) (evNil))) (evC (.d (.int 5))))) (cOr (cNot (evB (evCall 1 (Φ i_is_name) (evCons (evSl (evVar 0) none (some (evC (.d (.int 2))))) (evNil))))) (cNot (evB (evL isinstL (evCons (ev2 ixV (evVar 0) (evC (.d (.int 2)))) (evCons (evC (.ty "tuple")) (evNil))))))))) (sRet (evC (.d (.bool false)))) (sNx)) (sSeq (sIf (cOr (cNot (evB (evL allL (evCons (evLC false (evIter (ev2 ixV (evVar 0) (evC (.d (.int 2))))) (tgName 1) [1] (cYes) (evCall 1 (Φ i_is_name) (evCons (evVar 1) (evNil)))) (evNil))))) (cOr (cNot (evB (evCall 1 (Φ i_is_word) (evCons (ev2 ixV (evVar 0) (evC (.d (.int 3)))) (evNil))))) (cNot (evB (evCall 1 (Φ i_is_what) (evCons (ev2 ixV (evVar 0) (evC (.d (.int 4)))) (evNil))))))) (sRet (evC (.d (.bool false)))) (sNx)) (sRet (evL allL (evCons (evLC false (evZip (evCons (ev2 ixV (evVar 0) (evC (.d (.int 2)))) (evCons (evSl (ev2 ixV (evVar 0) (evC (.d (.int 2)))) (some (evC (.d (.int 1)))) none) (evNil)))) (tgTup [1, 2]) [1, 2] (cYes) (ev2 (cmpV .Lt) (evVar 1) (evVar 2))) (evNil)))))
noncomputable def b_ordered (lid : LamId) (mb : Ev) : Sv := sSeq (sSet (evDC true (evIter (evVar 0)) (tgName 5) [5] (cYes) (evSl (evVar 5) none (some (evC (.d (.int 2))))) (evVar 5)) (tgName 2)) (sSeq (sSet (evLst true (evNil)) (tgName 3)) (whGo (evB (evC (.d (.bool true)))) (sSeq (sSet (evLC false (evIter (evL sortedL (evCons (evVar 2) (evNil)))) (tgName 6) [6] (cNot (evB (evL anyL (evCons (evLC false (evIter (ev2 ixV (ev2 ixV (evVar 2) (evVar 6)) (evC (.d (.int 2))))) (tgName 7) [7] (cYes) (evOr (ev2 (cmpV .In) (evVar 7) (evVar 2)) (evNot (evLam 1 lid mb (evVar 7))))) (evNil))))) (evVar 6)) (tgName 4)) (sSeq (sSet (evLC false (evIter (evVar 4)) (tgName 6) [6] (evB (ev2 (cmpV .NotIn) (evTup (evCons (ev2 ixV (evVar 6) (evC (.d (.int 0)))) (evCons (ev2 subV (ev2 ixV (evVar 6) (evC (.d (.int 1)))) (evC (.d (.int 1)))) (evNil)))) (evVar 2))) (evVar 6)) (tgName 4)) (sSeq (sIf (evB (ev2 (cmpV .Eq) (evVar 4) (evLst false (evNil)))) (sRet (evVar 3)) (sNx)) (sDrop (evM "list" appM (evVar 3) (evCons (evM "dict" popD (evVar 2) (evCons (ev2 ixV (evVar 4) (evC (.d (.int 0)))) (evNil))) (evNil))))))) 100000))
noncomputable def b_pasts_of (Φ : Tab) : Sv := sSeq (sSet (evDisp true []) (tgName 1)) (sSeq (sFor (evIter (evVar 0)) (tgName 2) (sSeq (sSet (evDisp true []) (tgName 3)) (sSeq (sFor (evIter (ev2 ixV (evVar 2) (evC (.d (.int 2))))) (tgName 4) (sSeq (sSub (evC (.d (.bool true))) (evVar 3) (evVar 4)) (sDrop (evM "dict" updM (evVar 3) (evCons (evM "dict" getM2 (evVar 1) (evCons (evVar 4) (evCons (evDisp false []) (evNil)))) (evNil)))))) (sSub (evFrz (evVar 3)) (evVar 1) (evSl (evVar 2) none (some (evC (.d (.int 2))))))))) (sRet (evVar 1)))
noncomputable def b_are_deeds (Φ : Tab) (Ψ : TabL) : Sv := sSeq (sIf (cOr (cNot (evB (evL isinstL (evCons (evVar 0) (evCons (evC (.ty "list")) (evNil)))))) (cNot (evB (evL allL (evCons (evLC false (evIter (evVar 0)) (tgName 5) [5] (cYes) (evCall 1 (Φ i_is_deed) (evCons (evVar 5) (evNil)))) (evNil)))))) (sRet (evC (.d (.bool false)))) (sNx)) (sSeq (sSet (evDC false (evIter (evVar 0)) (tgName 4) [4] (cYes) (evSl (evVar 4) none (some (evC (.d (.int 2))))) (evC (.d (.bool true)))) (tgName 1)) (sSeq (sSet (evCallL ("are_deeds", none) "are_deeds.<locals>.<lambda>" [1] Ψ (ev2 (cmpV .In) (evVar 0) (evVar 1)) (evVar 0)) (tgName 2)) (sSeq (sIf (cOr (evB (ev2 (cmpV .Lt) (evL lenL (evCons (evVar 1) (evNil))) (evL lenL (evCons (evVar 0) (evNil))))) (evB (ev2 (cmpV .Lt) (evL lenL (evCons (evVar 2) (evNil))) (evL lenL (evCons (evVar 0) (evNil)))))) (sRet (evC (.d (.bool false)))) (sNx)) (sSeq (sSet (evCall 1 (Φ i_pasts_of) (evCons (evVar 2) (evNil))) (tgName 3)) (sSeq (sFor (evIter (evVar 2)) (tgName 4) (sSeq (sIf (evB (evL anyL (evCons (evLC2 false (evIter (ev2 ixV (evVar 4) (evC (.d (.int 2))))) (tgName 5) [5, 6] (cYes) (evIter (ev2 ixV (evVar 4) (evC (.d (.int 2))))) (tgName 6) [6] (cYes) (ev2 (cmpV .In) (evVar 5) (ev2 ixV (evVar 3) (evVar 6)))) (evNil)))) (sRet (evC (.d (.bool false)))) (sNx)) (sIf (cAnd (evB (ev2 (cmpV .Gt) (ev2 ixV (evVar 4) (evC (.d (.int 1)))) (evC (.d (.int 1))))) (evB (ev2 (cmpV .NotIn) (evTup (evCons (ev2 ixV (evVar 4) (evC (.d (.int 0)))) (evCons (ev2 subV (ev2 ixV (evVar 4) (evC (.d (.int 1)))) (evC (.d (.int 1)))) (evNil)))) (ev2 ixV (evVar 3) (evSl (evVar 4) none (some (evC (.d (.int 2))))))))) (sRet (evC (.d (.bool false)))) (sNx)))) (sRet (evC (.d (.bool true)))))))))
noncomputable def b_need_deeds (Φ : Tab) : Sv := sIf (cNot (evB (evCall 1 (Φ i_are_deeds) (evCons (evVar 0) (evNil))))) (sStuck) (sNx)
noncomputable def b_need_names (Φ : Tab) : Sv := sSeq (sSet (evLC false (evIter (evVar 0)) (tgName 3) [3] (cYes) (evSl (evVar 3) none (some (evC (.d (.int 2)))))) (tgName 2)) (sIf (cNot (evB (evL allL (evCons (evLC false (evIter (evVar 1)) (tgName 4) [4] (cYes) (evAnd (evCall 1 (Φ i_is_name) (evCons (evVar 4) (evNil))) (ev2 (cmpV .In) (evVar 4) (evVar 2)))) (evNil))))) (sStuck) (sNx))
noncomputable def b_past (Φ : Tab) (Ψ : TabL) : Sv := sSeq (sDrop (evCall 1 (Φ i_need_deeds) (evCons (evVar 0) (evNil)))) (sSeq (sDrop (evCall 2 (Φ i_need_names) (evCons (evVar 0) (evCons (evLst false (evCons (evVar 1) (evNil))) (evNil))))) (sRet (evL sortedL (evCons (ev2 ixV (evCall 1 (Φ i_pasts_of) (evCons (evCallL ("past", none) "past.<locals>.<lambda>" [] Ψ (evC (.d (.bool true))) (evVar 0)) (evNil))) (evVar 1)) (evNil)))))
noncomputable def b_are_apart (Φ : Tab) (Ψ : TabL) : Sv := sSeq (sDrop (evCall 1 (Φ i_need_deeds) (evCons (evVar 0) (evNil)))) (sSeq (sDrop (evCall 2 (Φ i_need_names) (evCons (evVar 0) (evCons (evLst false (evCons (evVar 1) (evCons (evVar 2) (evNil)))) (evNil))))) (sSeq (sSet (evCall 1 (Φ i_pasts_of) (evCons (evCallL ("are_apart", none) "are_apart.<locals>.<lambda>" [] Ψ (evC (.d (.bool true))) (evVar 0)) (evNil))) (tgName 3)) (sRet (evAnd (ev2 (cmpV .NotEq) (evVar 1) (evVar 2)) (evAnd (ev2 (cmpV .NotIn) (evVar 1) (ev2 ixV (evVar 3) (evVar 2))) (ev2 (cmpV .NotIn) (evVar 2) (ev2 ixV (evVar 3) (evVar 1))))))))
noncomputable def b__law_draw (Φ : Tab) : Sv := sSeq (sIf (evB (ev2 (cmpV .Gt) (ev2 ixV (evVar 1) (evC (.d (.int 1)))) (evC (.d (.int 0))))) (sSeq (sSet (ev2 modV (ev2 ixV (evVar 1) (evC (.d (.int 1)))) (evVar 2)) (tgName 3)) (sSeq (sSub (ev2 fdivV (ev2 ixV (evVar 1) (evC (.d (.int 1)))) (evVar 2)) (evVar 1) (evC (.d (.int 1)))) (sRet (evVar 3)))) (sNx)) (sSeq (sSet (ev2 ixV (evVar 1) (evC (.d (.int 0)))) (tgName 4)) (sSeq (sAugS (evVar 1) (evC (.d (.int 0))) (evC (.d (.int 1))) iaddV) (sSeq (sIf (evB (ev2 (cmpV .Eq) (evVar 0) (evLst false (evNil)))) (sRet (ev2 modV (evVar 4) (evVar 2))) (sNx)) (sSeq (sIf (cAnd (evB (ev2 (cmpV .Lt) (evVar 4) (evL lenL (evCons (evVar 0) (evNil))))) (evB (ev2 (cmpV .GtE) (ev2 ixV (evVar 0) (evVar 4)) (ev2 powV (evC (.d (.int 10))) (evC (.d (.int 18))))))) (sSeq (sSub (ev2 modV (ev2 fdivV (ev2 ixV (evVar 0) (evVar 4)) (evVar 2)) (ev2 mulV (ev2 powV (evC (.d (.int 10))) (evC (.d (.int 60)))) (ev2 powV (evC (.d (.int 10))) (evC (.d (.int 60)))))) (evVar 1) (evC (.d (.int 1)))) (sRet (ev2 modV (ev2 ixV (evVar 0) (evVar 4)) (evVar 2)))) (sNx)) (sSeq (sSet (ev2 modV (ev2 addV (ev2 addV (ev2 mulV (ev2 ixV (evVar 0) (ev2 modV (evVar 4) (evL lenL (evCons (evVar 0) (evNil))))) (evC (.d (.int 1103515245)))) (ev2 mulV (evC (.d (.int 7919))) (evVar 4))) (evC (.d (.int 12345)))) (evC (.d (.int 2147483647)))) (tgName 5)) (sRet (ev2 modV (ev2 modV (ev2 modV (ev2 powV (evVar 5) (evC (.d (.int 5)))) (evC (.d (.int 2147483647)))) (evC (.d (.int 999983)))) (evVar 2))))))))
noncomputable def b__law_pick (Φ : Tab) : Sv := sRet (ev2 ixV (evVar 2) (evCall 3 (Φ i__law_draw) (evCons (evVar 0) (evCons (evVar 1) (evCons (evL lenL (evCons (evVar 2) (evNil))) (evNil))))))
noncomputable def b__law_heads (Φ : Tab) : Sv := sRet (evL tupleL (evCons (evLC false (evIter (evL sortedL (evCons (evVar 0) (evNil)))) (tgName 2) [2] (cNot (evB (evL anyL (evCons (evLC false (evIter (evVar 0)) (tgName 3) [3] (cYes) (ev2 (cmpV .In) (evVar 2) (ev2 ixV (evVar 1) (evVar 3)))) (evNil))))) (evVar 2)) (evNil)))
noncomputable def b__law_thing (Φ : Tab) : Sv := sSeq (sSet (evLst true (evCons (evC (.d (.str "open"))) (evCons (evC (.d (.str "put"))) (evCons (evC (.d (.str "put"))) (evCons (evC (.d (.str "put"))) (evCons (evC (.d (.str "drop"))) (evCons (evC (.d (.str "add"))) (evCons (evC (.d (.str "line"))) (evCons (evC (.d (.str "line"))) (evCons (evC (.d (.str "strike"))) (evCons (evC (.d (.str "give"))) (evCons (evC (.d (.str "give"))) (evNil))))))))))))) (tgName 3)) (sSeq (sDrop (evM "list" extM (evVar 3) (evCons (evLst false (evCons (evC (.d (.str "call"))) (evCons (evC (.d (.str "call"))) (evNil)))) (evNil)))) (sSeq (sSet (evCall 3 (Φ i__law_pick) (evCons (evVar 0) (evCons (evVar 1) (evCons (ev2 addV (evVar 3) (evLst false (evCons (evC (.d (.str "ask"))) (evCons (evC (.d (.str "take"))) (evCons (evC (.d (.str "pass"))) (evCons (evC (.d (.str "done"))) (evNil))))))) (evNil))))) (tgName 4)) (sSeq (sPar [5, 6] (evCons (evCall 3 (Φ i__law_pick) (evCons (evVar 0) (evCons (evVar 1) (evCons (evLst false (evCons (evC (.d (.str "s"))) (evCons (evC (.d (.str "s"))) (evCons (evC (.d (.str "s"))) (evCons (evC (.d (.str "t"))) (evNil)))))) (evNil))))) (evCons (evCall 3 (Φ i__law_pick) (evCons (evVar 0) (evCons (evVar 1) (evCons (evLst false (evCons (evC (.d (.str "x"))) (evCons (evC (.d (.str "x"))) (evCons (evC (.d (.str "y"))) (evNil))))) (evNil))))) (evNil)))) (sSeq (sPar [7, 8] (evCons (evCall 3 (Φ i__law_pick) (evCons (evVar 0) (evCons (evVar 1) (evCons (evLst false (evCons (evC (.d (.str "ann"))) (evCons (evC (.d (.str "bob"))) (evCons (evC (.d (.str "cy"))) (evNil))))) (evNil))))) (evCons (evCall 3 (Φ i__law_pick) (evCons (evVar 0) (evCons (evVar 1) (evCons (evLst false (evCons (evC (.d (.str "write"))) (evCons (evC (.d (.str "lead"))) (evNil)))) (evNil))))) (evNil)))) (sSeq (sSet (evCall 3 (Φ i__law_pick) (evCons (evVar 0) (evCons (evVar 1) (evCons (evLst false (evCons (evC (.d (.str ""))) (evCons (evC (.d (.str "a1"))) (evCons (evC (.d (.str "b"))) (evCons (evC (.d (.str "c9"))) (evNil)))))) (evNil))))) (tgName 9)) (sSeq (sSet (evIf (evB (ev2 (cmpV .In) (evVar 4) (evTup (evCons (evC (.d (.str "line"))) (evCons (evC (.d (.str "strike"))) (evNil)))))) (evC (.d (.str "line"))) (evC (.d (.str "ask")))) (tgName 10)) (sSeq (sSet (evLC false (evIter (evVar 2)) (tgName 13) [13] (evB (ev2 (cmpV .Eq) (ev2 ixV (ev2 ixV (evVar 13) (evC (.d (.int 4)))) (evC (.d (.int 0)))) (evVar 10))) (evSl (evVar 13) none (some (evC (.d (.int 2)))))) (tgName 11)) (sSeq (sSet (evIf (evB (ev2 (cmpV .NotEq) (evVar 11) (evLst false (evNil)))) (evCall 3 (Φ i__law_pick) (evCons (evVar 0) (evCons (evVar 1) (evCons (evVar 11) (evNil))))) (evC (.d .none))) (tgName 12)) (sSeq (sIf (evB (ev2 (cmpV .Eq) (evVar 4) (evC (.d (.str "open"))))) (sRet (evTup (evCons (evVar 4) (evCons (evCall 3 (Φ i__law_pick) (evCons (evVar 0) (evCons (evVar 1) (evCons (evLst false (evCons (evC (.d (.str "s"))) (evCons (evC (.d (.str "t"))) (evCons (evC (.d (.str "u"))) (evNil))))) (evNil))))) (evNil))))) (sNx)) (sSeq (sIf (evB (ev2 (cmpV .Eq) (evVar 4) (evC (.d (.str "put"))))) (sRet (evTup (evCons (evVar 4) (evCons (evVar 5) (evCons (evVar 6) (evCons (evVar 9) (evNil))))))) (sNx)) (sSeq (sIf (evB (ev2 (cmpV .Eq) (evVar 4) (evC (.d (.str "drop"))))) (sRet (evTup (evCons (evVar 4) (evCons (evVar 5) (evCons (evVar 6) (evNil)))))) (sNx)) (sSeq (sIf (evB (ev2 (cmpV .Eq) (evVar 4) (evC (.d (.str "add"))))) (sRet (evTup (evCons (evVar 4) (evCons (evVar 5) (evCons (evVar 6) (evCons (ev2 subV (evCall 3 (Φ i__law_draw) (evCons (evVar 0) (evCons (evVar 1) (evCons (evC (.d (.int 40))) (evNil))))) (evC (.d (.int 20)))) (evNil))))))) (sNx)) (sSeq (sIf (evB (ev2 (cmpV .Eq) (evVar 4) (evC (.d (.str "line"))))) (sRet (evTup (evCons (evVar 4) (evCons (evVar 5) (evCons (evVar 6) (evCons (evIf (evB (ev2 (cmpV .Gt) (evCall 3 (Φ i__law_draw) (evCons (evVar 0) (evCons (evVar 1) (evCons (evC (.d (.int 3))) (evNil))))) (evC (.d (.int 0))))) (evVar 12) (evC (.d .none))) (evCons (evVar 9) (evNil)))))))) (sNx)) (sSeq (sIf (evB (ev2 (cmpV .Eq) (evVar 4) (evC (.d (.str "give"))))) (sRet (evTup (evCons (evVar 4) (evCons (evVar 5) (evCons (evVar 7) (evCons (evVar 8) (evNil))))))) (sNx)) (sSeq (sIf (evB (ev2 (cmpV .Eq) (evVar 4) (evC (.d (.str "call"))))) (sRet (evTup (evCons (evVar 4) (evCons (evVar 5) (evCons (evVar 7) (evCons (evVar 8) (evCons (ev2 (cmpV .Eq) (evCall 3 (Φ i__law_draw) (evCons (evVar 0) (evCons (evVar 1) (evCons (evC (.d (.int 2))) (evNil))))) (evC (.d (.int 0)))) (evNil)))))))) (sNx)) (sSeq (sIf (cOr (evB (ev2 (cmpV .Eq) (evVar 4) (evC (.d (.str "ask"))))) (evB (ev2 (cmpV .Is) (evVar 12) (evC (.d .none))))) (sRet (evTup (evCons (evC (.d (.str "ask"))) (evCons (evVar 5) (evCons (evVar 9) (evCons (evCall 3 (Φ i__law_pick) (evCons (evVar 0) (evCons (evVar 1) (evCons (evLst false (evCons (evC (.d (.str "ma"))) (evCons (evC (.d (.str "mb"))) (evCons (evC (.d (.str "mc"))) (evNil))))) (evNil))))) (evNil))))))) (sNx)) (sSeq (sIf (evB (ev2 (cmpV .Eq) (evVar 4) (evC (.d (.str "strike"))))) (sRet (evTup (evCons (evVar 4) (evCons (evVar 5) (evCons (evVar 6) (evCons (evVar 12) (evNil))))))) (sNx)) (sRet (evIf (evB (ev2 (cmpV .Eq) (evVar 4) (evC (.d (.str "pass"))))) (evTup (evCons (evVar 4) (evCons (evVar 12) (evCons (evCall 3 (Φ i__law_pick) (evCons (evVar 0) (evCons (evVar 1) (evCons (evLst false (evCons (evC (.d (.str "ma"))) (evCons (evC (.d (.str "mb"))) (evCons (evC (.d (.str "mc"))) (evNil))))) (evNil))))) (evNil))))) (evTup (evCons (evVar 4) (evCons (evVar 12) (evNil)))))))))))))))))))))))
noncomputable def b__law_history (Φ : Tab) : Sv := sSeq (sSet (evTup (evCons (evC (.d (.str "ma"))) (evCons (evC (.d (.int 1))) (evCons (evTup (evNil)) (evCons (evC (.d (.str "ann"))) (evCons (evTup (evCons (evC (.d (.str "open"))) (evCons (evC (.d (.str "s"))) (evNil)))) (evNil))))))) (tgName 3)) (sSeq (sPar [4, 5, 6] (evCons (evLst true (evCons (evVar 3) (evNil))) (evCons (evDisp true [(evTup (evCons (evC (.d (.str "ma"))) (evCons (evC (.d (.int 1))) (evNil))), evLst false (evNil))]) (evCons (evDisp true [(evC (.d (.str "ma")), evLst false (evCons (evTup (evCons (evC (.d (.str "ma"))) (evCons (evC (.d (.int 1))) (evNil)))) (evNil))), (evC (.d (.str "mb")), evLst false (evNil)), (evC (.d (.str "mc")), evLst false (evNil))]) (evNil))))) (sSeq (sFor (evRange (evCons (evVar 2) evNil)) (tgName 7) (sSeq (sSet (evCall 3 (Φ i__law_pick) (evCons (evVar 0) (evCons (evVar 1) (evCons (evLst false (evCons (evC (.d (.str "ma"))) (evCons (evC (.d (.str "mb"))) (evCons (evC (.d (.str "mc"))) (evNil))))) (evNil))))) (tgName 8)) (sSeq (sIf (cOr (evB (ev2 (cmpV .Eq) (evCall 3 (Φ i__law_draw) (evCons (evVar 0) (evCons (evVar 1) (evCons (evC (.d (.int 3))) (evNil))))) (evC (.d (.int 0))))) (evB (ev2 (cmpV .Eq) (ev2 ixV (evVar 6) (evVar 8)) (evLst false (evNil))))) (sSeq (sSet (evCall 3 (Φ i__law_pick) (evCons (evVar 0) (evCons (evVar 1) (evCons (evLst false (evCons (evC (.d (.str "ma"))) (evCons (evC (.d (.str "ma"))) (evCons (evC (.d (.str "mb"))) (evCons (evC (.d (.str "mc"))) (evNil)))))) (evNil))))) (tgName 9)) (sSub (evL setSortL (evCons (ev2 addV (ev2 ixV (evVar 6) (evVar 8)) (ev2 ixV (evVar 6) (evVar 9))) (evNil))) (evVar 6) (evVar 8))) (sNx)) (sSeq (sSet (evLC false (evIter (evVar 4)) (tgName 15) [15] (evB (ev2 (cmpV .In) (evSl (evVar 15) none (some (evC (.d (.int 2))))) (ev2 ixV (evVar 6) (evVar 8)))) (evVar 15)) (tgName 10)) (sIf (evB (ev2 (cmpV .NotEq) (evVar 10) (evLst false (evNil)))) (sSeq (sSet (ev2 addV (evC (.d (.int 1))) (evL lenL (evCons (evLC false (evIter (ev2 ixV (evVar 6) (evVar 8))) (tgName 16) [16] (evB (ev2 (cmpV .Eq) (ev2 ixV (evVar 16) (evC (.d (.int 0)))) (evVar 8))) (evVar 16)) (evNil)))) (tgName 11)) (sSeq (sSet (evCall 3 (Φ i__law_pick) (evCons (evVar 0) (evCons (evVar 1) (evCons (evLst false (evCons (evC (.d (.str "ann"))) (evCons (evC (.d (.str "ann"))) (evCons (evC (.d (.str "bob"))) (evCons (evC (.d (.str "cy"))) (evNil)))))) (evNil))))) (tgName 12)) (sSeq (sPar [13, 14] (evCons (evCall 2 (Φ i__law_heads) (evCons (ev2 ixV (evVar 6) (evVar 8)) (evCons (evVar 5) (evNil)))) (evCons (evCall 3 (Φ i__law_thing) (evCons (evVar 0) (evCons (evVar 1) (evCons (evVar 10) (evNil))))) (evNil)))) (sSeq (sDrop (evM "list" appM (evVar 4) (evCons (evTup (evCons (evVar 8) (evCons (evVar 11) (evCons (evVar 13) (evCons (evVar 12) (evCons (evVar 14) (evNil))))))) (evNil)))) (sSeq (sSub (evL listL (evCons (ev2 ixV (evVar 6) (evVar 8)) (evNil))) (evVar 5) (evTup (evCons (evVar 8) (evCons (evVar 11) (evNil))))) (sSub (evL sortedL (evCons (ev2 addV (ev2 ixV (evVar 6) (evVar 8)) (evLst false (evCons (evTup (evCons (evVar 8) (evCons (evVar 11) (evNil)))) (evNil)))) (evNil))) (evVar 6) (evVar 8))))))) (sNx)))))) (sRet (evTup (evCons (evVar 4) (evCons (evVar 5) (evCons (evVar 6) (evNil))))))))
noncomputable def b__law_shuffled (Φ : Tab) : Sv := sSeq (sPar [3, 4] (evCons (evL listO (evCons (evVar 2) (evNil))) (evCons (evLst true (evNil)) (evNil)))) (sSeq (whGo (evB (ev2 (cmpV .NotEq) (evVar 3) (evLst false (evNil)))) (sDrop (evM "list" appM (evVar 4) (evCons (evM "list" popL (evVar 3) (evCons (evCall 3 (Φ i__law_draw) (evCons (evVar 0) (evCons (evVar 1) (evCons (evL lenL (evCons (evVar 3) (evNil))) (evNil))))) (evNil))) (evNil)))) 100000) (sRet (evVar 4)))
noncomputable def b_law (Φ : Tab) : Sv := sSeq (sSet (evLst true (evCons (evC (.d (.int 0))) (evCons (evC (.d (.int 0))) (evNil)))) (tgName 1)) (sSeq (sSet (evCall 3 (Φ i__law_history) (evCons (evVar 0) (evCons (evVar 1) (evCons (evC (.d (.int 12))) (evNil))))) (tgTup [2, 3, 4])) (sSeq (sSet (evCall 3 (Φ i__law_shuffled) (evCons (evVar 0) (evCons (evVar 1) (evCons (evVar 2) (evNil))))) (tgName 5)) (sSeq (sIf (cOr (evB (ev2 (cmpV .IsNot) (evCall 1 (Φ i_are_deeds) (evCons (evVar 5) (evNil))) (evC (.d (.bool true))))) (evB (ev2 (cmpV .IsNot) (evCall 1 (Φ i_are_deeds) (evCons (ev2 addV (evVar 5) (evLst false (evCons (ev2 ixV (evVar 2) (evC (.d (.int 0)))) (evNil)))) (evNil))) (evC (.d (.bool false)))))) (sRet (evC (.d (.bool false)))) (sNx)) (sSeq (sFor (evIter (evVar 3)) (tgName 6) (sIf (evB (ev2 (cmpV .NotEq) (evCall 2 (Φ i_past) (evCons (evVar 5) (evCons (evVar 6) (evNil)))) (evL sortedL (evCons (ev2 ixV (evVar 3) (evVar 6)) (evNil))))) (sRet (evC (.d (.bool false)))) (sNx))) (sSeq (sSet (evL sortedL (evCons (evVar 3) (evNil))) (tgName 7)) (sSeq (sPar [8, 9] (evCons (evCall 3 (Φ i__law_pick) (evCons (evVar 0) (evCons (evVar 1) (evCons (evVar 7) (evNil))))) (evCons (evCall 3 (Φ i__law_pick) (evCons (evVar 0) (evCons (evVar 1) (evCons (evVar 7) (evNil))))) (evNil)))) (sSeq (sSet (evAnd (ev2 (cmpV .NotEq) (evVar 8) (evVar 9)) (evAnd (ev2 (cmpV .NotIn) (evVar 8) (ev2 ixV (evVar 3) (evVar 9))) (ev2 (cmpV .NotIn) (evVar 9) (ev2 ixV (evVar 3) (evVar 8))))) (tgName 10)) (sSeq (sIf (evB (ev2 (cmpV .NotEq) (evCall 3 (Φ i_are_apart) (evCons (evVar 5) (evCons (evVar 8) (evCons (evVar 9) (evNil))))) (evVar 10))) (sRet (evC (.d (.bool false)))) (sNx)) (sSeq (sSet (evCall 3 (Φ i__law_pick) (evCons (evVar 0) (evCons (evVar 1) (evCons (evVar 2) (evNil))))) (tgName 11)) (sSeq (sIf (evB (ev2 (cmpV .NotEq) (evCall 1 (Φ i_are_deeds) (evCons (evLC false (evIter (evVar 5)) (tgName 13) [13] (evB (ev2 (cmpV .NotEq) (evVar 13) (evVar 11))) (evVar 13)) (evNil))) (evNot (evL anyL (evCons (evLC false (evIter (evVar 7)) (tgName 6) [6] (cYes) (ev2 (cmpV .In) (evSl (evVar 11) none (some (evC (.d (.int 2))))) (ev2 ixV (evVar 3) (evVar 6)))) (evNil)))))) (sRet (evC (.d (.bool false)))) (sNx)) (sSeq (sSet (evLC false (evIter (evVar 2)) (tgName 13) [13] (evB (ev2 (cmpV .Gt) (evL lenL (evCons (ev2 ixV (evVar 3) (evSl (evVar 13) none (some (evC (.d (.int 2)))))) (evNil))) (evC (.d (.int 1))))) (evVar 13)) (tgName 12)) (sSeq (sIf (evB (ev2 (cmpV .Eq) (evVar 12) (evLst false (evNil)))) (sRet (ev2 (cmpV .Is) (evCall 1 (Φ i_are_deeds) (evCons (ev2 addV (evVar 2) (evLst false (evCons (evVar 11) (evNil)))) (evNil))) (evC (.d (.bool false))))) (sNx)) (sSeq (sSet (evCall 3 (Φ i__law_pick) (evCons (evVar 0) (evCons (evVar 1) (evCons (evVar 12) (evNil))))) (tgName 13)) (sSeq (sSet (evLC false (evIter (ev2 ixV (evVar 3) (evSl (evVar 13) none (some (evC (.d (.int 2))))))) (tgName 6) [6] (evB (ev2 (cmpV .NotIn) (evVar 6) (ev2 ixV (evVar 13) (evC (.d (.int 2)))))) (evVar 6)) (tgName 14)) (sSeq (sIf (evB (ev2 (cmpV .Eq) (evVar 14) (evLst false (evNil)))) (sRet (evC (.d (.bool true)))) (sNx)) (sSeq (sSet (evL tupleL (evCons (evL sortedL (evCons (ev2 addV (ev2 ixV (evVar 13) (evC (.d (.int 2)))) (evTup (evCons (evCall 3 (Φ i__law_pick) (evCons (evVar 0) (evCons (evVar 1) (evCons (evVar 14) (evNil))))) (evNil)))) (evNil))) (evNil))) (tgName 15)) (sRet (ev2 (cmpV .Is) (evCall 1 (Φ i_are_deeds) (evCons (evLC false (evIter (evVar 2)) (tgName 8) [8] (cYes) (evIf (evB (ev2 (cmpV .NotEq) (evVar 8) (evVar 13))) (evVar 8) (ev2 addV (ev2 addV (evSl (evVar 13) none (some (evC (.d (.int 2))))) (evTup (evCons (evVar 15) (evNil)))) (evSl (evVar 13) (some (evC (.d (.int 3)))) none)))) (evNil))) (evC (.d (.bool false)))))))))))))))))))))
noncomputable def step (Φ : Tab) (Ψ : TabL) : Tab := fun i => match i with
  | 0 => fnB false 3 (b_is_whole Φ)
  | 1 => fnB false 2 (b_is_word Φ)
  | 2 => fnB false 2 (b_is_value Φ)
  | 3 => fnB false 1 (b_is_name Φ)
  | 4 => fnB false 1 (b_is_right Φ)
  | 5 => fnB false 3 (b_is_on_entry Φ)
  | 6 => fnB false 3 (b_is_what Φ)
  | 7 => fnB false 3 (b_is_deed Φ)
  | 9 => fnB false 5 (b_pasts_of Φ)
  | 10 => fnB false 7 (b_are_deeds Φ Ψ)
  | 11 => fnB false 1 (b_need_deeds Φ)
  | 12 => fnB false 5 (b_need_names Φ)
  | 13 => fnB false 2 (b_past Φ Ψ)
  | 14 => fnB false 4 (b_are_apart Φ Ψ)
  | 15 => fnB false 6 (b__law_draw Φ)
  | 16 => fnB false 3 (b__law_pick Φ)
  | 17 => fnB false 4 (b__law_heads Φ)
  | 18 => fnB false 14 (b__law_thing Φ)
  | 19 => fnB false 17 (b__law_history Φ)
  | 20 => fnB false 5 (b__law_shuffled Φ)
  | 21 => fnB false 16 (b_law Φ)
  | _ => fun _ _ => .stuck
noncomputable def tabL : Nat → TabL
  | 0 => fun _ _ _ _ => .stuck
  | k + 1 => fun lid mb => fnB false 8 (b_ordered lid (lamM k mb))
noncomputable def tab : Nat → Tab
  | 0 => fun _ _ _ => .stuck
  | k + 1 => step (tab k) (tabL k)
structure Tx (K : PySem.W.Frag) (mg : Str → Option Value) : Prop where
  n_all : mg "all" = none
  n_any : mg "any" = none
  n_bool : mg "bool" = none
  n_int : mg "int" = none
  n_isinstance : mg "isinstance" = none
  n_len : mg "len" = none
  n_list : mg "list" = none
  n_range : mg "range" = none
  n_set : mg "set" = none
  n_sorted : mg "sorted" = none
  n_str : mg "str" = none
  n_tuple : mg "tuple" = none
  n_zip : mg "zip" = none
  c_LETTERS : ∃ t, mg "LETTERS" = some (.str "abcdefghijklmnopqrstuvwxyz" t)
  c_FIGURES : ∃ t, mg "FIGURES" = some (.str "0123456789" t)
  c_MOST : ∃ t, mg "MOST" = some (.int 9999 t)
  g_is_whole : mg "is_whole" = some (.ref (He.ga K "is_whole"))
  g_is_word : mg "is_word" = some (.ref (He.ga K "is_word"))
  g_is_value : mg "is_value" = some (.ref (He.ga K "is_value"))
  g_is_name : mg "is_name" = some (.ref (He.ga K "is_name"))
  g_is_right : mg "is_right" = some (.ref (He.ga K "is_right"))
  g_is_on_entry : mg "is_on_entry" = some (.ref (He.ga K "is_on_entry"))
  g_is_what : mg "is_what" = some (.ref (He.ga K "is_what"))
  g_is_deed : mg "is_deed" = some (.ref (He.ga K "is_deed"))
  g_ordered : mg "ordered" = some (.ref (He.ga K "ordered"))
  g_pasts_of : mg "pasts_of" = some (.ref (He.ga K "pasts_of"))
  g_are_deeds : mg "are_deeds" = some (.ref (He.ga K "are_deeds"))
  g_need_deeds : mg "need_deeds" = some (.ref (He.ga K "need_deeds"))
  g_need_names : mg "need_names" = some (.ref (He.ga K "need_names"))
  g_past : mg "past" = some (.ref (He.ga K "past"))
  g_are_apart : mg "are_apart" = some (.ref (He.ga K "are_apart"))
  g__law_draw : mg "_law_draw" = some (.ref (He.ga K "_law_draw"))
  g__law_pick : mg "_law_pick" = some (.ref (He.ga K "_law_pick"))
  g__law_heads : mg "_law_heads" = some (.ref (He.ga K "_law_heads"))
  g__law_thing : mg "_law_thing" = some (.ref (He.ga K "_law_thing"))
  g__law_history : mg "_law_history" = some (.ref (He.ga K "_law_history"))
  g__law_shuffled : mg "_law_shuffled" = some (.ref (He.ga K "_law_shuffled"))
  g_law : mg "law" = some (.ref (He.ga K "law"))
  d_is_whole : ∃ fd, FunD K "is_whole" "is_whole" (defArgs s_is_whole) (defBody s_is_whole) (defScope s_is_whole) [] [] (He.ga K "is_whole") fd
  d_is_word : ∃ fd, FunD K "is_word" "is_word" (defArgs s_is_word) (defBody s_is_word) (defScope s_is_word) [] [] (He.ga K "is_word") fd
  d_is_value : ∃ fd, FunD K "is_value" "is_value" (defArgs s_is_value) (defBody s_is_value) (defScope s_is_value) [] [] (He.ga K "is_value") fd
  d_is_name : ∃ fd, FunD K "is_name" "is_name" (defArgs s_is_name) (defBody s_is_name) (defScope s_is_name) [] [] (He.ga K "is_name") fd
  d_is_right : ∃ fd, FunD K "is_right" "is_right" (defArgs s_is_right) (defBody s_is_right) (defScope s_is_right) [] [] (He.ga K "is_right") fd
  d_is_on_entry : ∃ fd, FunD K "is_on_entry" "is_on_entry" (defArgs s_is_on_entry) (defBody s_is_on_entry) (defScope s_is_on_entry) [] [] (He.ga K "is_on_entry") fd
  d_is_what : ∃ fd, FunD K "is_what" "is_what" (defArgs s_is_what) (defBody s_is_what) (defScope s_is_what) [] [] (He.ga K "is_what") fd
  d_is_deed : ∃ fd, FunD K "is_deed" "is_deed" (defArgs s_is_deed) (defBody s_is_deed) (defScope s_is_deed) [] [] (He.ga K "is_deed") fd
  d_ordered : ∃ fd, FunD K "ordered" "ordered" (defArgs s_ordered) (defBody s_ordered) (defScope s_ordered) [] [] (He.ga K "ordered") fd
  d_pasts_of : ∃ fd, FunD K "pasts_of" "pasts_of" (defArgs s_pasts_of) (defBody s_pasts_of) (defScope s_pasts_of) [] [] (He.ga K "pasts_of") fd
  d_are_deeds : ∃ fd, FunD K "are_deeds" "are_deeds" (defArgs s_are_deeds) (defBody s_are_deeds) (defScope s_are_deeds) [] [] (He.ga K "are_deeds") fd
  d_need_deeds : ∃ fd, FunD K "need_deeds" "need_deeds" (defArgs s_need_deeds) (defBody s_need_deeds) (defScope s_need_deeds) [] [] (He.ga K "need_deeds") fd
  d_need_names : ∃ fd, FunD K "need_names" "need_names" (defArgs s_need_names) (defBody s_need_names) (defScope s_need_names) [] [] (He.ga K "need_names") fd
  d_past : ∃ fd, FunD K "past" "past" (defArgs s_past) (defBody s_past) (defScope s_past) [] [] (He.ga K "past") fd
  d_are_apart : ∃ fd, FunD K "are_apart" "are_apart" (defArgs s_are_apart) (defBody s_are_apart) (defScope s_are_apart) [] [] (He.ga K "are_apart") fd
  d__law_draw : ∃ fd, FunD K "_law_draw" "_law_draw" (defArgs s__law_draw) (defBody s__law_draw) (defScope s__law_draw) [] [] (He.ga K "_law_draw") fd
  d__law_pick : ∃ fd, FunD K "_law_pick" "_law_pick" (defArgs s__law_pick) (defBody s__law_pick) (defScope s__law_pick) [] [] (He.ga K "_law_pick") fd
  d__law_heads : ∃ fd, FunD K "_law_heads" "_law_heads" (defArgs s__law_heads) (defBody s__law_heads) (defScope s__law_heads) [] [] (He.ga K "_law_heads") fd
  d__law_thing : ∃ fd, FunD K "_law_thing" "_law_thing" (defArgs s__law_thing) (defBody s__law_thing) (defScope s__law_thing) [] [] (He.ga K "_law_thing") fd
  d__law_history : ∃ fd, FunD K "_law_history" "_law_history" (defArgs s__law_history) (defBody s__law_history) (defScope s__law_history) [] [] (He.ga K "_law_history") fd
  d__law_shuffled : ∃ fd, FunD K "_law_shuffled" "_law_shuffled" (defArgs s__law_shuffled) (defBody s__law_shuffled) (defScope s__law_shuffled) [] [] (He.ga K "_law_shuffled") fd
  d_law : ∃ fd, FunD K "law" "law" (defArgs s_law) (defBody s_law) (defScope s_law) [] [] (He.ga K "law") fd
structure Tb (K : PySem.W.Frag) (mg : Str → Option Value) (base : Heap) : Prop where
  t_are_deeds : LamX.TabB base mg (He.cT K ("are_deeds", none)).1 (He.cT K ("are_deeds", none)).2
  t_past : LamX.TabB base mg (He.cT K ("past", none)).1 (He.cT K ("past", none)).2
  t_are_apart : LamX.TabB base mg (He.cT K ("are_apart", none)).1 (He.cT K ("are_apart", none)).2
structure Lv (P : Program) (w : World) (K : PySem.W.Frag) (mg : Str → Option Value) (base : Heap) (k : Nat) (Φ : Tab) (Ψ : TabL) : Prop where
  f_is_whole : FnK P w K mg base k "is_whole" ["thing", "least", "most"] (Φ i_is_whole)
  f_is_word : FnK P w K mg base k "is_word" ["thing"] (Φ i_is_word)
  f_is_value : FnK P w K mg base k "is_value" ["thing"] (Φ i_is_value)
  f_is_name : FnK P w K mg base k "is_name" ["thing"] (Φ i_is_name)
  f_is_right : FnK P w K mg base k "is_right" ["thing"] (Φ i_is_right)
  f_is_on_entry : FnK P w K mg base k "is_on_entry" ["thing"] (Φ i_is_on_entry)
  f_is_what : FnK P w K mg base k "is_what" ["thing"] (Φ i_is_what)
  f_is_deed : FnK P w K mg base k "is_deed" ["thing"] (Φ i_is_deed)
  f_ordered : FnL P w K mg k "ordered" ["deeds", "met"] Ψ
  f_pasts_of : FnK P w K mg base k "pasts_of" ["deeds"] (Φ i_pasts_of)
  f_are_deeds : FnK P w K mg base k "are_deeds" ["thing"] (Φ i_are_deeds)
  f_need_deeds : FnK P w K mg base k "need_deeds" ["thing"] (Φ i_need_deeds)
  f_need_names : FnK P w K mg base k "need_names" ["deeds", "names"] (Φ i_need_names)
  f_past : FnK P w K mg base k "past" ["deeds", "name"] (Φ i_past)
  f_are_apart : FnK P w K mg base k "are_apart" ["deeds", "name", "other"] (Φ i_are_apart)
  f__law_draw : FnK P w K mg base k "_law_draw" ["script", "town", "many"] (Φ i__law_draw)
  f__law_pick : FnK P w K mg base k "_law_pick" ["script", "town", "some"] (Φ i__law_pick)
  f__law_heads : FnK P w K mg base k "_law_heads" ["met", "pasts"] (Φ i__law_heads)
  f__law_thing : FnK P w K mg base k "_law_thing" ["script", "town", "deeds"] (Φ i__law_thing)
  f__law_history : FnK P w K mg base k "_law_history" ["script", "town", "many"] (Φ i__law_history)
  f__law_shuffled : FnK P w K mg base k "_law_shuffled" ["script", "town", "some"] (Φ i__law_shuffled)
  f_law : FnK P w K mg base k "law" ["script"] (Φ i_law)
section
variable {P : Program} {w : World} {K : PySem.W.Frag} {mg : Str → Option Value} {base : Heap} {k : Nat} {Φ : Tab} {Ψ : TabL}
theorem sc_is_whole : FnScope ["thing", "least", "most"] ["thing", "least", "most"] (defScope s_is_whole) := ⟨rfl, rfl, rfl, by decide +kernel, rfl, by decide +kernel, by decide +kernel⟩
theorem bi_is_whole {fd : FuncData} (F : FunD K "is_whole" "is_whole" (defArgs s_is_whole) (defBody s_is_whole) (defScope s_is_whole) [] [] (He.ga K "is_whole") fd) : Binds K fd ["thing", "least", "most"] [] := F.bindsN fun _ _ _ _ _ _ us hl => match us, hl with | [_, _, _], _ => rfl
theorem k_is_whole (T : Tx K mg) (B : Tb K mg base) (L : Lv P w K mg base k Φ Ψ) : FnK P w K mg base (k + 1) "is_whole" ["thing", "least", "most"] (fnB false 3 (b_is_whole Φ)) := by
  obtain ⟨fd, F⟩ := T.d_is_whole
  refine fnK_of (N := ["thing", "least", "most"]) T.g_is_whole F sc_is_whole (bi_is_whole F) fun cdv A outer s H E hr => ?_
  have hu := hu_room hr
  have nd : (["thing", "least", "most"] : List Str).Nodup := sc_is_whole.nd
  exact pds_one (pds_ret (pd_and (gB cr_isinst T.n_isinstance (gA (gv 0) (gA (gTy T.n_int) (gA0)))) (pd_and (pd_not (gB cr_isinst T.n_isinstance (gA (gv 0) (gA (gTy T.n_bool) (gA0))))) (pd_one (gChain hu (gv 1) (gv 0) (gv 2))))))
theorem sc_is_word : FnScope ["thing", "sign"] ["thing"] (defScope s_is_word) := ⟨rfl, rfl, rfl, by decide +kernel, rfl, by decide +kernel, by decide +kernel⟩
theorem bi_is_word {fd : FuncData} (F : FunD K "is_word" "is_word" (defArgs s_is_word) (defBody s_is_word) (defScope s_is_word) [] [] (He.ga K "is_word") fd) : Binds K fd ["thing"] [] := F.bindsN fun _ _ _ _ _ _ us hl => match us, hl with | [_], _ => rfl
theorem k_is_word (T : Tx K mg) (B : Tb K mg base) (L : Lv P w K mg base k Φ Ψ) : FnK P w K mg base (k + 1) "is_word" ["thing"] (fnB false 2 (b_is_word Φ)) := by
  obtain ⟨fd, F⟩ := T.d_is_word
  refine fnK_of (N := ["thing", "sign"]) T.g_is_word F sc_is_word (bi_is_word F) fun cdv A outer s H E hr => ?_
  have hu := hu_room hr
  have nd : (["thing", "sign"] : List Str).Nodup := sc_is_word.nd
  exact pds_one (pds_ret (pd_and (gB cr_isinst T.n_isinstance (gA (gv 0) (gA (gTy T.n_str) (gA0)))) (pd_and (gChain hu (pd_int) (gB cr_len T.n_len (gA (gv 0) (gA0))) (pd_int)) (pd_one (gB (cr_all_ rfl) T.n_all (gA (gLC [("sign", 1)] nd (pid_seq (gv 0)) (fun _ _ _ _ _ => tgN 1 nd) (fun _ _ _ _ _ => pts_yes) (fun _ _ _ _ _ => gCmp hu (gv 1) (gStr T.c_LETTERS))) (gA0)))))))
theorem sc_is_value : FnScope ["thing", "sign"] ["thing"] (defScope s_is_value) := ⟨rfl, rfl, rfl, by decide +kernel, rfl, by decide +kernel, by decide +kernel⟩
theorem bi_is_value {fd : FuncData} (F : FunD K "is_value" "is_value" (defArgs s_is_value) (defBody s_is_value) (defScope s_is_value) [] [] (He.ga K "is_value") fd) : Binds K fd ["thing"] [] := F.bindsN fun _ _ _ _ _ _ us hl => match us, hl with | [_], _ => rfl
theorem k_is_value (T : Tx K mg) (B : Tb K mg base) (L : Lv P w K mg base k Φ Ψ) : FnK P w K mg base (k + 1) "is_value" ["thing"] (fnB false 2 (b_is_value Φ)) := by
  obtain ⟨fd, F⟩ := T.d_is_value
  refine fnK_of (N := ["thing", "sign"]) T.g_is_value F sc_is_value (bi_is_value F) fun cdv A outer s H E hr => ?_
  have hu := hu_room hr
  have nd : (["thing", "sign"] : List Str).Nodup := sc_is_value.nd
  exact pds_one (pds_ret (pd_and (gB cr_isinst T.n_isinstance (gA (gv 0) (gA (gTy T.n_str) (gA0)))) (pd_and (gCmp hu (gB cr_len T.n_len (gA (gv 0) (gA0))) (pd_int)) (pd_one (gB (cr_all_ rfl) T.n_all (gA (gLC [("sign", 1)] nd (pid_seq (gv 0)) (fun _ _ _ _ _ => tgN 1 nd) (fun _ _ _ _ _ => pts_yes) (fun _ _ _ _ _ => gCmp hu (gv 1) (pd_op or_add (gStr T.c_LETTERS) (gStr T.c_FIGURES)))) (gA0)))))))
theorem sc_is_name : FnScope ["thing"] ["thing"] (defScope s_is_name) := ⟨rfl, rfl, rfl, by decide +kernel, rfl, by decide +kernel, by decide +kernel⟩
theorem bi_is_name {fd : FuncData} (F : FunD K "is_name" "is_name" (defArgs s_is_name) (defBody s_is_name) (defScope s_is_name) [] [] (He.ga K "is_name") fd) : Binds K fd ["thing"] [] := F.bindsN fun _ _ _ _ _ _ us hl => match us, hl with | [_], _ => rfl
theorem k_is_name (T : Tx K mg) (B : Tb K mg base) (L : Lv P w K mg base k Φ Ψ) : FnK P w K mg base (k + 1) "is_name" ["thing"] (fnB false 1 (b_is_name Φ)) := by
  obtain ⟨fd, F⟩ := T.d_is_name
  refine fnK_of (N := ["thing"]) T.g_is_name F sc_is_name (bi_is_name F) fun cdv A outer s H E hr => ?_
  have hu := hu_room hr
  have nd : (["thing"] : List Str).Nodup := sc_is_name.nd
  exact pds_one (pds_ret (pd_and (gB cr_isinst T.n_isinstance (gA (gv 0) (gA (gTy T.n_tuple) (gA0)))) (pd_and (gCmp hu (gB cr_len T.n_len (gA (gv 0) (gA0))) (pd_int)) (pd_and (gC L.f_is_word hr (gA (gIx hu (gv 0) (pd_int)) (gA0))) (pd_one (gC L.f_is_whole hr (gA (gIx hu (gv 0) (pd_int)) (gA (pd_int) (gA (gInt T.c_MOST) (gA0))))))))))
theorem sc_is_right : FnScope ["thing"] ["thing"] (defScope s_is_right) := ⟨rfl, rfl, rfl, by decide +kernel, rfl, by decide +kernel, by decide +kernel⟩
theorem bi_is_right {fd : FuncData} (F : FunD K "is_right" "is_right" (defArgs s_is_right) (defBody s_is_right) (defScope s_is_right) [] [] (He.ga K "is_right") fd) : Binds K fd ["thing"] [] := F.bindsN fun _ _ _ _ _ _ us hl => match us, hl with | [_], _ => rfl
theorem k_is_right (T : Tx K mg) (B : Tb K mg base) (L : Lv P w K mg base k Φ Ψ) : FnK P w K mg base (k + 1) "is_right" ["thing"] (fnB false 1 (b_is_right Φ)) := by
  obtain ⟨fd, F⟩ := T.d_is_right
  refine fnK_of (N := ["thing"]) T.g_is_right F sc_is_right (bi_is_right F) fun cdv A outer s H E hr => ?_
  have hu := hu_room hr
  have nd : (["thing"] : List Str).Nodup := sc_is_right.nd
  exact pds_one (pds_ret (pd_and (gB cr_isinst T.n_isinstance (gA (gv 0) (gA (gTy T.n_str) (gA0)))) (pd_one (gCmp hu (gv 0) (pd_tup (gA (pd_str) (gA (pd_str) (gA0))))))))
theorem sc_is_on_entry : FnScope ["thing", "word", "rest"] ["thing"] (defScope s_is_on_entry) := ⟨rfl, rfl, rfl, by decide +kernel, rfl, by decide +kernel, by decide +kernel⟩
theorem bi_is_on_entry {fd : FuncData} (F : FunD K "is_on_entry" "is_on_entry" (defArgs s_is_on_entry) (defBody s_is_on_entry) (defScope s_is_on_entry) [] [] (He.ga K "is_on_entry") fd) : Binds K fd ["thing"] [] := F.bindsN fun _ _ _ _ _ _ us hl => match us, hl with | [_], _ => rfl
theorem k_is_on_entry (T : Tx K mg) (B : Tb K mg base) (L : Lv P w K mg base k Φ Ψ) : FnK P w K mg base (k + 1) "is_on_entry" ["thing"] (fnB false 3 (b_is_on_entry Φ)) := by
  obtain ⟨fd, F⟩ := T.d_is_on_entry
  refine fnK_of (N := ["thing", "word", "rest"]) T.g_is_on_entry F sc_is_on_entry (bi_is_on_entry F) fun cdv A outer s H E hr => ?_
  have hu := hu_room hr
  have nd : (["thing", "word", "rest"] : List Str).Nodup := sc_is_on_entry.nd
  exact pds_cons (sPar2 nd (gA (gIx hu (gv 0) (pd_int)) (gA (pd_slice (gv 0) (po_some_ (pd_int)) po_none_) (gA0)))) (pds_cons (pds_if (pdt_w (pdw_or (tCmp_ hu (gB cr_len T.n_len (gA (gv 0) (gA0))) (pd_int)) (pdw_or (pdt_not (tVal (gC L.f_is_word hr (gA (gIx hu (gv 0) (pd_int)) (gA0))))) (pdw_or1 (pdt_not (tVal (gC L.f_is_word hr (gA (gIx hu (gv 0) (pd_int)) (gA0))))))))) (pds_one (pds_ret (pd_bl))) (pds_nil)) (pds_cons (pds_if (tCmp_ hu (gv 1) (pd_str)) (pds_one (pds_ret (gCmp hu (gv 2) (pd_tup (gA0))))) (pds_nil)) (pds_cons (pds_if (tCmp_ hu (gv 1) (pd_str)) (pds_one (pds_ret (pd_and (gCmp hu (gB cr_len T.n_len (gA (gv 2) (gA0))) (pd_int)) (pd_one (gC L.f_is_value hr (gA (gIx hu (gv 2) (pd_int)) (gA0))))))) (pds_nil)) (pds_cons (pds_if (tCmp_ hu (gv 1) (pd_str)) (pds_one (pds_ret (pd_and (gCmp hu (gB cr_len T.n_len (gA (gv 2) (gA0))) (pd_int)) (pd_one (gC L.f_is_whole hr (gA (gIx hu (gv 2) (pd_int)) (gA (pd_op or_sub (pd_int) (pd_int)) (gA (pd_int) (gA0))))))))) (pds_nil)) (pds_cons (pds_if (tCmp_ hu (gv 1) (pd_str)) (pds_one (pds_ret (pd_and (gCmp hu (gB cr_len T.n_len (gA (gv 2) (gA0))) (pd_int)) (pd_one (gC L.f_is_name hr (gA (gIx hu (gv 2) (pd_int)) (gA0))))))) (pds_nil)) (pds_one (pds_ret (pd_and (gCmp hu (gB cr_len T.n_len (gA (gv 2) (gA0))) (pd_int)) (pd_and (pd_or (gCmp hu (gIx hu (gv 2) (pd_int)) (pd_non)) (pd_one (gC L.f_is_name hr (gA (gIx hu (gv 2) (pd_int)) (gA0))))) (pd_one (gC L.f_is_value hr (gA (gIx hu (gv 2) (pd_int)) (gA0)))))))))))))
theorem sc_is_what : FnScope ["thing", "word", "many"] ["thing"] (defScope s_is_what) := ⟨rfl, rfl, rfl, by decide +kernel, rfl, by decide +kernel, by decide +kernel⟩
theorem bi_is_what {fd : FuncData} (F : FunD K "is_what" "is_what" (defArgs s_is_what) (defBody s_is_what) (defScope s_is_what) [] [] (He.ga K "is_what") fd) : Binds K fd ["thing"] [] := F.bindsN fun _ _ _ _ _ _ us hl => match us, hl with | [_], _ => rfl
theorem k_is_what (T : Tx K mg) (B : Tb K mg base) (L : Lv P w K mg base k Φ Ψ) : FnK P w K mg base (k + 1) "is_what" ["thing"] (fnB false 3 (b_is_what Φ)) := by
  obtain ⟨fd, F⟩ := T.d_is_what
  refine fnK_of (N := ["thing", "word", "many"]) T.g_is_what F sc_is_what (bi_is_what F) fun cdv A outer s H E hr => ?_
  have hu := hu_room hr
  have nd : (["thing", "word", "many"] : List Str).Nodup := sc_is_what.nd
  exact pds_cons (pds_if (pdt_w (pdw_or (pdt_not (tVal (gB cr_isinst T.n_isinstance (gA (gv 0) (gA (gTy T.n_tuple) (gA0)))))) (pdw_or (tCmp_ hu (gB cr_len T.n_len (gA (gv 0) (gA0))) (pd_int)) (pdw_or1 (pdt_not (tVal (gB cr_isinst T.n_isinstance (gA (gIx hu (gv 0) (pd_int)) (gA (gTy T.n_str) (gA0)))))))))) (pds_one (pds_ret (pd_bl))) (pds_nil)) (pds_cons (sPar2 nd (gA (gIx hu (gv 0) (pd_int)) (gA (gB cr_len T.n_len (gA (gv 0) (gA0))) (gA0)))) (pds_cons (pds_if (tCmp_ hu (gv 1) (pd_tup (gA (pd_str) (gA (pd_str) (gA (pd_str) (gA (pd_str) (gA (pd_str) (gA0)))))))) (pds_one (pds_ret (gC L.f_is_on_entry hr (gA (gv 0) (gA0))))) (pds_nil)) (pds_cons (pds_if (tCmp_ hu (gv 1) (pd_str)) (pds_one (pds_ret (pd_and (gCmp hu (gv 2) (pd_int)) (pd_one (gC L.f_is_word hr (gA (gIx hu (gv 0) (pd_int)) (gA0))))))) (pds_nil)) (pds_cons (pds_if (tCmp_ hu (gv 1) (pd_str)) (pds_one (pds_ret (pd_and (gCmp hu (gv 2) (pd_int)) (pd_and (gC L.f_is_word hr (gA (gIx hu (gv 0) (pd_int)) (gA0))) (pd_and (gC L.f_is_word hr (gA (gIx hu (gv 0) (pd_int)) (gA0))) (pd_one (gC L.f_is_right hr (gA (gIx hu (gv 0) (pd_int)) (gA0))))))))) (pds_nil)) (pds_cons (pds_if (tCmp_ hu (gv 1) (pd_str)) (pds_cons (pds_if (pdt_w (pdw_or (tCmp_ hu (gv 2) (pd_int)) (pdw_or (pdt_not (tVal (gC L.f_is_word hr (gA (gIx hu (gv 0) (pd_int)) (gA0))))) (pdw_or (pdt_not (tVal (gC L.f_is_word hr (gA (gIx hu (gv 0) (pd_int)) (gA0))))) (pdw_or1 (pdt_not (tVal (gC L.f_is_right hr (gA (gIx hu (gv 0) (pd_int)) (gA0)))))))))) (pds_one (pds_ret (pd_bl))) (pds_nil)) (pds_one (pds_ret (gB cr_isinst T.n_isinstance (gA (gIx hu (gv 0) (pd_int)) (gA (gTy T.n_bool) (gA0))))))) (pds_nil)) (pds_cons (pds_if (tCmp_ hu (gv 1) (pd_str)) (pds_one (pds_ret (pd_and (gCmp hu (gv 2) (pd_int)) (pd_and (gC L.f_is_word hr (gA (gIx hu (gv 0) (pd_int)) (gA0))) (pd_and (gC L.f_is_value hr (gA (gIx hu (gv 0) (pd_int)) (gA0))) (pd_one (gC L.f_is_word hr (gA (gIx hu (gv 0) (pd_int)) (gA0))))))))) (pds_nil)) (pds_cons (pds_if (tCmp_ hu (gv 1) (pd_tup (gA (pd_str) (gA (pd_str) (gA0))))) (pds_one (pds_ret (pd_and (gCmp hu (gv 2) (pd_int)) (pd_one (gC L.f_is_name hr (gA (gIx hu (gv 0) (pd_int)) (gA0))))))) (pds_nil)) (pds_one (pds_ret (pd_and (gCmp hu (gv 1) (pd_str)) (pd_and (gCmp hu (gv 2) (pd_int)) (pd_and (gC L.f_is_name hr (gA (gIx hu (gv 0) (pd_int)) (gA0))) (pd_one (gC L.f_is_word hr (gA (gIx hu (gv 0) (pd_int)) (gA0))))))))))))))))
theorem sc_is_deed : FnScope ["thing", "one", "other"] ["thing"] (defScope s_is_deed) := ⟨rfl, rfl, rfl, by decide +kernel, rfl, by decide +kernel, by decide +kernel⟩
theorem bi_is_deed {fd : FuncData} (F : FunD K "is_deed" "is_deed" (defArgs s_is_deed) (defBody s_is_deed) (defScope s_is_deed) [] [] (He.ga K "is_deed") fd) : Binds K fd ["thing"] [] := F.bindsN fun _ _ _ _ _ _ us hl => match us, hl with | [_], _ => rfl
theorem k_is_deed (T : Tx K mg) (B : Tb K mg base) (L : Lv P w K mg base k Φ Ψ) : FnK P w K mg base (k + 1) "is_deed" ["thing"] (fnB false 3 (b_is_deed Φ)) := by
  obtain ⟨fd, F⟩ := T.d_is_deed
  refine fnK_of (N := ["thing", "one", "other"]) T.g_is_deed F sc_is_deed (bi_is_deed F) fun cdv A outer s H E hr => ?_
  have hu := hu_room hr
  have nd : (["thing", "one", "other"] : List Str).Nodup := sc_is_deed.nd
  exact pds_cons (pds_if (pdt_w (pdw_or (pdt_not (tVal (gB cr_isinst T.n_isinstance (gA (gv 0) (gA (gTy T.n_tuple) (gA0)))))) (pdw_or (tCmp_ hu (gB cr_len T.n_len (gA (gv 0) (gA0))) (pd_int)) (pdw_or (pdt_not (tVal (gC L.f_is_name hr (gA (pd_slice (gv 0) po_none_ (po_some_ (pd_int))) (gA0))))) (pdw_or1 (pdt_not (tVal (gB cr_isinst T.n_isinstance (gA (gIx hu (gv 0) (pd_int)) (gA (gTy T.n_tuple) (gA0))))))))))) (pds_one (pds_ret (pd_bl))) (pds_nil)) (pds_cons (pds_if (pdt_w (pdw_or (pdt_not (tVal (gB (cr_all_ rfl) T.n_all (gA (gLC [("one", 1)] nd (pid_seq (gIx hu (gv 0) (pd_int))) (fun _ _ _ _ _ => tgN 1 nd) (fun _ _ _ _ _ => pts_yes) (fun _ _ _ _ _ => gC L.f_is_name hr (gA (gv 1) (gA0)))) (gA0))))) (pdw_or (pdt_not (tVal (gC L.f_is_word hr (gA (gIx hu (gv 0) (pd_int)) (gA0))))) (pdw_or1 (pdt_not (tVal (gC L.f_is_what hr (gA (gIx hu (gv 0) (pd_int)) (gA0))))))))) (pds_one (pds_ret (pd_bl))) (pds_nil)) (pds_one (pds_ret (gB (cr_all_ rfl) T.n_all (gA (gLC [("one", 1), ("other", 2)] nd (gZip T.n_zip (gA (gIx hu (gv 0) (pd_int)) (gA (pd_slice (gIx hu (gv 0) (pd_int)) (po_some_ (pd_int)) po_none_) (gA0)))) (fun _ _ _ _ _ => tgT (tgs 1 nd (tgs 2 nd (tgs0)))) (fun _ _ _ _ _ => pts_yes) (fun _ _ _ _ _ => gCmp hu (gv 1) (gv 2))) (gA0))))))
theorem sc_ordered : FnScope ["deeds", "met", "left", "made", "free", "deed", "name", "one"] ["deeds", "met"] (defScope s_ordered) := ⟨rfl, rfl, rfl, by decide +kernel, rfl, by decide +kernel, by decide +kernel⟩
theorem bi_ordered {fd : FuncData} (F : FunD K "ordered" "ordered" (defArgs s_ordered) (defBody s_ordered) (defScope s_ordered) [] [] (He.ga K "ordered") fd) : Binds K fd ["deeds", "met"] [] := F.bindsN fun _ _ _ _ _ _ us hl => match us, hl with | [_, _], _ => rfl
theorem k_ordered (T : Tx K mg) : FnL P w K mg (k + 1) "ordered" ["deeds", "met"] (fun lid mb => fnB false 8 (b_ordered lid (lamM k mb))) := by
  obtain ⟨fd, F⟩ := T.d_ordered
  refine ⟨⟨T.g_ordered, F.kp⟩, fun base lid mb FL => ?_⟩
  refine fnK_of (N := ["deeds", "met", "left", "made", "free", "deed", "name", "one"]) T.g_ordered F sc_ordered (bi_ordered F) fun cdv A outer s H E hr => ?_
  have hu := hu_room hr
  have nd : (["deeds", "met", "left", "made", "free", "deed", "name", "one"] : List Str).Nodup := sc_ordered.nd
  exact pds_cons (sSetN nd (gDC [("deed", 5)] hu nd (pid_seq (gv 0)) (fun _ _ _ _ _ => tgN 5 nd) (fun _ _ _ _ _ => pts_yes) (fun _ _ _ _ _ => pd_slice (gv 5) po_none_ (po_some_ (pd_int))) (fun _ _ _ _ _ => gv 5))) (pds_cons (sSetN nd (pd_lst (gA0))) (pds_one (sWhileN (tVal (pd_bl)) (pds_cons (sSetLC 4 [("name", 6)] nd (pid_seq (gB (cr_sorted hu rfl) T.n_sorted (gA (gv 2) (gA0)))) (fun _ _ _ _ _ => tgN 6 nd) (fun _ _ _ _ _ => pts_c (pdt_not (tVal (gB (cr_any_ rfl) T.n_any (gA (gLC [("one", 7)] nd (pid_seq (gIx hu (gIx hu (gv 2) (gv 6)) (pd_int))) (fun _ _ _ _ _ => tgN 7 nd) (fun _ _ _ _ _ => pts_yes) (fun _ _ _ _ _ => pd_or (gCmp hu (gv 7) (gv 2)) (pd_one (pd_not (gLam 1 FL hr (gv 7)))))) (gA0)))))) (fun _ _ _ _ _ => gv 6)) (pds_cons (sSetLC 4 [("name", 6)] nd (pid_seq (gv 4)) (fun _ _ _ _ _ => tgN 6 nd) (fun _ _ _ _ _ => pts_c (tCmp_ hu (pd_tup (gA (gIx hu (gv 6) (pd_int)) (gA (pd_op or_sub (gIx hu (gv 6) (pd_int)) (pd_int)) (gA0)))) (gv 2))) (fun _ _ _ _ _ => gv 6)) (pds_cons (pds_if (tCmp_ hu (gv 4) (pd_lst (gA0))) (pds_one (pds_ret (gv 3))) (pds_nil)) (pds_one (sExp (gM PySem.F.plainAttrs_list PySem.F.slot_list_append PySem.F.type_list_append mt_app (gv 3) (gA (gM PySem.F.plainAttrs_dict PySem.F.slot_dict_pop PySem.F.type_dict_pop (mt_popD hu) (gv 2) (gA (gIx hu (gv 4) (pd_int)) (gA0))) (gA0)))))))))))
theorem sc_pasts_of : FnScope ["deeds", "made", "deed", "names", "one"] ["deeds"] (defScope s_pasts_of) := ⟨rfl, rfl, rfl, by decide +kernel, rfl, by decide +kernel, by decide +kernel⟩
theorem bi_pasts_of {fd : FuncData} (F : FunD K "pasts_of" "pasts_of" (defArgs s_pasts_of) (defBody s_pasts_of) (defScope s_pasts_of) [] [] (He.ga K "pasts_of") fd) : Binds K fd ["deeds"] [] := F.bindsN fun _ _ _ _ _ _ us hl => match us, hl with | [_], _ => rfl
theorem k_pasts_of (T : Tx K mg) (B : Tb K mg base) (L : Lv P w K mg base k Φ Ψ) : FnK P w K mg base (k + 1) "pasts_of" ["deeds"] (fnB false 5 (b_pasts_of Φ)) := by
  obtain ⟨fd, F⟩ := T.d_pasts_of
  refine fnK_of (N := ["deeds", "made", "deed", "names", "one"]) T.g_pasts_of F sc_pasts_of (bi_pasts_of F) fun cdv A outer s H E hr => ?_
  have hu := hu_room hr
  have nd : (["deeds", "made", "deed", "names", "one"] : List Str).Nodup := sc_pasts_of.nd
  exact pds_cons (sSetN nd (pd_disp0)) (pds_cons (sForN (pid_seq (gv 0)) (tgN 2 nd) (pds_cons (sSetN nd (pd_disp0)) (pds_cons (sForN (pid_seq (gIx hu (gv 2) (pd_int))) (tgN 4 nd) (pds_cons (sSubI hu (gv 3) (gv 4) (pd_bl)) (pds_one (sExp (gM PySem.F.plainAttrs_dict PySem.F.slot_dict_update PySem.F.type_dict_update (mt_updD hu) (gv 3) (gA (gM PySem.F.plainAttrs_dict PySem.F.slot_dict_get PySem.F.type_dict_get (mt_getD hu) (gv 1) (gA (gv 4) (gA (pd_disp0) (gA0)))) (gA0))))))) (pds_one (sSubI hu (gv 1) (pd_slice (gv 2) po_none_ (po_some_ (pd_int))) (gFrz (gv 3))))))) (pds_one (pds_ret (gv 1))))
theorem sc_are_deeds : FnScope ["thing", "names", "row", "pasts", "deed", "one", "other"] ["thing"] (defScope s_are_deeds) := ⟨rfl, rfl, rfl, by decide +kernel, rfl, by decide +kernel, by decide +kernel⟩
theorem bi_are_deeds {fd : FuncData} (F : FunD K "are_deeds" "are_deeds" (defArgs s_are_deeds) (defBody s_are_deeds) (defScope s_are_deeds) [] [] (He.ga K "are_deeds") fd) : Binds K fd ["thing"] [] := F.bindsN fun _ _ _ _ _ _ us hl => match us, hl with | [_], _ => rfl
theorem k_are_deeds (T : Tx K mg) (B : Tb K mg base) (L : Lv P w K mg base k Φ Ψ) : FnK P w K mg base (k + 1) "are_deeds" ["thing"] (fnB false 7 (b_are_deeds Φ Ψ)) := by
  obtain ⟨fd, F⟩ := T.d_are_deeds
  refine fnK_ofC (N := ["thing", "names", "row", "pasts", "deed", "one", "other"]) T.g_are_deeds F sc_are_deeds (bi_are_deeds F) fun cdv A outer s H E hcd hr => ?_
  have hu := hu_room hr
  have nd : (["thing", "names", "row", "pasts", "deed", "one", "other"] : List Str).Nodup := sc_are_deeds.nd
  exact pds_cons (pds_if (pdt_w (pdw_or (pdt_not (tVal (gB cr_isinst T.n_isinstance (gA (gv 0) (gA (gTy T.n_list) (gA0)))))) (pdw_or1 (pdt_not (tVal (gB (cr_all_ rfl) T.n_all (gA (gLC [("one", 5)] nd (pid_seq (gv 0)) (fun _ _ _ _ _ => tgN 5 nd) (fun _ _ _ _ _ => pts_yes) (fun _ _ _ _ _ => gC L.f_is_deed hr (gA (gv 5) (gA0)))) (gA0)))))))) (pds_one (pds_ret (pd_bl))) (pds_nil)) (pds_cons (sSetN nd (gDC [("deed", 4)] hu nd (pid_seq (gv 0)) (fun _ _ _ _ _ => tgN 4 nd) (fun _ _ _ _ _ => pts_yes) (fun _ _ _ _ _ => pd_slice (gv 4) po_none_ (po_some_ (pd_int))) (fun _ _ _ _ _ => pd_bl))) (pds_cons (sSetN nd (gCL "name" ["names"] L.f_ordered hr B.t_are_deeds (gv 0) hcd (fun _ _ _ _ _ _ _ _ _ hr => have hu := hu_room hr; gCmp hu (gv 0) (gv 1)))) (pds_cons (pds_if (pdt_w (pdw_or (tCmp_ hu (gB cr_len T.n_len (gA (gv 1) (gA0))) (gB cr_len T.n_len (gA (gv 0) (gA0)))) (pdw_or1 (tCmp_ hu (gB cr_len T.n_len (gA (gv 2) (gA0))) (gB cr_len T.n_len (gA (gv 0) (gA0))))))) (pds_one (pds_ret (pd_bl))) (pds_nil)) (pds_cons (sSetN nd (gC L.f_pasts_of hr (gA (gv 2) (gA0)))) (pds_cons (sForN (pid_seq (gv 2)) (tgN 4 nd) (pds_cons (pds_if (tVal (gB (cr_any_ rfl) T.n_any (gA (gLC2 [("one", 5), ("other", 6)] nd (pid_seq (gIx hu (gv 4) (pd_int))) (fun _ _ _ _ _ => tgN 5 nd) (fun _ _ _ _ _ => pts_yes) (fun _ _ _ _ _ => pid_seq (gIx hu (gv 4) (pd_int))) (fun _ _ _ _ _ => tgN 6 nd) (fun _ _ _ _ _ => pts_yes) (fun _ _ _ _ _ => gCmp hu (gv 5) (gIx hu (gv 3) (gv 6)))) (gA0)))) (pds_one (pds_ret (pd_bl))) (pds_nil)) (pds_one (pds_if (pdt_w (pdw_and (tCmp_ hu (gIx hu (gv 4) (pd_int)) (pd_int)) (pdw_and1 (tCmp_ hu (pd_tup (gA (gIx hu (gv 4) (pd_int)) (gA (pd_op or_sub (gIx hu (gv 4) (pd_int)) (pd_int)) (gA0)))) (gIx hu (gv 3) (pd_slice (gv 4) po_none_ (po_some_ (pd_int)))))))) (pds_one (pds_ret (pd_bl))) (pds_nil))))) (pds_one (pds_ret (pd_bl))))))))
theorem sc_need_deeds : FnScope ["thing"] ["thing"] (defScope s_need_deeds) := ⟨rfl, rfl, rfl, by decide +kernel, rfl, by decide +kernel, by decide +kernel⟩
theorem bi_need_deeds {fd : FuncData} (F : FunD K "need_deeds" "need_deeds" (defArgs s_need_deeds) (defBody s_need_deeds) (defScope s_need_deeds) [] [] (He.ga K "need_deeds") fd) : Binds K fd ["thing"] [] := F.bindsN fun _ _ _ _ _ _ us hl => match us, hl with | [_], _ => rfl
theorem k_need_deeds (T : Tx K mg) (B : Tb K mg base) (L : Lv P w K mg base k Φ Ψ) : FnK P w K mg base (k + 1) "need_deeds" ["thing"] (fnB false 1 (b_need_deeds Φ)) := by
  obtain ⟨fd, F⟩ := T.d_need_deeds
  refine fnK_of (N := ["thing"]) T.g_need_deeds F sc_need_deeds (bi_need_deeds F) fun cdv A outer s H E hr => ?_
  have hu := hu_room hr
  have nd : (["thing"] : List Str).Nodup := sc_need_deeds.nd
  exact pds_one (pds_if (pdt_not (tVal (gC L.f_are_deeds hr (gA (gv 0) (gA0))))) (pds_one (pds_stuck)) (pds_nil))
theorem sc_need_names : FnScope ["deeds", "names", "book", "deed", "name"] ["deeds", "names"] (defScope s_need_names) := ⟨rfl, rfl, rfl, by decide +kernel, rfl, by decide +kernel, by decide +kernel⟩
theorem bi_need_names {fd : FuncData} (F : FunD K "need_names" "need_names" (defArgs s_need_names) (defBody s_need_names) (defScope s_need_names) [] [] (He.ga K "need_names") fd) : Binds K fd ["deeds", "names"] [] := F.bindsN fun _ _ _ _ _ _ us hl => match us, hl with | [_, _], _ => rfl
theorem k_need_names (T : Tx K mg) (B : Tb K mg base) (L : Lv P w K mg base k Φ Ψ) : FnK P w K mg base (k + 1) "need_names" ["deeds", "names"] (fnB false 5 (b_need_names Φ)) := by
  obtain ⟨fd, F⟩ := T.d_need_names
  refine fnK_of (N := ["deeds", "names", "book", "deed", "name"]) T.g_need_names F sc_need_names (bi_need_names F) fun cdv A outer s H E hr => ?_
  have hu := hu_room hr
  have nd : (["deeds", "names", "book", "deed", "name"] : List Str).Nodup := sc_need_names.nd
  exact pds_cons (sSetN nd (gLC [("deed", 3)] nd (pid_seq (gv 0)) (fun _ _ _ _ _ => tgN 3 nd) (fun _ _ _ _ _ => pts_yes) (fun _ _ _ _ _ => pd_slice (gv 3) po_none_ (po_some_ (pd_int))))) (pds_one (pds_if (pdt_not (tVal (gB (cr_all_ rfl) T.n_all (gA (gLC [("name", 4)] nd (pid_seq (gv 1)) (fun _ _ _ _ _ => tgN 4 nd) (fun _ _ _ _ _ => pts_yes) (fun _ _ _ _ _ => pd_and (gC L.f_is_name hr (gA (gv 4) (gA0))) (pd_one (gCmp hu (gv 4) (gv 2))))) (gA0))))) (pds_one (pds_stuck)) (pds_nil)))
theorem sc_past : FnScope ["deeds", "name"] ["deeds", "name"] (defScope s_past) := ⟨rfl, rfl, rfl, by decide +kernel, rfl, by decide +kernel, by decide +kernel⟩
theorem bi_past {fd : FuncData} (F : FunD K "past" "past" (defArgs s_past) (defBody s_past) (defScope s_past) [] [] (He.ga K "past") fd) : Binds K fd ["deeds", "name"] [] := F.bindsN fun _ _ _ _ _ _ us hl => match us, hl with | [_, _], _ => rfl
theorem k_past (T : Tx K mg) (B : Tb K mg base) (L : Lv P w K mg base k Φ Ψ) : FnK P w K mg base (k + 1) "past" ["deeds", "name"] (fnB false 2 (b_past Φ Ψ)) := by
  obtain ⟨fd, F⟩ := T.d_past
  refine fnK_ofC (N := ["deeds", "name"]) T.g_past F sc_past (bi_past F) fun cdv A outer s H E hcd hr => ?_
  have hu := hu_room hr
  have nd : (["deeds", "name"] : List Str).Nodup := sc_past.nd
  exact pds_cons (sExp (gC L.f_need_deeds hr (gA (gv 0) (gA0)))) (pds_cons (sExp (gC L.f_need_names hr (gA (gv 0) (gA (pd_lst (gA (gv 1) (gA0))) (gA0))))) (pds_one (pds_ret (gB (cr_sorted hu rfl) T.n_sorted (gA (gIx hu (gC L.f_pasts_of hr (gA (gCL "one" [] L.f_ordered hr B.t_past (gv 0) hcd (fun _ _ _ _ _ _ _ _ _ hr => have hu := hu_room hr; pd_bl)) (gA0))) (gv 1)) (gA0))))))
theorem sc_are_apart : FnScope ["deeds", "name", "other", "pasts"] ["deeds", "name", "other"] (defScope s_are_apart) := ⟨rfl, rfl, rfl, by decide +kernel, rfl, by decide +kernel, by decide +kernel⟩
theorem bi_are_apart {fd : FuncData} (F : FunD K "are_apart" "are_apart" (defArgs s_are_apart) (defBody s_are_apart) (defScope s_are_apart) [] [] (He.ga K "are_apart") fd) : Binds K fd ["deeds", "name", "other"] [] := F.bindsN fun _ _ _ _ _ _ us hl => match us, hl with | [_, _, _], _ => rfl
theorem k_are_apart (T : Tx K mg) (B : Tb K mg base) (L : Lv P w K mg base k Φ Ψ) : FnK P w K mg base (k + 1) "are_apart" ["deeds", "name", "other"] (fnB false 4 (b_are_apart Φ Ψ)) := by
  obtain ⟨fd, F⟩ := T.d_are_apart
  refine fnK_ofC (N := ["deeds", "name", "other", "pasts"]) T.g_are_apart F sc_are_apart (bi_are_apart F) fun cdv A outer s H E hcd hr => ?_
  have hu := hu_room hr
  have nd : (["deeds", "name", "other", "pasts"] : List Str).Nodup := sc_are_apart.nd
  exact pds_cons (sExp (gC L.f_need_deeds hr (gA (gv 0) (gA0)))) (pds_cons (sExp (gC L.f_need_names hr (gA (gv 0) (gA (pd_lst (gA (gv 1) (gA (gv 2) (gA0)))) (gA0))))) (pds_cons (sSetN nd (gC L.f_pasts_of hr (gA (gCL "one" [] L.f_ordered hr B.t_are_apart (gv 0) hcd (fun _ _ _ _ _ _ _ _ _ hr => have hu := hu_room hr; pd_bl)) (gA0)))) (pds_one (pds_ret (pd_and (gCmp hu (gv 1) (gv 2)) (pd_and (gCmp hu (gv 1) (gIx hu (gv 3) (gv 2))) (pd_one (gCmp hu (gv 2) (gIx hu (gv 3) (gv 1))))))))))
theorem sc__law_draw : FnScope ["script", "town", "many", "one", "at", "mixed"] ["script", "town", "many"] (defScope s__law_draw) := ⟨rfl, rfl, rfl, by decide +kernel, rfl, by decide +kernel, by decide +kernel⟩
theorem bi__law_draw {fd : FuncData} (F : FunD K "_law_draw" "_law_draw" (defArgs s__law_draw) (defBody s__law_draw) (defScope s__law_draw) [] [] (He.ga K "_law_draw") fd) : Binds K fd ["script", "town", "many"] [] := F.bindsN fun _ _ _ _ _ _ us hl => match us, hl with | [_, _, _], _ => rfl
theorem k__law_draw (T : Tx K mg) (B : Tb K mg base) (L : Lv P w K mg base k Φ Ψ) : FnK P w K mg base (k + 1) "_law_draw" ["script", "town", "many"] (fnB false 6 (b__law_draw Φ)) := by
  obtain ⟨fd, F⟩ := T.d__law_draw
  refine fnK_of (N := ["script", "town", "many", "one", "at", "mixed"]) T.g__law_draw F sc__law_draw (bi__law_draw F) fun cdv A outer s H E hr => ?_
  have hu := hu_room hr
  have nd : (["script", "town", "many", "one", "at", "mixed"] : List Str).Nodup := sc__law_draw.nd
  exact pds_cons (pds_if (tCmp_ hu (gIx hu (gv 1) (pd_int)) (pd_int)) (pds_cons (sSetN nd (pd_op or_mod (gIx hu (gv 1) (pd_int)) (gv 2))) (pds_cons (sSubI hu (gv 1) (pd_int) (pd_op or_fdiv (gIx hu (gv 1) (pd_int)) (gv 2))) (pds_one (pds_ret (gv 3))))) (pds_nil)) (pds_cons (sSetN nd (gIx hu (gv 1) (pd_int))) (pds_cons (sAugI hu (gv 1) (pd_int) (pd_int)) (pds_cons (pds_if (tCmp_ hu (gv 0) (pd_lst (gA0))) (pds_one (pds_ret (pd_op or_mod (gv 4) (gv 2)))) (pds_nil)) (pds_cons (pds_if (pdt_w (pdw_and (tCmp_ hu (gv 4) (gB cr_len T.n_len (gA (gv 0) (gA0)))) (pdw_and1 (tCmp_ hu (gIx hu (gv 0) (gv 4)) (pd_op or_pow (pd_int) (pd_int)))))) (pds_cons (sSubI hu (gv 1) (pd_int) (pd_op or_mod (pd_op or_fdiv (gIx hu (gv 0) (gv 4)) (gv 2)) (pd_op or_mul (pd_op or_pow (pd_int) (pd_int)) (pd_op or_pow (pd_int) (pd_int))))) (pds_one (pds_ret (pd_op or_mod (gIx hu (gv 0) (gv 4)) (gv 2))))) (pds_nil)) (pds_cons (sSetN nd (pd_op or_mod (pd_op or_add (pd_op or_add (pd_op or_mul (gIx hu (gv 0) (pd_op or_mod (gv 4) (gB cr_len T.n_len (gA (gv 0) (gA0))))) (pd_int)) (pd_op or_mul (pd_int) (gv 4))) (pd_int)) (pd_int))) (pds_one (pds_ret (pd_op or_mod (pd_op or_mod (pd_op or_mod (pd_op or_pow (gv 5) (pd_int)) (pd_int)) (pd_int)) (gv 2)))))))))
theorem sc__law_pick : FnScope ["script", "town", "some"] ["script", "town", "some"] (defScope s__law_pick) := ⟨rfl, rfl, rfl, by decide +kernel, rfl, by decide +kernel, by decide +kernel⟩
theorem bi__law_pick {fd : FuncData} (F : FunD K "_law_pick" "_law_pick" (defArgs s__law_pick) (defBody s__law_pick) (defScope s__law_pick) [] [] (He.ga K "_law_pick") fd) : Binds K fd ["script", "town", "some"] [] := F.bindsN fun _ _ _ _ _ _ us hl => match us, hl with | [_, _, _], _ => rfl
theorem k__law_pick (T : Tx K mg) (B : Tb K mg base) (L : Lv P w K mg base k Φ Ψ) : FnK P w K mg base (k + 1) "_law_pick" ["script", "town", "some"] (fnB false 3 (b__law_pick Φ)) := by
  obtain ⟨fd, F⟩ := T.d__law_pick
  refine fnK_of (N := ["script", "town", "some"]) T.g__law_pick F sc__law_pick (bi__law_pick F) fun cdv A outer s H E hr => ?_
  have hu := hu_room hr
  have nd : (["script", "town", "some"] : List Str).Nodup := sc__law_pick.nd
  exact pds_one (pds_ret (gIx hu (gv 2) (gC L.f__law_draw hr (gA (gv 0) (gA (gv 1) (gA (gB cr_len T.n_len (gA (gv 2) (gA0))) (gA0)))))))
theorem sc__law_heads : FnScope ["met", "pasts", "name", "other"] ["met", "pasts"] (defScope s__law_heads) := ⟨rfl, rfl, rfl, by decide +kernel, rfl, by decide +kernel, by decide +kernel⟩
theorem bi__law_heads {fd : FuncData} (F : FunD K "_law_heads" "_law_heads" (defArgs s__law_heads) (defBody s__law_heads) (defScope s__law_heads) [] [] (He.ga K "_law_heads") fd) : Binds K fd ["met", "pasts"] [] := F.bindsN fun _ _ _ _ _ _ us hl => match us, hl with | [_, _], _ => rfl
theorem k__law_heads (T : Tx K mg) (B : Tb K mg base) (L : Lv P w K mg base k Φ Ψ) : FnK P w K mg base (k + 1) "_law_heads" ["met", "pasts"] (fnB false 4 (b__law_heads Φ)) := by
  obtain ⟨fd, F⟩ := T.d__law_heads
  refine fnK_of (N := ["met", "pasts", "name", "other"]) T.g__law_heads F sc__law_heads (bi__law_heads F) fun cdv A outer s H E hr => ?_
  have hu := hu_room hr
  have nd : (["met", "pasts", "name", "other"] : List Str).Nodup := sc__law_heads.nd
  exact pds_one (pds_ret (gT cr_tuple_ T.n_tuple (gA (gLC [("name", 2)] nd (pid_seq (gB (cr_sorted hu rfl) T.n_sorted (gA (gv 0) (gA0)))) (fun _ _ _ _ _ => tgN 2 nd) (fun _ _ _ _ _ => pts_c (pdt_not (tVal (gB (cr_any_ rfl) T.n_any (gA (gLC [("other", 3)] nd (pid_seq (gv 0)) (fun _ _ _ _ _ => tgN 3 nd) (fun _ _ _ _ _ => pts_yes) (fun _ _ _ _ _ => gCmp hu (gv 2) (gIx hu (gv 1) (gv 3)))) (gA0)))))) (fun _ _ _ _ _ => gv 2)) (gA0))))
theorem sc__law_thing : FnScope ["script", "town", "deeds", "words", "word", "shelf", "entry", "hand", "right", "value", "kind", "named", "name", "deed"] ["script", "town", "deeds"] (defScope s__law_thing) := ⟨rfl, rfl, rfl, by decide +kernel, rfl, by decide +kernel, by decide +kernel⟩
theorem bi__law_thing {fd : FuncData} (F : FunD K "_law_thing" "_law_thing" (defArgs s__law_thing) (defBody s__law_thing) (defScope s__law_thing) [] [] (He.ga K "_law_thing") fd) : Binds K fd ["script", "town", "deeds"] [] := F.bindsN fun _ _ _ _ _ _ us hl => match us, hl with | [_, _, _], _ => rfl
theorem k__law_thing (T : Tx K mg) (B : Tb K mg base) (L : Lv P w K mg base k Φ Ψ) : FnK P w K mg base (k + 1) "_law_thing" ["script", "town", "deeds"] (fnB false 14 (b__law_thing Φ)) := by
  obtain ⟨fd, F⟩ := T.d__law_thing
  refine fnK_of (N := ["script", "town", "deeds", "words", "word", "shelf", "entry", "hand", "right", "value", "kind", "named", "name", "deed"]) T.g__law_thing F sc__law_thing (bi__law_thing F) fun cdv A outer s H E hr => ?_
  have hu := hu_room hr
  have nd : (["script", "town", "deeds", "words", "word", "shelf", "entry", "hand", "right", "value", "kind", "named", "name", "deed"] : List Str).Nodup := sc__law_thing.nd
  exact pds_cons (sSetN nd (pd_lst (gA (pd_str) (gA (pd_str) (gA (pd_str) (gA (pd_str) (gA (pd_str) (gA (pd_str) (gA (pd_str) (gA (pd_str) (gA (pd_str) (gA (pd_str) (gA (pd_str) (gA0)))))))))))))) (pds_cons (sExp (gM PySem.F.plainAttrs_list PySem.F.slot_list_extend PySem.F.type_list_extend mt_ext (gv 3) (gA (pd_lst (gA (pd_str) (gA (pd_str) (gA0)))) (gA0)))) (pds_cons (sSetN nd (gC L.f__law_pick hr (gA (gv 0) (gA (gv 1) (gA (pd_op or_add (gv 3) (pd_lst (gA (pd_str) (gA (pd_str) (gA (pd_str) (gA (pd_str) (gA0))))))) (gA0)))))) (pds_cons (sPar2 nd (gA (gC L.f__law_pick hr (gA (gv 0) (gA (gv 1) (gA (pd_lst (gA (pd_str) (gA (pd_str) (gA (pd_str) (gA (pd_str) (gA0)))))) (gA0))))) (gA (gC L.f__law_pick hr (gA (gv 0) (gA (gv 1) (gA (pd_lst (gA (pd_str) (gA (pd_str) (gA (pd_str) (gA0))))) (gA0))))) (gA0)))) (pds_cons (sPar2 nd (gA (gC L.f__law_pick hr (gA (gv 0) (gA (gv 1) (gA (pd_lst (gA (pd_str) (gA (pd_str) (gA (pd_str) (gA0))))) (gA0))))) (gA (gC L.f__law_pick hr (gA (gv 0) (gA (gv 1) (gA (pd_lst (gA (pd_str) (gA (pd_str) (gA0)))) (gA0))))) (gA0)))) (pds_cons (sSetN nd (gC L.f__law_pick hr (gA (gv 0) (gA (gv 1) (gA (pd_lst (gA (pd_str) (gA (pd_str) (gA (pd_str) (gA (pd_str) (gA0)))))) (gA0)))))) (pds_cons (sSetN nd (pd_if (tCmp_ hu (gv 4) (pd_tup (gA (pd_str) (gA (pd_str) (gA0))))) (pd_str) (pd_str))) (pds_cons (sSetLC 11 [("deed", 13)] nd (pid_seq (gv 2)) (fun _ _ _ _ _ => tgN 13 nd) (fun _ _ _ _ _ => pts_c (tCmp_ hu (gIx hu (gIx hu (gv 13) (pd_int)) (pd_int)) (gv 10))) (fun _ _ _ _ _ => pd_slice (gv 13) po_none_ (po_some_ (pd_int)))) (pds_cons (sSetN nd (pd_if (tCmp_ hu (gv 11) (pd_lst (gA0))) (gC L.f__law_pick hr (gA (gv 0) (gA (gv 1) (gA (gv 11) (gA0))))) (pd_non))) (pds_cons (pds_if (tCmp_ hu (gv 4) (pd_str)) (pds_one (pds_ret (pd_tup (gA (gv 4) (gA (gC L.f__law_pick hr (gA (gv 0) (gA (gv 1) (gA (pd_lst (gA (pd_str) (gA (pd_str) (gA (pd_str) (gA0))))) (gA0))))) (gA0)))))) (pds_nil)) (pds_cons (pds_if (tCmp_ hu (gv 4) (pd_str)) (pds_one (pds_ret (pd_tup (gA (gv 4) (gA (gv 5) (gA (gv 6) (gA (gv 9) (gA0)))))))) (pds_nil)) (pds_cons (pds_if (tCmp_ hu (gv 4) (pd_str)) (pds_one (pds_ret (pd_tup (gA (gv 4) (gA (gv 5) (gA (gv 6) (gA0))))))) (pds_nil)) (pds_cons (pds_if (tCmp_ hu (gv 4) (pd_str)) (pds_one (pds_ret (pd_tup (gA (gv 4) (gA (gv 5) (gA (gv 6) (gA (pd_op or_sub (gC L.f__law_draw hr (gA (gv 0) (gA (gv 1) (gA (pd_int) (gA0))))) (pd_int)) (gA0)))))))) (pds_nil)) (pds_cons (pds_if (tCmp_ hu (gv 4) (pd_str)) (pds_one (pds_ret (pd_tup (gA (gv 4) (gA (gv 5) (gA (gv 6) (gA (pd_if (tCmp_ hu (gC L.f__law_draw hr (gA (gv 0) (gA (gv 1) (gA (pd_int) (gA0))))) (pd_int)) (gv 12) (pd_non)) (gA (gv 9) (gA0))))))))) (pds_nil)) (pds_cons (pds_if (tCmp_ hu (gv 4) (pd_str)) (pds_one (pds_ret (pd_tup (gA (gv 4) (gA (gv 5) (gA (gv 7) (gA (gv 8) (gA0)))))))) (pds_nil)) (pds_cons (pds_if (tCmp_ hu (gv 4) (pd_str)) (pds_one (pds_ret (pd_tup (gA (gv 4) (gA (gv 5) (gA (gv 7) (gA (gv 8) (gA (gCmp hu (gC L.f__law_draw hr (gA (gv 0) (gA (gv 1) (gA (pd_int) (gA0))))) (pd_int)) (gA0))))))))) (pds_nil)) (pds_cons (pds_if (pdt_w (pdw_or (tCmp_ hu (gv 4) (pd_str)) (pdw_or1 (tCmp_ hu (gv 12) (pd_non))))) (pds_one (pds_ret (pd_tup (gA (pd_str) (gA (gv 5) (gA (gv 9) (gA (gC L.f__law_pick hr (gA (gv 0) (gA (gv 1) (gA (pd_lst (gA (pd_str) (gA (pd_str) (gA (pd_str) (gA0))))) (gA0))))) (gA0)))))))) (pds_nil)) (pds_cons (pds_if (tCmp_ hu (gv 4) (pd_str)) (pds_one (pds_ret (pd_tup (gA (gv 4) (gA (gv 5) (gA (gv 6) (gA (gv 12) (gA0)))))))) (pds_nil)) (pds_one (pds_ret (pd_if (tCmp_ hu (gv 4) (pd_str)) (pd_tup (gA (gv 4) (gA (gv 12) (gA (gC L.f__law_pick hr (gA (gv 0) (gA (gv 1) (gA (pd_lst (gA (pd_str) (gA (pd_str) (gA (pd_str) (gA0))))) (gA0))))) (gA0))))) (pd_tup (gA (gv 4) (gA (gv 12) (gA0))))))))))))))))))))))))
theorem sc__law_history : FnScope ["script", "town", "many", "first", "deeds", "pasts", "met", "k", "machine", "other", "here", "number", "hand", "after", "what", "deed", "name"] ["script", "town", "many"] (defScope s__law_history) := ⟨rfl, rfl, rfl, by decide +kernel, rfl, by decide +kernel, by decide +kernel⟩
theorem bi__law_history {fd : FuncData} (F : FunD K "_law_history" "_law_history" (defArgs s__law_history) (defBody s__law_history) (defScope s__law_history) [] [] (He.ga K "_law_history") fd) : Binds K fd ["script", "town", "many"] [] := F.bindsN fun _ _ _ _ _ _ us hl => match us, hl with | [_, _, _], _ => rfl
theorem k__law_history (T : Tx K mg) (B : Tb K mg base) (L : Lv P w K mg base k Φ Ψ) : FnK P w K mg base (k + 1) "_law_history" ["script", "town", "many"] (fnB false 17 (b__law_history Φ)) := by
  obtain ⟨fd, F⟩ := T.d__law_history
  refine fnK_of (N := ["script", "town", "many", "first", "deeds", "pasts", "met", "k", "machine", "other", "here", "number", "hand", "after", "what", "deed", "name"]) T.g__law_history F sc__law_history (bi__law_history F) fun cdv A outer s H E hr => ?_
  have hu := hu_room hr
  have nd : (["script", "town", "many", "first", "deeds", "pasts", "met", "k", "machine", "other", "here", "number", "hand", "after", "what", "deed", "name"] : List Str).Nodup := sc__law_history.nd
  exact pds_cons (sSetN nd (pd_tup (gA (pd_str) (gA (pd_int) (gA (pd_tup (gA0)) (gA (pd_str) (gA (pd_tup (gA (pd_str) (gA (pd_str) (gA0)))) (gA0)))))))) (pds_cons (sUnp (tgs 4 nd (tgs 5 nd (tgs 6 nd (tgs0)))) (gA (pd_lst (gA (gv 3) (gA0))) (gA (gDisp hu (pdp_cons (pd_tup (gA (pd_str) (gA (pd_int) (gA0)))) (pd_lst (gA0)) (pdp_nil))) (gA (gDisp hu (pdp_cons (pd_str) (pd_lst (gA (pd_tup (gA (pd_str) (gA (pd_int) (gA0)))) (gA0))) (pdp_cons (pd_str) (pd_lst (gA0)) (pdp_cons (pd_str) (pd_lst (gA0)) (pdp_nil))))) (gA0)))) (evCons_len (evCons_len (evCons_len (fun _ _ _ _ z => evNil_len z))))) (pds_cons (sForN (gRange T.n_range (gv 2)) (tgN 7 nd) (pds_cons (sSetN nd (gC L.f__law_pick hr (gA (gv 0) (gA (gv 1) (gA (pd_lst (gA (pd_str) (gA (pd_str) (gA (pd_str) (gA0))))) (gA0)))))) (pds_cons (pds_if (pdt_w (pdw_or (tCmp_ hu (gC L.f__law_draw hr (gA (gv 0) (gA (gv 1) (gA (pd_int) (gA0))))) (pd_int)) (pdw_or1 (tCmp_ hu (gIx hu (gv 6) (gv 8)) (pd_lst (gA0)))))) (pds_cons (sSetN nd (gC L.f__law_pick hr (gA (gv 0) (gA (gv 1) (gA (pd_lst (gA (pd_str) (gA (pd_str) (gA (pd_str) (gA (pd_str) (gA0)))))) (gA0)))))) (pds_one (sSubI hu (gv 6) (gv 8) (gSortSet hu T.n_sorted T.n_set (gA (pd_op or_add (gIx hu (gv 6) (gv 8)) (gIx hu (gv 6) (gv 9))) (gA0)))))) (pds_nil)) (pds_cons (sSetLC 10 [("deed", 15)] nd (pid_seq (gv 4)) (fun _ _ _ _ _ => tgN 15 nd) (fun _ _ _ _ _ => pts_c (tCmp_ hu (pd_slice (gv 15) po_none_ (po_some_ (pd_int))) (gIx hu (gv 6) (gv 8)))) (fun _ _ _ _ _ => gv 15)) (pds_one (pds_if (tCmp_ hu (gv 10) (pd_lst (gA0))) (pds_cons (sSetN nd (pd_op or_add (pd_int) (gB cr_len T.n_len (gA (gLC [("name", 16)] nd (pid_seq (gIx hu (gv 6) (gv 8))) (fun _ _ _ _ _ => tgN 16 nd) (fun _ _ _ _ _ => pts_c (tCmp_ hu (gIx hu (gv 16) (pd_int)) (gv 8))) (fun _ _ _ _ _ => gv 16)) (gA0))))) (pds_cons (sSetN nd (gC L.f__law_pick hr (gA (gv 0) (gA (gv 1) (gA (pd_lst (gA (pd_str) (gA (pd_str) (gA (pd_str) (gA (pd_str) (gA0)))))) (gA0)))))) (pds_cons (sPar2 nd (gA (gC L.f__law_heads hr (gA (gIx hu (gv 6) (gv 8)) (gA (gv 5) (gA0)))) (gA (gC L.f__law_thing hr (gA (gv 0) (gA (gv 1) (gA (gv 10) (gA0))))) (gA0)))) (pds_cons (sExp (gM PySem.F.plainAttrs_list PySem.F.slot_list_append PySem.F.type_list_append mt_app (gv 4) (gA (pd_tup (gA (gv 8) (gA (gv 11) (gA (gv 13) (gA (gv 12) (gA (gv 14) (gA0))))))) (gA0)))) (pds_cons (sSubI hu (gv 5) (pd_tup (gA (gv 8) (gA (gv 11) (gA0)))) (gT cr_list_ T.n_list (gA (gIx hu (gv 6) (gv 8)) (gA0)))) (pds_one (sSubI hu (gv 6) (gv 8) (gB (cr_sorted hu rfl) T.n_sorted (gA (pd_op or_add (gIx hu (gv 6) (gv 8)) (pd_lst (gA (pd_tup (gA (gv 8) (gA (gv 11) (gA0)))) (gA0)))) (gA0)))))))))) (pds_nil))))))) (pds_one (pds_ret (pd_tup (gA (gv 4) (gA (gv 5) (gA (gv 6) (gA0)))))))))
theorem sc__law_shuffled : FnScope ["script", "town", "some", "left", "made"] ["script", "town", "some"] (defScope s__law_shuffled) := ⟨rfl, rfl, rfl, by decide +kernel, rfl, by decide +kernel, by decide +kernel⟩
theorem bi__law_shuffled {fd : FuncData} (F : FunD K "_law_shuffled" "_law_shuffled" (defArgs s__law_shuffled) (defBody s__law_shuffled) (defScope s__law_shuffled) [] [] (He.ga K "_law_shuffled") fd) : Binds K fd ["script", "town", "some"] [] := F.bindsN fun _ _ _ _ _ _ us hl => match us, hl with | [_, _, _], _ => rfl
theorem k__law_shuffled (T : Tx K mg) (B : Tb K mg base) (L : Lv P w K mg base k Φ Ψ) : FnK P w K mg base (k + 1) "_law_shuffled" ["script", "town", "some"] (fnB false 5 (b__law_shuffled Φ)) := by
  obtain ⟨fd, F⟩ := T.d__law_shuffled
  refine fnK_of (N := ["script", "town", "some", "left", "made"]) T.g__law_shuffled F sc__law_shuffled (bi__law_shuffled F) fun cdv A outer s H E hr => ?_
  have hu := hu_room hr
  have nd : (["script", "town", "some", "left", "made"] : List Str).Nodup := sc__law_shuffled.nd
  exact pds_cons (sPar2 nd (gA (gT cr_listO T.n_list (gA (gv 2) (gA0))) (gA (pd_lst (gA0)) (gA0)))) (pds_cons (sWhileN (tCmp_ hu (gv 3) (pd_lst (gA0))) (pds_one (sExp (gM PySem.F.plainAttrs_list PySem.F.slot_list_append PySem.F.type_list_append mt_app (gv 4) (gA (gM PySem.F.plainAttrs_list PySem.F.slot_list_pop PySem.F.type_list_pop mt_popL (gv 3) (gA (gC L.f__law_draw hr (gA (gv 0) (gA (gv 1) (gA (gB cr_len T.n_len (gA (gv 3) (gA0))) (gA0))))) (gA0))) (gA0)))))) (pds_one (pds_ret (gv 4))))
theorem sc_law : FnScope ["script", "town", "deeds", "pasts", "met", "mixed_up", "name", "names", "one", "other", "due", "gone", "bent", "deed", "more", "after"] ["script"] (defScope s_law) := ⟨rfl, rfl, rfl, by decide +kernel, rfl, by decide +kernel, by decide +kernel⟩
theorem bi_law {fd : FuncData} (F : FunD K "law" "law" (defArgs s_law) (defBody s_law) (defScope s_law) [] [] (He.ga K "law") fd) : Binds K fd ["script"] [] := F.bindsN fun _ _ _ _ _ _ us hl => match us, hl with | [_], _ => rfl
theorem k_law (T : Tx K mg) (B : Tb K mg base) (L : Lv P w K mg base k Φ Ψ) : FnK P w K mg base (k + 1) "law" ["script"] (fnB false 16 (b_law Φ)) := by
  obtain ⟨fd, F⟩ := T.d_law
  refine fnK_of (N := ["script", "town", "deeds", "pasts", "met", "mixed_up", "name", "names", "one", "other", "due", "gone", "bent", "deed", "more", "after"]) T.g_law F sc_law (bi_law F) fun cdv A outer s H E hr => ?_
  have hu := hu_room hr
  have nd : (["script", "town", "deeds", "pasts", "met", "mixed_up", "name", "names", "one", "other", "due", "gone", "bent", "deed", "more", "after"] : List Str).Nodup := sc_law.nd
  exact pds_cons (sSetN nd (pd_lst (gA (pd_int) (gA (pd_int) (gA0))))) (pds_cons (sAsg (gC L.f__law_history hr (gA (gv 0) (gA (gv 1) (gA (pd_int) (gA0))))) (tgT (tgs 2 nd (tgs 3 nd (tgs 4 nd (tgs0)))))) (pds_cons (sSetN nd (gC L.f__law_shuffled hr (gA (gv 0) (gA (gv 1) (gA (gv 2) (gA0)))))) (pds_cons (pds_if (pdt_w (pdw_or (tCmp_ hu (gC L.f_are_deeds hr (gA (gv 5) (gA0))) (pd_bl)) (pdw_or1 (tCmp_ hu (gC L.f_are_deeds hr (gA (pd_op or_add (gv 5) (pd_lst (gA (gIx hu (gv 2) (pd_int)) (gA0)))) (gA0))) (pd_bl))))) (pds_one (pds_ret (pd_bl))) (pds_nil)) (pds_cons (sForN (pid_seq (gv 3)) (tgN 6 nd) (pds_one (pds_if (tCmp_ hu (gC L.f_past hr (gA (gv 5) (gA (gv 6) (gA0)))) (gB (cr_sorted hu rfl) T.n_sorted (gA (gIx hu (gv 3) (gv 6)) (gA0)))) (pds_one (pds_ret (pd_bl))) (pds_nil)))) (pds_cons (sSetN nd (gB (cr_sorted hu rfl) T.n_sorted (gA (gv 3) (gA0)))) (pds_cons (sPar2 nd (gA (gC L.f__law_pick hr (gA (gv 0) (gA (gv 1) (gA (gv 7) (gA0))))) (gA (gC L.f__law_pick hr (gA (gv 0) (gA (gv 1) (gA (gv 7) (gA0))))) (gA0)))) (pds_cons (sSetN nd (pd_and (gCmp hu (gv 8) (gv 9)) (pd_and (gCmp hu (gv 8) (gIx hu (gv 3) (gv 9))) (pd_one (gCmp hu (gv 9) (gIx hu (gv 3) (gv 8))))))) (pds_cons (pds_if (tCmp_ hu (gC L.f_are_apart hr (gA (gv 5) (gA (gv 8) (gA (gv 9) (gA0))))) (gv 10)) (pds_one (pds_ret (pd_bl))) (pds_nil)) (pds_cons (sSetN nd (gC L.f__law_pick hr (gA (gv 0) (gA (gv 1) (gA (gv 2) (gA0)))))) (pds_cons (pds_if (tCmp_ hu (gC L.f_are_deeds hr (gA (gLC [("deed", 13)] nd (pid_seq (gv 5)) (fun _ _ _ _ _ => tgN 13 nd) (fun _ _ _ _ _ => pts_c (tCmp_ hu (gv 13) (gv 11))) (fun _ _ _ _ _ => gv 13)) (gA0))) (pd_not (gB (cr_any_ rfl) T.n_any (gA (gLC [("name", 6)] nd (pid_seq (gv 7)) (fun _ _ _ _ _ => tgN 6 nd) (fun _ _ _ _ _ => pts_yes) (fun _ _ _ _ _ => gCmp hu (pd_slice (gv 11) po_none_ (po_some_ (pd_int))) (gIx hu (gv 3) (gv 6)))) (gA0))))) (pds_one (pds_ret (pd_bl))) (pds_nil)) (pds_cons (sSetLC 12 [("deed", 13)] nd (pid_seq (gv 2)) (fun _ _ _ _ _ => tgN 13 nd) (fun _ _ _ _ _ => pts_c (tCmp_ hu (gB cr_len T.n_len (gA (gIx hu (gv 3) (pd_slice (gv 13) po_none_ (po_some_ (pd_int)))) (gA0))) (pd_int))) (fun _ _ _ _ _ => gv 13)) (pds_cons (pds_if (tCmp_ hu (gv 12) (pd_lst (gA0))) (pds_one (pds_ret (gCmp hu (gC L.f_are_deeds hr (gA (pd_op or_add (gv 2) (pd_lst (gA (gv 11) (gA0)))) (gA0))) (pd_bl)))) (pds_nil)) (pds_cons (sSetN nd (gC L.f__law_pick hr (gA (gv 0) (gA (gv 1) (gA (gv 12) (gA0)))))) (pds_cons (sSetLC 14 [("name", 6)] nd (pid_seq (gIx hu (gv 3) (pd_slice (gv 13) po_none_ (po_some_ (pd_int))))) (fun _ _ _ _ _ => tgN 6 nd) (fun _ _ _ _ _ => pts_c (tCmp_ hu (gv 6) (gIx hu (gv 13) (pd_int)))) (fun _ _ _ _ _ => gv 6)) (pds_cons (pds_if (tCmp_ hu (gv 14) (pd_lst (gA0))) (pds_one (pds_ret (pd_bl))) (pds_nil)) (pds_cons (sSetN nd (gT cr_tuple_ T.n_tuple (gA (gB (cr_sorted hu rfl) T.n_sorted (gA (pd_op or_add (gIx hu (gv 13) (pd_int)) (pd_tup (gA (gC L.f__law_pick hr (gA (gv 0) (gA (gv 1) (gA (gv 14) (gA0))))) (gA0)))) (gA0))) (gA0)))) (pds_one (pds_ret (gCmp hu (gC L.f_are_deeds hr (gA (gLC [("one", 8)] nd (pid_seq (gv 2)) (fun _ _ _ _ _ => tgN 8 nd) (fun _ _ _ _ _ => pts_yes) (fun _ _ _ _ _ => pd_if (tCmp_ hu (gv 8) (gv 13)) (gv 8) (pd_op or_add (pd_op or_add (pd_slice (gv 13) po_none_ (po_some_ (pd_int))) (pd_tup (gA (gv 15) (gA0)))) (pd_slice (gv 13) (po_some_ (pd_int)) po_none_)))) (gA0))) (pd_bl))))))))))))))))))))
theorem lv0 (T : Tx K mg) : Lv P w K mg base 0 (tab 0) (tabL 0) := by
  constructor
  · obtain ⟨fd, F⟩ := T.d_is_whole
    exact fnK_stuck T.g_is_whole F (bi_is_whole F) fun _ _ => rfl
  · obtain ⟨fd, F⟩ := T.d_is_word
    exact fnK_stuck T.g_is_word F (bi_is_word F) fun _ _ => rfl
  · obtain ⟨fd, F⟩ := T.d_is_value
    exact fnK_stuck T.g_is_value F (bi_is_value F) fun _ _ => rfl
  · obtain ⟨fd, F⟩ := T.d_is_name
    exact fnK_stuck T.g_is_name F (bi_is_name F) fun _ _ => rfl
  · obtain ⟨fd, F⟩ := T.d_is_right
    exact fnK_stuck T.g_is_right F (bi_is_right F) fun _ _ => rfl
  · obtain ⟨fd, F⟩ := T.d_is_on_entry
    exact fnK_stuck T.g_is_on_entry F (bi_is_on_entry F) fun _ _ => rfl
  · obtain ⟨fd, F⟩ := T.d_is_what
    exact fnK_stuck T.g_is_what F (bi_is_what F) fun _ _ => rfl
  · obtain ⟨fd, F⟩ := T.d_is_deed
    exact fnK_stuck T.g_is_deed F (bi_is_deed F) fun _ _ => rfl
  · obtain ⟨fd, F⟩ := T.d_ordered
    exact ⟨⟨T.g_ordered, F.kp⟩, fun base lid mb _ => fnK_stuck T.g_ordered F (bi_ordered F) fun _ _ => rfl⟩
  · obtain ⟨fd, F⟩ := T.d_pasts_of
    exact fnK_stuck T.g_pasts_of F (bi_pasts_of F) fun _ _ => rfl
  · obtain ⟨fd, F⟩ := T.d_are_deeds
    exact fnK_stuck T.g_are_deeds F (bi_are_deeds F) fun _ _ => rfl
  · obtain ⟨fd, F⟩ := T.d_need_deeds
    exact fnK_stuck T.g_need_deeds F (bi_need_deeds F) fun _ _ => rfl
  · obtain ⟨fd, F⟩ := T.d_need_names
    exact fnK_stuck T.g_need_names F (bi_need_names F) fun _ _ => rfl
  · obtain ⟨fd, F⟩ := T.d_past
    exact fnK_stuck T.g_past F (bi_past F) fun _ _ => rfl
  · obtain ⟨fd, F⟩ := T.d_are_apart
    exact fnK_stuck T.g_are_apart F (bi_are_apart F) fun _ _ => rfl
  · obtain ⟨fd, F⟩ := T.d__law_draw
    exact fnK_stuck T.g__law_draw F (bi__law_draw F) fun _ _ => rfl
  · obtain ⟨fd, F⟩ := T.d__law_pick
    exact fnK_stuck T.g__law_pick F (bi__law_pick F) fun _ _ => rfl
  · obtain ⟨fd, F⟩ := T.d__law_heads
    exact fnK_stuck T.g__law_heads F (bi__law_heads F) fun _ _ => rfl
  · obtain ⟨fd, F⟩ := T.d__law_thing
    exact fnK_stuck T.g__law_thing F (bi__law_thing F) fun _ _ => rfl
  · obtain ⟨fd, F⟩ := T.d__law_history
    exact fnK_stuck T.g__law_history F (bi__law_history F) fun _ _ => rfl
  · obtain ⟨fd, F⟩ := T.d__law_shuffled
    exact fnK_stuck T.g__law_shuffled F (bi__law_shuffled F) fun _ _ => rfl
  · obtain ⟨fd, F⟩ := T.d_law
    exact fnK_stuck T.g_law F (bi_law F) fun _ _ => rfl
theorem lv (T : Tx K mg) (B : Tb K mg base) : ∀ k, Lv P w K mg base k (tab k) (tabL k)
  | 0 => lv0 T
  | k + 1 => have L := lv T B k; ⟨k_is_whole T B L, k_is_word T B L, k_is_value T B L, k_is_name T B L, k_is_right T B L, k_is_on_entry T B L, k_is_what T B L, k_is_deed T B L, k_ordered T, k_pasts_of T B L, k_are_deeds T B L, k_need_deeds T B L, k_need_names T B L, k_past T B L, k_are_apart T B L, k__law_draw T B L, k__law_pick T B L, k__law_heads T B L, k__law_thing T B L, k__law_history T B L, k__law_shuffled T B L, k_law T B L⟩
end
end Lw
namespace Lw
open L2 PySem PySem.Spec FH
/-! ### forms -/
abbrev LET : Str := "abcdefghijklmnopqrstuvwxyz"
abbrev FIG : Str := "0123456789"
def isWord : D → Bool
  | .str z => decide (1 ≤ z.length) && decide (z.length ≤ 8) && z.cps.toList.all fun c => decide (c ∈ LET.cps.toList)
  | _ => false
def isValue : D → Bool
  | .str z => decide (z.length ≤ 12) && z.cps.toList.all fun c => decide (c ∈ (LET ++ FIG).cps.toList)
  | _ => false
theorem good_str {z : Str} (h : goodD (.str z) = true) : PyData.strOk z = true ∧ z.length ≤ 100000 := by
  simp only [goodD, Bool.and_eq_true, decide_eq_true_eq] at h
  exact h
theorem len_small {n : Nat} (h : n ≤ 100000) : n ≤ sizeLine := Nat.le_trans h (by decide)
theorem whole_eq (Φ : Tab) (d : D) (a b : Int) (S : Store) : fnB false 3 (b_is_whole Φ) [.d d, .d (.int a), .d (.int b)] S = .ok (.d (.bool (isWhole d a b))) S := by
  cases d <;> simp [fnB, b_is_whole, isinstL, tyName, tyKnown, isTy, asDic, asL, isWhole]
  rename_i i
  by_cases h : a ≤ i <;> by_cases h2 : i ≤ b <;> simp [h, h2]
/-- the signs of a text, each asked -/
theorem signs_lc {z A : Str} {S : Store} {l : FH.Loc} {e : Ev} (hz : z.length ≤ 100000) (hl : l = [some (.d (.str z)), none]) (he : ∀ (x : Val) (S' : Store), e [some (.d (.str z)), some x] S' = ofO (cmpV .In x (.d (.str A)) S')) :
    evLC false (evIter (evVar 0)) (tgName 1) [1] cYes e l S = .ok (.d (.list ((z.cps.toList.map fun c => decide (c ∈ A.cps.toList)).map .bool))) S := by
  subst hl
  have hs : z.cps.toList.length = z.length := by rw [Array.length_toList]; rfl
  refine evLC_pure (v := .d (.str z)) (items := signs z) (by simp [itemsOf]) (fun x => match x with
    | .d (.str c) => some (.d (.bool (decide (c.cps.getD 0 0 ∈ A.cps.toList))))
    | _ => none) _ (fun x hx => ?_) ?_ ?_
  · unfold signs at hx
    obtain ⟨c, hc, rfl⟩ := List.mem_map.mp hx
    refine ⟨[some (.d (.str z)), some (.d (.str ⟨#[c]⟩))], by simp [tgName, wipeL], fun acc => ⟨by simp, ?_⟩⟩
    rw [he]
    simp [cmpV, cmpB, inB, inStr]
  · unfold signs
    rw [List.filterMap_map, List.map_map, List.map_map, ← List.filterMap_eq_map]
    rfl
  · unfold signs
    rw [List.length_map, hs]
    exact len_small hz
theorem word_eq (Φ : Tab) (d : D) (S : Store) (h : goodD d = true) : fnB false 2 (b_is_word Φ) [.d d] S = .ok (.d (.bool (isWord d))) S := by
  cases d with
  | str z =>
    have hz := (good_str h).2
    have h1 := fun S => signs_lc (A := LET) (S := S) (l := [some (.d (.str z)), none]) hz rfl (e := ev2 (cmpV .In) (evVar 1) (evC (.d (.str LET)))) (fun x S' => by simp)
    refine fnB_ret (sRet_v ((evAnd_b (p := true) (by simp [isinstL, tyName, tyKnown, isTy]) fun _ => evAnd_b (p := decide (1 ≤ z.length) && decide (z.length ≤ 8)) ?_ fun _ => evL_v (evCons_v (h1 S) rfl) all_bools).trans ?_))
    · have c1 : decide ((1 : Int) ≤ (z.length : Int)) = decide (1 ≤ z.length) := decide_eq_decide.mpr (by omega)
      have c2 : decide ((z.length : Int) ≤ (8 : Int)) = decide (z.length ≤ 8) := decide_eq_decide.mpr (by omega)
      cases g1 : decide (1 ≤ z.length) <;> simp only [evChain, evC, evL, evCons, evNil, evVar_0, Res.bind, ofO, len_str_ (len_small hz), le_int, c1, c2, g1, Bool.true_and, Bool.false_and]
    · simp [isWord]
  | _ => simp [fnB, b_is_word, isinstL, tyName, tyKnown, isTy, asDic, asL, isWord]
theorem value_eq (Φ : Tab) (d : D) (S : Store) (h : goodD d = true) : fnB false 2 (b_is_value Φ) [.d d] S = .ok (.d (.bool (isValue d))) S := by
  cases d with
  | str z =>
    have hz := (good_str h).2
    have h1 := fun S => signs_lc (A := LET ++ FIG) (S := S) (l := [some (.d (.str z)), none]) hz rfl (e := ev2 (cmpV .In) (evVar 1) (ev2 addV (evC (.d (.str LET))) (evC (.d (.str FIG))))) (fun x S' => by
      have : addV (.d (.str LET)) (.d (.str FIG)) S' = some (.d (.str (LET ++ FIG)), S') := add_str_ (by decide)
      simp [this])
    refine fnB_ret (sRet_v ((evAnd_b (p := true) (by simp [isinstL, tyName, tyKnown, isTy]) fun _ => evAnd_b (p := decide (z.length ≤ 12)) (by simp [len_small hz]; omega) fun _ => evL_v (evCons_v (h1 S) rfl) all_bools).trans ?_))
    simp [isValue]
  | _ => simp [fnB, b_is_value, isinstL, tyName, tyKnown, isTy, asDic, asL, isValue]
def isName : D → Bool
  | .tuple [a, b] => isWord a && isWhole b 1 9999
  | _ => false
theorem name_eq {Φ : Tab} (h0 : ∀ d a b S, Φ i_is_whole [.d d, .d (.int a), .d (.int b)] S = .ok (.d (.bool (isWhole d a b))) S) (h1 : ∀ d S, goodD d = true → Φ i_is_word [.d d] S = .ok (.d (.bool (isWord d))) S) (d : D) (S : Store) (h : goodD d = true) :
    fnB false 1 (b_is_name Φ) [.d d] S = .ok (.d (.bool (isName d))) S := by
  cases d with
  | tuple ds =>
    rw [goodD] at h
    match ds, h with
    | [], _ => simp [fnB, b_is_name, isinstL, tyName, tyKnown, isTy, isName]
    | [_], _ => simp [fnB, b_is_name, isinstL, tyName, tyKnown, isTy, isName]
    | [a, b], h =>
      have ha := good_mem h a (by simp)
      simp only [fnB, b_is_name, isName]
      cases hw : isWord a <;> simp [isinstL, tyName, tyKnown, isTy, h1 a S ha, h0, hw]
    | a :: b :: c :: r, _ =>
      have : ¬ ((r.length : Int) + 1 + 1 + 1 = 2) := by omega
      simp [fnB, b_is_name, isinstL, tyName, tyKnown, isTy, isName, this]
  | _ => simp [fnB, b_is_name, isinstL, tyName, tyKnown, isTy, asDic, asL, isName]
def isRight : D → Bool
  | .str z => decide (z = "write") || decide (z = "lead")
  | _ => false
theorem in_tup {x : D} {ds : List D} {S : Store} (h : flatD x = true) (h2 : ds.all flatD = true) : cmpV .In (.d x) (.d (.tuple ds)) S = some (.d (.bool (ds.any fun z => PyData.eqv z x)), S) := by
  simp [cmpV, cmpB, inB, inTup, h, h2]
theorem str_tup {z : Str} {zs : List Str} {S : Store} : cmpV .In (.d (.str z)) (.d (.tuple (zs.map .str))) S = some (.d (.bool (decide (z ∈ zs))), S) := by
  rw [in_tup rfl (by simp [flatD])]
  congr 4
  rw [List.any_map, Bool.eq_iff_iff]
  simp only [List.any_eq_true, Function.comp, PyData.eqv, beq_iff_eq, decide_eq_true_eq]
  exact ⟨fun ⟨x, h1, h2⟩ => h2 ▸ h1, fun h => ⟨z, h, rfl⟩⟩
theorem evTup_str {l : FH.Loc} {S : Store} {zs : List Str} {m : FH.Loc → Store → Res (List Val)} (h : m l S = .ok ((zs.map PyData.str).map .d) S) (hz : zs.length ≤ 100) : evTup m l S = .ok (.d (.tuple (zs.map .str))) S :=
  evL_v h (tup_data (by rw [List.length_map]; exact Nat.le_trans hz (by decide)))
theorem right_eq (Φ : Tab) (d : D) (S : Store) : fnB false 1 (b_is_right Φ) [.d d] S = .ok (.d (.bool (isRight d))) S := by
  cases d with
  | str z =>
    refine fnB_ret (sRet_v ((evAnd_b (p := true) (S1 := S) (by simp [isinstL, tyName, tyKnown, isTy]) fun _ => ev2_v rfl (evTup_str (zs := ["write", "lead"]) rfl (by decide)) str_tup).trans ?_))
    simp [isRight]
  | _ => simp [fnB, b_is_right, isinstL, tyName, tyKnown, isTy, asDic, asL, isRight]
theorem seqIf {c : Tv} {x b : Sv} {l : FH.Loc} {S S1 : Store} {p : Bool} (h : c l S = .ok p S1) : sSeq (sIf c x sNx) b l S = if p = true then (x l S1).thenS b else b l S1 := by
  unfold sSeq
  rw [sIf_b h]
  cases p <;> rfl
/-- what one, two or more things behind the place must be -/
def restOk (w : Str) : List D → Bool
  | [] => decide (w = "drop")
  | [v] => if w = "drop" then false else if w = "put" then isValue v else if w = "add" then isWhole v (-1000) 1000 else if w = "strike" then isName v else false
  | [u, v] => if w = "drop" ∨ w = "put" ∨ w = "add" ∨ w = "strike" then false else (isNon (.d u) || isName u) && isValue v
  | _ => false
theorem ro_nil {w : Str} (h : ¬ w = "drop") : restOk w [] = false := decide_eq_false h
theorem ro_two {w : Str} {x y : D} (h : w = "put" ∨ w = "add" ∨ w = "strike") : restOk w [x, y] = false := if_pos (.inr h)
theorem ro_put {w : Str} {x : D} (c1 : ¬ w = "drop") (c2 : w = "put") : restOk w [x] = isValue x := by rw [restOk, if_neg c1, if_pos c2]
theorem ro_add {w : Str} {x : D} (c1 : ¬ w = "drop") (c2 : ¬ w = "put") (c3 : w = "add") : restOk w [x] = isWhole x (-1000) 1000 := by rw [restOk, if_neg c1, if_neg c2, if_pos c3]
theorem ro_strike {w : Str} {x : D} (c1 : ¬ w = "drop") (c2 : ¬ w = "put") (c3 : ¬ w = "add") (c4 : w = "strike") : restOk w [x] = isName x := by rw [restOk, if_neg c1, if_neg c2, if_neg c3, if_pos c4]
theorem ro_many {w : Str} {x y z : D} {r : List D} : restOk w (x :: y :: z :: r) = false := rfl
def onEntry : List D → Bool
  | .str w :: a :: b :: rest => isWord a && isWord b && restOk w rest
  | _ => false
theorem eq_tup0 {ds : List D} {S : Store} (h : goodAll ds = true) (hd : PyData.depthAll ds ≤ 60) : cmpV .Eq (.d (.tuple ds)) (.d (.tuple [])) S = some (.d (.bool ds.isEmpty), S) := by
  have s1 : SeqAt.shaped (.tuple ds) = true := shaped_good (by rw [goodD]; exact h) (by rw [PyData.depth]; omega)
  have s2 : SeqAt.shaped (.tuple []) = true := shaped_good (by rfl) (by simp [PyData.depth, PyData.depthAll])
  simp only [cmpV, cmpB, eqB, toP, s1, s2]
  cases ds <;> simp [PyData.eqv, PyData.eqvAll]
section
variable {Φ : Tab} (h0 : ∀ d a b S, Φ i_is_whole [.d d, .d (.int a), .d (.int b)] S = .ok (.d (.bool (isWhole d a b))) S) (h1 : ∀ d S, goodD d = true → Φ i_is_word [.d d] S = .ok (.d (.bool (isWord d))) S) (h2 : ∀ d S, goodD d = true → Φ i_is_value [.d d] S = .ok (.d (.bool (isValue d))) S)
  (h3 : ∀ d S, goodD d = true → Φ i_is_name [.d d] S = .ok (.d (.bool (isName d))) S) (h4 : ∀ d S, Φ i_is_right [.d d] S = .ok (.d (.bool (isRight d))) S)
include h0 h1 h2 h3
omit h0 h1 h2 h3 in
theorem evEqS {m : Ev} {w k : Str} {l : FH.Loc} {S : Store} (h : m l S = .ok (.d (.str w)) S) (hw : PyData.strOk w = true) (hk : PyData.strOk k = true) : evB (ev2 (cmpV .Eq) m (evC (.d (.str k)))) l S = .ok (decide (w = k)) S :=
  evB_b (ev2_v h rfl (eq_str_ hw hk))
omit h0 h1 h2 h3 in
theorem seqYes {c : Tv} {m : Ev} {b : Sv} {l : FH.Loc} {S : Store} {v : Val} (h : c l S = .ok true S) (hm : m l S = .ok v S) : sSeq (sIf c (sRet m) sNx) b l S = .rt v S := by
  rw [seqIf h, if_pos rfl, sRet_v hm]
  rfl
omit h0 h1 h2 h3 in
theorem seqNo {c : Tv} {x b : Sv} {l : FH.Loc} {S : Store} (h : c l S = .ok false S) : sSeq (sIf c x sNx) b l S = b l S := by
  rw [seqIf h, if_neg (by decide)]
omit h0 h1 h2 h3 in
theorem lenEq {m : Ev} {ds : List D} {k : Nat} {l : FH.Loc} {S : Store} (h : m l S = .ok (.d (.tuple ds)) S) : ev2 (cmpV .Eq) (evL lenL (evCons m evNil)) (evC (.d (.int (k : Int)))) l S = .ok (.d (.bool (decide (ds.length = k)))) S := by
  have e : decide ((ds.length : Int) = (k : Int)) = decide (ds.length = k) := decide_eq_decide.mpr (by omega)
  rw [← e]
  exact ev2_v (evL_v (evCons_v h rfl) len_tup_) rfl eq_int_
theorem entry_eq (w : Str) (a : D) (r : List D) (S : Store) (h : goodAll (.str w :: a :: r) = true) (hd : PyData.depthAll (.str w :: a :: r) ≤ 60) : fnB false 3 (b_is_on_entry Φ) [.d (.tuple (.str w :: a :: r))] S = .ok (.d (.bool (onEntry (.str w :: a :: r)))) S := by
  have hw := (good_str (good_mem h (.str w) (by simp))).1
  have ga := good_mem h a (by simp)
  cases r with
  | nil => simp [fnB, b_is_on_entry, setAll, onEntry]
  | cons b rest =>
    have gb := good_mem h b (by simp)
    have gr : goodAll rest = true := good_of fun d hd => good_mem h d (by simp [hd])
    have dr : PyData.depthAll rest ≤ 60 := by
      simp only [PyData.depthAll] at hd
      omega
    have t0 : ∀ S : Store, tupO [] S = some (.d (.tuple []), S) := fun S => tup_data (ds := []) (by decide)
    refine fnB_ret ?_
    unfold b_is_on_entry
    have e0 : sPar [1, 2] (evCons (ev2 ixV (evVar 0) (evC (.d (.int 0)))) (evCons (evSl (evVar 0) (some (evC (.d (.int 3)))) none) evNil)) ([Val.d (.tuple (.str w :: a :: b :: rest))].map some ++ List.replicate (3 - 1) none) S = .nx [some (.d (.tuple (.str w :: a :: b :: rest))), some (.d (.str w)), some (.d (.tuple rest))] S := by
      simp [setAll]
    rw [sSeq, show [Val.d (.tuple (.str w :: a :: b :: rest))].length = 1 from rfl, e0, SR.thenS]
    have v0 : evVar 0 [some (.d (.tuple (.str w :: a :: b :: rest))), some (.d (.str w)), some (.d (.tuple rest))] S = .ok (.d (.tuple (.str w :: a :: b :: rest))) S := rfl
    have v1 : evVar 1 [some (.d (.tuple (.str w :: a :: b :: rest))), some (.d (.str w)), some (.d (.tuple rest))] S = .ok (.d (.str w)) S := rfl
    have v2 : evVar 2 [some (.d (.tuple (.str w :: a :: b :: rest))), some (.d (.str w)), some (.d (.tuple rest))] S = .ok (.d (.tuple rest)) S := rfl
    generalize [some (Val.d (.tuple (.str w :: a :: b :: rest))), some (.d (.str w)), some (.d (.tuple rest))] = l at v0 v1 v2
    have cw : cOr (evB (ev2 (cmpV .Lt) (evL lenL (evCons (evVar 0) evNil)) (evC (.d (.int 3))))) (cOr (cNot (evB (evCall 1 (Φ i_is_word) (evCons (ev2 ixV (evVar 0) (evC (.d (.int 1)))) evNil)))) (cNot (evB (evCall 1 (Φ i_is_word) (evCons (ev2 ixV (evVar 0) (evC (.d (.int 2)))) evNil))))) l S = .ok (!(isWord a && isWord b)) S := by
      have n3 : decide (((.str w :: a :: b :: rest : List D).length : Int) < 3) = false := decide_eq_false (by simp; omega)
      refine (cOr_b (p := false) (evB_b ((ev2_v (evL_v (evCons_v v0 rfl) len_tup_) rfl lt_int_).trans (by rw [n3]))) fun _ => cOr_b (cNot_b (evB_b (evCall_v (evCons_v (ev2_v v0 rfl ix_t1) rfl) rfl (h1 a S ga)))) fun _ => cNot_b (evB_b (evCall_v (evCons_v (ev2_v v0 rfl ix_t2) rfl) rfl (h1 b S gb)))).trans ?_
      cases isWord a <;> cases isWord b <;> rfl
    cases wab : (isWord a && isWord b) with
    | false =>
      rw [wab] at cw
      refine (seqYes cw rfl).trans ?_
      simp [onEntry, wab]
    | true =>
      rw [wab] at cw
      rw [seqNo cw]
      have q1 := evEqS v1 hw (k := "drop") (by decide +kernel)
      have q2 := evEqS v1 hw (k := "put") (by decide +kernel)
      have q3 := evEqS v1 hw (k := "add") (by decide +kernel)
      have q4 := evEqS v1 hw (k := "strike") (by decide +kernel)
      have on : onEntry (.str w :: a :: b :: rest) = restOk w rest := by simp [onEntry, wab]
      rw [on]
      by_cases c1 : w = "drop"
      · rw [decide_eq_true c1] at q1
        refine (seqYes q1 (ev2_v v2 (evL_v rfl (t0 S)) (eq_tup0 gr dr))).trans ?_
        rcases rest with _ | ⟨x, _ | ⟨y, _ | ⟨z, u⟩⟩⟩ <;> simp [restOk, c1]
      · rw [decide_eq_false c1] at q1
        rw [seqNo q1]
        by_cases c2 : w = "put"
        · rw [decide_eq_true c2] at q2
          rcases rest with _ | ⟨x, _ | ⟨y, u⟩⟩
          · refine (seqYes q2 (evAnd_b (lenEq (k := 1) v2) (by simp) (q := false))).trans ?_
            simp [ro_nil c1, ro_put c1 c2]
          · refine (seqYes q2 (evAnd_b (lenEq (k := 1) v2) fun _ => evCall_v (evCons_v (ev2_v v2 rfl ix_t0) rfl) rfl (h2 x S (good_mem gr x (by simp))))).trans ?_
            simp [ro_nil c1, ro_put c1 c2]
          · refine (seqYes q2 (evAnd_b (lenEq (k := 1) v2) (by simp) (q := false))).trans ?_
            rcases u with _ | ⟨_, _⟩ <;> simp [ro_two (.inl c2), ro_many]
        · rw [decide_eq_false c2] at q2
          rw [seqNo q2]
          by_cases c3 : w = "add"
          · rw [decide_eq_true c3] at q3
            rcases rest with _ | ⟨x, _ | ⟨y, u⟩⟩
            · refine (seqYes q3 (evAnd_b (lenEq (k := 1) v2) (by simp) (q := false))).trans ?_
              simp [ro_nil c1, ro_add c1 c2 c3]
            · refine (seqYes q3 (evAnd_b (lenEq (k := 1) v2) fun _ => evCall_v (evCons_v (ev2_v v2 rfl ix_t0) (evCons_v (ev2_v rfl rfl sub_int_) (evCons_v rfl rfl))) rfl (h0 x (0 - 1000) 1000 S))).trans ?_
              simp [ro_nil c1, ro_add c1 c2 c3]
            · refine (seqYes q3 (evAnd_b (lenEq (k := 1) v2) (by simp) (q := false))).trans ?_
              rcases u with _ | ⟨_, _⟩ <;> simp [ro_two (.inr (.inl c3)), ro_many]
          · rw [decide_eq_false c3] at q3
            rw [seqNo q3]
            by_cases c4 : w = "strike"
            · rw [decide_eq_true c4] at q4
              rcases rest with _ | ⟨x, _ | ⟨y, u⟩⟩
              · refine (seqYes q4 (evAnd_b (lenEq (k := 1) v2) (by simp) (q := false))).trans ?_
                simp [ro_nil c1, ro_strike c1 c2 c3 c4]
              · refine (seqYes q4 (evAnd_b (lenEq (k := 1) v2) fun _ => evCall_v (evCons_v (ev2_v v2 rfl ix_t0) rfl) rfl (h3 x S (good_mem gr x (by simp))))).trans ?_
                simp [ro_nil c1, ro_strike c1 c2 c3 c4]
              · refine (seqYes q4 (evAnd_b (lenEq (k := 1) v2) (by simp) (q := false))).trans ?_
                rcases u with _ | ⟨_, _⟩ <;> simp [ro_two (.inr (.inr c4)), ro_many]
            · rw [decide_eq_false c4] at q4
              rw [seqNo q4]
              rcases rest with _ | ⟨x, _ | ⟨y, _ | ⟨z, u⟩⟩⟩
              · refine (sRet_v (evAnd_b (lenEq (k := 2) v2) (by simp) (q := false))).trans ?_
                simp [restOk, c1]
              · refine (sRet_v (evAnd_b (lenEq (k := 2) v2) (by simp) (q := false))).trans ?_
                simp [restOk, c1, c2, c3, c4]
              · refine (sRet_v (evAnd_b (lenEq (k := 2) v2) fun _ => evAnd_b (evOr_b (ev2_v (ev2_v v2 rfl ix_t0) rfl is_none_) fun _ => evCall_v (evCons_v (ev2_v v2 rfl ix_t0) rfl) rfl (h3 x S (good_mem gr x (by simp)))) fun _ => evCall_v (evCons_v (ev2_v v2 rfl ix_t1) rfl) rfl (h2 y S (good_mem gr y (by simp))))).trans ?_
                simp [restOk, c1, c2, c3, c4]
              · refine (sRet_v (evAnd_b (lenEq (k := 2) v2) (by simp) (q := false))).trans ?_
                simp [restOk]
def isBoolD : D → Bool
  | .bool _ => true
  | _ => false
def restWhat (w : Str) (a : D) (r : List D) : Bool :=
  if w ∈ (["put", "drop", "add", "line", "strike"] : List Str) then onEntry (.str w :: a :: r)
  else if w = "open" then decide (r.length = 0) && isWord a
  else if w = "give" then (match r with
    | [b, c] => isWord a && isWord b && isRight c
    | _ => false)
  else if w = "call" then (match r with
    | [b, c, e] => isWord a && isWord b && isRight c && isBoolD e
    | _ => false)
  else if w = "ask" then (match r with
    | [b, c] => isWord a && isValue b && isWord c
    | _ => false)
  else if w ∈ (["take", "done"] : List Str) then decide (r.length = 0) && isName a
  else decide (w = "pass") && (match r with
    | [b] => isName a && isWord b
    | _ => false)
def isWhat : D → Bool
  | .tuple (.str w :: a :: r) => restWhat w a r
  | _ => false
omit h0 h1 h2 h3 in
theorem manyEq {m : Ev} {n k : Nat} {l : FH.Loc} {S : Store} (h : m l S = .ok (.d (.int (n : Int))) S) : ev2 (cmpV .Eq) m (evC (.d (.int (k : Int)))) l S = .ok (.d (.bool (decide (n = k)))) S := by
  have e : decide ((n : Int) = (k : Int)) = decide (n = k) := decide_eq_decide.mpr (by omega)
  rw [← e]
  exact ev2_v h rfl eq_int_
omit h0 h1 h2 h3 in
theorem manyNe {m : Ev} {n k : Nat} {l : FH.Loc} {S : Store} (h : m l S = .ok (.d (.int (n : Int))) S) : ev2 (cmpV .NotEq) m (evC (.d (.int (k : Int)))) l S = .ok (.d (.bool (!decide (n = k)))) S := by
  have e : decide ((n : Int) = (k : Int)) = decide (n = k) := decide_eq_decide.mpr (by omega)
  rw [← e]
  exact ev2_v h rfl ne_int_
omit h0 h1 h2 h3 in
theorem isinst_tup {ds : List D} {S : Store} : isinstL [.d (.tuple ds), .ty "tuple"] S = some (.d (.bool true), S) := by simp [isinstL, tyName, tyKnown, isTy]
omit h0 h1 h2 h3 in
theorem isinst_str {z : Str} {S : Store} : isinstL [.d (.str z), .ty "str"] S = some (.d (.bool true), S) := by simp [isinstL, tyName, tyKnown, isTy]
omit h0 h1 h2 h3 in
theorem isinst_bool {d : D} {S : Store} : isinstL [.d d, .ty "bool"] S = some (.d (.bool (isBoolD d)), S) := by cases d <;> simp [isinstL, tyName, tyKnown, isTy, isBoolD, asDic, asL]
include h4
theorem what_eq (h5 : ∀ (w : Str) (a : D) (r : List D) (S : Store), goodAll (.str w :: a :: r) = true → PyData.depthAll (.str w :: a :: r) ≤ 60 → Φ i_is_on_entry [.d (.tuple (.str w :: a :: r))] S = .ok (.d (.bool (onEntry (.str w :: a :: r)))) S)
    (d : D) (S : Store) (h : goodD d = true) (hd : d.depth ≤ 60) : fnB false 3 (b_is_what Φ) [.d d] S = .ok (.d (.bool (isWhat d))) S := by
  cases d with
  | tuple ds =>
    rw [goodD] at h
    match ds, h, hd with
    | [], _, _ => simp [fnB, b_is_what, isinstL, tyName, tyKnown, isTy, isWhat]
    | [x], _, _ => simp [fnB, b_is_what, isinstL, tyName, tyKnown, isTy, isWhat]
    | x :: a :: r, h, hd =>
      have n2 : ¬ ((r.length : Int) + 1 + 1 < 2) := by omega
      cases x with
      | str w =>
        have hw := (good_str (good_mem h (.str w) (by simp))).1
        have ga := good_mem h a (by simp)
        have gr : ∀ d ∈ r, goodD d = true := fun d z => good_mem h d (by simp [z])
        have dep : PyData.depthAll (.str w :: a :: r) ≤ 60 := by
          rw [PyData.depth] at hd
          omega
        refine fnB_ret ?_
        unfold b_is_what
        rw [show [Val.d (.tuple (.str w :: a :: r))].map some ++ List.replicate (3 - [Val.d (.tuple (.str w :: a :: r))].length) none = [some (.d (.tuple (.str w :: a :: r))), none, none] from rfl]
        have n3 : decide (((.str w :: a :: r : List D).length : Int) < 2) = false := decide_eq_false (by simp; omega)
        refine (seqNo (cOr_b (p := false) (q := false) (cNot_b (p := true) (evB_b (evL_v (evCons_v rfl (evCons_v rfl rfl)) isinst_tup))) fun _ => cOr_b (p := false) (q := false) (evB_b ((ev2_v (evL_v (evCons_v rfl rfl) len_tup_) rfl lt_int_).trans (by rw [n3]))) fun _ => cNot_b (p := true) (evB_b (evL_v (evCons_v (ev2_v rfl rfl ix_t0) (evCons_v rfl rfl)) isinst_str)))).trans ?_
        have e0 : sPar [1, 2] (evCons (ev2 ixV (evVar 0) (evC (.d (.int 0)))) (evCons (evL lenL (evCons (evVar 0) evNil)) evNil)) [some (.d (.tuple (.str w :: a :: r))), none, none] S = .nx [some (.d (.tuple (.str w :: a :: r))), some (.d (.str w)), some (.d (.int ((r.length + 2 : Nat) : Int)))] S := by
          simp [setAll]
          omega
        rw [sSeq, e0, SR.thenS]
        have v0 : evVar 0 [some (.d (.tuple (.str w :: a :: r))), some (.d (.str w)), some (.d (.int ((r.length + 2 : Nat) : Int)))] S = .ok (.d (.tuple (.str w :: a :: r))) S := rfl
        have v1 : evVar 1 [some (.d (.tuple (.str w :: a :: r))), some (.d (.str w)), some (.d (.int ((r.length + 2 : Nat) : Int)))] S = .ok (.d (.str w)) S := rfl
        have v2 : evVar 2 [some (.d (.tuple (.str w :: a :: r))), some (.d (.str w)), some (.d (.int ((r.length + 2 : Nat) : Int)))] S = .ok (.d (.int ((r.length + 2 : Nat) : Int))) S := rfl
        generalize [some (Val.d (.tuple (.str w :: a :: r))), some (.d (.str w)), some (.d (.int ((r.length + 2 : Nat) : Int)))] = l at v0 v1 v2
        have q0 : evB (ev2 (cmpV .In) (evVar 1) (evTup (evCons (evC (.d (.str "put"))) (evCons (evC (.d (.str "drop"))) (evCons (evC (.d (.str "add"))) (evCons (evC (.d (.str "line"))) (evCons (evC (.d (.str "strike"))) evNil))))))) l S = .ok (decide (w ∈ (["put", "drop", "add", "line", "strike"] : List Str))) S :=
          evB_b (ev2_v v1 (evTup_str (zs := ["put", "drop", "add", "line", "strike"]) rfl (by decide)) str_tup)
        have q5 : evB (ev2 (cmpV .In) (evVar 1) (evTup (evCons (evC (.d (.str "take"))) (evCons (evC (.d (.str "done"))) evNil)))) l S = .ok (decide (w ∈ (["take", "done"] : List Str))) S :=
          evB_b (ev2_v v1 (evTup_str (zs := ["take", "done"]) rfl (by decide)) str_tup)
        have q1 := evEqS v1 hw (k := "open") (by decide +kernel)
        have q2 := evEqS v1 hw (k := "give") (by decide +kernel)
        have q3 := evEqS v1 hw (k := "call") (by decide +kernel)
        have q4 := evEqS v1 hw (k := "ask") (by decide +kernel)
        have q6 : ev2 (cmpV .Eq) (evVar 1) (evC (.d (.str "pass"))) l S = .ok (.d (.bool (decide (w = "pass")))) S := ev2_v v1 rfl (eq_str_ hw (by decide +kernel))
        have wa : evCall 1 (Φ i_is_word) (evCons (ev2 ixV (evVar 0) (evC (.d (.int 1)))) evNil) l S = .ok (.d (.bool (isWord a))) S := evCall_v (evCons_v (ev2_v v0 rfl ix_t1) rfl) rfl (h1 a S ga)
        have na : evCall 1 (Φ i_is_name) (evCons (ev2 ixV (evVar 0) (evC (.d (.int 1)))) evNil) l S = .ok (.d (.bool (isName a))) S := evCall_v (evCons_v (ev2_v v0 rfl ix_t1) rfl) rfl (h3 a S ga)
        show _ = SR.rt (.d (.bool (restWhat w a r))) S
        unfold restWhat
        by_cases c0 : w ∈ (["put", "drop", "add", "line", "strike"] : List Str)
        · rw [decide_eq_true c0] at q0
          rw [if_pos c0]
          exact seqYes q0 (evCall_v (evCons_v v0 rfl) rfl (h5 w a r S h dep))
        · rw [decide_eq_false c0] at q0
          rw [if_neg c0]
          refine (seqNo q0).trans ?_
          by_cases c1 : w = "open"
          · rw [decide_eq_true c1] at q1
            rw [if_pos c1]
            refine (seqYes q1 (evAnd_b (manyEq (k := 2) v2) fun _ => wa)).trans ?_
            simp
          · rw [decide_eq_false c1] at q1
            rw [if_neg c1]
            refine (seqNo q1).trans ?_
            by_cases c2 : w = "give"
            · rw [decide_eq_true c2] at q2
              rw [if_pos c2]
              rcases r with _ | ⟨b, _ | ⟨c, _ | ⟨e, u⟩⟩⟩
              · exact seqYes q2 (evAnd_b (manyEq (k := 4) v2) (q := false) (by simp))
              · exact seqYes q2 (evAnd_b (manyEq (k := 4) v2) (q := false) (by simp))
              · refine (seqYes q2 (evAnd_b (manyEq (k := 4) v2) fun _ => evAnd_b wa fun _ => evAnd_b (evCall_v (evCons_v (ev2_v v0 rfl ix_t2) rfl) rfl (h1 b S (gr b (by simp)))) fun _ => evCall_v (evCons_v (ev2_v v0 rfl ix_t3) rfl) rfl (h4 c S))).trans ?_
                simp [Bool.and_assoc]
              · refine (seqYes q2 (evAnd_b (manyEq (k := 4) v2) (q := false) (by simp))).trans ?_
                simp
            · rw [decide_eq_false c2] at q2
              rw [if_neg c2]
              refine (seqNo q2).trans ?_
              by_cases c3 : w = "call"
              · rw [decide_eq_true c3] at q3
                rw [if_pos c3, seqIf q3, if_pos rfl]
                have bad : r.length ≠ 3 → (sSeq (sIf (cOr (evB (ev2 (cmpV .NotEq) (evVar 2) (evC (.d (.int 5))))) (cOr (cNot (evB (evCall 1 (Φ i_is_word) (evCons (ev2 ixV (evVar 0) (evC (.d (.int 1)))) evNil)))) (cOr (cNot (evB (evCall 1 (Φ i_is_word) (evCons (ev2 ixV (evVar 0) (evC (.d (.int 2)))) evNil)))) (cNot (evB (evCall 1 (Φ i_is_right) (evCons (ev2 ixV (evVar 0) (evC (.d (.int 3)))) evNil))))))) (sRet (evC (.d (.bool false)))) sNx) (sRet (evL isinstL (evCons (ev2 ixV (evVar 0) (evC (.d (.int 4)))) (evCons (evC (.ty "bool")) evNil))))) l S = .rt (.d (.bool false)) S := fun hr => by
                  refine seqYes ((cOr_b (q := true) (evB_b (manyNe (k := 5) v2)) fun z => ?_).trans (by simp)) rfl
                  simp at z
                  omega
                rcases r with _ | ⟨b, _ | ⟨c, _ | ⟨e, _ | ⟨f, u⟩⟩⟩⟩
                · rw [bad (by simp)]
                  rfl
                · rw [bad (by simp)]
                  rfl
                · rw [bad (by simp)]
                  rfl
                · have cw : cOr (evB (ev2 (cmpV .NotEq) (evVar 2) (evC (.d (.int 5))))) (cOr (cNot (evB (evCall 1 (Φ i_is_word) (evCons (ev2 ixV (evVar 0) (evC (.d (.int 1)))) evNil)))) (cOr (cNot (evB (evCall 1 (Φ i_is_word) (evCons (ev2 ixV (evVar 0) (evC (.d (.int 2)))) evNil)))) (cNot (evB (evCall 1 (Φ i_is_right) (evCons (ev2 ixV (evVar 0) (evC (.d (.int 3)))) evNil)))))) l S = .ok (!(isWord a && isWord b && isRight c)) S := by
                    refine (cOr_b (evB_b (manyNe (k := 5) v2)) fun _ => cOr_b (cNot_b (evB_b wa)) fun _ => cOr_b (cNot_b (evB_b (evCall_v (evCons_v (ev2_v v0 rfl ix_t2) rfl) rfl (h1 b S (gr b (by simp)))))) fun _ => cNot_b (evB_b (evCall_v (evCons_v (ev2_v v0 rfl ix_t3) rfl) rfl (h4 c S)))).trans ?_
                    cases isWord a <;> cases isWord b <;> cases isRight c <;> rfl
                  cases x : (isWord a && isWord b && isRight c) with
                  | false =>
                    rw [x] at cw
                    rw [seqYes cw rfl]
                    show SR.rt _ S = SR.rt (.d (.bool (isWord a && isWord b && isRight c && isBoolD e))) S
                    rw [x]
                    rfl
                  | true =>
                    rw [x] at cw
                    rw [seqNo cw, sRet_v (evL_v (evCons_v (ev2_v v0 rfl ix_t4) (evCons_v rfl rfl)) isinst_bool)]
                    show SR.rt _ S = SR.rt (.d (.bool (isWord a && isWord b && isRight c && isBoolD e))) S
                    rw [x]
                    rfl
                · rw [bad (by simp)]
                  rfl
              · rw [decide_eq_false c3] at q3
                rw [if_neg c3]
                refine (seqNo q3).trans ?_
                by_cases c4 : w = "ask"
                · rw [decide_eq_true c4] at q4
                  rw [if_pos c4]
                  rcases r with _ | ⟨b, _ | ⟨c, _ | ⟨e, u⟩⟩⟩
                  · exact seqYes q4 (evAnd_b (manyEq (k := 4) v2) (q := false) (by simp))
                  · exact seqYes q4 (evAnd_b (manyEq (k := 4) v2) (q := false) (by simp))
                  · refine (seqYes q4 (evAnd_b (manyEq (k := 4) v2) fun _ => evAnd_b wa fun _ => evAnd_b (evCall_v (evCons_v (ev2_v v0 rfl ix_t2) rfl) rfl (h2 b S (gr b (by simp)))) fun _ => evCall_v (evCons_v (ev2_v v0 rfl ix_t3) rfl) rfl (h1 c S (gr c (by simp))))).trans ?_
                    simp [Bool.and_assoc]
                  · refine (seqYes q4 (evAnd_b (manyEq (k := 4) v2) (q := false) (by simp))).trans ?_
                    simp
                · rw [decide_eq_false c4] at q4
                  rw [if_neg c4]
                  refine (seqNo q4).trans ?_
                  by_cases c5 : w ∈ (["take", "done"] : List Str)
                  · rw [decide_eq_true c5] at q5
                    rw [if_pos c5]
                    refine (seqYes q5 (evAnd_b (manyEq (k := 2) v2) fun _ => na)).trans ?_
                    simp
                  · rw [decide_eq_false c5] at q5
                    rw [if_neg c5]
                    refine (seqNo q5).trans ?_
                    rcases r with _ | ⟨b, _ | ⟨c, u⟩⟩
                    · refine (sRet_v (evAnd_b q6 fun _ => evAnd_b (manyEq (k := 3) v2) (q := false) (by simp))).trans ?_
                      simp
                    · refine (sRet_v (evAnd_b q6 fun _ => evAnd_b (manyEq (k := 3) v2) fun _ => evAnd_b na fun _ => evCall_v (evCons_v (ev2_v v0 rfl ix_t2) rfl) rfl (h1 b S (gr b (by simp))))).trans ?_
                      simp
                    · refine (sRet_v (evAnd_b q6 fun _ => evAnd_b (manyEq (k := 3) v2) (q := false) (by simp))).trans ?_
                      simp
      | _ => simp [fnB, b_is_what, isinstL, tyName, tyKnown, isTy, isWhat, n2, asDic, asL]
  | _ => simp [fnB, b_is_what, isinstL, tyName, tyKnown, isTy, asDic, asL, isWhat]
def adj : List D → List Bool
  | a :: b :: r => W.dataLt a b :: adj (b :: r)
  | _ => []
def isDeed : D → Bool
  | .tuple [m, n, .tuple after, hand, what] => isName (.tuple [m, n]) && after.all isName && isWord hand && isWhat what && (adj after).all id
  | _ => false
omit h0 h1 h2 h3 h4 in
theorem name_shape {d : D} (h : isName d = true) : ∃ x i, d = .tuple [.str x, .int i] := by
  unfold isName at h
  split at h
  · rename_i a b
    rw [Bool.and_eq_true] at h
    cases a <;> first | (cases h.1; done) | skip
    cases b <;> first | (cases h.2; done) | skip
    exact ⟨_, _, rfl⟩
  · cases h
omit h0 h1 h2 h3 h4 in
theorem name_lt {a b : D} {S : Store} (ha : isName a = true) (hb : isName b = true) (ga : goodD a = true) (gb : goodD b = true) : cmpV .Lt (.d a) (.d b) S = some (.d (.bool (W.dataLt a b)), S) := by
  obtain ⟨x, i, rfl⟩ := name_shape ha
  obtain ⟨y, j, rfl⟩ := name_shape hb
  have sa : SeqAt.shaped (.tuple [.str x, .int i]) = true := shaped_good ga (by simp [PyData.depth, PyData.depthAll])
  have sb : SeqAt.shaped (.tuple [.str y, .int j]) = true := shaped_good gb (by simp [PyData.depth, PyData.depthAll])
  simp [cmpV, cmpB, ltB, sa, sb, W.alike, W.alikeAll, ltOk]
omit h0 h1 h2 h3 h4 in
theorem zip_adj : ∀ (ds : List D), (zipT ds (ds.drop 1)).filterMap (fun x => match x with
    | .d (.tuple [a, b]) => some (Val.d (.bool (W.dataLt a b)))
    | _ => none) = ((adj ds).map PyData.bool).map .d
  | [] => rfl
  | [_] => rfl
  | a :: b :: r => by
    have ih := zip_adj (b :: r)
    rw [List.drop_succ_cons, List.drop_zero] at ih ⊢
    rw [adj, zipT, List.filterMap_cons, ih, List.map_cons, List.map_cons]
omit h0 h1 h2 h3 h4 in
theorem zip_mem : ∀ {as bs : List D} {x : Val}, x ∈ zipT as bs → ∃ a b, a ∈ as ∧ b ∈ bs ∧ x = .d (.tuple [a, b])
  | [], _, _, h => by cases h
  | _ :: _, [], _, h => by cases h
  | a :: as, b :: bs, x, h => by
    rw [zipT] at h
    rcases List.mem_cons.mp h with e | h
    · exact ⟨a, b, by simp, by simp, e⟩
    · obtain ⟨a', b', h1, h2, h3⟩ := zip_mem h
      exact ⟨a', b', by simp [h1], by simp [h2], h3⟩
omit h0 h1 h2 h3 h4 in
theorem zip_len_le : ∀ {as bs : List D}, (zipT as bs).length ≤ as.length
  | [], _ => Nat.zero_le _
  | _ :: _, [] => Nat.zero_le _
  | a :: as, b :: bs => by
    rw [zipT, List.length_cons, List.length_cons]
    exact Nat.succ_le_succ zip_len_le
/-- each of a tuple asked, by a function -/
theorem all_lc {Ψ : Fn} {g : D → Bool} {m : Ev} {after : List D} {x : Val} {l : FH.Loc} {S : Store} (hg : ∀ d ∈ after, ∀ S, Ψ [.d d] S = .ok (.d (.bool (g d))) S) (hm : m [some x, none, none] S = .ok (.d (.tuple after)) S) (hz : after.length ≤ 100000) :
    evLC false (evIter m) (tgName 1) [1] cYes (evCall 1 Ψ (evCons (evVar 1) evNil)) [some x, none, none] S = .ok (.d (.list ((after.map g).map .bool))) S := by
  refine evLC_pure (v := .d (.tuple after)) (items := after.map .d) (by simp [hm, itemsOf]) (fun y => match y with
    | .d d => some (.d (.bool (g d)))
    | _ => none) _ (fun y hy => ?_) ?_ (by rw [List.length_map]; exact len_small hz)
  · obtain ⟨d, hd, rfl⟩ := List.mem_map.mp hy
    refine ⟨[some x, some (.d d), none], by simp [tgName, wipeL], fun acc => ⟨by simp, ?_⟩⟩
    exact evCall_v (evCons_v rfl rfl) rfl (hg d hd _)
  · rw [List.filterMap_map, List.map_map, List.map_map, ← List.filterMap_eq_map]
    rfl
theorem deed_eq (h6 : ∀ (d : D) (S : Store), goodD d = true → d.depth ≤ 60 → Φ i_is_what [.d d] S = .ok (.d (.bool (isWhat d))) S) (d : D) (S : Store) (h : goodD d = true) (hd : d.depth ≤ 50) (hlen : ∀ m n after hand what, d = .tuple [m, n, .tuple after, hand, what] → after.length ≤ 100000) :
    fnB false 3 (b_is_deed Φ) [.d d] S = .ok (.d (.bool (isDeed d))) S := by
  cases d with
  | tuple ds =>
    rw [goodD] at h
    by_cases hl : ds.length = 5
    · obtain ⟨m, n, aft, hand, what, rfl⟩ : ∃ m n aft hand what, ds = [m, n, aft, hand, what] := by
        match ds, hl with
        | [m, n, aft, hand, what], _ => exact ⟨_, _, _, _, _, rfl⟩
      have gm := good_mem h m (by simp)
      have gn := good_mem h n (by simp)
      have gA := good_mem h aft (by simp)
      have gh := good_mem h hand (by simp)
      have gw := good_mem h what (by simp)
      have gmn : goodD (.tuple [m, n]) = true := by
        rw [goodD]
        exact good_of fun d z => by
          rcases List.mem_cons.mp z with e | z
          · rw [e]; exact gm
          · rw [List.mem_singleton.mp z]; exact gn
      refine fnB_ret ?_
      unfold b_is_deed
      rw [show [Val.d (.tuple [m, n, aft, hand, what])].map some ++ List.replicate (3 - [Val.d (.tuple [m, n, aft, hand, what])].length) none = [some (.d (.tuple [m, n, aft, hand, what])), none, none] from rfl]
      have v0 : evVar 0 [some (.d (.tuple [m, n, aft, hand, what])), none, none] S = .ok (.d (.tuple [m, n, aft, hand, what])) S := rfl
      have t1 : evL isinstL (evCons (evVar 0) (evCons (evC (.ty "tuple")) evNil)) [some (.d (.tuple [m, n, aft, hand, what])), none, none] S = .ok (.d (.bool true)) S := evL_v (evCons_v rfl (evCons_v rfl rfl)) isinst_tup
      have t2 : ev2 (cmpV .NotEq) (evL lenL (evCons (evVar 0) evNil)) (evC (.d (.int 5))) [some (.d (.tuple [m, n, aft, hand, what])), none, none] S = .ok (.d (.bool false)) S := (ev2_v (evL_v (evCons_v rfl rfl) len_tup_) rfl ne_int_).trans rfl
      have t3 : evCall 1 (Φ i_is_name) (evCons (evSl (evVar 0) none (some (evC (.d (.int 2))))) evNil) [some (.d (.tuple [m, n, aft, hand, what])), none, none] S = .ok (.d (.bool (isName (.tuple [m, n])))) S := by
        refine evCall_v (evCons_v (v := .d (.tuple [m, n])) (S1 := S) ?_ rfl) rfl (h3 _ S gmn)
        simp
      cases cn : isName (.tuple [m, n]) with
      | false =>
        rw [cn] at t3
        refine (seqYes (cOr_b (p := false) (q := true) (cNot_b (p := true) (evB_b t1)) fun _ => cOr_b (p := false) (q := true) (evB_b t2) fun _ => cOr_b (p := true) (q := true) (cNot_b (p := false) (evB_b t3)) (by simp)) rfl).trans ?_
        cases aft <;> simp [isDeed, cn]
      | true =>
        rw [cn] at t3
        cases aft with
        | tuple after =>
          rw [goodD] at gA
          have t4 : evL isinstL (evCons (ev2 ixV (evVar 0) (evC (.d (.int 2)))) (evCons (evC (.ty "tuple")) evNil)) [some (.d (.tuple [m, n, .tuple after, hand, what])), none, none] S = .ok (.d (.bool true)) S := evL_v (evCons_v (ev2_v rfl rfl ix_t2) (evCons_v rfl rfl)) isinst_tup
          refine (seqNo (cOr_b (p := false) (q := false) (cNot_b (p := true) (evB_b t1)) fun _ => cOr_b (p := false) (q := false) (evB_b t2) fun _ => cOr_b (p := false) (q := false) (cNot_b (p := true) (evB_b t3)) fun _ => cNot_b (p := true) (evB_b t4))).trans ?_
          have hz := hlen m n after hand what rfl
          have t5 := evL_v (evCons_v (r := evNil) (all_lc h0 h1 h2 h3 h4 (Ψ := Φ i_is_name) (g := isName) (l := []) (x := .d (.tuple [m, n, .tuple after, hand, what])) (m := ev2 ixV (evVar 0) (evC (.d (.int 2)))) (S := S) (fun d hd S => h3 d S (good_mem gA d hd)) (ev2_v rfl rfl ix_t2) hz) rfl) (all_bools (bs := after.map isName) (S := S))
          have t6 : evCall 1 (Φ i_is_word) (evCons (ev2 ixV (evVar 0) (evC (.d (.int 3)))) evNil) [some (.d (.tuple [m, n, .tuple after, hand, what])), none, none] S = .ok (.d (.bool (isWord hand))) S := evCall_v (evCons_v (ev2_v rfl rfl ix_t3) rfl) rfl (h1 hand S gh)
          have dw : what.depth ≤ 60 := by
            simp only [PyData.depth, PyData.depthAll] at hd
            omega
          have t7 : evCall 1 (Φ i_is_what) (evCons (ev2 ixV (evVar 0) (evC (.d (.int 4)))) evNil) [some (.d (.tuple [m, n, .tuple after, hand, what])), none, none] S = .ok (.d (.bool (isWhat what))) S := evCall_v (evCons_v (ev2_v rfl rfl ix_t4) rfl) rfl (h6 what S gw dw)
          have c2 := cOr_b (cNot_b (evB_b t5)) fun _ => cOr_b (cNot_b (evB_b t6)) fun _ => cNot_b (evB_b t7)
          have ea : ((after.map isName).all id) = after.all isName := by simp [List.all_map]
          rw [ea] at c2
          have ec : (!after.all isName || (!isWord hand || !isWhat what)) = !(after.all isName && isWord hand && isWhat what) := by
            cases after.all isName <;> cases isWord hand <;> cases isWhat what <;> rfl
          rw [ec] at c2
          cases call : (after.all isName && isWord hand && isWhat what) with
          | false =>
            rw [call] at c2
            refine (seqYes c2 rfl).trans ?_
            simp only [isDeed, cn, Bool.true_and, call, Bool.false_and]
          | true =>
            rw [call] at c2
            refine (seqNo c2).trans ?_
            have alln : ∀ d ∈ after, isName d = true := by
              rw [Bool.and_eq_true, Bool.and_eq_true] at call
              exact List.all_eq_true.mp call.1.1
            have t8 : evLC false (evZip (evCons (ev2 ixV (evVar 0) (evC (.d (.int 2)))) (evCons (evSl (ev2 ixV (evVar 0) (evC (.d (.int 2)))) (some (evC (.d (.int 1)))) none) evNil))) (tgTup [1, 2]) [1, 2] cYes (ev2 (cmpV .Lt) (evVar 1) (evVar 2)) [some (.d (.tuple [m, n, .tuple after, hand, what])), none, none] S = .ok (.d (.list ((adj after).map .bool))) S := by
              refine evLC_pure (v := .d .none) (items := zipT after (after.drop 1)) (by simp [evZip]) _ _ (fun x hx => ?_) (zip_adj after) (Nat.le_trans zip_len_le (len_small hz))
              obtain ⟨a, b, ha, hb, rfl⟩ := zip_mem hx
              have hb' := List.mem_of_mem_drop hb
              refine ⟨[some (.d (.tuple [m, n, .tuple after, hand, what])), some (.d a), some (.d b)], by simp [tgTup, setAll, wipeL], fun acc => ⟨by simp, ?_⟩⟩
              exact ev2_v rfl rfl (name_lt (alln a ha) (alln b hb') (good_mem gA a ha) (good_mem gA b hb'))
            refine (sRet_v (evL_v (evCons_v t8 rfl) all_bools)).trans ?_
            simp only [isDeed, cn, Bool.true_and, call]
        | _ =>
          refine (seqYes (cOr_b (p := false) (q := true) (cNot_b (p := true) (evB_b t1)) fun _ => cOr_b (p := false) (q := true) (evB_b t2) fun _ => cOr_b (p := false) (q := true) (cNot_b (p := true) (evB_b t3)) fun _ => cNot_b (p := false) (evB_b (evL_v (r := (.d (.bool false), S)) (evCons_v (ev2_v rfl rfl ix_t2) (evCons_v rfl rfl)) (by simp [isinstL, tyName, tyKnown, isTy, asDic, asL])))) rfl).trans ?_
          simp [isDeed]
    · refine fnB_ret ?_
      unfold b_is_deed
      have n5 : decide ((ds.length : Int) = 5) = false := decide_eq_false (by omega)
      refine (seqYes (cOr_b (p := false) (q := true) (cNot_b (p := true) (evB_b (evL_v (evCons_v rfl (evCons_v rfl rfl)) isinst_tup))) fun _ => cOr_b (p := true) (q := true) (evB_b ((ev2_v (evL_v (evCons_v rfl rfl) len_tup_) rfl ne_int_).trans (by rw [n5]; rfl))) (by simp)) rfl).trans ?_
      unfold isDeed
      split
      · rename_i e
        injection e with e
        subst e
        exact absurd rfl hl
      · rfl
  | _ => simp [fnB, b_is_deed, isinstL, tyName, tyKnown, isTy, asDic, asL, isDeed]
end
end Lw
namespace Lw
open L2 PySem PySem.Spec FH
/-! ### the draws -/
abbrev tw (p q : Int) : Ob := .lst [.d (.int p), .d (.int q)]
def Town (S : Store) (t : Nat) : Prop := ∃ p q : Int, 0 ≤ p ∧ 0 ≤ q ∧ S[t]? = some (tw p q)
def Tw (S : Store) (t : Nat) (S' : Store) : Prop := ∃ p q : Int, 0 ≤ p ∧ 0 ≤ q ∧ S' = S.set t (tw p q)
theorem Town.lt {S : Store} {t : Nat} (h : Town S t) : t < S.length := by
  obtain ⟨_, _, _, _, e⟩ := h
  exact (List.getElem?_eq_some_iff.mp e).1
theorem Tw.town {S S' : Store} {t : Nat} (h : Tw S t S') (ht : t < S.length) : Town S' t := by
  obtain ⟨p, q, hp, hq, rfl⟩ := h
  exact ⟨p, q, hp, hq, List.getElem?_set_self ht⟩
theorem Tw.trans {S S1 S2 : Store} {t : Nat} (h : Tw S t S1) (h2 : Tw S1 t S2) : Tw S t S2 := by
  obtain ⟨p, q, hp, hq, rfl⟩ := h
  obtain ⟨p', q', hp', hq', rfl⟩ := h2
  exact ⟨p', q', hp', hq', List.set_set _⟩
theorem Town.refl {S : Store} {t : Nat} (h : Town S t) : Tw S t S := by
  obtain ⟨p, q, hp, hq, e⟩ := h
  exact ⟨p, q, hp, hq, (set_same e).symm⟩
theorem Tw.len {S S' : Store} {t : Nat} (h : Tw S t S') : S'.length = S.length := by
  obtain ⟨p, q, _, _, rfl⟩ := h
  simp
theorem Tw.get {S S' : Store} {t n : Nat} (h : Tw S t S') (hn : n ≠ t) : S'[n]? = S[n]? := by
  obtain ⟨p, q, _, _, rfl⟩ := h
  rw [List.getElem?_set_ne (Ne.symm hn)]
theorem Tw.cut {S S' : Store} {t : Nat} (h : Tw S t S') : cutOk S S' := by
  obtain ⟨p, q, _, _, rfl⟩ := h
  intro i o hi e
  by_cases c : t = i
  · subst c
    rw [List.getElem?_set_self hi] at e
    cases e
    refine .inr fun v hv => ?_
    rcases List.mem_cons.mp hv with z | z
    · rw [z]; trivial
    · rw [List.mem_singleton.mp z]; trivial
  · rw [List.getElem?_set_ne c] at e
    exact .inl e
theorem finR_cut {S S' : Store} {x : D} (h : cutOk S S') (hl : S'.length = S.length) : finR false S (.d x) S' = .ok (.d x) S' := by
  unfold finR
  rw [if_neg (by decide)]
  show ofO (popO S (.d x) S') = _
  unfold popO
  rw [if_pos ⟨h, trivial⟩, ← hl, List.take_length]
  rfl
theorem ix_r0 {S : Store} {t : Nat} {a b : Val} (h : S[t]? = some (.lst [a, b])) : ixV (.ref t) (.d (.int 0)) S = some (a, S) := by
  simp [ixV, ixQ, asDic, ixI, asL, h, atI, ixN]
theorem ix_r1 {S : Store} {t : Nat} {a b : Val} (h : S[t]? = some (.lst [a, b])) : ixV (.ref t) (.d (.int 1)) S = some (b, S) := by
  simp [ixV, ixQ, asDic, ixI, asL, h, atI, ixN]
theorem set_r1 {S : Store} {t : Nat} {a b c : Val} (h : S[t]? = some (.lst [a, b])) : setV (.ref t) (.d (.int 1)) c S = some (S.set t (.lst [a, c])) := by
  simp [setV, h, ixN]
theorem set_r0 {S : Store} {t : Nat} {a b c : Val} (h : S[t]? = some (.lst [a, b])) : setV (.ref t) (.d (.int 0)) c S = some (S.set t (.lst [c, b])) := by
  simp [setV, h, ixN]
theorem get_r0 {S : Store} {t : Nat} {a b : Val} (h : S[t]? = some (.lst [a, b])) : getV (.ref t) (.d (.int 0)) S = some (a, S) := by
  simp [getV, h]
theorem scr_at {ns : List Int} {i : Int} {S : Store} (h0 : 0 ≤ i) (h1 : i < ns.length) : ixV (.scr ns) (.d (.int i)) S = some (.d (.int (ns.getD i.toNat 0)), S) := by
  have hl : i.toNat < ns.length := by omega
  simp [ixV, ixQ, asDic, ixI, atI, ixN, h0, h1, List.getD_eq_getElem?_getD, List.getElem?_eq_getElem hl]
theorem fdiv_int {i j : Int} {S : Store} (h : 0 < j) (h2 : j ≤ 100000) : fdivV (.d (.int i)) (.d (.int j)) S = some (.d (.int (i / j)), S) := by
  have : j.natAbs.log2 < 9000 := by
    have h3 : j.natAbs ≤ 100000 := by omega
    rcases Nat.eq_zero_or_pos j.natAbs with e | e
    · rw [e]; decide
    · exact (Nat.log2_lt (by omega)).mpr (Nat.lt_of_le_of_lt h3 (Nat.lt_of_lt_of_le (by decide : 100000 < 2 ^ 17) (Nat.pow_le_pow_right (by decide) (by decide))))
  simp [fdivV, h, this]
theorem ints_lay : ∀ ns : List Int, PyData.canLayAll0 (ns.map .int) = true
  | [] => by simp [PyData.canLayAll0]
  | n :: ns => by simp [PyData.canLayAll0, PyData.canLay0, ints_lay ns]
theorem ints_dep : ∀ ns : List Int, PyData.depthAll (ns.map .int) = 0
  | [] => by simp [PyData.depthAll]
  | n :: ns => by simp [PyData.depthAll, PyData.depth, ints_dep ns]
theorem eq_scr {ns : List Int} {S : Store} : cmpV .Eq (.scr ns) (.d (.list [])) S = some (.d (.bool (decide (ns = []))), S) := by
  have s1 : SeqAt.shaped (.list (ns.map .int)) = true := by simp [SeqAt.shaped, PyData.canLay0, ints_lay, PyData.depth, ints_dep]
  have s2 : SeqAt.shaped (.list []) = true := by simp [SeqAt.shaped, PyData.canLay0, PyData.canLayAll0, PyData.depth, PyData.depthAll]
  simp only [cmpV, cmpB, eqB, toP, s1, s2]
  cases ns <;> simp [PyData.eqv, PyData.eqvAll]
theorem pow_18 {S : Store} : powV (.d (.int 10)) (.d (.int 18)) S = some (.d (.int (10 ^ 18)), S) := by
  simp [powV]
theorem pow_60 {S : Store} : powV (.d (.int 10)) (.d (.int 60)) S = some (.d (.int (10 ^ 60)), S) := by
  simp [powV]
theorem mul_60 {S : Store} : mulV (.d (.int (10 ^ 60))) (.d (.int (10 ^ 60))) S = some (.d (.int (10 ^ 60 * 10 ^ 60)), S) := by
  unfold mulV
  dsimp only
  rw [if_pos (by decide +kernel)]
theorem mul_r {i j : Int} {S : Store} (h : -(2 ^ 64) < j ∧ j < 2 ^ 64) : mulV (.d (.int i)) (.d (.int j)) S = some (.d (.int (i * j)), S) := by
  unfold mulV
  dsimp only
  rw [if_pos (.inr (.inl h))]
theorem mul_l {i j : Int} {S : Store} (h : -(2 ^ 64) < i ∧ i < 2 ^ 64) : mulV (.d (.int i)) (.d (.int j)) S = some (.d (.int (i * j)), S) := by
  unfold mulV
  dsimp only
  rw [if_pos (.inl h)]
theorem pow_5 {i : Int} {S : Store} (h0 : 0 ≤ i) (h : i < 2147483647) : powV (.d (.int i)) (.d (.int 5)) S = some (.d (.int (i ^ 5)), S) := by
  have : i.natAbs < 2 ^ 64 := by omega
  simp [powV, this]
theorem draw_ok (Φ : Tab) (ns : List Int) (t : Nat) (k : Int) (S : Store) (h : Town S t) (hk : 0 < k) (hk2 : k ≤ 100000) : ∃ r S', Tw S t S' ∧ 0 ≤ r ∧ r < k ∧ fnB false 6 (b__law_draw Φ) [.scr ns, .ref t, .d (.int k)] S = .ok (.d (.int r)) S' := by
  obtain ⟨p, q, hp, hq, e⟩ := id h
  have hl := h.lt
  suffices hh : ∃ r S', Tw S t S' ∧ 0 ≤ r ∧ r < k ∧ b__law_draw Φ [some (.scr ns), some (.ref t), some (.d (.int k)), none, none, none] S = .rt (.d (.int r)) S' by
    obtain ⟨r, S', a1, a2, a3, a4⟩ := hh
    refine ⟨r, S', a1, a2, a3, ?_⟩
    unfold fnB
    rw [show [Val.scr ns, .ref t, .d (.int k)].map some ++ List.replicate (6 - [Val.scr ns, .ref t, .d (.int k)].length) none = [some (.scr ns), some (.ref t), some (.d (.int k)), none, none, none] from rfl, a4, exitR_rt, finR_cut a1.cut a1.len]
  unfold b__law_draw
  by_cases c : 0 < q
  · refine ⟨q % k, S.set t (tw p (q / k)), ⟨p, q / k, hp, Int.ediv_nonneg hq (by omega), rfl⟩, Int.emod_nonneg _ (by omega), Int.emod_lt_of_pos _ hk, ?_⟩
    simp [sSub, ix_r1 e, c, mod_int_ hk, fdiv_int hk hk2, set_r1 e, tgName]
  · have q0 : q = 0 := by omega
    subst q0
    have e1 : (S.set t (tw (p + 1) 0))[t]? = some (tw (p + 1) 0) := List.getElem?_set_self hl
    have step : ∀ B : Sv, sSeq (sIf (evB (ev2 (cmpV .Gt) (ev2 ixV (evVar 1) (evC (.d (.int 1)))) (evC (.d (.int 0))))) (sSeq (sSet (ev2 modV (ev2 ixV (evVar 1) (evC (.d (.int 1)))) (evVar 2)) (tgName 3)) (sSeq (sSub (ev2 fdivV (ev2 ixV (evVar 1) (evC (.d (.int 1)))) (evVar 2)) (evVar 1) (evC (.d (.int 1)))) (sRet (evVar 3)))) sNx) (sSeq (sSet (ev2 ixV (evVar 1) (evC (.d (.int 0)))) (tgName 4)) (sSeq (sAugS (evVar 1) (evC (.d (.int 0))) (evC (.d (.int 1))) iaddV) B)) [some (.scr ns), some (.ref t), some (.d (.int k)), none, none, none] S
        = B [some (.scr ns), some (.ref t), some (.d (.int k)), none, some (.d (.int p)), none] (S.set t (tw (p + 1) 0)) := fun B => by
      simp [sAugS, ix_r1 e, ix_r0 e, tgName, get_r0 e, iaddV, set_r0 e]
    rw [step]
    have v0 : ∀ S', evVar 0 [some (.scr ns), some (.ref t), some (.d (.int k)), none, some (.d (.int p)), none] S' = .ok (.scr ns) S' := fun _ => rfl
    have v1 : ∀ S', evVar 1 [some (.scr ns), some (.ref t), some (.d (.int k)), none, some (.d (.int p)), none] S' = .ok (.ref t) S' := fun _ => rfl
    have v2 : ∀ S', evVar 2 [some (.scr ns), some (.ref t), some (.d (.int k)), none, some (.d (.int p)), none] S' = .ok (.d (.int k)) S' := fun _ => rfl
    have v4 : ∀ S', evVar 4 [some (.scr ns), some (.ref t), some (.d (.int k)), none, some (.d (.int p)), none] S' = .ok (.d (.int p)) S' := fun _ => rfl
    have hT : Tw S t (S.set t (tw (p + 1) 0)) := ⟨p + 1, 0, by omega, by omega, rfl⟩
    generalize S.set t (tw (p + 1) 0) = S1 at e1 hT
    have hl1 : t < S1.length := by rw [hT.len]; exact hl
    have c1 : evB (ev2 (cmpV .Eq) (evVar 0) (evLst false evNil)) [some (.scr ns), some (.ref t), some (.d (.int k)), none, some (.d (.int p)), none] S1 = .ok (decide (ns = [])) S1 := by
      simp [evLst, lstO, mkL, allD, eq_scr]
    by_cases n0 : ns = []
    · rw [decide_eq_true n0] at c1
      exact ⟨p % k, S1, hT, Int.emod_nonneg _ (by omega), Int.emod_lt_of_pos _ hk, seqYes c1 (ev2_v (v4 _) (v2 _) (mod_int_ hk))⟩
    · rw [decide_eq_false n0] at c1
      rw [seqNo c1]
      have hn : 0 < ns.length := List.length_pos_iff.mpr n0
      have ln : ∀ S', evL lenL (evCons (evVar 0) evNil) [some (.scr ns), some (.ref t), some (.d (.int k)), none, some (.d (.int p)), none] S' = .ok (.d (.int ns.length)) S' := fun _ => evL_v (evCons_v (v0 _) rfl) len_scr_
      by_cases big : p < ns.length ∧ (10 : Int) ^ 18 ≤ ns.getD p.toNat 0
      · have c2 := cAnd_b (evB_b (ev2_v (v4 S1) (ln S1) lt_int_)) fun z => evB_b (ev2_v (ev2_v (v0 S1) (v4 S1) (scr_at hp big.1)) (ev2_v (a := evC (.d (.int 10))) (b := evC (.d (.int 18))) rfl rfl pow_18) ge_int_)
        rw [decide_eq_true big.1, decide_eq_true big.2] at c2
        rw [seqIf c2]
        refine ⟨ns.getD p.toNat 0 % k, S1.set t (tw (p + 1) (ns.getD p.toNat 0 / k % (10 ^ 60 * 10 ^ 60))), hT.trans ⟨p + 1, _, by omega, Int.emod_nonneg _ (by decide), rfl⟩, Int.emod_nonneg _ (by omega), Int.emod_lt_of_pos _ hk, ?_⟩
        have val := ev2_v (ev2_v (ev2_v (v0 S1) (v4 S1) (scr_at hp big.1)) (v2 S1) (fdiv_int hk hk2)) (ev2_v (ev2_v (a := evC (.d (.int 10))) (b := evC (.d (.int 60))) rfl rfl pow_60) (ev2_v (a := evC (.d (.int 10))) (b := evC (.d (.int 60))) rfl rfl pow_60) mul_60) (mod_int_ (S := S1) (i := ns.getD p.toNat 0 / k) (j := 10 ^ 60 * 10 ^ 60) (by decide +kernel))
        have ret := ev2_v (ev2_v (v0 (S1.set t (tw (p + 1) (ns.getD p.toNat 0 / k % (10 ^ 60 * 10 ^ 60))))) (v4 _) (scr_at hp big.1)) (v2 _) (mod_int_ hk)
        rw [if_pos (by rfl)]
        simp only [sSeq, sSub, sW]
        rw [val]
        simp only [v1, evC]
        rw [set_r1 e1]
        simp only [SR.thenS]
        rw [sRet_v ret]
      · have c2 : cAnd (evB (ev2 (cmpV .Lt) (evVar 4) (evL lenL (evCons (evVar 0) evNil)))) (evB (ev2 (cmpV .GtE) (ev2 ixV (evVar 0) (evVar 4)) (ev2 powV (evC (.d (.int 10))) (evC (.d (.int 18)))))) [some (.scr ns), some (.ref t), some (.d (.int k)), none, some (.d (.int p)), none] S1 = .ok false S1 := by
          by_cases b1 : p < ns.length
          · have b2 : ¬ (10 : Int) ^ 18 ≤ ns.getD p.toNat 0 := fun z => big ⟨b1, z⟩
            have := cAnd_b (evB_b (ev2_v (v4 S1) (ln S1) lt_int_)) fun z => evB_b (ev2_v (ev2_v (v0 S1) (v4 S1) (scr_at hp b1)) (ev2_v (a := evC (.d (.int 10))) (b := evC (.d (.int 18))) rfl rfl pow_18) ge_int_)
            rw [decide_eq_false b2, Bool.and_false] at this
            exact this
          · have := cAnd_b (q := false) (b := evB (ev2 (cmpV .GtE) (ev2 ixV (evVar 0) (evVar 4)) (ev2 powV (evC (.d (.int 10))) (evC (.d (.int 18)))))) (evB_b (ev2_v (v4 S1) (ln S1) lt_int_)) fun z => absurd (of_decide_eq_true z) b1
            rw [Bool.and_false] at this
            exact this
        rw [seqNo c2]
        have hm0 : 0 ≤ p % (ns.length : Int) := Int.emod_nonneg _ (by omega)
        have hm1 : p % (ns.length : Int) < ns.length := Int.emod_lt_of_pos _ (by omega)
        have val := ev2_v (ev2_v (ev2_v (ev2_v (ev2_v (v0 S1) (ev2_v (v4 S1) (ln S1) (mod_int_ (by omega))) (scr_at hm0 hm1)) (b := evC (.d (.int 1103515245))) rfl (mul_r (by decide))) (ev2_v (a := evC (.d (.int 7919))) rfl (v4 S1) (mul_l (by decide))) add_int_) (b := evC (.d (.int 12345))) rfl add_int_) (b := evC (.d (.int 2147483647))) rfl (mod_int_ (by decide))
        generalize hx : (ns.getD (p % (ns.length : Int)).toNat 0 * 1103515245 + 7919 * p + 12345) % 2147483647 = x at val
        have hx0 : 0 ≤ x := by rw [← hx]; exact Int.emod_nonneg _ (by decide)
        have hx1 : x < 2147483647 := by rw [← hx]; exact Int.emod_lt_of_pos _ (by decide)
        refine ⟨x ^ 5 % 2147483647 % 999983 % k, S1, hT, Int.emod_nonneg _ (by omega), Int.emod_lt_of_pos _ hk, ?_⟩
        simp only [sSeq, sSet, sW]
        rw [val]
        simp [goT, tgName, pow_5 hx0 hx1, mod_int_ hk, mod_int_ (show (0 : Int) < 2147483647 by decide), mod_int_ (show (0 : Int) < 999983 by decide)]
end Lw
namespace Lw
open L2 PySem PySem.Spec FH
def DrawOk (f : Fn) : Prop := ∀ (ns : List Int) (t : Nat) (k : Int) (S : Store), Town S t → 0 < k → k ≤ 100000 → ∃ r S', Tw S t S' ∧ 0 ≤ r ∧ r < k ∧ f [.scr ns, .ref t, .d (.int k)] S = .ok (.d (.int r)) S'
def PickOk (f : Fn) : Prop := ∀ (ns : List Int) (t : Nat) (xs : List D) (S : Store), Town S t → xs ≠ [] → xs.length ≤ 100000 → ∃ x S', x ∈ xs ∧ Tw S t S' ∧ f [.scr ns, .ref t, .d (.list xs)] S = .ok (.d x) S'
theorem ix_list {xs : List D} {r : Int} {S : Store} (h0 : 0 ≤ r) (h1 : r < xs.length) : ∃ x, x ∈ xs ∧ ixV (.d (.list xs)) (.d (.int r)) S = some (.d x, S) := by
  have hl : r.toNat < xs.length := by omega
  refine ⟨xs[r.toNat], List.getElem_mem _, ?_⟩
  simp [ixV, ixQ, asDic, ixI, asL, atI, ixN, h0, h1, List.getElem?_eq_getElem hl]
theorem pick_ok {Φ : Tab} (hd : DrawOk (Φ i__law_draw)) : PickOk (fnB false 3 (b__law_pick Φ)) := by
  intro ns t xs S ht hx hl
  have hp : 0 < xs.length := List.length_pos_iff.mpr hx
  obtain ⟨r, S', h1, h2, h3, h4⟩ := hd ns t xs.length S ht (by omega) (by omega)
  obtain ⟨x, hm, he⟩ := ix_list (xs := xs) (S := S') h2 h3
  refine ⟨x, S', hm, h1, ?_⟩
  unfold fnB
  have e : b__law_pick Φ ([Val.scr ns, .ref t, .d (.list xs)].map some ++ List.replicate (3 - [Val.scr ns, .ref t, .d (.list xs)].length) none) S = .rt (.d x) S' :=
    sRet_v (ev2_v rfl (evCall_v (evCons_v rfl (evCons_v rfl (evCons_v (evL_v (evCons_v rfl rfl) len_lst_) rfl))) rfl h4) he)
  rw [e, exitR_rt, finR_cut h1.cut h1.len]
theorem lst_strs {l : FH.Loc} {S : Store} {zs : List Str} {m : FH.Loc → Store → Res (List Val)} (h : m l S = .ok ((zs.map PyData.str).map .d) S) (hz : zs.length ≤ 100) : evLst false m l S = .ok (.d (.list (zs.map .str))) S := by
  unfold evLst
  refine evL_v (r := (.d (.list (zs.map .str)), S)) h ?_
  unfold lstO
  rw [if_pos (by simp; exact Nat.le_trans hz (by decide)), if_neg (by decide)]
  unfold mkL
  rw [allD_map]
theorem en_pick {Φ : Tab} (hp : PickOk (Φ i__law_pick)) {l : FH.Loc} {S : Store} {t : Nat} {ns : List Int} {m : Ev} {xs : List D} (h0 : evVar 0 l S = .ok (.scr ns) S) (h1 : evVar 1 l S = .ok (.ref t) S) (hm : m l S = .ok (.d (.list xs)) S) (ht : Town S t) (hx : xs ≠ []) (hl : xs.length ≤ 100000) :
    Ends (evCall 3 (Φ i__law_pick) (evCons (evVar 0) (evCons (evVar 1) (evCons m evNil))) l S) fun v S' => Tw S t S' ∧ ∃ x ∈ xs, v = .d x := by
  obtain ⟨x, S', a1, a2, a3⟩ := hp ns t xs S ht hx hl
  exact .of (evCall_v (evCons_v h0 (evCons_v h1 (evCons_v hm rfl))) rfl a3) ⟨a2, x, a1, rfl⟩
theorem en_picks {Φ : Tab} (hp : PickOk (Φ i__law_pick)) {l : FH.Loc} {S : Store} {t : Nat} {ns : List Int} {m : FH.Loc → Store → Res (List Val)} (zs : List Str) (h0 : evVar 0 l S = .ok (.scr ns) S) (h1 : evVar 1 l S = .ok (.ref t) S) (hm : m l S = .ok ((zs.map PyData.str).map .d) S) (ht : Town S t) (hx : zs ≠ []) (hl : zs.length ≤ 100) :
    Ends (evCall 3 (Φ i__law_pick) (evCons (evVar 0) (evCons (evVar 1) (evCons (evLst false m) evNil))) l S) fun v S' => Tw S t S' ∧ ∃ z ∈ zs, v = .d (.str z) :=
  (en_pick hp h0 h1 (lst_strs hm hl) ht (by simpa using hx) (by simp; omega)).mono fun v S' ⟨a, x, hx, e⟩ => by
    obtain ⟨z, hz, rfl⟩ := List.mem_map.mp hx
    exact ⟨a, z, hz, e⟩
theorem en_draw {Φ : Tab} (hd : DrawOk (Φ i__law_draw)) {l : FH.Loc} {S : Store} {t : Nat} {ns : List Int} (k : Int) (h0 : evVar 0 l S = .ok (.scr ns) S) (h1 : evVar 1 l S = .ok (.ref t) S) (ht : Town S t) (hk : 0 < k) (hk2 : k ≤ 100000) :
    Ends (evCall 3 (Φ i__law_draw) (evCons (evVar 0) (evCons (evVar 1) (evCons (evC (.d (.int k))) evNil))) l S) fun v S' => Tw S t S' ∧ ∃ r : Int, 0 ≤ r ∧ r < k ∧ v = .d (.int r) := by
  obtain ⟨r, S', a1, a2, a3, a4⟩ := hd ns t k S ht hk hk2
  exact .of (evCall_v (evCons_v h0 (evCons_v h1 (evCons_v rfl rfl))) rfl a4) ⟨a1, r, a2, a3, rfl⟩
/-- a store with more behind it -/
theorem town_app {S R : Store} {t : Nat} (h : Town S t) : Town (S ++ R) t := by
  obtain ⟨p, q, hp, hq, e⟩ := id h
  exact ⟨p, q, hp, hq, by rw [List.getElem?_append_left h.lt]; exact e⟩
theorem tw_app {S R S' : Store} {t : Nat} (ht : t < S.length) (h : Tw (S ++ R) t S') : ∃ S1, Tw S t S1 ∧ S' = S1 ++ R := by
  obtain ⟨p, q, hp, hq, rfl⟩ := h
  exact ⟨S.set t (tw p q), ⟨p, q, hp, hq, rfl⟩, by rw [List.set_append_left _ _ ht]⟩
/-- what may be drawn as a thing -/
def NamedIn (here : List D) (kind : Str) (nm : D) : Prop := ∃ m n a h r, PyData.tuple [m, n, a, h, .tuple (.str kind :: r)] ∈ here ∧ nm = .tuple [m, n]
abbrev SH : List Str := ["s", "t"]
abbrev EN : List Str := ["x", "y"]
abbrev VA : List Str := ["", "a1", "b", "c9"]
abbrev HA : List Str := ["ann", "bob", "cy"]
abbrev RI : List Str := ["write", "lead"]
abbrev MA : List Str := ["ma", "mb", "mc"]
inductive Thing (here : List D) : D → Prop
  | open_ {sh : Str} : sh ∈ (["s", "t", "u"] : List Str) → Thing here (.tuple [.str "open", .str sh])
  | put {sh en v : Str} : sh ∈ SH → en ∈ EN → v ∈ VA → Thing here (.tuple [.str "put", .str sh, .str en, .str v])
  | drop {sh en : Str} : sh ∈ SH → en ∈ EN → Thing here (.tuple [.str "drop", .str sh, .str en])
  | add {sh en : Str} {i : Int} : sh ∈ SH → en ∈ EN → -20 ≤ i → i < 20 → Thing here (.tuple [.str "add", .str sh, .str en, .int i])
  | line {sh en v : Str} {nm : D} : sh ∈ SH → en ∈ EN → v ∈ VA → (nm = .none ∨ NamedIn here "line" nm) → Thing here (.tuple [.str "line", .str sh, .str en, nm, .str v])
  | give {sh h r : Str} : sh ∈ SH → h ∈ HA → r ∈ RI → Thing here (.tuple [.str "give", .str sh, .str h, .str r])
  | call {sh h r : Str} {b : Bool} : sh ∈ SH → h ∈ HA → r ∈ RI → Thing here (.tuple [.str "call", .str sh, .str h, .str r, .bool b])
  | ask {sh v m : Str} : sh ∈ SH → v ∈ VA → m ∈ MA → Thing here (.tuple [.str "ask", .str sh, .str v, .str m])
  | strike {sh en : Str} {nm : D} : sh ∈ SH → en ∈ EN → NamedIn here "line" nm → Thing here (.tuple [.str "strike", .str sh, .str en, nm])
  | take {nm : D} : NamedIn here "ask" nm → Thing here (.tuple [.str "take", nm])
  | done {nm : D} : NamedIn here "ask" nm → Thing here (.tuple [.str "done", nm])
  | pass {nm : D} {m : Str} : NamedIn here "ask" nm → m ∈ MA → Thing here (.tuple [.str "pass", nm, .str m])
abbrev WO : List Str := ["open", "put", "put", "put", "drop", "add", "line", "line", "strike", "give", "give", "call", "call", "ask", "take", "pass", "done"]
/-- what is known of the deeds at hand -/
def Here (here : List D) : Prop := here.length ≤ 100000 ∧ ∀ d ∈ here, isDeed d = true ∧ goodD d = true ∧ d.depth ≤ 10
theorem deed_shape {d : D} (h : isDeed d = true) : ∃ m n a hd w r, d = .tuple [.str m, .int n, .tuple a, .str hd, .tuple (.str w :: r)] := by
  unfold isDeed at h
  split at h
  · rename_i m n after hand what
    simp only [Bool.and_eq_true] at h
    obtain ⟨⟨⟨⟨h1, h2⟩, h3⟩, h4⟩, h5⟩ := h
    obtain ⟨x, i, e⟩ := name_shape h1
    injection e with e
    injection e with e1 e2
    injection e2 with e2 _
    subst e1 e2
    cases hand <;> first | (cases h3; done) | skip
    unfold isWhat at h4
    split at h4
    · exact ⟨_, _, _, _, _, _, rfl⟩
    · cases h4
  · cases h
theorem tup_vals {l : FH.Loc} {S : Store} {ds : List D} {m : FH.Loc → Store → Res (List Val)} (h : m l S = .ok (ds.map .d) S) (hz : ds.length ≤ 100) : evTup m l S = .ok (.d (.tuple ds)) S :=
  evL_v h (tup_data (Nat.le_trans hz (by decide)))
theorem eq_nil {ds : List D} {S : Store} (h : goodAll ds = true) (hd : PyData.depthAll ds ≤ 60) : cmpV .NotEq (.d (.list ds)) (.d (.list [])) S = some (.d (.bool (!decide (ds = []))), S) := by
  have s1 : SeqAt.shaped (.list ds) = true := shaped_good (by rw [goodD]; exact h) (by rw [PyData.depth]; omega)
  have s2 : SeqAt.shaped (.list []) = true := shaped_good (by rfl) (by simp [PyData.depth, PyData.depthAll])
  simp only [cmpV, cmpB, eqB, toP, s1, s2]
  cases ds <;> simp [PyData.eqv, PyData.eqvAll]
theorem tw_fin {S S1 R : Store} {t : Nat} {x : D} (h : Tw S t S1) : finR false S (.d x) (S1 ++ R) = .ok (.d x) S1 := by
  unfold finR
  rw [if_neg (by decide)]
  show ofO (popO S (.d x) (S1 ++ R)) = _
  have hl := h.len
  unfold popO
  rw [if_pos ⟨fun i o hi e => h.cut i o hi (by rw [List.getElem?_append_left (by omega)] at e; exact e), trivial⟩, ← hl, List.take_left']
  · rfl
  · rfl
theorem filterMap_d (g : D → Option D) : ∀ ds : List D, (ds.map Val.d).filterMap (fun x => match x with
    | .d d => (g d).map Val.d
    | _ => none) = (ds.filterMap g).map .d
  | [] => rfl
  | d :: ds => by
    have ih := filterMap_d g ds
    rw [List.map_cons, List.filterMap_cons, List.filterMap_cons, ih]
    cases e : g d <;> simp [e]
def ThingOk (f : Fn) : Prop := ∀ (ns : List Int) (t : Nat) (here : List D) (S : Store), Town S t → Here here → Ends (f [.scr ns, .ref t, .d (.list here)] S) fun v S' => Tw S t S' ∧ ∃ what, v = .d what ∧ Thing here what
theorem named_lc {here : List D} {kind : Str} {l : FH.Loc} {S : Store} (hh : Here here) (hk : PyData.strOk kind = true) (h2 : l[2]? = some (some (.d (.list here)))) (h10 : l[10]? = some (some (.d (.str kind)))) (hl : l.length = 14) :
    ∃ names, evLC false (evIter (evVar 2)) (tgName 13) [13] (evB (ev2 (cmpV .Eq) (ev2 ixV (ev2 ixV (evVar 13) (evC (.d (.int 4)))) (evC (.d (.int 0)))) (evVar 10))) (evSl (evVar 13) none (some (evC (.d (.int 2))))) l S = .ok (.d (.list names)) S ∧ (∀ nm ∈ names, NamedIn here kind nm) ∧ names.length ≤ 100000 := by
  have v2 : ∀ S, evVar 2 l S = .ok (.d (.list here)) S := fun S => by simp [evVar, h2]
  let g : D → Option D := fun d => match d with
    | .tuple [m, n, a, h, .tuple (.str w :: r)] => if w = kind then some (.tuple [m, n]) else none
    | _ => none
  refine ⟨here.filterMap g, ?_, fun nm hn => ?_, Nat.le_trans (List.length_filterMap_le _ _) hh.1⟩
  · refine evLC_pure (v := .d (.list here)) (items := here.map .d) (by simp [v2, itemsOf, asDic, asL]) (fun x => match x with
      | .d d => (g d).map .d
      | _ => none) _ (fun x hx => ?_) ?_ (by rw [List.length_map]; exact len_small hh.1)
    · obtain ⟨d, hd, rfl⟩ := List.mem_map.mp hx
      obtain ⟨h1, h3, _⟩ := hh.2 d hd
      obtain ⟨m, n, a, hnd, w, r, rfl⟩ := deed_shape h1
      have hw : PyData.strOk w = true := by
        rw [goodD] at h3
        have := good_mem h3 (.tuple (.str w :: r)) (by simp)
        rw [goodD] at this
        exact (good_str (good_mem this (.str w) (by simp))).1
      have el : (wipeL l [13]).length = 14 := by rw [wipeL_len]; exact hl
      have c13 : ∀ S, evVar 13 ((wipeL l [13]).set 13 (some (.d (.tuple [.str m, .int n, .tuple a, .str hnd, .tuple (.str w :: r)])))) S = .ok (.d (.tuple [.str m, .int n, .tuple a, .str hnd, .tuple (.str w :: r)])) S := fun S => by
        simp [evVar, List.getElem?_set_self (show 13 < (wipeL l [13]).length by omega)]
      have c10 : ∀ S, evVar 10 ((wipeL l [13]).set 13 (some (.d (.tuple [.str m, .int n, .tuple a, .str hnd, .tuple (.str w :: r)])))) S = .ok (.d (.str kind)) S := fun S => by
        simp [evVar, wipeL, h10]
      have tg : (tgName 13).2 (.d (.tuple [.str m, .int n, .tuple a, .str hnd, .tuple (.str w :: r)])) (wipeL l [13]) = some ((wipeL l [13]).set 13 (some (.d (.tuple [.str m, .int n, .tuple a, .str hnd, .tuple (.str w :: r)])))) := by
        simp [tgName, el]
      have cc : ∀ S, evB (ev2 (cmpV .Eq) (ev2 ixV (ev2 ixV (evVar 13) (evC (.d (.int 4)))) (evC (.d (.int 0)))) (evVar 10)) ((wipeL l [13]).set 13 (some (.d (.tuple [.str m, .int n, .tuple a, .str hnd, .tuple (.str w :: r)])))) S = .ok (decide (w = kind)) S := fun S =>
        evB_b (ev2_v (ev2_v (ev2_v (c13 S) rfl ix_t4) rfl ix_t0) (c10 S) (eq_str_ hw hk))
      by_cases c : w = kind
      · have e1 : (match (Val.d (.tuple [.str m, .int n, .tuple a, .str hnd, .tuple (.str w :: r)])) with | .d d => (g d).map Val.d | _ => none) = some (.d (.tuple [.str m, .int n])) := by simp [g, c]
        show TurnIs _ _ _ _ _ _ _ (match (Val.d (.tuple [.str m, .int n, .tuple a, .str hnd, .tuple (.str w :: r)])) with | .d d => (g d).map Val.d | _ => none)
        rw [e1]
        refine ⟨_, tg, fun acc => ⟨by rw [cc, decide_eq_true c], ?_⟩⟩
        simp [c13]
      · have e1 : (match (Val.d (.tuple [.str m, .int n, .tuple a, .str hnd, .tuple (.str w :: r)])) with | .d d => (g d).map Val.d | _ => none) = none := by simp [g, c]
        show TurnIs _ _ _ _ _ _ _ (match (Val.d (.tuple [.str m, .int n, .tuple a, .str hnd, .tuple (.str w :: r)])) with | .d d => (g d).map Val.d | _ => none)
        rw [e1]
        exact ⟨_, tg, fun acc => by rw [cc, decide_eq_false c]⟩
    · exact filterMap_d g here
  · obtain ⟨d, hd, e⟩ := List.mem_filterMap.mp hn
    simp only [g] at e
    split at e
    · split at e
      · rename_i m n a h w r hw
        cases e
        subst hw
        exact ⟨m, n, a, h, r, hd, rfl⟩
      · cases e
    · cases e
section
variable {Φ : Tab} {l : FH.Loc} {S Sa R : Store} {t : Nat} {ns : List Int}
theorem en_picksA (hp : PickOk (Φ i__law_pick)) {m : FH.Loc → Store → Res (List Val)} (zs : List Str) (ht : Town S t) (ha : Tw S t Sa) (h0 : evVar 0 l (Sa ++ R) = .ok (.scr ns) (Sa ++ R)) (h1 : evVar 1 l (Sa ++ R) = .ok (.ref t) (Sa ++ R)) (hm : m l (Sa ++ R) = .ok ((zs.map PyData.str).map .d) (Sa ++ R)) (hx : zs ≠ []) (hl : zs.length ≤ 100) :
    Ends (evCall 3 (Φ i__law_pick) (evCons (evVar 0) (evCons (evVar 1) (evCons (evLst false m) evNil))) l (Sa ++ R)) fun v S' => ∃ Sb, Tw S t Sb ∧ S' = Sb ++ R ∧ ∃ z ∈ zs, v = .d (.str z) :=
  (en_picks hp zs h0 h1 hm (town_app (ha.town ht.lt)) hx hl).mono fun v S' ⟨w1, z, hz, e⟩ => by
    obtain ⟨Sb, tb, e2⟩ := tw_app (ha.town ht.lt).lt w1
    exact ⟨Sb, ha.trans tb, e2, z, hz, e⟩
theorem en_pickA (hp : PickOk (Φ i__law_pick)) {m : Ev} {xs : List D} (ht : Town S t) (ha : Tw S t Sa) (h0 : evVar 0 l (Sa ++ R) = .ok (.scr ns) (Sa ++ R)) (h1 : evVar 1 l (Sa ++ R) = .ok (.ref t) (Sa ++ R)) (hm : m l (Sa ++ R) = .ok (.d (.list xs)) (Sa ++ R)) (hx : xs ≠ []) (hl : xs.length ≤ 100000) :
    Ends (evCall 3 (Φ i__law_pick) (evCons (evVar 0) (evCons (evVar 1) (evCons m evNil))) l (Sa ++ R)) fun v S' => ∃ Sb, Tw S t Sb ∧ S' = Sb ++ R ∧ ∃ x ∈ xs, v = .d x :=
  (en_pick hp h0 h1 hm (town_app (ha.town ht.lt)) hx hl).mono fun v S' ⟨w1, z, hz, e⟩ => by
    obtain ⟨Sb, tb, e2⟩ := tw_app (ha.town ht.lt).lt w1
    exact ⟨Sb, ha.trans tb, e2, z, hz, e⟩
theorem dl_pick (hp : PickOk (Φ i__law_pick)) {m : FH.Loc → Store → Res (List Val)} {r : FH.Loc → Store → Res (List Val)} {P : List D → Store → Prop} (zs : List Str) (ht : Town S t) (ha : Tw S t Sa) (h0 : evVar 0 l (Sa ++ R) = .ok (.scr ns) (Sa ++ R)) (h1 : evVar 1 l (Sa ++ R) = .ok (.ref t) (Sa ++ R)) (hm : m l (Sa ++ R) = .ok ((zs.map PyData.str).map .d) (Sa ++ R)) (hx : zs ≠ []) (hl : zs.length ≤ 100)
    (hr : ∀ z ∈ zs, ∀ Sf, Tw S t Sf → Ends (r l (Sf ++ R)) (DL fun ds S' => P (.str z :: ds) S')) : Ends (evCons (evCall 3 (Φ i__law_pick) (evCons (evVar 0) (evCons (evVar 1) (evCons (evLst false m) evNil)))) r l (Sa ++ R)) (DL P) :=
  dl_eff (Q := fun x S' => ∃ Sf z, Tw S t Sf ∧ S' = Sf ++ R ∧ z ∈ zs ∧ x = .str z) ((en_picksA hp zs ht ha h0 h1 hm hx hl).mono fun v S' ⟨Sf, tf, e1, z, hz, e2⟩ => ⟨.str z, e2, Sf, z, tf, e1, hz, rfl⟩) fun x S1 ⟨Sf, z, tf, e1, hz, e2⟩ => by
    subst e1 e2
    exact hr z hz Sf tf
theorem en_drawA (hd : DrawOk (Φ i__law_draw)) (k : Int) (ht : Town S t) (ha : Tw S t Sa) (h0 : evVar 0 l (Sa ++ R) = .ok (.scr ns) (Sa ++ R)) (h1 : evVar 1 l (Sa ++ R) = .ok (.ref t) (Sa ++ R)) (hk : 0 < k) (hk2 : k ≤ 100000) :
    Ends (evCall 3 (Φ i__law_draw) (evCons (evVar 0) (evCons (evVar 1) (evCons (evC (.d (.int k))) evNil))) l (Sa ++ R)) fun v S' => ∃ Sb, Tw S t Sb ∧ S' = Sb ++ R ∧ ∃ r : Int, 0 ≤ r ∧ r < k ∧ v = .d (.int r) :=
  (en_draw hd k h0 h1 (town_app (ha.town ht.lt)) hk hk2).mono fun v S' ⟨w1, r, h2, h3, e⟩ => by
    obtain ⟨Sb, tb, e2⟩ := tw_app (ha.town ht.lt).lt w1
    exact ⟨Sb, ha.trans tb, e2, r, h2, h3, e⟩
end
theorem named_ok {here : List D} {kind : Str} {nm : D} (hh : Here here) (h : NamedIn here kind nm) : isName nm = true ∧ goodD nm = true ∧ nm.depth ≤ 1 := by
  obtain ⟨m, n, a, hd, r, hm, rfl⟩ := h
  obtain ⟨h1, h2, h3⟩ := hh.2 _ hm
  obtain ⟨m', n', a', hd', w', r', e⟩ := deed_shape h1
  injection e with e
  simp only [List.cons.injEq] at e
  obtain ⟨rfl, rfl, rfl, rfl, e, _⟩ := e
  refine ⟨?_, ?_, by simp [PyData.depth, PyData.depthAll]⟩
  · simp only [isDeed, Bool.and_eq_true] at h1
    exact h1.1.1.1.1
  · rw [goodD] at h2 ⊢
    refine good_of fun d hd => ?_
    simp only [List.mem_cons, List.not_mem_nil, or_false] at hd
    exact good_mem h2 d (by simp; rcases hd with e | e <;> simp [e])
theorem depthAll_le {k : Nat} : ∀ {ds : List D}, (∀ d ∈ ds, d.depth ≤ k) → PyData.depthAll ds ≤ k
  | [], _ => by simp [PyData.depthAll]
  | d :: ds, h => by
    have h1 := h d List.mem_cons_self
    have h2 := depthAll_le fun x z => h x (List.mem_cons_of_mem d z)
    simp only [PyData.depthAll]
    omega
theorem ok_of_mem {zs : List Str} (h : zs.all PyData.strOk = true) {z : Str} (hz : z ∈ zs) : PyData.strOk z = true := List.all_eq_true.mp h z hz
theorem mem_two {a b : Str} {l : List Str} (h : a ∈ l) (hs : ∀ x ∈ l, x ∈ [b]) : a = b := List.mem_singleton.mp (hs a h)
theorem thing_ok {Φ : Tab} (hd : DrawOk (Φ i__law_draw)) (hp : PickOk (Φ i__law_pick)) : ThingOk (fnB false 14 (b__law_thing Φ)) := by
  intro ns t here S ht hh
  refine en_fn (N := fun _ _ => False) (R := fun v S' => ∃ S1 R, Tw S t S1 ∧ S' = S1 ++ R ∧ ∃ what, v = .d what ∧ Thing here what) ?_ (fun _ _ z => z.elim) fun v S' ⟨S1, R, h1, h2, what, h3, h4⟩ => ?_
  · unfold b__law_thing
    rw [show [Val.scr ns, .ref t, .d (.list here)].map some ++ List.replicate (14 - [Val.scr ns, .ref t, .d (.list here)].length) none = [some (.scr ns), some (.ref t), some (.d (.list here)), none, none, none, none, none, none, none, none, none, none, none] from rfl]
    refine gs_name (P := fun v S1 => v = .ref S.length ∧ S1 = S ++ [.lst (([("open" : Str), "put", "put", "put", "drop", "add", "line", "line", "strike", "give", "give"].map PyData.str).map .d)]) (.of (lst_own rfl (by simp)) ⟨rfl, rfl⟩) (by simp) fun v S1 ⟨e1, e2⟩ => ?_
    subst e1 e2
    refine gs_drop (P := fun _ S1 => S1 = S ++ [.lst (([("open" : Str), "put", "put", "put", "drop", "add", "line", "line", "strike", "give", "give", "call", "call"].map PyData.str).map .d)]) (.of (evM_v (S1 := S ++ [.lst (([("open" : Str), "put", "put", "put", "drop", "add", "line", "line", "strike", "give", "give"].map PyData.str).map .d)]) rfl (kind_lst get_last) (evCons_v (lst_frz (ds := [.str "call", .str "call"]) rfl (by decide)) rfl) (ext_v get_last (by simp))) ?_) fun v S1 e1 => ?_
    · rw [set_last]
      rfl
    subst e1
    have hT := town_app (R := [.lst (([("open" : Str), "put", "put", "put", "drop", "add", "line", "line", "strike", "give", "give", "call", "call"].map PyData.str).map .d)]) ht
    refine gs_name (en_pick hp (xs := WO.map .str) rfl rfl (ev2_v rfl (lst_frz (ds := [.str "ask", .str "take", .str "pass", .str "done"]) rfl (by decide)) (add_ref (xs := ([("open" : Str), "put", "put", "put", "drop", "add", "line", "line", "strike", "give", "give", "call", "call"].map PyData.str)) get_last (by simp))) hT (by simp) (by simp)) (by simp) fun v S1 ⟨w1, x, hx, ex⟩ => ?_
    obtain ⟨word, hword, rfl⟩ := List.mem_map.mp hx
    subst ex
    obtain ⟨Sa, ta, rfl⟩ := tw_app ht.lt w1
    generalize [Ob.lst (([("open" : Str), "put", "put", "put", "drop", "add", "line", "line", "strike", "give", "give", "call", "call"].map PyData.str).map Val.d)] = R
    have okw : PyData.strOk word = true := ok_of_mem (by decide +kernel) hword
    -- shelf, entry
    refine gs_par (P := fun vs S' => ∃ Sb sh en, Tw S t Sb ∧ S' = Sb ++ R ∧ sh ∈ SH ∧ en ∈ EN ∧ vs = [.d (.str sh), .d (.str en)]) ?_ fun vs S1 ⟨Sb, sh, en, tb, e1, hsh, hen, e2⟩ => ?_
    · refine (en_cons (Q := fun v us S' => ∃ Sb sh en, Tw S t Sb ∧ S' = Sb ++ R ∧ sh ∈ SH ∧ en ∈ EN ∧ v = .d (.str sh) ∧ us = [.d (.str en)]) (en_picksA hp ["s", "s", "s", "t"] ht ta rfl rfl rfl (by simp) (by decide)) fun v S1 ⟨Sb, tb, e1, sh, hsh, e2⟩ => ?_).mono fun vs S' ⟨v, us, e, Sb, sh, en, q1, q2, q3, q4, q5, q6⟩ => ⟨Sb, sh, en, q1, q2, q3, q4, by rw [e, q5, q6]⟩
      subst e1
      refine (en_cons (Q := fun v us S' => ∃ Sb en, Tw S t Sb ∧ S' = Sb ++ R ∧ en ∈ EN ∧ v = .d (.str en) ∧ us = []) (en_picksA hp ["x", "x", "y"] ht tb rfl rfl rfl (by simp) (by decide)) fun v2 S2 ⟨Sc, tc, e3, en, hen, e4⟩ => en_nil ⟨Sc, en, tc, e3, by simpa using hen, e4, rfl⟩).mono fun vs S' ⟨v, us, e, Sb, en, q1, q2, q4, q5, q6⟩ => ⟨Sb, sh, en, q1, q2, by simpa using hsh, q4, e2, by rw [e, q5, q6]⟩
    subst e1 e2
    refine ⟨_, rfl, ?_⟩
    -- hand, right
    refine gs_par (P := fun vs S' => ∃ Sc h r, Tw S t Sc ∧ S' = Sc ++ R ∧ h ∈ HA ∧ r ∈ RI ∧ vs = [.d (.str h), .d (.str r)]) ?_ fun vs S1 ⟨Sc, ha, ri, tc, e1, hha, hri, e2⟩ => ?_
    · refine (en_cons (Q := fun v us S' => ∃ Sb sh en, Tw S t Sb ∧ S' = Sb ++ R ∧ sh ∈ HA ∧ en ∈ RI ∧ v = .d (.str sh) ∧ us = [.d (.str en)]) (en_picksA hp ["ann", "bob", "cy"] ht tb rfl rfl rfl (by simp) (by decide)) fun v S1 ⟨Sc, tc, e1, ha, hha, e2⟩ => ?_).mono fun vs S' ⟨v, us, e, Sb, sh, en, q1, q2, q3, q4, q5, q6⟩ => ⟨Sb, sh, en, q1, q2, q3, q4, by rw [e, q5, q6]⟩
      subst e1
      refine (en_cons (Q := fun v us S' => ∃ Sb en, Tw S t Sb ∧ S' = Sb ++ R ∧ en ∈ RI ∧ v = .d (.str en) ∧ us = []) (en_picksA hp ["write", "lead"] ht tc rfl rfl rfl (by simp) (by decide)) fun v2 S2 ⟨Sd, td, e3, en, hen, e4⟩ => en_nil ⟨Sd, en, td, e3, hen, e4, rfl⟩).mono fun vs S' ⟨v, us, e, Sb, en, q1, q2, q4, q5, q6⟩ => ⟨Sb, ha, en, q1, q2, hha, q4, e2, by rw [e, q5, q6]⟩
    subst e1 e2
    refine ⟨_, rfl, ?_⟩
    -- value
    refine gs_name (en_picksA hp VA ht tc rfl rfl rfl (by simp) (by decide)) (by simp) fun v S1 ⟨Sd, td, e1, va, hva, e2⟩ => ?_
    subst e1 e2
    -- kind
    have kd : ∀ l : FH.Loc, evVar 4 l (Sd ++ R) = .ok (.d (.str word)) (Sd ++ R) → evIf (evB (ev2 (cmpV .In) (evVar 4) (evTup (evCons (evC (.d (.str "line"))) (evCons (evC (.d (.str "strike"))) evNil))))) (evC (.d (.str "line"))) (evC (.d (.str "ask"))) l (Sd ++ R) = .ok (.d (.str (if word ∈ (["line", "strike"] : List Str) then "line" else "ask"))) (Sd ++ R) := fun l h4 => by
      have := evB_b (ev2_v h4 (evTup_str (zs := ["line", "strike"]) (l := l) (S := Sd ++ R) (m := evCons (evC (.d (.str "line"))) (evCons (evC (.d (.str "strike"))) evNil)) rfl (by decide)) str_tup)
      unfold evIf
      rw [this]
      by_cases c : word ∈ (["line", "strike"] : List Str)
      · rw [if_pos c, decide_eq_true c]
        rfl
      · rw [if_neg c, decide_eq_false c]
        rfl
    refine gs_name (P := fun v S1 => v = .d (.str (if word ∈ (["line", "strike"] : List Str) then "line" else "ask")) ∧ S1 = Sd ++ R) (.of (kd _ rfl) ⟨rfl, rfl⟩) (by simp) fun v S1 ⟨e1, e2⟩ => ?_
    subst e1 e2
    generalize hkind : (if word ∈ (["line", "strike"] : List Str) then ("line" : Str) else "ask") = kind
    have okk : PyData.strOk kind = true := by
      rw [← hkind]
      split <;> decide +kernel
    -- the named
    obtain ⟨names, en1, hnames, hnl⟩ := named_lc (here := here) (kind := kind) (S := Sd ++ R) hh okk (l := [some (.scr ns), some (.ref t), some (.d (.list here)), some (.ref S.length), some (.d (.str word)), some (.d (.str sh)), some (.d (.str en)), some (.d (.str ha)), some (.d (.str ri)), some (.d (.str va)), some (.d (.str kind)), none, none, none]) rfl rfl rfl
    refine gs_name (P := fun v S1 => v = .d (.list names) ∧ S1 = Sd ++ R) (.of en1 ⟨rfl, rfl⟩) (by simp) fun v S1 ⟨e1, e2⟩ => ?_
    subst e1 e2
    have nmg : goodAll names = true := good_of fun d z => (named_ok hh (hnames d z)).2.1
    have nmd : PyData.depthAll names ≤ 60 := Nat.le_trans (depthAll_le fun d z => (named_ok hh (hnames d z)).2.2) (by decide)
    refine gs_name (P := fun v S1 => ∃ Se nm, Tw S t Se ∧ S1 = Se ++ R ∧ v = .d nm ∧ (nm = .none ∨ NamedIn here kind nm)) ?_ (by simp) fun v S1 ⟨Se, nm, te, e1, e2, hnm⟩ => ?_
    · refine Ends.bind (P := fun b S1 => b = !decide (names = []) ∧ S1 = Sd ++ R) (.of (evB_b (ev2_v rfl (lst_frz (ds := []) rfl (by decide)) (eq_nil nmg nmd))) ⟨rfl, rfl⟩) fun b S1 ⟨e1, e2⟩ => ?_
      subst e1 e2
      by_cases c : names = []
      · rw [decide_eq_true c]
        exact .ok ⟨Sd, .none, td, rfl, rfl, .inl rfl⟩
      · rw [decide_eq_false c]
        exact (en_pickA hp ht td rfl rfl rfl c hnl).mono fun v S' ⟨Sb, tb, e1, x, hx, e2⟩ => ⟨Sb, x, tb, e1, e2, .inr (hnames x hx)⟩
    subst e1 e2
    -- the answers
    have v4 : ∀ (l : FH.Loc) (k : Str), evVar 4 l (Se ++ R) = .ok (.d (.str word)) (Se ++ R) → PyData.strOk k = true → evB (ev2 (cmpV .Eq) (evVar 4) (evC (.d (.str k)))) l (Se ++ R) = .ok (decide (word = k)) (Se ++ R) := fun l k h4 hk => evEqS h4 okw hk
    refine gs_ret (v4 _ "open" rfl (by decide +kernel)) (fun c => ?_) fun c0 => ?_
    · have ew := of_decide_eq_true c
      refine go_ret (dl_tup (R := fun v S' => ∃ S1 R, Tw S t S1 ∧ S' = S1 ++ R ∧ ∃ what, v = .d what ∧ Thing here what) (dl_pure rfl (dl_pick hp ["s", "t", "u"] ht te rfl rfl rfl (by simp) (by decide) fun z hz Sf tf => dl_nil ⟨by simp, Sf, R, tf, rfl, _, rfl, ?_⟩))) fun _ _ z => z
      rw [ew]
      exact .open_ hz
    refine gs_ret (v4 _ "put" rfl (by decide +kernel)) (fun c => ?_) fun c1 => ?_
    · have ew := of_decide_eq_true c
      exact go_ret (dl_tup (R := fun v S' => ∃ S1 R, Tw S t S1 ∧ S' = S1 ++ R ∧ ∃ what, v = .d what ∧ Thing here what) (dl_pure rfl (dl_pure rfl (dl_pure rfl (dl_pure rfl (dl_nil ⟨by simp, Se, R, te, rfl, _, rfl, by rw [ew]; exact .put hsh hen hva⟩)))))) fun _ _ z => z
    refine gs_ret (v4 _ "drop" rfl (by decide +kernel)) (fun c => ?_) fun c2 => ?_
    · have ew := of_decide_eq_true c
      exact go_ret (dl_tup (R := fun v S' => ∃ S1 R, Tw S t S1 ∧ S' = S1 ++ R ∧ ∃ what, v = .d what ∧ Thing here what) (dl_pure rfl (dl_pure rfl (dl_pure rfl (dl_nil ⟨by simp, Se, R, te, rfl, _, rfl, by rw [ew]; exact .drop hsh hen⟩))))) fun _ _ z => z
    refine gs_ret (v4 _ "add" rfl (by decide +kernel)) (fun c => ?_) fun c3 => ?_
    · have ew := of_decide_eq_true c
      refine go_ret (dl_tup (R := fun v S' => ∃ S1 R, Tw S t S1 ∧ S' = S1 ++ R ∧ ∃ what, v = .d what ∧ Thing here what) (dl_pure rfl (dl_pure rfl (dl_pure rfl (dl_eff (Q := fun x S' => ∃ Sf i, Tw S t Sf ∧ S' = Sf ++ R ∧ -20 ≤ i ∧ i < 20 ∧ x = PyData.int i) ?_ fun x S1 ⟨Sf, i, tf, e1, h5, h6, e2⟩ => dl_nil ⟨by simp, Sf, R, tf, e1, _, rfl, by rw [ew, e2]; exact .add hsh hen h5 h6⟩))))) fun _ _ z => z
      refine Ends.bind (en_drawA hd 40 ht te rfl rfl (by decide) (by decide)) fun v S' ⟨Sf, tf, e1, r, h5, h6, e2⟩ => ?_
      subst e1 e2
      exact .of rfl ⟨.int (r - 20), rfl, Sf, r - 20, tf, rfl, by omega, by omega, rfl⟩
    refine gs_ret (v4 _ "line" rfl (by decide +kernel)) (fun c => ?_) fun c4 => ?_
    · have ew := of_decide_eq_true c
      have ek : kind = "line" := by rw [← hkind, if_pos (by rw [ew]; simp)]
      refine go_ret (dl_tup (R := fun v S' => ∃ S1 R, Tw S t S1 ∧ S' = S1 ++ R ∧ ∃ what, v = .d what ∧ Thing here what) (dl_pure rfl (dl_pure rfl (dl_pure rfl (dl_eff (Q := fun x S' => ∃ Sf, Tw S t Sf ∧ S' = Sf ++ R ∧ (x = .none ∨ NamedIn here kind x)) ?_ fun x S1 ⟨Sf, tf, e1, h5⟩ => ?_))))) fun _ _ z => z
      · refine Ends.bind (P := fun b S' => ∃ Sf, Tw S t Sf ∧ S' = Sf ++ R) ?_ fun b S' ⟨Sf, tf, e1⟩ => ?_
        · refine Ends.bind (P := fun v S' => ∃ Sf, Tw S t Sf ∧ S' = Sf ++ R ∧ ∃ b, v = .d (.bool b)) ?_ fun v S' ⟨Sf, tf, e1, b, e2⟩ => ?_
          · refine Ends.bind (en_drawA hd 3 ht te rfl rfl (by decide) (by decide)) fun v S' ⟨Sf, tf, e1, r, h5, h6, e2⟩ => ?_
            subst e1 e2
            exact .of rfl ⟨Sf, tf, rfl, _, rfl⟩
          · subst e1 e2
            exact .of rfl ⟨Sf, tf, rfl⟩
        · subst e1
          cases b with
          | true => exact .of rfl ⟨nm, rfl, Sf, tf, rfl, hnm⟩
          | false => exact .of rfl ⟨.none, rfl, Sf, tf, rfl, .inl rfl⟩
      · subst e1
        exact dl_pure rfl (dl_nil ⟨by simp, Sf, R, tf, rfl, _, rfl, by rw [ew]; rw [ek] at h5; exact .line hsh hen hva h5⟩)
    refine gs_ret (v4 _ "give" rfl (by decide +kernel)) (fun c => ?_) fun c5 => ?_
    · have ew := of_decide_eq_true c
      exact go_ret (dl_tup (R := fun v S' => ∃ S1 R, Tw S t S1 ∧ S' = S1 ++ R ∧ ∃ what, v = .d what ∧ Thing here what) (dl_pure rfl (dl_pure rfl (dl_pure rfl (dl_pure rfl (dl_nil ⟨by simp, Se, R, te, rfl, _, rfl, by rw [ew]; exact .give hsh hha hri⟩)))))) fun _ _ z => z
    refine gs_ret (v4 _ "call" rfl (by decide +kernel)) (fun c => ?_) fun c6 => ?_
    · have ew := of_decide_eq_true c
      refine go_ret (dl_tup (R := fun v S' => ∃ S1 R, Tw S t S1 ∧ S' = S1 ++ R ∧ ∃ what, v = .d what ∧ Thing here what) (dl_pure rfl (dl_pure rfl (dl_pure rfl (dl_pure rfl (dl_eff (Q := fun x S' => ∃ Sf b, Tw S t Sf ∧ S' = Sf ++ R ∧ x = PyData.bool b) ?_ fun x S1 ⟨Sf, b, tf, e1, e2⟩ => dl_nil ⟨by simp, Sf, R, tf, e1, _, rfl, by rw [ew, e2]; exact .call hsh hha hri⟩)))))) fun _ _ z => z
      refine Ends.bind (en_drawA hd 2 ht te rfl rfl (by decide) (by decide)) fun v S' ⟨Sf, tf, e1, r, h5, h6, e2⟩ => ?_
      subst e1 e2
      exact .of (ev2_v (a := evC (.d (.int r))) (b := evC (.d (.int 0))) (l := []) rfl rfl eq_int_) ⟨.bool (decide (r = 0)), rfl, Sf, _, tf, rfl, rfl⟩
    have isn : ∀ l : FH.Loc, evVar 12 l (Se ++ R) = .ok (.d nm) (Se ++ R) → evB (ev2 (cmpV .Is) (evVar 12) (evC (.d .none))) l (Se ++ R) = .ok (FH.isNon (.d nm)) (Se ++ R) := fun l h => evB_b (ev2_v h rfl is_none_)
    refine gs_ret (p := decide (word = "ask") || FH.isNon (.d nm)) (cOr_b (v4 _ "ask" rfl (by decide +kernel)) fun _ => isn _ rfl) (fun c => ?_) fun c7 => ?_
    · refine go_ret (dl_tup (R := fun v S' => ∃ S1 R, Tw S t S1 ∧ S' = S1 ++ R ∧ ∃ what, v = .d what ∧ Thing here what) (dl_pure rfl (dl_pure rfl (dl_pure rfl (dl_pick hp MA ht te rfl rfl rfl (by simp) (by decide) fun z hz Sf tf => dl_nil ⟨by simp, Sf, R, tf, rfl, _, rfl, ?_⟩))))) fun _ _ z => z
      exact .ask hsh hva hz
    have hnm2 : NamedIn here kind nm := by
      rcases hnm with e | e
      · rw [e] at c7
        simp [FH.isNon] at c7
      · exact e
    refine gs_ret (v4 _ "strike" rfl (by decide +kernel)) (fun c => ?_) fun c8 => ?_
    · have ew := of_decide_eq_true c
      have ek : kind = "line" := by rw [← hkind, if_pos (by rw [ew]; simp)]
      exact go_ret (dl_tup (R := fun v S' => ∃ S1 R, Tw S t S1 ∧ S' = S1 ++ R ∧ ∃ what, v = .d what ∧ Thing here what) (dl_pure rfl (dl_pure rfl (dl_pure rfl (dl_pure rfl (dl_nil ⟨by simp, Se, R, te, rfl, _, rfl, by rw [ew]; rw [ek] at hnm2; exact .strike hsh hen hnm2⟩)))))) fun _ _ z => z
    have ek : kind = "ask" := by
      rw [← hkind, if_neg]
      simp only [decide_eq_false_iff_not] at c4 c8
      simp [c4, c8]
    rw [ek] at hnm2
    have wtd : word = "take" ∨ word = "pass" ∨ word = "done" := by
      simp only [decide_eq_false_iff_not, Bool.or_eq_false_iff] at c0 c1 c2 c3 c4 c5 c6 c7 c8
      have c7' := c7.1
      simp only [List.mem_cons, List.not_mem_nil, or_false] at hword
      simp [c0, c1, c2, c3, c4, c5, c6, c7', c8] at hword
      exact hword
    refine go_ret (P := fun v S' => ∃ S1 R, Tw S t S1 ∧ S' = S1 ++ R ∧ ∃ what, v = .d what ∧ Thing here what) ?_ fun _ _ z => z
    refine Ends.bind (P := fun b S' => b = decide (word = "pass") ∧ S' = Se ++ R) (.of (v4 _ "pass" rfl (by decide +kernel)) ⟨rfl, rfl⟩) fun b S' ⟨e1, e2⟩ => ?_
    subst e1 e2
    by_cases c9 : word = "pass"
    · rw [decide_eq_true c9]
      refine dl_tup (dl_pure rfl (dl_pure rfl (dl_pick hp MA ht te rfl rfl rfl (by simp) (by decide) fun z hz Sf tf => dl_nil ⟨by simp, Sf, R, tf, rfl, _, rfl, ?_⟩)))
      rw [c9]
      exact .pass hnm2 hz
    · rw [decide_eq_false c9]
      refine dl_tup (dl_pure rfl (dl_pure rfl (dl_nil ⟨by simp, Se, R, te, rfl, _, rfl, ?_⟩)))
      rcases wtd with e | e | e
      · rw [e]
        exact .take hnm2
      · exact absurd e c9
      · rw [e]
        exact .done hnm2
  · subst h2 h3
    rw [tw_fin h1]
    exact .ok ⟨h1, what, rfl, h4⟩
end Lw
namespace Lw
open L2 PySem PySem.Spec FH
/-! ### names -/
theorem word_good {d : D} (h : isWord d = true) : goodD d = true := by
  cases d <;> first | (cases h; done) | skip
  rename_i z
  simp only [isWord, Bool.and_eq_true, decide_eq_true_eq] at h
  simp only [goodD, Bool.and_eq_true, decide_eq_true_eq]
  refine ⟨?_, by omega⟩
  unfold PyData.strOk
  rw [← Array.all_toList, List.all_eq_true]
  intro c hc
  have hm := of_decide_eq_true (List.all_eq_true.mp h.2 c hc)
  have key : ∀ c ∈ LET.cps.toList, c < 0x110000 := by decide +kernel
  exact decide_eq_true (key c hm)
theorem name_good {d : D} (h : isName d = true) : goodD d = true := by
  obtain ⟨x, i, rfl⟩ := name_shape h
  simp only [isName, Bool.and_eq_true] at h
  have := word_good h.1
  simp [goodD, goodAll] at this ⊢
  exact this
theorem name_depth {d : D} (h : isName d = true) : d.depth ≤ 1 := by
  obtain ⟨x, i, rfl⟩ := name_shape h
  simp [PyData.depth, PyData.depthAll]
theorem eqv_name {a b : D} (ha : isName a = true) (hb : isName b = true) : PyData.eqv a b = true ↔ a = b := by
  obtain ⟨x, i, rfl⟩ := name_shape ha
  obtain ⟨y, j, rfl⟩ := name_shape hb
  simp [PyData.eqv, PyData.eqvAll]
def memB (a : D) (ds : List D) : Bool := ds.any fun z => PyData.eqv z a
theorem alike_name {a b : D} (ha : isName a = true) (hb : isName b = true) : W.alike a b = true := by
  obtain ⟨x, i, rfl⟩ := name_shape ha
  obtain ⟨y, j, rfl⟩ := name_shape hb
  simp [W.alike, W.alikeAll]
def Names (ds : List D) : Prop := ∀ d ∈ ds, isName d = true
theorem Names.good {ds : List D} (h : Names ds) : goodAll ds = true := good_of fun d hd => name_good (h d hd)
theorem Names.depth {ds : List D} (h : Names ds) : PyData.depthAll ds ≤ 1 := depthAll_le fun d hd => name_depth (h d hd)
theorem Names.shaped {ds : List D} (h : Names ds) : SeqAt.shaped (.list ds) = true := shaped_good (by rw [goodD]; exact h.good) (by rw [PyData.depth]; have := h.depth; omega)
theorem name_shaped {d : D} (h : isName d = true) : SeqAt.shaped d = true := shaped_good (name_good h) (Nat.le_trans (name_depth h) (by decide))
theorem Names.sort {ds : List D} (h : Names ds) : sortOk ds := ⟨fun a ha b hb => alike_name (h a ha) (h b hb), .inl fun d hd => by
  obtain ⟨x, i, rfl⟩ := name_shape (h d hd)
  exact ⟨_, _, rfl⟩, fun d hd => name_shaped (h d hd)⟩
theorem name_key {d : D} (h : isName d = true) : ∃ k, k ≠ [] ∧ tupKey d = some k := by
  obtain ⟨x, i, rfl⟩ := name_shape h
  exact ⟨[.inr x, .inl i], by simp, rfl⟩
theorem name_keyOk {d : D} (h : isName d = true) : keyOk d = true := by
  obtain ⟨x, i, rfl⟩ := name_shape h
  unfold keyOk
  simp [toKey, toKeys, NestedKey.depth, NestedKey.depthAll]
theorem memB_iff {a : D} {ds : List D} (ha : isName a = true) (h : Names ds) : memB a ds = true ↔ a ∈ ds := by
  unfold memB
  rw [List.any_eq_true]
  constructor
  · rintro ⟨z, hz, q⟩
    exact (eqv_name (h z hz) ha).mp q ▸ hz
  · exact fun hz => ⟨a, hz, (eqv_name ha ha).mpr rfl⟩
theorem in_names {a : D} {ds : List D} {S : Store} (ha : isName a = true) (h : Names ds) : cmpV .In (.d a) (.d (.list ds)) S = some (.d (.bool (memB a ds)), S) := by
  simp only [cmpV, cmpB, inB, asDic, inLst, toP, name_shaped ha, h.shaped]
  rfl
theorem sorted_names {ds : List D} {S : Store} (h : Names ds) (hz : ds.length ≤ 100000) : sortedL [.d (.list ds)] S = some (.d (.list (sortD ds)), S) := by
  simp [sortedL, asL, allD_map, h.sort, len_small hz]
theorem set_names {ds : List D} {S : Store} (h : Names ds) (hz : ds.length < 64) : setSortL [.d (.list ds)] S = some (.d (.list (setSort ds)), S) := by
  have c1 : ∀ d ∈ ds, ∃ k, k ≠ [] ∧ tupKey d = some k := fun d hd => name_key (h d hd)
  simp only [setSortL, asL, allD_map]
  rw [if_pos ⟨c1, h.sort.1, hz⟩]
theorem Names.sortD {ds : List D} (h : Names ds) : Names (FH.sortD ds) := fun d hd => h d (mem_sortD.mp hd)
theorem Names.setSort {ds : List D} (h : Names ds) : Names (FH.setSort ds) := fun d hd => h d (mem_setSort.mp hd)
/-! ### heads -/
def pastE (ps : List (D × List D)) : List (D × Val) := ps.map fun p => (p.1, .d (.list p.2))
noncomputable def pastOf (ps : List (D × List D)) (o : D) : List D := (dlook ps o).getD []
theorem look_past {ps : List (D × List D)} {o : D} : dlook (pastE ps) o = (dlook ps o).map fun x => .d (.list x) := by
  unfold pastE
  induction ps with
  | nil => rfl
  | cons p ps ih =>
    simp only [List.map_cons, dlook]
    split
    · rfl
    · exact ih
theorem ix_past {ps : List (D × List D)} {n : Nat} {o : D} {x : List D} {S : Store} (h : S[n]? = some (.dic (pastE ps))) (hk : keyOk o = true) (ho : dlook ps o = some x) : ixV (.ref n) (.d o) S = some (.d (.list x), S) := by
  have e : dlook (pastE ps) o = some (.d (.list x)) := by rw [look_past, ho]; rfl
  simp only [ixV, ixQ, asDic, h, ixDic, hk]
  simp [e]
noncomputable def isHead (ps : List (D × List D)) (ms : List D) (n : D) : Bool := !(ms.any fun o => memB n (pastOf ps o))
noncomputable def headsOf (ps : List (D × List D)) (ms : List D) : List D := (sortD ms).filter (isHead ps ms)
def HeadsOk (f : Fn) : Prop := ∀ (ms : List D) (n : Nat) (ps : List (D × List D)) (S : Store), S[n]? = some (.dic (pastE ps)) → Names ms → ms.length ≤ 100000 → (∀ o ∈ ms, ∃ x, dlook ps o = some x ∧ Names x) → f [.d (.list ms), .ref n] S = .ok (.d (.tuple (headsOf ps ms))) S
theorem heads_ok {Φ : Tab} : HeadsOk (fnB false 4 (b__law_heads Φ)) := by
  intro ms n ps S hS hms hz hps
  refine fnB_ret ?_
  unfold b__law_heads
  rw [show [Val.d (.list ms), .ref n].map some ++ List.replicate (4 - [Val.d (.list ms), .ref n].length) none = [some (.d (.list ms)), some (.ref n), none, none] from rfl]
  have hlt : n < S.length := (List.getElem?_eq_some_iff.mp hS).1
  have inner : ∀ (x : D) (S' : Store), isName x = true → S'[n]? = some (.dic (pastE ps)) → evLC false (evIter (evVar 0)) (tgName 3) [3] cYes (ev2 (cmpV .In) (evVar 2) (ev2 ixV (evVar 1) (evVar 3))) [some (.d (.list ms)), some (.ref n), some (.d x), none] S' = .ok (.d (.list ((ms.map fun o => memB x (pastOf ps o)).map .bool))) S' := fun x S' hx hS' => by
    rw [List.map_map]
    refine lc_map (v := .d (.list ms)) (ds := ms) (by simp [itemsOf, asDic, asL]) (PyData.bool ∘ fun o => memB x (pastOf ps o)) (fun o ho => ?_) (by omega)
    obtain ⟨p, hp, hpn⟩ := hps o ho
    have ep : pastOf ps o = p := by unfold pastOf; rw [hp]; rfl
    refine ⟨[some (.d (.list ms)), some (.ref n), some (.d x), some (.d o)], by simp [tgName, wipeL], fun acc => ⟨rfl, ?_⟩⟩
    have hS2 : (lockS (.d (.list ms)) S' ++ [.lst acc])[n]? = some (.dic (pastE ps)) := by
      show (S' ++ [.lst acc])[n]? = _
      rw [List.getElem?_append_left (List.getElem?_eq_some_iff.mp hS').1]
      exact hS'
    show _ = Res.ok (Val.d (.bool (memB x (pastOf ps o)))) _
    rw [ep]
    exact ev2_v rfl (ev2_v rfl rfl (ix_past hS2 (name_keyOk (hms o ho)) hp)) (in_names hx hpn)
  have outer : evLC false (evIter (evL sortedL (evCons (evVar 0) evNil))) (tgName 2) [2] (cNot (evB (evL anyL (evCons (evLC false (evIter (evVar 0)) (tgName 3) [3] cYes (ev2 (cmpV .In) (evVar 2) (ev2 ixV (evVar 1) (evVar 3)))) evNil)))) (evVar 2) [some (.d (.list ms)), some (.ref n), none, none] S = .ok (.d (.list (headsOf ps ms))) S := by
    have hl : (FH.sortD ms).length = ms.length := (sortD_perm ms).length_eq
    refine lc_filter (v := .d (.list (FH.sortD ms))) (ds := FH.sortD ms) (by simp [itemsOf, asDic, asL, sorted_names hms hz]) (isHead ps ms) (fun x hx => ?_) (by omega)
    have hxn := hms x (mem_sortD.mp hx)
    have tg : (tgName 2).2 (.d x) (wipeL [some (.d (.list ms)), some (.ref n), none, none] [2]) = some [some (.d (.list ms)), some (.ref n), some (.d x), none] := by simp [tgName, wipeL]
    have cc : ∀ acc : List Val, cNot (evB (evL anyL (evCons (evLC false (evIter (evVar 0)) (tgName 3) [3] cYes (ev2 (cmpV .In) (evVar 2) (ev2 ixV (evVar 1) (evVar 3)))) evNil))) [some (.d (.list ms)), some (.ref n), some (.d x), none] (lockS (.d (.list (FH.sortD ms))) S ++ [.lst acc]) = .ok (isHead ps ms x) (lockS (.d (.list (FH.sortD ms))) S ++ [.lst acc]) := fun acc => by
      have hS2 : (lockS (.d (.list (FH.sortD ms))) S ++ [.lst acc])[n]? = some (.dic (pastE ps)) := by
        show (S ++ [.lst acc])[n]? = _
        rw [List.getElem?_append_left hlt]
        exact hS
      refine (cNot_b (evB_b (evL_v (evCons_v (inner x _ hxn hS2) rfl) any_bools))).trans ?_
      rw [List.any_map]
      rfl
    cases c : isHead ps ms x with
    | true => exact ⟨_, tg, fun acc => ⟨by rw [cc acc, c], rfl⟩⟩
    | false => exact ⟨_, tg, fun acc => by rw [cc acc, c]⟩
  refine sRet_v (evL_v (r := (.d (.tuple (headsOf ps ms)), S)) (evCons_v outer rfl) ?_)
  simp [tupleL, asT, asL, mkT, allD_map]
end Lw
namespace Lw
open L2 PySem PySem.Spec FH
/-! ### histories, in plain words -/
abbrev nm (m : Str) (j : Int) : D := .tuple [.str m, .int j]
def nm2 : D → D
  | .tuple ds => .tuple (ds.take 2)
  | d => d
def firstIs (m : Str) : D → Bool
  | .tuple (.str x :: _) => decide (x = m)
  | _ => false
structure Hs where
  deeds : List D
  pasts : List (D × List D)
  met : Str → List D
def updM (f : Str → List D) (m : Str) (x : List D) : Str → List D := fun y => if y = m then x else f y
def hereOf (h : Hs) (m : Str) : List D := h.deeds.filter fun d => memB (nm2 d) (h.met m)
def numOf (h : Hs) (m : Str) : Int := 1 + ((h.met m).filter (firstIs m)).length
noncomputable def newDeed (h : Hs) (m : Str) (hand : Str) (what : D) : D := .tuple [.str m, .int (numOf h m), .tuple (headsOf h.pasts (h.met m)), .str hand, what]
/-- a machine meets what another has met, or does not -/
inductive Meets (m : Str) : Hs → Hs → Prop
  | not {h : Hs} : Meets m h h
  | yes {h : Hs} {o : Str} : o ∈ MA → Meets m h ⟨h.deeds, h.pasts, updM h.met m (setSort (h.met m ++ h.met o))⟩
/-- it does something, if it has met anything -/
inductive Does (m : Str) : Hs → Hs → Prop
  | none {h : Hs} : hereOf h m = [] → Does m h h
  | new {h : Hs} {hand : Str} {what : D} : hereOf h m ≠ [] → hand ∈ HA → Thing (hereOf h m) what →
      Does m h ⟨h.deeds ++ [newDeed h m hand what], dput h.pasts (nm m (numOf h m)) (h.met m), updM h.met m (sortD (h.met m ++ [nm m (numOf h m)]))⟩
def deed1 : D := .tuple [.str "ma", .int 1, .tuple [], .str "ann", .tuple [.str "open", .str "s"]]
def init : Hs := ⟨[deed1], [(nm "ma" 1, [])], fun m => if m = "ma" then [nm "ma" 1] else []⟩
inductive Reach : Nat → Hs → Prop
  | zero : Reach 0 init
  | succ {i : Nat} {h h1 h2 : Hs} {m : Str} : Reach i h → m ∈ MA → Meets m h h1 → Does m h1 h2 → Reach (i + 1) h2
theorem nodup_le {l m : List D} (h : l.Nodup) (hs : ∀ x ∈ l, x ∈ m) : l.length ≤ m.length := by
  classical
  induction l generalizing m with
  | nil => exact Nat.zero_le _
  | cons x l ih =>
    obtain ⟨h1, h2⟩ := List.nodup_cons.mp h
    obtain ⟨a, b, rfl⟩ := List.append_of_mem (hs x List.mem_cons_self)
    have := ih (m := a ++ b) h2 fun y hy => by
      have := hs y (List.mem_cons_of_mem _ hy)
      rw [List.mem_append, List.mem_cons] at this
      rw [List.mem_append]
      rcases this with z | z | z
      · exact .inl z
      · exact absurd (z ▸ hy) h1
      · exact .inr z
    simp only [List.length_cons, List.length_append] at this ⊢
    omega
theorem ma_word {m : Str} (h : m ∈ MA) : isWord (.str m) = true := by
  have : ∀ m ∈ MA, isWord (.str m) = true := by decide +kernel
  exact this m h
theorem ha_word {m : Str} (h : m ∈ HA) : isWord (.str m) = true := by
  have : ∀ m ∈ HA, isWord (.str m) = true := by decide +kernel
  exact this m h
theorem nm_name {m : Str} {j : Int} (h : m ∈ MA) (h1 : 1 ≤ j) (h2 : j ≤ 9999) : isName (nm m j) = true := by
  simp [isName, ma_word h, isWhole, h1, h2]
theorem rw_open {a : D} {r : List D} : restWhat "open" a r = (decide (r.length = 0) && isWord a) := by
  unfold restWhat
  rw [if_neg (by decide +kernel), if_pos rfl]
theorem rw_give {a b c : D} : restWhat "give" a [b, c] = (isWord a && isWord b && isRight c) := by
  unfold restWhat
  rw [if_neg (by decide +kernel), if_neg (by decide +kernel), if_pos rfl]
theorem rw_call {a b c e : D} : restWhat "call" a [b, c, e] = (isWord a && isWord b && isRight c && isBoolD e) := by
  unfold restWhat
  rw [if_neg (by decide +kernel), if_neg (by decide +kernel), if_neg (by decide +kernel), if_pos rfl]
theorem rw_ask {a b c : D} : restWhat "ask" a [b, c] = (isWord a && isValue b && isWord c) := by
  unfold restWhat
  rw [if_neg (by decide +kernel), if_neg (by decide +kernel), if_neg (by decide +kernel), if_neg (by decide +kernel), if_pos rfl]
theorem rw_turn {w : Str} {a : D} (h : w ∈ (["take", "done"] : List Str)) : restWhat w a [] = isName a := by
  have k : ∀ w ∈ (["take", "done"] : List Str), ¬ w ∈ (["put", "drop", "add", "line", "strike"] : List Str) ∧ ¬ w = "open" ∧ ¬ w = "give" ∧ ¬ w = "call" ∧ ¬ w = "ask" := by decide +kernel
  obtain ⟨k1, k2, k3, k4, k5⟩ := k w h
  unfold restWhat
  rw [if_neg k1, if_neg k2, if_neg k3, if_neg k4, if_neg k5, if_pos h]
  rfl
theorem rw_pass {a b : D} : restWhat "pass" a [b] = (isName a && isWord b) := by
  unfold restWhat
  rw [if_neg (by decide +kernel), if_neg (by decide +kernel), if_neg (by decide +kernel), if_neg (by decide +kernel), if_neg (by decide +kernel), if_neg (by decide +kernel)]
  rfl
theorem rw_entry {w : Str} {a b : D} {r : List D} (h : w ∈ (["put", "drop", "add", "line", "strike"] : List Str)) : restWhat w a (b :: r) = (isWord a && isWord b && restOk w r) := by
  unfold restWhat
  rw [if_pos h]
  rfl
theorem good_row {ds : List D} (h : ∀ d ∈ ds, goodD d = true) : goodD (.tuple ds) = true := by
  rw [goodD]
  exact good_of h
theorem depth_row {k : Nat} {ds : List D} (h : ∀ d ∈ ds, d.depth ≤ k) : PyData.depth (.tuple ds) ≤ k + 1 := by
  rw [PyData.depth]
  have := depthAll_le h
  omega
theorem thing_what {here : List D} {what : D} (hh : Here here) (h : Thing here what) : isWhat what = true ∧ goodD what = true ∧ what.depth ≤ 3 := by
  have w1 : ∀ m ∈ SH, isWord (.str m) = true := by decide +kernel
  have w2 : ∀ m ∈ EN, isWord (.str m) = true := by decide +kernel
  have w3 : ∀ m ∈ VA, isValue (.str m) = true ∧ goodD (.str m) = true := by decide +kernel
  have w4 : ∀ m ∈ RI, isRight (.str m) = true ∧ goodD (.str m) = true := by decide +kernel
  have w5 : ∀ m ∈ (["s", "t", "u"] : List Str), isWord (.str m) = true := by decide +kernel
  have w6 : ∀ m ∈ (["open", "put", "drop", "add", "line", "strike", "give", "call", "ask", "take", "done", "pass"] : List Str), goodD (.str m) = true := by decide +kernel
  have ds : ∀ z : Str, (PyData.str z).depth ≤ 2 := fun z => by simp [PyData.depth]
  have di : ∀ z : Int, (PyData.int z).depth ≤ 2 := fun z => by simp [PyData.depth]
  have db : ∀ z : Bool, (PyData.bool z).depth ≤ 2 := fun z => by simp [PyData.depth]
  have dn : (PyData.none).depth ≤ 2 := by simp [PyData.depth]
  cases h with
  | open_ h1 =>
    rename_i sh
    refine ⟨?_, good_row fun d hd => ?_, depth_row fun d hd => ?_⟩
    · show restWhat "open" _ [] = true
      rw [rw_open, w5 _ h1]
      rfl
    · simp only [List.mem_cons, List.not_mem_nil, or_false] at hd
      rcases hd with rfl | rfl
      · exact w6 _ (by simp)
      · exact word_good (w5 _ h1)
    · simp only [List.mem_cons, List.not_mem_nil, or_false] at hd
      rcases hd with rfl | rfl <;> exact ds _
  | put h1 h2 h3 =>
    refine ⟨?_, good_row fun d hd => ?_, depth_row fun d hd => ?_⟩
    · show restWhat "put" _ (_ :: _) = true
      rw [rw_entry (by simp), w1 _ h1, w2 _ h2, ro_put (by decide +kernel) rfl, (w3 _ h3).1]
      rfl
    · simp only [List.mem_cons, List.not_mem_nil, or_false] at hd
      rcases hd with rfl | rfl | rfl | rfl
      · exact w6 _ (by simp)
      · exact word_good (w1 _ h1)
      · exact word_good (w2 _ h2)
      · exact (w3 _ h3).2
    · simp only [List.mem_cons, List.not_mem_nil, or_false] at hd
      rcases hd with rfl | rfl | rfl | rfl <;> exact ds _
  | drop h1 h2 =>
    refine ⟨?_, good_row fun d hd => ?_, depth_row fun d hd => ?_⟩
    · show restWhat "drop" _ (_ :: _) = true
      rw [rw_entry (by simp), w1 _ h1, w2 _ h2]
      rfl
    · simp only [List.mem_cons, List.not_mem_nil, or_false] at hd
      rcases hd with rfl | rfl | rfl
      · exact w6 _ (by simp)
      · exact word_good (w1 _ h1)
      · exact word_good (w2 _ h2)
    · simp only [List.mem_cons, List.not_mem_nil, or_false] at hd
      rcases hd with rfl | rfl | rfl <;> exact ds _
  | add h1 h2 h3 h4 =>
    rename_i i
    refine ⟨?_, good_row fun d hd => ?_, depth_row fun d hd => ?_⟩
    · show restWhat "add" _ (_ :: _) = true
      rw [rw_entry (by simp), w1 _ h1, w2 _ h2, ro_add (by decide +kernel) (by decide +kernel) rfl]
      have a1 : (-1000 : Int) ≤ i := by omega
      have a2 : i ≤ 1000 := by omega
      simp [isWhole, a1, a2]
    · simp only [List.mem_cons, List.not_mem_nil, or_false] at hd
      rcases hd with rfl | rfl | rfl | rfl
      · exact w6 _ (by simp)
      · exact word_good (w1 _ h1)
      · exact word_good (w2 _ h2)
      · rfl
    · simp only [List.mem_cons, List.not_mem_nil, or_false] at hd
      rcases hd with rfl | rfl | rfl | rfl
      · exact ds _
      · exact ds _
      · exact ds _
      · exact di _
  | line h1 h2 h3 h4 =>
    rename_i sh en v x
    have hx : (FH.isNon (.d x) || isName x) = true ∧ goodD x = true ∧ x.depth ≤ 2 := by
      rcases h4 with rfl | h4
      · exact ⟨rfl, rfl, dn⟩
      · obtain ⟨n1, n2, n3⟩ := named_ok hh h4
        exact ⟨by rw [n1, Bool.or_true], n2, by omega⟩
    refine ⟨?_, good_row fun d hd => ?_, depth_row fun d hd => ?_⟩
    · show restWhat "line" _ (_ :: _) = true
      rw [rw_entry (by simp), w1 _ h1, w2 _ h2]
      show (true && true && restOk "line" [x, .str v]) = true
      rw [restOk, if_neg (by decide +kernel), hx.1, (w3 _ h3).1]
      rfl
    · simp only [List.mem_cons, List.not_mem_nil, or_false] at hd
      rcases hd with rfl | rfl | rfl | rfl | rfl
      · exact w6 _ (by simp)
      · exact word_good (w1 _ h1)
      · exact word_good (w2 _ h2)
      · exact hx.2.1
      · exact (w3 _ h3).2
    · simp only [List.mem_cons, List.not_mem_nil, or_false] at hd
      rcases hd with rfl | rfl | rfl | rfl | rfl
      · exact ds _
      · exact ds _
      · exact ds _
      · exact hx.2.2
      · exact ds _
  | give h1 h2 h3 =>
    refine ⟨?_, good_row fun d hd => ?_, depth_row fun d hd => ?_⟩
    · show restWhat "give" _ [_, _] = true
      rw [rw_give, w1 _ h1, ha_word h2, (w4 _ h3).1]
      rfl
    · simp only [List.mem_cons, List.not_mem_nil, or_false] at hd
      rcases hd with rfl | rfl | rfl | rfl
      · exact w6 _ (by simp)
      · exact word_good (w1 _ h1)
      · exact word_good (ha_word h2)
      · exact (w4 _ h3).2
    · simp only [List.mem_cons, List.not_mem_nil, or_false] at hd
      rcases hd with rfl | rfl | rfl | rfl <;> exact ds _
  | call h1 h2 h3 =>
    refine ⟨?_, good_row fun d hd => ?_, depth_row fun d hd => ?_⟩
    · show restWhat "call" _ [_, _, _] = true
      rw [rw_call, w1 _ h1, ha_word h2, (w4 _ h3).1]
      rfl
    · simp only [List.mem_cons, List.not_mem_nil, or_false] at hd
      rcases hd with rfl | rfl | rfl | rfl | rfl
      · exact w6 _ (by simp)
      · exact word_good (w1 _ h1)
      · exact word_good (ha_word h2)
      · exact (w4 _ h3).2
      · rfl
    · simp only [List.mem_cons, List.not_mem_nil, or_false] at hd
      rcases hd with rfl | rfl | rfl | rfl | rfl
      · exact ds _
      · exact ds _
      · exact ds _
      · exact ds _
      · exact db _
  | ask h1 h2 h3 =>
    refine ⟨?_, good_row fun d hd => ?_, depth_row fun d hd => ?_⟩
    · show restWhat "ask" _ [_, _] = true
      rw [rw_ask, w1 _ h1, (w3 _ h2).1, ma_word h3]
      rfl
    · simp only [List.mem_cons, List.not_mem_nil, or_false] at hd
      rcases hd with rfl | rfl | rfl | rfl
      · exact w6 _ (by simp)
      · exact word_good (w1 _ h1)
      · exact (w3 _ h2).2
      · exact word_good (ma_word h3)
    · simp only [List.mem_cons, List.not_mem_nil, or_false] at hd
      rcases hd with rfl | rfl | rfl | rfl <;> exact ds _
  | strike h1 h2 h3 =>
    obtain ⟨n1, n2, n3⟩ := named_ok hh h3
    refine ⟨?_, good_row fun d hd => ?_, depth_row fun d hd => ?_⟩
    · show restWhat "strike" _ (_ :: _) = true
      rw [rw_entry (by simp), w1 _ h1, w2 _ h2, ro_strike (by decide +kernel) (by decide +kernel) (by decide +kernel) rfl, n1]
      rfl
    · simp only [List.mem_cons, List.not_mem_nil, or_false] at hd
      rcases hd with rfl | rfl | rfl | rfl
      · exact w6 _ (by simp)
      · exact word_good (w1 _ h1)
      · exact word_good (w2 _ h2)
      · exact n2
    · simp only [List.mem_cons, List.not_mem_nil, or_false] at hd
      rcases hd with rfl | rfl | rfl | rfl
      · exact ds _
      · exact ds _
      · exact ds _
      · omega
  | take h3 =>
    obtain ⟨n1, n2, n3⟩ := named_ok hh h3
    refine ⟨?_, good_row fun d hd => ?_, depth_row fun d hd => ?_⟩
    · show restWhat "take" _ [] = true
      rw [rw_turn (by simp), n1]
    · simp only [List.mem_cons, List.not_mem_nil, or_false] at hd
      rcases hd with rfl | rfl
      · exact w6 _ (by simp)
      · exact n2
    · simp only [List.mem_cons, List.not_mem_nil, or_false] at hd
      rcases hd with rfl | rfl
      · exact ds _
      · omega
  | done h3 =>
    obtain ⟨n1, n2, n3⟩ := named_ok hh h3
    refine ⟨?_, good_row fun d hd => ?_, depth_row fun d hd => ?_⟩
    · show restWhat "done" _ [] = true
      rw [rw_turn (by simp), n1]
    · simp only [List.mem_cons, List.not_mem_nil, or_false] at hd
      rcases hd with rfl | rfl
      · exact w6 _ (by simp)
      · exact n2
    · simp only [List.mem_cons, List.not_mem_nil, or_false] at hd
      rcases hd with rfl | rfl
      · exact ds _
      · omega
  | pass h3 h4 =>
    obtain ⟨n1, n2, n3⟩ := named_ok hh h3
    refine ⟨?_, good_row fun d hd => ?_, depth_row fun d hd => ?_⟩
    · show restWhat "pass" _ [_] = true
      rw [rw_pass, n1, ma_word h4]
      rfl
    · simp only [List.mem_cons, List.not_mem_nil, or_false] at hd
      rcases hd with rfl | rfl | rfl
      · exact w6 _ (by simp)
      · exact n2
      · exact word_good (ma_word h4)
    · simp only [List.mem_cons, List.not_mem_nil, or_false] at hd
      rcases hd with rfl | rfl | rfl
      · exact ds _
      · omega
      · exact ds _
end Lw
namespace Lw
open L2 PySem PySem.Spec FH
structure HInv (i : Nat) (h : Hs) (cnt : Str → Nat) : Prop where
  few : h.deeds.length ≤ i + 1
  cle : ∀ m ∈ MA, cnt m ≤ i + 1
  deed : ∀ d ∈ h.deeds, isDeed d = true ∧ goodD d = true ∧ d.depth ≤ 6
  dn : ∀ d ∈ h.deeds.map nm2, ∃ m ∈ MA, ∃ j : Int, d = nm m j ∧ 1 ≤ j ∧ j ≤ cnt m
  nd : (h.deeds.map nm2).Nodup
  met : ∀ m ∈ MA, ∀ d ∈ h.met m, d ∈ h.deeds.map nm2
  own : ∀ m ∈ MA, ∀ j : Int, 1 ≤ j → j ≤ cnt m → nm m j ∈ h.met m
  mnd : ∀ m ∈ MA, (h.met m).Nodup
  keys : h.pasts.map (·.1) = h.deeds.map nm2
  past : ∀ p ∈ h.pasts, Names p.2
section
variable {i : Nat} {h : Hs} {cnt : Str → Nat}
theorem HInv.name (I : HInv i h cnt) (hi : i < 1000) {d : D} (hd : d ∈ h.deeds.map nm2) : isName d = true := by
  obtain ⟨m, hm, j, rfl, h1, h2⟩ := I.dn d hd
  have := I.cle m hm
  exact nm_name hm h1 (by omega)
theorem HInv.names (I : HInv i h cnt) (hi : i < 1000) {m : Str} (hm : m ∈ MA) : Names (h.met m) := fun d hd => I.name hi (I.met m hm d hd)
theorem HInv.mlen (I : HInv i h cnt) {m : Str} (hm : m ∈ MA) : (h.met m).length ≤ i + 1 := by
  have := nodup_le (I.mnd m hm) (I.met m hm)
  rw [List.length_map] at this
  have := I.few
  omega
theorem look_key {α : Type} : ∀ {ps : List (D × α)} {d : D}, d ∈ ps.map (·.1) → ∃ x, dlook ps d = some x ∧ (d, x) ∈ ps
  | [], d, h => by cases h
  | p :: ps, d, h => by
    rw [dlook]
    by_cases c : p.1 = d
    · rw [if_pos c]
      exact ⟨p.2, rfl, by rw [← c]; exact List.mem_cons_self⟩
    · rw [if_neg c]
      rw [List.map_cons] at h
      rcases List.mem_cons.mp h with e | h
      · exact absurd e.symm c
      · obtain ⟨x, h1, h2⟩ := look_key h
        exact ⟨x, h1, List.mem_cons_of_mem _ h2⟩
theorem HInv.look (I : HInv i h cnt) {d : D} (hd : d ∈ h.deeds.map nm2) : ∃ x, dlook h.pasts d = some x ∧ Names x := by
  rw [← I.keys] at hd
  obtain ⟨x, h1, h2⟩ := look_key hd
  exact ⟨x, h1, I.past _ h2⟩
theorem HInv.here (I : HInv i h cnt) (hi : i < 999) (m : Str) : Here (hereOf h m) := by
  refine ⟨Nat.le_trans (List.length_filter_le _ _) (by have := I.few; omega), fun d hd => ?_⟩
  obtain ⟨h1, h2, h3⟩ := I.deed d ((List.mem_filter.mp hd).1)
  exact ⟨h1, h2, by omega⟩
theorem HInv.num (I : HInv i h cnt) {m : Str} (hm : m ∈ MA) : numOf h m = 1 + cnt m := by
  have nd1 : ((h.met m).filter (firstIs m)).Nodup := (I.mnd m hm).sublist List.filter_sublist
  have nd2 : ((List.range (cnt m)).map fun (k : Nat) => nm m ((k : Int) + 1)).Nodup := by
    refine List.pairwise_map.mpr (List.Pairwise.imp (fun {a b} z e => z ?_) List.nodup_range)
    simp at e
    omega
  have s1 : ∀ d ∈ (h.met m).filter (firstIs m), d ∈ (List.range (cnt m)).map fun (k : Nat) => nm m ((k : Int) + 1) := fun d hd => by
    obtain ⟨h1, h2⟩ := List.mem_filter.mp hd
    obtain ⟨m', hm', j, rfl, j1, j2⟩ := I.dn d (I.met m hm d h1)
    have e : m' = m := of_decide_eq_true h2
    subst e
    exact List.mem_map.mpr ⟨(j - 1).toNat, List.mem_range.mpr (by omega), by rw [show (((j - 1).toNat : Nat) : Int) + 1 = j by omega]⟩
  have s2 : ∀ d ∈ (List.range (cnt m)).map (fun (k : Nat) => nm m ((k : Int) + 1)), d ∈ (h.met m).filter (firstIs m) := fun d hd => by
    obtain ⟨k, hk, rfl⟩ := List.mem_map.mp hd
    have := List.mem_range.mp hk
    exact List.mem_filter.mpr ⟨I.own m hm _ (by omega) (by omega), decide_eq_true rfl⟩
  have l1 := nodup_le nd1 s1
  have l2 := nodup_le nd2 s2
  rw [List.length_map, List.length_range] at l1 l2
  unfold numOf
  have : ((h.met m).filter (firstIs m)).length = cnt m := by omega
  rw [this]
end
theorem heads_sub {ps : List (D × List D)} {ms : List D} {d : D} (h : d ∈ headsOf ps ms) : d ∈ ms := mem_sortD.mp ((List.mem_filter.mp h).1)
theorem lt_of_le_ne {a b : D} (ha : isName a = true) (hb : isName b = true) (h : dle a b = true) (hne : a ≠ b) : W.dataLt a b = true := by
  obtain ⟨x, i, rfl⟩ := name_shape ha
  obtain ⟨y, j, rfl⟩ := name_shape hb
  cases c : W.dataLt (.tuple [.str x, .int i]) (.tuple [.str y, .int j]) with
  | true => rfl
  | false =>
    exfalso
    have e := dle_anti (k := [.inr x, .inl i]) (k' := [.inr y, .inl j]) h (by
      show (!W.dataLt (.tuple [.str x, .int i]) (.tuple [.str y, .int j])) = true
      rw [c]
      rfl)
    simp at e
    exact hne (by rw [e.1, e.2])
theorem adj_all : ∀ {ds : List D}, Names ds → ds.Pairwise (fun a b => dle a b = true) → ds.Nodup → (adj ds).all id = true
  | [], _, _, _ => rfl
  | [_], _, _, _ => rfl
  | a :: b :: r, hn, hp, nd => by
    obtain ⟨p1, p2⟩ := List.pairwise_cons.mp hp
    obtain ⟨n1, n2⟩ := List.nodup_cons.mp nd
    have h1 := lt_of_le_ne (hn a (by simp)) (hn b (by simp)) (p1 b (by simp)) fun e => n1 (by simp [e])
    have h2 := adj_all (ds := b :: r) (fun d hd => hn d (List.mem_cons_of_mem _ hd)) p2 n2
    rw [adj, List.all_cons, h2]
    simp [h1]
theorem meets_inv {i : Nat} {h h1 : Hs} {cnt : Str → Nat} {m : Str} (I : HInv i h cnt) (hm : m ∈ MA) (M : Meets m h h1) : HInv i h1 cnt := by
  cases M with
  | not => exact I
  | yes ho =>
    rename_i o
    refine ⟨I.few, I.cle, I.deed, I.dn, I.nd, fun x hx d hd => ?_, fun x hx j j1 j2 => ?_, fun x hx => ?_, I.keys, I.past⟩
    · simp only [updM] at hd
      split at hd
      · rcases List.mem_append.mp (mem_setSort.mp hd) with z | z
        · exact I.met m hm d z
        · exact I.met o ho d z
      · exact I.met x hx d hd
    · simp only [updM]
      split
      · rename_i e
        subst e
        exact mem_setSort.mpr (List.mem_append_left _ (I.own x hx j j1 j2))
      · exact I.own x hx j j1 j2
    · simp only [updM]
      split
      · exact nodup_setSort
      · exact I.mnd x hx
theorem dput_keys {α : Type} {ps : List (D × α)} {k : D} {v : α} (h : k ∉ ps.map (·.1)) : (dput ps k v).map (·.1) = ps.map (·.1) ++ [k] := by
  rw [dput_new h]
  simp
theorem new_isDeed {i : Nat} {h : Hs} {cnt : Str → Nat} {m hand : Str} {what : D} (I : HInv i h cnt) (hi : i < 900) (hm : m ∈ MA) (hh : hand ∈ HA) (T : Thing (hereOf h m) what) : isDeed (newDeed h m hand what) = true ∧ goodD (newDeed h m hand what) = true ∧ (newDeed h m hand what).depth ≤ 6 := by
  obtain ⟨t1, t2, t3⟩ := thing_what (I.here (by omega) m) T
  have en := I.num hm
  have c := I.cle m hm
  have hnm : isName (nm m (numOf h m)) = true := nm_name hm (by omega) (by omega)
  have ns := I.names (by omega) hm
  have hs : Names (headsOf h.pasts (h.met m)) := fun d hd => ns d (heads_sub hd)
  have sorted : (headsOf h.pasts (h.met m)).Pairwise (fun a b => dle a b = true) := (sortD_sorted _).sublist List.filter_sublist
  have nd : (headsOf h.pasts (h.met m)).Nodup := ((sortD_perm _).nodup_iff.mpr (I.mnd m hm)).sublist List.filter_sublist
  refine ⟨?_, ?_, ?_⟩
  · show (isName (nm m (numOf h m)) && (headsOf h.pasts (h.met m)).all isName && isWord (.str hand) && isWhat what && (adj (headsOf h.pasts (h.met m))).all id) = true
    rw [hnm, List.all_eq_true.mpr hs, ha_word hh, t1, adj_all hs sorted nd]
    rfl
  · refine good_row fun d hd => ?_
    simp only [List.mem_cons, List.not_mem_nil, or_false] at hd
    rcases hd with rfl | rfl | rfl | rfl | rfl
    · exact word_good (ma_word hm)
    · rfl
    · exact good_row fun d hd => name_good (hs d hd)
    · exact word_good (ha_word hh)
    · exact t2
  · refine depth_row (k := 5) fun d hd => ?_
    simp only [List.mem_cons, List.not_mem_nil, or_false] at hd
    rcases hd with rfl | rfl | rfl | rfl | rfl
    · simp [PyData.depth]
    · simp [PyData.depth]
    · have := depth_row (k := 1) fun d hd => name_depth (hs d hd)
      omega
    · simp [PyData.depth]
    · omega
theorem does_inv {i : Nat} {h h1 : Hs} {cnt : Str → Nat} {m : Str} (I : HInv i h cnt) (hi : i < 900) (hm : m ∈ MA) (M : Does m h h1) : ∃ cnt', HInv (i + 1) h1 cnt' := by
  cases M with
  | none _ => exact ⟨cnt, by have := I.few; omega, fun m hm => by have := I.cle m hm; omega, I.deed, I.dn, I.nd, I.met, I.own, I.mnd, I.keys, I.past⟩
  | new hne hh T =>
    rename_i hand what
    have en := I.num hm
    have nd := new_isDeed I hi hm hh T
    have e2 : nm2 (newDeed h m hand what) = nm m (numOf h m) := rfl
    have fresh : nm m (numOf h m) ∉ h.deeds.map nm2 := fun z => by
      obtain ⟨m', hm', j, e, j1, j2⟩ := I.dn _ z
      simp only [PyData.tuple.injEq, List.cons.injEq, PyData.str.injEq, PyData.int.injEq, and_true] at e
      obtain ⟨rfl, rfl⟩ := e
      omega
    refine ⟨fun x => if x = m then cnt m + 1 else cnt x, ?_, fun x hx => ?_, fun d hd => ?_, fun d hd => ?_, ?_, fun x hx d hd => ?_, fun x hx j j1 j2 => ?_, fun x hx => ?_, ?_, fun p hp => ?_⟩
    · have := I.few
      simp
      omega
    · have := I.cle x hx
      have := I.cle m hm
      split <;> omega
    · rcases List.mem_append.mp hd with z | z
      · exact I.deed d z
      · rw [List.mem_singleton.mp z]
        exact nd
    · rw [List.map_append, List.mem_append] at hd
      rcases hd with z | z
      · obtain ⟨m', hm', j, e, j1, j2⟩ := I.dn d z
        refine ⟨m', hm', j, e, j1, ?_⟩
        split
        · rename_i e3
          subst e3
          omega
        · exact j2
      · simp only [List.map_cons, List.map_nil, List.mem_singleton] at z
        refine ⟨m, hm, numOf h m, z, by omega, ?_⟩
        rw [if_pos rfl]
        omega
    · rw [List.map_append]
      refine List.nodup_append.mpr ⟨I.nd, by simp, fun a ha b hb => ?_⟩
      simp only [List.map_cons, List.map_nil, List.mem_singleton] at hb
      rw [hb, e2]
      exact fun e => fresh (e ▸ ha)
    · rw [List.map_append, List.mem_append]
      simp only [updM] at hd
      split at hd
      · rcases List.mem_append.mp (mem_sortD.mp hd) with z | z
        · exact .inl (I.met m hm d z)
        · exact .inr (by simpa [e2] using z)
      · exact .inl (I.met x hx d hd)
    · simp only [updM]
      split
      · rename_i e3
        subst e3
        rw [if_pos rfl] at j2
        refine mem_sortD.mpr (List.mem_append.mpr ?_)
        by_cases c : j ≤ cnt x
        · exact .inl (I.own x hx j j1 c)
        · have : j = numOf h x := by omega
          rw [this]
          exact .inr (by simp)
      · rename_i e3
        rw [if_neg e3] at j2
        exact I.own x hx j j1 j2
    · simp only [updM]
      split
      · refine (sortD_perm _).nodup_iff.mpr (List.nodup_append.mpr ⟨I.mnd m hm, by simp, fun a ha b hb => ?_⟩)
        rw [List.mem_singleton.mp hb]
        exact fun e => fresh (e ▸ I.met m hm a ha)
      · exact I.mnd x hx
    · rw [dput_keys (by rw [I.keys]; exact fresh), I.keys, List.map_append]
      rfl
    · rw [dput_new (by rw [I.keys]; exact fresh)] at hp
      rcases List.mem_append.mp hp with z | z
      · exact I.past p z
      · rw [List.mem_singleton.mp z]
        exact I.names (by omega) hm
theorem init_inv : HInv 0 init (fun m => if m = "ma" then 1 else 0) := by
  refine ⟨by decide, fun m hm => by split <;> omega, fun d hd => ?_, fun d hd => ?_, by simp [init], fun m hm d hd => ?_, fun m hm j j1 j2 => ?_, fun m hm => ?_, rfl, fun p hp => ?_⟩
  · have e : d = deed1 := List.mem_singleton.mp hd
    subst e
    refine ⟨by decide +kernel, by decide +kernel, by simp [deed1, PyData.depth, PyData.depthAll]⟩
  · have e : d = nm "ma" 1 := List.mem_singleton.mp hd
    subst e
    exact ⟨"ma", by simp, 1, rfl, by omega, by simp⟩
  · simp only [init] at hd
    split at hd
    · exact hd
    · cases hd
  · simp only [init]
    split at j2
    · rename_i e
      rw [if_pos e]
      have : j = 1 := by omega
      rw [this, e]
      simp
    · omega
  · simp only [init]
    split <;> simp
  · have e := List.mem_singleton.mp hp
    subst e
    exact fun d hd => by cases hd
theorem reach_inv {i : Nat} {h : Hs} (R : Reach i h) (hi : i < 900) : ∃ cnt, HInv i h cnt := by
  induction R with
  | zero => exact ⟨_, init_inv⟩
  | succ _ hm M Dd ih =>
    obtain ⟨cnt, I⟩ := ih (by omega)
    exact does_inv (meets_inv I hm M) (by omega) hm Dd
end Lw
namespace Lw
open L2 PySem PySem.Spec FH
/-! ### the history, walked -/
def metE (met : Str → List D) : List (D × Val) := [(.str "ma", .d (.list (met "ma"))), (.str "mb", .d (.list (met "mb"))), (.str "mc", .d (.list (met "mc")))]
theorem ma_cases {m : Str} (h : m ∈ MA) : m = "ma" ∨ m = "mb" ∨ m = "mc" := by simpa using h
theorem str_ne {a b : Str} (h : a ≠ b) : PyData.str a ≠ PyData.str b := fun e => h (PyData.str.inj e)
theorem ab_ : ("ma" : Str) ≠ "mb" := by decide +kernel
theorem ac_ : ("ma" : Str) ≠ "mc" := by decide +kernel
theorem bc_ : ("mb" : Str) ≠ "mc" := by decide +kernel
theorem look_met {met : Str → List D} {m : Str} (hm : m ∈ MA) : dlook (metE met) (.str m) = some (.d (.list (met m))) := by
  unfold metE
  rcases ma_cases hm with rfl | rfl | rfl
  · rw [dlook, if_pos rfl]
  · rw [dlook, if_neg (str_ne ab_), dlook, if_pos rfl]
  · rw [dlook, if_neg (str_ne ac_), dlook, if_neg (str_ne bc_), dlook, if_pos rfl]
theorem put_met {met : Str → List D} {m : Str} {x : List D} (hm : m ∈ MA) : dput (metE met) (.str m) (.d (.list x)) = metE (updM met m x) := by
  unfold metE updM
  rcases ma_cases hm with rfl | rfl | rfl
  · rw [dput, if_pos rfl, if_pos rfl, if_neg ab_.symm, if_neg ac_.symm]
  · rw [dput, if_neg (str_ne ab_), dput, if_pos rfl, if_pos rfl, if_neg ab_, if_neg bc_.symm]
  · rw [dput, if_neg (str_ne ac_), dput, if_neg (str_ne bc_), dput, if_pos rfl, if_pos rfl, if_neg ac_, if_neg bc_]
theorem key_str (z : Str) : keyOk (.str z) = true := by
  unfold keyOk
  simp [toKey, NestedKey.depth]
theorem ix_met {met : Str → List D} {n : Nat} {m : Str} {S : Store} (h : S[n]? = some (.dic (metE met))) (hm : m ∈ MA) : ixV (.ref n) (.d (.str m)) S = some (.d (.list (met m)), S) := by
  simp only [ixV, ixQ, asDic, h, ixDic, key_str]
  simp [look_met hm]
theorem set_met {met : Str → List D} {n : Nat} {m : Str} {x : List D} {S : Store} (h : S[n]? = some (.dic (metE met))) (hm : m ∈ MA) : setV (.ref n) (.d (.str m)) (.d (.list x)) S = some (S.set n (.dic (metE (updM met m x)))) := by
  have : (metE met).length < sizeLine := by show 3 < sizeLine; decide
  simp only [setV, h]
  rw [if_pos ⟨key_str m, this⟩, put_met hm]
theorem put_past {ps : List (D × List D)} {k : D} {x : List D} : dput (pastE ps) k (.d (.list x)) = pastE (dput ps k x) := by
  unfold pastE
  induction ps with
  | nil => rfl
  | cons p ps ih =>
    simp only [List.map_cons, dput]
    split
    · rfl
    · rw [ih]
      rfl
theorem set_past {ps : List (D × List D)} {n : Nat} {k : D} {x : List D} {S : Store} (h : S[n]? = some (.dic (pastE ps))) (hk : keyOk k = true) (hl : ps.length < 1000) : setV (.ref n) (.d k) (.d (.list x)) S = some (S.set n (.dic (pastE (dput ps k x)))) := by
  have : (pastE ps).length < sizeLine := by
    unfold pastE
    rw [List.length_map]
    exact Nat.lt_of_lt_of_le hl (by decide)
  simp only [setV, h]
  rw [if_pos ⟨hk, this⟩, put_past]
abbrev tailE (h : Hs) : Store := [.lst (h.deeds.map .d), .dic (pastE h.pasts), .dic (metE h.met)]
section
variable {S : Store} {h : Hs}
theorem g0 : (S ++ tailE h)[S.length]? = some (.lst (h.deeds.map .d)) := by simp
theorem g1 : (S ++ tailE h)[S.length + 1]? = some (.dic (pastE h.pasts)) := by simp
theorem g2 : (S ++ tailE h)[S.length + 2]? = some (.dic (metE h.met)) := by simp
theorem s0_ {o : Ob} : (S ++ tailE h).set S.length o = S ++ [o, .dic (pastE h.pasts), .dic (metE h.met)] := by
  rw [List.set_append_right _ _ (Nat.le_refl _), Nat.sub_self]
  rfl
theorem s1_ {o : Ob} : (S ++ tailE h).set (S.length + 1) o = S ++ [.lst (h.deeds.map .d), o, .dic (metE h.met)] := by
  rw [List.set_append_right _ _ (by omega), show S.length + 1 - S.length = 1 by omega]
  rfl
theorem s2_ {o : Ob} : (S ++ tailE h).set (S.length + 2) o = S ++ [.lst (h.deeds.map .d), .dic (pastE h.pasts), o] := by
  rw [List.set_append_right _ _ (by omega), show S.length + 2 - S.length = 2 by omega]
  rfl
end
/-- the deeds that a machine has met -/
theorem here_lc {i : Nat} {h : Hs} {cnt : Str → Nat} {m : Str} {S : Store} {x0 x1 x2 x3 x5 x7 x9 x10 x11 x12 x13 x14 x15 x16 : Option Val} (I : HInv i h cnt) (hi : i < 900) (hm : m ∈ MA) :
    evLC false (evIter (evVar 4)) (tgName 15) [15] (evB (ev2 (cmpV .In) (evSl (evVar 15) none (some (evC (.d (.int 2))))) (ev2 ixV (evVar 6) (evVar 8)))) (evVar 15) [x0, x1, x2, x3, some (.ref S.length), x5, some (.ref (S.length + 2)), x7, some (.d (.str m)), x9, x10, x11, x12, x13, x14, x15, x16] (S ++ tailE h) = .ok (.d (.list (hereOf h m))) (S ++ tailE h) := by
  refine lc_filter (v := .ref S.length) (ds := h.deeds) ?_ (fun d => memB (nm2 d) (h.met m)) (fun d hd => ?_) (by have := I.few; omega)
  · have e : itemsOf (.ref S.length) (S ++ tailE h) = some (h.deeds.map .d) := by simp [itemsOf, asDic, asL]
    show (match itemsOf (.ref S.length) (S ++ tailE h) with | some items => Res.ok (items, Val.ref S.length) (S ++ tailE h) | none => .stuck) = _
    rw [e]
  · obtain ⟨a1, a2, n, hnd, w, r, rfl⟩ := deed_shape (I.deed d hd).1
    have hn : isName (nm2 (.tuple [.str a1, .int a2, .tuple n, .str hnd, .tuple (.str w :: r)])) = true := I.name (by omega) (List.mem_map.mpr ⟨_, hd, rfl⟩)
    have lk : lockS (.ref S.length) (S ++ tailE h) = S ++ [.lk (.lst (h.deeds.map .d)), .dic (pastE h.pasts), .dic (metE h.met)] := by
      rw [lock_ref, g0]
      exact s0_
    rw [lk]
    have gg : ∀ acc : List Val, ((S ++ [.lk (.lst (h.deeds.map .d)), .dic (pastE h.pasts), .dic (metE h.met)]) ++ [.lst acc])[S.length + 2]? = some (.dic (metE h.met)) := fun acc => by simp
    have cc : ∀ acc : List Val, evB (ev2 (cmpV .In) (evSl (evVar 15) none (some (evC (.d (.int 2))))) (ev2 ixV (evVar 6) (evVar 8))) [x0, x1, x2, x3, some (.ref S.length), x5, some (.ref (S.length + 2)), x7, some (.d (.str m)), x9, x10, x11, x12, x13, x14, some (.d (.tuple [.str a1, .int a2, .tuple n, .str hnd, .tuple (.str w :: r)])), x16] ((S ++ [.lk (.lst (h.deeds.map .d)), .dic (pastE h.pasts), .dic (metE h.met)]) ++ [.lst acc]) = .ok (memB (nm2 (.tuple [.str a1, .int a2, .tuple n, .str hnd, .tuple (.str w :: r)])) (h.met m)) ((S ++ [.lk (.lst (h.deeds.map .d)), .dic (pastE h.pasts), .dic (metE h.met)]) ++ [.lst acc]) := fun acc => by
      refine evB_b (ev2_v (x := .d (nm2 (.tuple [.str a1, .int a2, .tuple n, .str hnd, .tuple (.str w :: r)]))) (S1 := (S ++ [.lk (.lst (h.deeds.map .d)), .dic (pastE h.pasts), .dic (metE h.met)]) ++ [.lst acc]) ?_ (ev2_v rfl rfl (ix_met (gg acc) hm)) (in_names hn (I.names (by omega) hm)))
      show ofO (slV (.d (.tuple [.str a1, .int a2, .tuple n, .str hnd, .tuple (.str w :: r)])) none (some 2) _) = _
      rw [sl_to2]
      rfl
    have tg : (tgName 15).2 (.d (.tuple [.str a1, .int a2, .tuple n, .str hnd, .tuple (.str w :: r)])) (wipeL [x0, x1, x2, x3, some (.ref S.length), x5, some (.ref (S.length + 2)), x7, some (.d (.str m)), x9, x10, x11, x12, x13, x14, x15, x16] [15]) = some [x0, x1, x2, x3, some (.ref S.length), x5, some (.ref (S.length + 2)), x7, some (.d (.str m)), x9, x10, x11, x12, x13, x14, some (.d (.tuple [.str a1, .int a2, .tuple n, .str hnd, .tuple (.str w :: r)])), x16] := rfl
    cases c : memB (nm2 (.tuple [.str a1, .int a2, .tuple n, .str hnd, .tuple (.str w :: r)])) (h.met m) with
    | true => exact ⟨_, tg, fun acc => ⟨by rw [cc acc, c], rfl⟩⟩
    | false => exact ⟨_, tg, fun acc => by rw [cc acc, c]⟩
/-- the number of a machine's next deed -/
theorem num_lc {i : Nat} {h : Hs} {cnt : Str → Nat} {m : Str} {S : Store} {x0 x1 x2 x3 x4 x5 x7 x9 x10 x11 x12 x13 x14 x15 x16 : Option Val} (I : HInv i h cnt) (hi : i < 900) (hm : m ∈ MA) :
    ev2 addV (evC (.d (.int 1))) (evL lenL (evCons (evLC false (evIter (ev2 ixV (evVar 6) (evVar 8))) (tgName 16) [16] (evB (ev2 (cmpV .Eq) (ev2 ixV (evVar 16) (evC (.d (.int 0)))) (evVar 8))) (evVar 16)) evNil)) [x0, x1, x2, x3, x4, x5, some (.ref (S.length + 2)), x7, some (.d (.str m)), x9, x10, x11, x12, x13, x14, x15, x16] (S ++ tailE h) = .ok (.d (.int (numOf h m))) (S ++ tailE h) := by
  have okm : PyData.strOk m = true := (good_str (word_good (ma_word hm))).1
  have lc : evLC false (evIter (ev2 ixV (evVar 6) (evVar 8))) (tgName 16) [16] (evB (ev2 (cmpV .Eq) (ev2 ixV (evVar 16) (evC (.d (.int 0)))) (evVar 8))) (evVar 16) [x0, x1, x2, x3, x4, x5, some (.ref (S.length + 2)), x7, some (.d (.str m)), x9, x10, x11, x12, x13, x14, x15, x16] (S ++ tailE h) = .ok (.d (.list ((h.met m).filter (firstIs m)))) (S ++ tailE h) := by
    refine lc_filter (v := .d (.list (h.met m))) (ds := h.met m) ?_ (firstIs m) (fun d hd => ?_) (by have := I.mlen hm; omega)
    · have e := ix_met (S := S ++ tailE h) g2 hm
      simp only [evIter, ev2, evVar_0, evVar_s, Res.bind, e, ofO]
      simp [itemsOf, asDic, asL]
    · obtain ⟨x, j, rfl⟩ := name_shape (I.names (by omega) hm d hd)
      have okx : PyData.strOk x = true := by
        have := name_good (I.names (by omega) hm _ hd)
        rw [goodD] at this
        exact (good_str (good_mem this (.str x) (by simp))).1
      have cc : ∀ S' : Store, evB (ev2 (cmpV .Eq) (ev2 ixV (evVar 16) (evC (.d (.int 0)))) (evVar 8)) [x0, x1, x2, x3, x4, x5, some (.ref (S.length + 2)), x7, some (.d (.str m)), x9, x10, x11, x12, x13, x14, x15, some (.d (.tuple [.str x, .int j]))] S' = .ok (firstIs m (.tuple [.str x, .int j])) S' := fun S' => evB_b (ev2_v (ev2_v rfl rfl ix_t0) rfl (eq_str_ okx okm))
      have tg : (tgName 16).2 (.d (.tuple [.str x, .int j])) (wipeL [x0, x1, x2, x3, x4, x5, some (.ref (S.length + 2)), x7, some (.d (.str m)), x9, x10, x11, x12, x13, x14, x15, x16] [16]) = some [x0, x1, x2, x3, x4, x5, some (.ref (S.length + 2)), x7, some (.d (.str m)), x9, x10, x11, x12, x13, x14, x15, some (.d (.tuple [.str x, .int j]))] := rfl
      cases c : firstIs m (.tuple [.str x, .int j]) with
      | true => exact ⟨_, tg, fun acc => ⟨by rw [cc, c], rfl⟩⟩
      | false => exact ⟨_, tg, fun acc => by rw [cc, c]⟩
  exact ev2_v rfl (evL_v (evCons_v lc rfl) len_lst_) add_int_
theorem eq_nilE {ds : List D} {S : Store} (h : goodAll ds = true) (hd : PyData.depthAll ds ≤ 60) : cmpV .Eq (.d (.list ds)) (.d (.list [])) S = some (.d (.bool (decide (ds = []))), S) := by
  have s1 : SeqAt.shaped (.list ds) = true := shaped_good (by rw [goodD]; exact h) (by rw [PyData.depth]; omega)
  have s2 : SeqAt.shaped (.list []) = true := shaped_good (by rfl) (by simp [PyData.depth, PyData.depthAll])
  simp only [cmpV, cmpB, eqB, toP, s1, s2]
  cases ds <;> simp [PyData.eqv, PyData.eqvAll]
theorem gs_assoc {a b c : Sv} {l : FH.Loc} {S : Store} : sSeq (sSeq a b) c l S = sSeq a (sSeq b c) l S := by
  unfold sSeq
  cases a l S <;> rfl
abbrev pre (ns : List Int) (t n : Nat) (many : Int) : List (Option Val) := [some (.scr ns), some (.ref t), some (.d (.int many)), some (.d deed1), some (.ref n), some (.ref (n + 1)), some (.ref (n + 2))]
/-- one turn -/
noncomputable def bodyH (Φ : Tab) : Sv := sSeq (sSet (evCall 3 (Φ i__law_pick) (evCons (evVar 0) (evCons (evVar 1) (evCons (evLst false (evCons (evC (.d (.str "ma"))) (evCons (evC (.d (.str "mb"))) (evCons (evC (.d (.str "mc"))) (evNil))))) (evNil))))) (tgName 8)) (sSeq (sIf (cOr (evB (ev2 (cmpV .Eq) (evCall 3 (Φ i__law_draw) (evCons (evVar 0) (evCons (evVar 1) (evCons (evC (.d (.int 3))) (evNil))))) (evC (.d (.int 0))))) (evB (ev2 (cmpV .Eq) (ev2 ixV (evVar 6) (evVar 8)) (evLst false (evNil))))) (sSeq (sSet (evCall 3 (Φ i__law_pick) (evCons (evVar 0) (evCons (evVar 1) (evCons (evLst false (evCons (evC (.d (.str "ma"))) (evCons (evC (.d (.str "ma"))) (evCons (evC (.d (.str "mb"))) (evCons (evC (.d (.str "mc"))) (evNil)))))) (evNil))))) (tgName 9)) (sSub (evL setSortL (evCons (ev2 addV (ev2 ixV (evVar 6) (evVar 8)) (ev2 ixV (evVar 6) (evVar 9))) (evNil))) (evVar 6) (evVar 8))) (sNx)) (sSeq (sSet (evLC false (evIter (evVar 4)) (tgName 15) [15] (evB (ev2 (cmpV .In) (evSl (evVar 15) none (some (evC (.d (.int 2))))) (ev2 ixV (evVar 6) (evVar 8)))) (evVar 15)) (tgName 10)) (sIf (evB (ev2 (cmpV .NotEq) (evVar 10) (evLst false (evNil)))) (sSeq (sSet (ev2 addV (evC (.d (.int 1))) (evL lenL (evCons (evLC false (evIter (ev2 ixV (evVar 6) (evVar 8))) (tgName 16) [16] (evB (ev2 (cmpV .Eq) (ev2 ixV (evVar 16) (evC (.d (.int 0)))) (evVar 8))) (evVar 16)) (evNil)))) (tgName 11)) (sSeq (sSet (evCall 3 (Φ i__law_pick) (evCons (evVar 0) (evCons (evVar 1) (evCons (evLst false (evCons (evC (.d (.str "ann"))) (evCons (evC (.d (.str "ann"))) (evCons (evC (.d (.str "bob"))) (evCons (evC (.d (.str "cy"))) (evNil)))))) (evNil))))) (tgName 12)) (sSeq (sPar [13, 14] (evCons (evCall 2 (Φ i__law_heads) (evCons (ev2 ixV (evVar 6) (evVar 8)) (evCons (evVar 5) (evNil)))) (evCons (evCall 3 (Φ i__law_thing) (evCons (evVar 0) (evCons (evVar 1) (evCons (evVar 10) (evNil))))) (evNil)))) (sSeq (sDrop (evM "list" appM (evVar 4) (evCons (evTup (evCons (evVar 8) (evCons (evVar 11) (evCons (evVar 13) (evCons (evVar 12) (evCons (evVar 14) (evNil))))))) (evNil)))) (sSeq (sSub (evL listL (evCons (ev2 ixV (evVar 6) (evVar 8)) (evNil))) (evVar 5) (evTup (evCons (evVar 8) (evCons (evVar 11) (evNil))))) (sSub (evL sortedL (evCons (ev2 addV (ev2 ixV (evVar 6) (evVar 8)) (evLst false (evCons (evTup (evCons (evVar 8) (evCons (evVar 11) (evNil)))) (evNil)))) (evNil))) (evVar 6) (evVar 8))))))) (sNx))))
theorem turn_ok {Φ : Tab} (hd : DrawOk (Φ i__law_draw)) (hp : PickOk (Φ i__law_pick)) (hh : HeadsOk (Φ i__law_heads)) (hT : ThingOk (Φ i__law_thing)) {ns : List Int} {t : Nat} {S Sa : Store} {h : Hs} {i : Nat} {many : Int} {x7 x8 x9 x10 x11 x12 x13 x14 x15 x16 : Option Val} (ht : Town S t) (ha : Tw S t Sa) (R : Reach i h) (hi : i < 30) :
    Goes (bodyH Φ (pre ns t S.length many ++ [x7, x8, x9, x10, x11, x12, x13, x14, x15, x16]) (Sa ++ tailE h)) (fun l' S' => ∃ r S1 h', r.length = 10 ∧ l' = pre ns t S.length many ++ r ∧ Tw S t S1 ∧ S' = S1 ++ tailE h' ∧ Reach (i + 1) h') fun _ _ => False := by
  obtain ⟨cnt, I⟩ := reach_inv R (by omega)
  unfold bodyH
  refine gs_name (en_picksA hp MA ht ha rfl rfl rfl (by simp) (by decide)) (by simp) fun v S1 ⟨Sb, tb, e1, m, hm, e2⟩ => ?_
  subst e1 e2
  have lb := tb.len
  -- meeting
  refine go_seq (N' := fun l' S' => ∃ y Sc h1, l' = pre ns t S.length many ++ [x7, some (.d (.str m)), y, x10, x11, x12, x13, x14, x15, x16] ∧ Tw S t Sc ∧ S' = Sc ++ tailE h1 ∧ Meets m h h1) ?_ fun l' S' ⟨y, Sc, h1, e1, tc, e2, M⟩ => ?_
  · refine go_if (P := fun p S' => ∃ Sc, Tw S t Sc ∧ S' = Sc ++ tailE h) ?_ fun p S' ⟨Sc, tc, e1⟩ => ?_
    · refine Ends.bind (P := fun p S' => ∃ Sc, Tw S t Sc ∧ S' = Sc ++ tailE h) ?_ fun p S' ⟨Sc, tc, e1⟩ => ?_
      · refine Ends.bind (P := fun v S' => ∃ b Sc, Tw S t Sc ∧ S' = Sc ++ tailE h ∧ v = .d (.bool b)) ?_ fun v S' ⟨b, Sc, tc, e1, e2⟩ => ?_
        · refine Ends.bind (en_drawA hd 3 ht tb rfl rfl (by decide) (by decide)) fun v S' ⟨Sc, tc, e1, r, h5, h6, e2⟩ => ?_
          subst e1 e2
          exact .of (ev2_v (a := evC (.d (.int r))) (b := evC (.d (.int 0))) (l := []) rfl rfl eq_int_) ⟨_, Sc, tc, rfl, rfl⟩
        · subst e1 e2
          exact .of rfl ⟨Sc, tc, rfl⟩
      · subst e1
        cases p with
        | true => exact .of rfl ⟨Sc, tc, rfl⟩
        | false =>
          have lc := tc.len
          rw [if_neg (by decide)]
          have nn := I.names (by omega) hm
          exact .of (evB_b (ev2_v (ev2_v (x := .ref (S.length + 2)) rfl rfl (ix_met (S := Sc ++ tailE h) (by rw [← lc]; exact g2) hm)) (lst_frz (ds := []) rfl (by decide)) (eq_nilE nn.good (Nat.le_trans nn.depth (by decide))))) ⟨Sc, tc, rfl⟩
    · subst e1
      cases p with
      | false => exact ⟨x9, Sc, h, rfl, tc, rfl, .not⟩
      | true =>
        rw [if_pos rfl]
        refine gs_name (en_picksA hp ["ma", "ma", "mb", "mc"] ht tc rfl rfl rfl (by simp) (by decide)) (by simp) fun v S1 ⟨Sd, td, e1, o, ho, e2⟩ => ?_
        subst e1 e2
        have ho' : o ∈ MA := by simpa using ho
        have ld := td.len
        have gm : (Sd ++ tailE h)[S.length + 2]? = some (.dic (metE h.met)) := by rw [← ld]; exact g2
        have nn : Names (h.met m ++ h.met o) := fun d z => (List.mem_append.mp z).elim (I.names (by omega) hm d) (I.names (by omega) ho' d)
        have l1 := I.mlen hm
        have l2 := I.mlen ho'
        refine go_sub (P := fun v S' => v = .d (.list (setSort (h.met m ++ h.met o))) ∧ S' = Sd ++ tailE h) (.of (evL_v (evCons_v (ev2_v (ev2_v rfl rfl (ix_met gm hm)) (ev2_v rfl rfl (ix_met gm ho')) (add_lst (by omega))) rfl) (set_names nn (by rw [List.length_append]; omega))) ⟨rfl, rfl⟩) fun v S' ⟨e1, e2⟩ => ?_
        subst e1 e2
        refine ⟨_, _, _, rfl, rfl, set_met gm hm, some (.d (.str o)), Sd, _, rfl, td, ?_, .yes ho'⟩
        rw [← ld]
        exact s2_
  subst e1 e2
  have I1 := meets_inv I hm M
  have lc := tc.len
  rw [show (pre ns t S.length many) = pre ns t Sc.length many by rw [lc]]
  refine gs_name (P := fun v S' => v = .d (.list (hereOf h1 m)) ∧ S' = Sc ++ tailE h1) (.of (here_lc I1 (by omega) hm) ⟨rfl, rfl⟩) (by simp) fun v S' ⟨e1, e2⟩ => ?_
  subst e1 e2
  have HH := I1.here (by omega) m
  have hg : goodAll (hereOf h1 m) = true := good_of fun d hd => (HH.2 d hd).2.1
  have hdp : PyData.depthAll (hereOf h1 m) ≤ 60 := Nat.le_trans (depthAll_le fun d hd => (HH.2 d hd).2.2) (by decide)
  refine go_if (P := fun p S' => p = !decide (hereOf h1 m = []) ∧ S' = Sc ++ tailE h1) (.of (evB_b (ev2_v rfl (lst_frz (ds := []) rfl (by decide)) (eq_nil hg hdp))) ⟨rfl, rfl⟩) fun p S' ⟨e1, e2⟩ => ?_
  subst e1 e2
  by_cases c : hereOf h1 m = []
  · rw [decide_eq_true c]
    exact ⟨[x7, some (.d (.str m)), y, some (.d (.list (hereOf h1 m))), x11, x12, x13, x14, x15, x16], Sc, h1, rfl, by rw [lc]; rfl, tc, rfl, .succ R hm M (.none c)⟩
  · rw [decide_eq_false c, if_pos (show (!false) = true from rfl)]
    refine gs_name (P := fun v S' => v = .d (.int (numOf h1 m)) ∧ S' = Sc ++ tailE h1) (.of (num_lc I1 (by omega) hm) ⟨rfl, rfl⟩) (by simp) fun v S' ⟨e1, e2⟩ => ?_
    subst e1 e2
    refine gs_name (en_picksA hp ["ann", "ann", "bob", "cy"] ht tc rfl rfl rfl (by simp) (by decide)) (by simp) fun v S1 ⟨Sd, td, e1, hand, hhand, e2⟩ => ?_
    subst e1 e2
    have hhand' : hand ∈ HA := by simpa using hhand
    have ld := td.len
    have nn := I1.names (by omega) hm
    have gp : (Sd ++ tailE h1)[Sc.length + 1]? = some (.dic (pastE h1.pasts)) := by rw [lc, ← ld]; exact g1
    have gm : (Sd ++ tailE h1)[Sc.length + 2]? = some (.dic (metE h1.met)) := by rw [lc, ← ld]; exact g2
    have hv := hh (h1.met m) (Sc.length + 1) h1.pasts (Sd ++ tailE h1) gp nn (by have := I1.mlen hm; omega) fun o ho => I1.look (I1.met m hm o ho)
    refine gs_par (P := fun vs S' => ∃ Se what, Tw S t Se ∧ S' = Se ++ tailE h1 ∧ Thing (hereOf h1 m) what ∧ vs = [.d (.tuple (headsOf h1.pasts (h1.met m))), .d what]) ?_ fun vs S' ⟨Se, what, te, e1, T, e2⟩ => ?_
    · refine (en_cons (P := fun v S' => v = .d (.tuple (headsOf h1.pasts (h1.met m))) ∧ S' = Sd ++ tailE h1) (Q := fun v us S' => ∃ Se what, Tw S t Se ∧ S' = Se ++ tailE h1 ∧ Thing (hereOf h1 m) what ∧ v = .d (.tuple (headsOf h1.pasts (h1.met m))) ∧ us = [.d what]) (.of (evCall_v (evCons_v (ev2_v rfl rfl (ix_met gm hm)) (evCons_v rfl rfl)) rfl hv) ⟨rfl, rfl⟩) fun v S' ⟨e1, e2⟩ => ?_).mono fun vs S' ⟨v, us, e, Se, what, q1, q2, q3, q4, q5⟩ => ⟨Se, what, q1, q2, q3, by rw [e, q4, q5]⟩
      subst e1 e2
      refine (en_cons (P := fun v S' => ∃ Se what, Tw S t Se ∧ S' = Se ++ tailE h1 ∧ Thing (hereOf h1 m) what ∧ v = .d what) (Q := fun v us S' => ∃ Se what, Tw S t Se ∧ S' = Se ++ tailE h1 ∧ Thing (hereOf h1 m) what ∧ v = .d what ∧ us = []) ?_ fun v S' ⟨Se, what, q1, q2, q3, q4⟩ => en_nil ⟨Se, what, q1, q2, q3, q4, rfl⟩).mono fun vs S' ⟨v, us, e, Se, what, q1, q2, q3, q4, q5⟩ => ⟨Se, what, q1, q2, q3, rfl, by rw [e, q4, q5]⟩
      refine en_call (evCons_v rfl (evCons_v rfl (evCons_v rfl rfl))) rfl ((hT ns t (hereOf h1 m) (Sd ++ tailE h1) (town_app (td.town ht.lt)) HH).mono fun v S' ⟨w1, what, e1, T⟩ => ?_)
      obtain ⟨Se, te, e2⟩ := tw_app (td.town ht.lt).lt w1
      exact ⟨Se, what, td.trans te, e2, T, e1⟩
    subst e1 e2
    refine ⟨_, rfl, ?_⟩
    have le := te.len
    have hnum := I1.num hm
    have hcl := I1.cle m hm
    have hnmn : isName (nm m (numOf h1 m)) = true := nm_name hm (by omega) (by omega)
    have lec : Se.length = Sc.length := by omega
    have gd0 : (Se ++ tailE h1)[Sc.length]? = some (.lst (h1.deeds.map .d)) := by rw [← lec]; exact g0
    have hfew := I1.few
    -- the deed
    refine gs_drop (P := fun _ S' => S' = Se ++ tailE ⟨h1.deeds ++ [newDeed h1 m hand what], h1.pasts, h1.met⟩) (.of (evM_v (v := .ref Sc.length) (S1 := Se ++ tailE h1) rfl (kind_lst gd0) (evCons_v (tup_vals (ds := [.str m, .int (numOf h1 m), .tuple (headsOf h1.pasts (h1.met m)), .str hand, what]) rfl (by simp)) rfl) (app_v gd0 (by rw [List.length_map]; omega))) ?_) fun v S' e1 => ?_
    · show (Se ++ tailE h1).set Sc.length _ = _
      rw [← lec, s0_]
      simp [tailE, newDeed]
    subst e1
    -- its past
    have gp2 : (Se ++ tailE ⟨h1.deeds ++ [newDeed h1 m hand what], h1.pasts, h1.met⟩)[Sc.length + 1]? = some (.dic (pastE h1.pasts)) := by rw [← lec]; exact g1 (h := ⟨h1.deeds ++ [newDeed h1 m hand what], h1.pasts, h1.met⟩)
    have gm2 : (Se ++ tailE ⟨h1.deeds ++ [newDeed h1 m hand what], h1.pasts, h1.met⟩)[Sc.length + 2]? = some (.dic (metE h1.met)) := by rw [← lec]; exact g2 (h := ⟨h1.deeds ++ [newDeed h1 m hand what], h1.pasts, h1.met⟩)
    have hpl : h1.pasts.length < 1000 := by
      have := congrArg List.length I1.keys
      rw [List.length_map, List.length_map] at this
      omega
    have ll : ∀ S', listL [.d (.list (h1.met m))] S' = some (.d (.list (h1.met m)), S') := fun S' => by simp [listL, asQ, asT, asL, mkL, allD_map]
    refine gs_sub (P := fun v S' => v = .d (.list (h1.met m)) ∧ S' = Se ++ tailE ⟨h1.deeds ++ [newDeed h1 m hand what], h1.pasts, h1.met⟩) (.of (evL_v (evCons_v (ev2_v rfl rfl (ix_met gm2 hm)) rfl) (ll _)) ⟨rfl, rfl⟩) fun v S' ⟨e1, e2⟩ => ?_
    subst e1 e2
    refine ⟨_, _, Se ++ tailE ⟨h1.deeds ++ [newDeed h1 m hand what], dput h1.pasts (nm m (numOf h1 m)) (h1.met m), h1.met⟩, rfl, tup_vals (ds := [.str m, .int (numOf h1 m)]) rfl (by simp), ?_, ?_⟩
    · rw [set_past gp2 (name_keyOk hnmn) hpl, ← lec, s1_ (h := ⟨h1.deeds ++ [newDeed h1 m hand what], h1.pasts, h1.met⟩)]
    -- what it has met now
    have gm3 : (Se ++ tailE ⟨h1.deeds ++ [newDeed h1 m hand what], dput h1.pasts (nm m (numOf h1 m)) (h1.met m), h1.met⟩)[Sc.length + 2]? = some (.dic (metE h1.met)) := by rw [← lec]; exact g2 (h := ⟨h1.deeds ++ [newDeed h1 m hand what], dput h1.pasts (nm m (numOf h1 m)) (h1.met m), h1.met⟩)
    have nn2 : Names (h1.met m ++ [nm m (numOf h1 m)]) := fun d z => (List.mem_append.mp z).elim (nn d) fun z => by rw [List.mem_singleton.mp z]; exact hnmn
    have hml := I1.mlen hm
    refine go_sub (P := fun v S' => v = .d (.list (sortD (h1.met m ++ [nm m (numOf h1 m)]))) ∧ S' = Se ++ tailE ⟨h1.deeds ++ [newDeed h1 m hand what], dput h1.pasts (nm m (numOf h1 m)) (h1.met m), h1.met⟩) (.of (evL_v (evCons_v (ev2_v (ev2_v rfl rfl (ix_met gm3 hm)) (lst_frz (ds := [nm m (numOf h1 m)]) (evCons_v (tup_vals (ds := [.str m, .int (numOf h1 m)]) rfl (by simp)) rfl) (by simp)) (add_lst (by simp; omega))) rfl) (sorted_names nn2 (by simp; omega))) ⟨rfl, rfl⟩) fun v S' ⟨e1, e2⟩ => ?_
    subst e1 e2
    refine ⟨_, _, _, rfl, rfl, set_met gm3 hm, [x7, some (.d (.str m)), y, some (.d (.list (hereOf h1 m))), some (.d (.int (numOf h1 m))), some (.d (.str hand)), some (.d (.tuple (headsOf h1.pasts (h1.met m)))), some (.d what), x15, x16], Se, _, rfl, rfl, te, ?_, .succ R hm M (.new c hhand' T)⟩
    rw [← lec, s2_ (h := ⟨h1.deeds ++ [newDeed h1 m hand what], dput h1.pasts (nm m (numOf h1 m)) (h1.met m), h1.met⟩)]
end Lw
namespace Lw
open L2 PySem PySem.Spec FH
theorem disp_own {ps : List (Ev × Ev)} {l : FH.Loc} {S : Store} {kvs : List (Val × Val)} {m : List (D × Val)} (h : evPairs ps l (S ++ [.dic []]) = .ok kvs (S ++ [.dic []])) (hf : fillD kvs [] = some m) : evDisp true ps l S = .ok (.ref S.length) (S ++ [.dic m]) := by
  unfold evDisp
  rw [h]
  simp only [Res.bind, hf, get_last]
  unfold fin
  rw [if_pos rfl, set_last]
def pastsD (h : Hs) : D := .dict (h.pasts.map fun p => (p.1, .list p.2))
def metD (h : Hs) : D := .dict [(.str "ma", .list (h.met "ma")), (.str "mb", .list (h.met "mb")), (.str "mc", .list (h.met "mc"))]
def histD (h : Hs) : D := .tuple [.list h.deeds, pastsD h, metD h]
theorem allD_past (ps : List (D × List D)) : allD ((pastE ps).map (·.2)) = some (ps.map fun p => .list p.2) := by
  have e : (pastE ps).map (·.2) = (ps.map fun p => PyData.list p.2).map .d := by
    unfold pastE
    simp [Function.comp_def]
  rw [e, allD_map]
theorem zip_past (ps : List (D × List D)) : ((pastE ps).map (·.1)).zip (ps.map fun p => PyData.list p.2) = ps.map fun p => (p.1, .list p.2) := by
  unfold pastE
  induction ps with
  | nil => rfl
  | cons p ps ih =>
    simp only [List.map_cons, List.zip_cons_cons]
    rw [ih]
theorem frz_hist {S : Store} {h : Hs} : freezeAll [.ref S.length, .ref (S.length + 1), .ref (S.length + 2)] (S ++ tailE h) = some ([.d (.list h.deeds), .d (pastsD h), .d (metD h)], S ++ [.gone, .gone, .gone]) := by
  have f0 : freezeV (.ref S.length) (S ++ tailE h) = some (.d (.list h.deeds), S ++ [.gone, .dic (pastE h.pasts), .dic (metE h.met)]) := by
    unfold freezeV
    simp only [g0, allD_map, s0_]
  have f1 : freezeV (.ref (S.length + 1)) (S ++ [.gone, .dic (pastE h.pasts), .dic (metE h.met)]) = some (.d (pastsD h), S ++ [.gone, .gone, .dic (metE h.met)]) := by
    have e : (S ++ [.gone, .dic (pastE h.pasts), .dic (metE h.met)])[S.length + 1]? = some (.dic (pastE h.pasts)) := by simp
    unfold freezeV
    simp only [e, allD_past]
    rw [zip_past, List.set_append_right _ _ (by omega), show S.length + 1 - S.length = 1 by omega]
    rfl
  have f2 : freezeV (.ref (S.length + 2)) (S ++ [.gone, .gone, .dic (metE h.met)]) = some (.d (metD h), S ++ [.gone, .gone, .gone]) := by
    have e : (S ++ [.gone, .gone, .dic (metE h.met)])[S.length + 2]? = some (.dic (metE h.met)) := by simp
    unfold freezeV
    simp only [e]
    rw [List.set_append_right _ _ (by omega), show S.length + 2 - S.length = 2 by omega]
    rfl
  rw [freezeAll, f0]
  simp only
  rw [freezeAll, f1]
  simp only
  rw [freezeAll, f2]
  rfl
def HistOk (f : Fn) (many : Nat) : Prop := ∀ (ns : List Int) (t : Nat) (S : Store), Town S t → Ends (f [.scr ns, .ref t, .d (.int many)] S) fun v S' => Tw S t S' ∧ ∃ h, Reach many h ∧ v = .d (histD h)
theorem range_v {m : FH.Loc → Store → Res (List Val)} {l : FH.Loc} {S : Store} {many : Nat} (h : m l S = .ok [.d (.int many)] S) (hm : many ≤ 30) : evRange m l S = .ok (rangeI 0 many, .d .none) S := by
  have b1 : -1000000 ≤ (many : Int) ∧ (many : Int) ≤ 1000000 := ⟨by omega, by omega⟩
  unfold evRange
  rw [h]
  simp only [Res.bind]
  rw [if_pos b1]
theorem loop_ok {Φ : Tab} {many : Nat} {Rr : Val → Store → Prop} (hd : DrawOk (Φ i__law_draw)) (hp : PickOk (Φ i__law_pick)) (hh : HeadsOk (Φ i__law_heads)) (hT : ThingOk (Φ i__law_thing)) (hm : many ≤ 30) {ns : List Int} {t : Nat} {S St : Store} (ht : Town S t) (hst : St = S ++ tailE init) {it : FH.Loc → Store → Res Walked} {items : List Val}
    (hit : it (pre ns t S.length many ++ [none, none, none, none, none, none, none, none, none, none]) St = .ok (items, .d .none) St) (hlen : items.length = many) :
    Goes (sFor it (tgName 7) (bodyH Φ) (pre ns t S.length many ++ [none, none, none, none, none, none, none, none, none, none]) St) (fun l' S' => ∃ r S1 h', r.length = 10 ∧ l' = pre ns t S.length many ++ r ∧ Tw S t S1 ∧ S' = S1 ++ tailE h' ∧ Reach many h') Rr := by
  refine go_for hit (fun i l' S' => ∃ r S1 h', r.length = 10 ∧ l' = pre ns t S.length many ++ r ∧ Tw S t S1 ∧ S' = S1 ++ tailE h' ∧ Reach i h') ⟨[none, none, none, none, none, none, none, none, none, none], S, init, rfl, rfl, ht.refl, hst, .zero⟩ (fun i x l' S' hx ⟨r, S1, h', hr1, e1, t1, e2, R⟩ => ?_) fun l' S' z => by rw [hlen] at z; exact z
  subst e1 e2
  have hi : i < many := by
    have := (List.getElem?_eq_some_iff.mp hx).1
    omega
  match r, hr1 with
  | [x7, x8, x9, x10, x11, x12, x13, x14, x15, x16], _ =>
    refine ⟨_, rfl, ?_⟩
    have g := turn_ok (many := many) (x7 := some x) (x8 := x8) (x9 := x9) (x10 := x10) (x11 := x11) (x12 := x12) (x13 := x13) (x14 := x14) (x15 := x15) (x16 := x16) (ns := ns) hd hp hh hT ht t1 R (by omega)
    revert g
    show Goes (bodyH Φ (pre ns t S.length many ++ [some x, x8, x9, x10, x11, x12, x13, x14, x15, x16]) (S1 ++ tailE h')) _ _ → Goes (bodyH Φ (pre ns t S.length many ++ [some x, x8, x9, x10, x11, x12, x13, x14, x15, x16]) (S1 ++ tailE h')) _ _
    generalize bodyH Φ (pre ns t S.length many ++ [some x, x8, x9, x10, x11, x12, x13, x14, x15, x16]) (S1 ++ tailE h') = res
    intro g
    cases res with
    | nx l S => exact g
    | _ => exact g.elim
theorem end_ok {many : Nat} {ns : List Int} {t : Nat} {S St : Store} {F : Sv} {l : FH.Loc} (lp : Goes (F l St) (fun l' S' => ∃ r S1 h', r.length = 10 ∧ l' = pre ns t S.length many ++ r ∧ Tw S t S1 ∧ S' = S1 ++ tailE h' ∧ Reach many h') (fun v S' => ∃ S1 R, Tw S t S1 ∧ S' = S1 ++ R ∧ ∃ h, Reach many h ∧ v = .d (histD h))) :
    Goes (sSeq F (sRet (evTup (evCons (evVar 4) (evCons (evVar 5) (evCons (evVar 6) evNil))))) l St) (fun _ _ => False) (fun v S' => ∃ S1 R, Tw S t S1 ∧ S' = S1 ++ R ∧ ∃ h, Reach many h ∧ v = .d (histD h)) := by
  refine go_seq lp fun l' S' ⟨r, S1, h', hr1, e1, t1, e2, R⟩ => ?_
  subst e1 e2
  have l1 := t1.len
  refine go_ret (P := fun v S' => v = .d (histD h') ∧ S' = S1 ++ [.gone, .gone, .gone]) (.of (a := .d (histD h')) (S := S1 ++ [.gone, .gone, .gone]) ?_ ⟨rfl, rfl⟩) fun v S' ⟨e1, e2⟩ => ⟨S1, _, t1, e2, h', R, e1⟩
  have e : evCons (evVar 4) (evCons (evVar 5) (evCons (evVar 6) evNil)) (pre ns t S.length many ++ r) (S1 ++ tailE h') = .ok [.ref S.length, .ref (S.length + 1), .ref (S.length + 2)] (S1 ++ tailE h') := rfl
  refine evL_v (r := (.d (histD h'), S1 ++ [.gone, .gone, .gone])) e ?_
  unfold tupO
  rw [← l1, frz_hist]
  simp only [List.length_cons, List.length_nil]
  rw [if_pos (by decide)]
  rfl
theorem hist_ok {Φ : Tab} {many : Nat} (hd : DrawOk (Φ i__law_draw)) (hp : PickOk (Φ i__law_pick)) (hh : HeadsOk (Φ i__law_heads)) (hT : ThingOk (Φ i__law_thing)) (hm : many ≤ 30) : HistOk (fnB false 17 (b__law_history Φ)) many := by
  intro ns t S ht
  refine en_fn (N := fun _ _ => False) (R := fun v S' => ∃ S1 R, Tw S t S1 ∧ S' = S1 ++ R ∧ ∃ h, Reach many h ∧ v = .d (histD h)) ?_ (fun _ _ z => z.elim) fun v S' ⟨S1, R, h1, h2, h, h3, h4⟩ => ?_
  · show Goes (sSeq _ (sSeq _ (sSeq (sFor _ _ (bodyH Φ)) _)) _ S) _ _
    rw [show [Val.scr ns, .ref t, .d (.int many)].map some ++ List.replicate (17 - [Val.scr ns, .ref t, .d (.int many)].length) none = [some (.scr ns), some (.ref t), some (.d (.int many)), none, none, none, none, none, none, none, none, none, none, none, none, none, none] from rfl]
    refine gs_name (P := fun v S1 => v = .d deed1 ∧ S = S1) (.of (tup_vals (ds := [.str "ma", .int 1, .tuple [], .str "ann", .tuple [.str "open", .str "s"]]) (evCons_v rfl (evCons_v rfl (evCons_v (tup_vals (ds := []) rfl (by decide)) (evCons_v rfl (evCons_v (tup_vals (ds := [.str "open", .str "s"]) rfl (by decide)) rfl))))) (by decide)) ⟨rfl, rfl⟩) (by simp) fun v S' ⟨e1, e2⟩ => ?_
    subst e1 e2
    have p1 : ∀ (l : FH.Loc) (S : Store), evPairs [(evTup (evCons (evC (.d (.str "ma"))) (evCons (evC (.d (.int 1))) evNil)), evLst false evNil)] l S = .ok [(.d (nm "ma" 1), .d (.list []))] S := fun l S => by
      have t1 : evTup (evCons (evC (.d (.str "ma"))) (evCons (evC (.d (.int 1))) evNil)) l S = .ok (.d (nm "ma" 1)) S := tup_vals (ds := [.str "ma", .int 1]) rfl (by decide)
      have t2 : evLst false evNil l S = .ok (.d (.list [])) S := lst_frz (ds := []) rfl (by decide)
      simp only [evPairs, t1, t2, Res.bind]
    have p2 : ∀ (l : FH.Loc) (S : Store), evPairs [(evC (.d (.str "ma")), evLst false (evCons (evTup (evCons (evC (.d (.str "ma"))) (evCons (evC (.d (.int 1))) evNil))) evNil)), (evC (.d (.str "mb")), evLst false evNil), (evC (.d (.str "mc")), evLst false evNil)] l S = .ok [(.d (.str "ma"), .d (.list [nm "ma" 1])), (.d (.str "mb"), .d (.list [])), (.d (.str "mc"), .d (.list []))] S := fun l S => by
      have t1 : evTup (evCons (evC (.d (.str "ma"))) (evCons (evC (.d (.int 1))) evNil)) l S = .ok (.d (nm "ma" 1)) S := tup_vals (ds := [.str "ma", .int 1]) rfl (by decide)
      have t2 : evLst false evNil l S = .ok (.d (.list [])) S := lst_frz (ds := []) rfl (by decide)
      have t3 : evLst false (evCons (evTup (evCons (evC (.d (.str "ma"))) (evCons (evC (.d (.int 1))) evNil))) evNil) l S = .ok (.d (.list [nm "ma" 1])) S := lst_frz (ds := [nm "ma" 1]) (evCons_v t1 rfl) (by decide)
      simp only [evPairs, t2, t3, Res.bind, evC]
    have f1 : fillD [(.d (nm "ma" 1), .d (.list []))] [] = some (pastE init.pasts) := by
      rw [fillD, if_pos ⟨name_keyOk (nm_name (by simp) (by decide) (by decide)), by decide⟩]
      rfl
    have f2 : fillD [(.d (.str "ma"), .d (.list [nm "ma" 1])), (.d (.str "mb"), .d (.list [])), (.d (.str "mc"), .d (.list []))] [] = some (metE init.met) := by
      rw [fillD, if_pos ⟨key_str _, by decide⟩]
      rw [fillD, if_pos ⟨key_str _, by show 1 < sizeLine; decide⟩]
      rw [dput, dput, if_neg (str_ne ab_), dput]
      rw [fillD, if_pos ⟨key_str _, by show 2 < sizeLine; decide⟩]
      rw [dput, if_neg (str_ne ac_), dput, if_neg (str_ne bc_), dput, fillD]
      unfold metE init
      simp only [if_pos, if_neg ab_.symm, if_neg ac_.symm]
    refine gs_par (P := fun vs S1 => vs = [.ref S.length, .ref (S.length + 1), .ref (S.length + 2)] ∧ S1 = S ++ tailE init) (.of (evCons_v (lst_own (vs := [.d deed1]) rfl (by simp)) (evCons_v (disp_own (p1 _ _) f1) (evCons_v (disp_own (p2 _ _) f2) rfl))) ⟨by simp, by simp [init]⟩) fun vs S1 ⟨e1, e2⟩ => ?_
    subst e1 e2
    refine ⟨_, rfl, ?_⟩
    have hr : evRange (evCons (evVar 2) evNil) (pre ns t S.length many ++ [none, none, none, none, none, none, none, none, none, none]) (S ++ tailE init) = .ok (rangeI 0 many, .d .none) (S ++ tailE init) := range_v rfl hm
    have hlen : (rangeI 0 (many : Int)).length = many := by simp [rangeI]
    exact end_ok (loop_ok (ns := ns) hd hp hh hT hm ht rfl hr hlen)
  · subst h2 h4
    rw [tw_fin h1]
    exact .ok ⟨h1, h, h3, rfl⟩
end Lw
namespace Lw
open L2 PySem PySem.Spec FH
/-! ### the table's levels -/
section
variable (k : Nat)
theorem t_whole (d : D) (a b : Int) (S : Store) : tab (k + 1) i_is_whole [.d d, .d (.int a), .d (.int b)] S = .ok (.d (.bool (isWhole d a b))) S := whole_eq (tab k) d a b S
theorem t_word (d : D) (S : Store) (h : goodD d = true) : tab (k + 1) i_is_word [.d d] S = .ok (.d (.bool (isWord d))) S := word_eq (tab k) d S h
theorem t_value (d : D) (S : Store) (h : goodD d = true) : tab (k + 1) i_is_value [.d d] S = .ok (.d (.bool (isValue d))) S := value_eq (tab k) d S h
theorem t_right (d : D) (S : Store) : tab (k + 1) i_is_right [.d d] S = .ok (.d (.bool (isRight d))) S := right_eq (tab k) d S
theorem t_name (d : D) (S : Store) (h : goodD d = true) : tab (k + 2) i_is_name [.d d] S = .ok (.d (.bool (isName d))) S := name_eq (Φ := tab (k + 1)) (t_whole k) (t_word k) d S h
theorem t_entry (w : Str) (a : D) (r : List D) (S : Store) (h : goodAll (.str w :: a :: r) = true) (hd : PyData.depthAll (.str w :: a :: r) ≤ 60) : tab (k + 3) i_is_on_entry [.d (.tuple (.str w :: a :: r))] S = .ok (.d (.bool (onEntry (.str w :: a :: r)))) S :=
  entry_eq (Φ := tab (k + 2)) (t_whole (k + 1)) (t_word (k + 1)) (t_value (k + 1)) (t_name k) w a r S h hd
theorem t_what (d : D) (S : Store) (h : goodD d = true) (hd : d.depth ≤ 60) : tab (k + 4) i_is_what [.d d] S = .ok (.d (.bool (isWhat d))) S :=
  what_eq (Φ := tab (k + 3)) (t_whole (k + 2)) (t_word (k + 2)) (t_value (k + 2)) (t_name (k + 1)) (t_right (k + 2)) (t_entry k) d S h hd
theorem t_deed (d : D) (S : Store) (h : goodD d = true) (hd : d.depth ≤ 50) (hlen : ∀ m n after hand what, d = .tuple [m, n, .tuple after, hand, what] → after.length ≤ 100000) : tab (k + 5) i_is_deed [.d d] S = .ok (.d (.bool (isDeed d))) S :=
  deed_eq (Φ := tab (k + 4)) (t_whole (k + 3)) (t_word (k + 3)) (t_value (k + 3)) (t_name (k + 2)) (t_right (k + 3)) (t_what k) d S h hd hlen
theorem t_draw : DrawOk (tab (k + 1) i__law_draw) := fun ns t j S h h1 h2 => draw_ok (tab k) ns t j S h h1 h2
theorem t_pick : PickOk (tab (k + 2) i__law_pick) := pick_ok (Φ := tab (k + 1)) (t_draw k)
theorem t_heads : HeadsOk (tab (k + 1) i__law_heads) := heads_ok (Φ := tab k)
theorem t_thing : ThingOk (tab (k + 3) i__law_thing) := thing_ok (Φ := tab (k + 2)) (t_draw (k + 1)) (t_pick k)
theorem t_hist {many : Nat} (hm : many ≤ 30) : HistOk (tab (k + 4) i__law_history) many := hist_ok (Φ := tab (k + 3)) (t_draw (k + 2)) (t_pick (k + 1)) (t_heads (k + 2)) (t_thing k) hm
end
theorem reach_ne {i : Nat} {h : Hs} (R : Reach i h) : h.deeds ≠ [] := by
  induction R with
  | zero => simp [init]
  | succ _ _ M Dd ih =>
    cases M <;> cases Dd <;> simp_all
end Lw
/-! deeds put in order, in plain words -/
namespace Lw
open L2 PySem PySem.Spec FH
/-- the names of after -/
def afterOf : D → List D
  | .tuple (_ :: _ :: .tuple a :: _) => a
  | _ => []
def predOf : D → D
  | .tuple [m, .int j] => .tuple [m, .int (j - 1)]
  | d => d
/-- a deed's shape -/
def DeedL (d : D) : Prop := ∃ (m : Str) (j : Int) (a : List D) (r : List D), d = .tuple (.str m :: .int j :: .tuple a :: r) ∧ Names a ∧ isName (nm m j) = true ∧ a.length ≤ 1000
theorem DeedL.nm2 {d : D} (h : DeedL d) : ∃ m j, Lw.nm2 d = nm m j ∧ isName (nm m j) = true := by
  obtain ⟨m, j, a, r, rfl, h1, h2, _⟩ := h
  exact ⟨m, j, rfl, h2⟩
theorem DeedL.name {d : D} (h : DeedL d) : isName (Lw.nm2 d) = true := by
  obtain ⟨m, j, e, h⟩ := h.nm2
  rw [e]
  exact h
theorem DeedL.names {d : D} (h : DeedL d) : Names (afterOf d) := by
  obtain ⟨m, j, a, r, rfl, h1, h2, _⟩ := h
  exact h1
theorem DeedL.few {d : D} (h : DeedL d) : (afterOf d).length ≤ 1000 := by
  obtain ⟨m, j, a, r, rfl, h1, h2, h3⟩ := h
  exact h3
theorem DeedL.ix2 {d : D} (h : DeedL d) (S : Store) : ixV (.d d) (.d (.int 2)) S = some (.d (.tuple (afterOf d)), S) := by
  obtain ⟨m, j, a, r, rfl, h1, h2, _⟩ := h
  exact ix_t2
theorem DeedL.sl2 {d : D} (h : DeedL d) (S : Store) : slV (.d d) none (some 2) S = some (.d (Lw.nm2 d), S) := by
  obtain ⟨m, j, a, r, rfl, h1, h2, _⟩ := h
  exact sl_to2
noncomputable def hasK {α : Type} (m : List (D × α)) (k : D) : Bool := (dlook m k).isSome
theorem hasK_iff {α : Type} {m : List (D × α)} {k : D} : hasK m k = true ↔ k ∈ m.map (·.1) := by
  unfold hasK
  cases e : dlook m k with
  | none => exact ⟨fun z => Bool.noConfusion z, fun z => absurd z (dlook_none.mp e)⟩
  | some v =>
    obtain ⟨j, hj⟩ := dlook_get e
    exact ⟨fun _ => List.mem_map.mpr ⟨_, List.mem_of_getElem? hj, rfl⟩, fun _ => rfl⟩
theorem hasK_not {α : Type} {m : List (D × α)} {k : D} : hasK m k = false ↔ k ∉ m.map (·.1) := by
  rw [← Bool.not_eq_true, hasK_iff]
noncomputable def freeOk (met : D → Bool) (m : List (D × D)) (n : D) : Bool := !((afterOf ((dlook m n).getD .none)).any fun one => hasK m one || !met one)
noncomputable def frees (met : D → Bool) (m : List (D × D)) : List D := ((sortD (m.map (·.1))).filter (freeOk met m)).filter fun n => !hasK m (predOf n)
/-- deeds each behind its past -/
noncomputable def ordF (met : D → Bool) : Nat → List (D × D) → List D → List D
  | 0, _, made => made
  | k + 1, m, made => match frees met m with
    | [] => made
    | n :: _ => ordF met k (ddel m n) (made ++ [(dlook m n).getD .none])
noncomputable def leftOf (L : List D) : List (D × D) := putAllD [] (L.map fun d => (nm2 d, d))
noncomputable def ordL (met : D → Bool) (L : List D) : List D := ordF met (L.length + 1) (leftOf L) []
/-- what left holds -/
structure LeftOk (m : List (D × D)) : Prop where
  deed : ∀ p ∈ m, DeedL p.2 ∧ p.1 = nm2 p.2
  nd : (m.map (·.1)).Nodup
  few : m.length ≤ 1000
theorem LeftOk.key {m : List (D × D)} (h : LeftOk m) {n : D} (hn : n ∈ m.map (·.1)) : isName n = true := by
  obtain ⟨p, hp, rfl⟩ := List.mem_map.mp hn
  obtain ⟨h1, h2⟩ := h.deed p hp
  rw [h2]
  exact h1.name
theorem LeftOk.names {m : List (D × D)} (h : LeftOk m) : Names (m.map (·.1)) := fun n hn => h.key hn
theorem LeftOk.look {m : List (D × D)} (h : LeftOk m) {n : D} (hn : n ∈ m.map (·.1)) : ∃ d, dlook m n = some d ∧ DeedL d ∧ nm2 d = n ∧ (n, d) ∈ m := by
  obtain ⟨d, e, hm⟩ := look_key hn
  obtain ⟨h1, h2⟩ := h.deed _ hm
  exact ⟨d, e, h1, h2.symm, hm⟩
theorem mem_ddel {α : Type} {m : List (D × α)} {n : D} {p : D × α} (h : p ∈ ddel m n) : p ∈ m := by
  induction m with
  | nil => exact h
  | cons q r ih =>
    rw [ddel] at h
    split at h
    · exact List.mem_cons_of_mem _ h
    · rcases List.mem_cons.mp h with e | e
      · rw [e]
        exact List.mem_cons_self
      · exact List.mem_cons_of_mem _ (ih e)
theorem ddel_keys {α : Type} {m : List (D × α)} {n : D} (nd : (m.map (·.1)).Nodup) {x : D} : x ∈ (ddel m n).map (·.1) ↔ x ∈ m.map (·.1) ∧ x ≠ n := by
  induction m with
  | nil => simp [ddel]
  | cons q r ih =>
    rw [List.map_cons, List.nodup_cons] at nd
    rw [ddel]
    split
    · rename_i e
      constructor
      · exact fun z => ⟨List.mem_cons_of_mem _ z, fun w => nd.1 (by rw [e, ← w]; exact z)⟩
      · rintro ⟨z, w⟩
        rcases List.mem_cons.mp z with y | y
        · exact absurd (y.trans e) w
        · exact y
    · rename_i e
      rw [List.map_cons, List.map_cons, List.mem_cons, List.mem_cons, ih nd.2]
      constructor
      · rintro (z | ⟨z, w⟩)
        · exact ⟨.inl z, fun w => e (z ▸ w)⟩
        · exact ⟨.inr z, w⟩
      · rintro ⟨z | z, w⟩
        · exact .inl z
        · exact .inr ⟨z, w⟩
theorem ddel_nd {α : Type} {m : List (D × α)} {n : D} (nd : (m.map (·.1)).Nodup) : ((ddel m n).map (·.1)).Nodup := by
  induction m with
  | nil => simp [ddel]
  | cons q r ih =>
    rw [List.map_cons, List.nodup_cons] at nd
    rw [ddel]
    split
    · exact nd.2
    · rw [List.map_cons, List.nodup_cons]
      exact ⟨fun z => nd.1 ((ddel_keys nd.2).mp z).1, ih nd.2⟩
theorem ddel_len {α : Type} {m : List (D × α)} {n : D} (h : n ∈ m.map (·.1)) : (ddel m n).length + 1 = m.length := by
  induction m with
  | nil => cases h
  | cons q r ih =>
    rw [ddel]
    split
    · rfl
    · rename_i e
      rcases List.mem_cons.mp h with z | z
      · exact absurd z.symm e
      · simp only [List.length_cons]
        rw [ih z]
theorem LeftOk.del {m : List (D × D)} (h : LeftOk m) {n : D} : LeftOk (ddel m n) := ⟨fun p hp => h.deed p (mem_ddel hp), ddel_nd h.nd, by
  by_cases z : n ∈ m.map (·.1)
  · have := ddel_len z
    have := h.few
    omega
  · have e : ddel m n = m := by
      have key : ∀ m : List (D × D), n ∉ m.map (·.1) → ddel m n = m := fun m => by
        induction m with
        | nil => exact fun _ => rfl
        | cons q r ih =>
          intro z
          rw [ddel, if_neg (fun e => z (by rw [← e]; exact List.mem_cons_self)), ih fun w => z (List.mem_cons_of_mem _ w)]
      exact key m z
    rw [e]
    exact h.few⟩
theorem pred_key {d : D} (h : isName d = true) : keyOk (predOf d) = true := by
  obtain ⟨x, i, rfl⟩ := name_shape h
  unfold keyOk predOf
  simp [toKey, toKeys, NestedKey.depth, NestedKey.depthAll]
end Lw
/-! what `ordered` computes -/
namespace Lw
open L2 PySem PySem.Spec FH
/-- the loop's part of the store: left, made -/
def ordT (m : List (D × D)) (made : List D) : Store := [.dic (lf m), .lst (made.map .d)]
section
variable {S : Store} {m : List (D × D)} {made : List D} {t : Store}
theorem oL0 : (S ++ ordT m made ++ t)[S.length]? = some (.dic (lf m)) := by simp [ordT]
theorem oL1 : (S ++ ordT m made ++ t)[S.length + 1]? = some (.lst (made.map .d)) := by simp [ordT]
theorem oL0' : (S ++ ordT m made)[S.length]? = some (.dic (lf m)) := by simp [ordT]
theorem oL1' : (S ++ ordT m made)[S.length + 1]? = some (.lst (made.map .d)) := by simp [ordT]
end
/-- the lambda says met -/
def MetIs (mb : Ev) (cd : List D) (met : D → Bool) : Prop := ∀ (x : D) (S : Store), isName x = true → mb (some (.d x) :: cd.map fun d => some (.d d)) S = .ok (.d (.bool (met x))) S
theorem iter_data {e : Ev} {l : FH.Loc} {S : Store} {ds : List D} (h : e l S = .ok (.d (.list ds)) S) : evIter e l S = .ok (ds.map .d, .d (.list ds)) S := by
  simp [evIter, h, itemsOf, asDic, asL]
theorem iter_tup {e : Ev} {l : FH.Loc} {S : Store} {ds : List D} (h : e l S = .ok (.d (.tuple ds)) S) : evIter e l S = .ok (ds.map .d, .d (.tuple ds)) S := by
  simp [evIter, h, itemsOf]
theorem ev2_o {g : Op2} {a b : Ev} {l : FH.Loc} {S : Store} {x y z : Val} (h : a l S = .ok x S) (h2 : b l S = .ok y S) (hg : g x y S = some (z, S)) : ev2 g a b l S = .ok z S := ev2_v (r := (z, S)) h h2 hg
theorem evL_o {g : OpL} {m : FH.Loc → Store → Res (List Val)} {l : FH.Loc} {S : Store} {vs : List Val} {z : Val} (h : m l S = .ok vs S) (hg : g vs S = some (z, S)) : evL g m l S = .ok z S := evL_v (r := (z, S)) h hg
theorem ev_1 {a : Ev} {l : FH.Loc} {S : Store} {v : Val} (h : a l S = .ok v S) : evCons a evNil l S = .ok [v] S := evCons_v h rfl
theorem ev_2 {a b : Ev} {l : FH.Loc} {S : Store} {v u : Val} (h : a l S = .ok v S) (h2 : b l S = .ok u S) : evCons a (evCons b evNil) l S = .ok [v, u] S := evCons_v h (ev_1 h2)
theorem sort_dic {v : Val} {S : Store} {m : List (D × D)} (h : asDic v S = some (lf m)) (hl : asL v S = none) (hv : ∀ z, v ≠ .d (.tuple z)) (hn : Names (m.map (·.1))) (hz : m.length ≤ 100000) : sortedL [v] S = some (.d (.list (sortD (m.map (·.1)))), S) := by
  have e : itemsK v S = some (m.map (·.1)) := by
    unfold itemsK
    split
    · rename_i z
      exact absurd rfl (hv z)
    · rw [h]
      show some ((lf m).map (·.1)) = _
      rw [lf_keys]
  unfold sortedL
  simp only [hl, e]
  rw [if_pos ⟨hn.sort, by rw [List.length_map]; exact Nat.le_trans hz (by decide)⟩]
abbrev oLoc (L : List D) (lid : LamId) (cd : List D) (n : Nat) (x4 x5 x6 x7 : Option Val) : FH.Loc := [some (.d (.list L)), some (.lam lid cd), some (.ref n), some (.ref (n + 1)), x4, x5, x6, x7]
section
variable {S : Store} {m : List (D × D)} {made : List D} {lid : LamId} {mb : Ev} {cd : List D} {met : D → Bool} {L : List D} {x4 x5 x6 x7 : Option Val}
/-- is anything that it names still left? -/
theorem free_test (hm : MetIs mb cd met) (h : LeftOk m) {n : D} (hn : n ∈ m.map (·.1)) (t : Store) :
    cNot (evB (evL anyL (evCons (evLC false (evIter (ev2 ixV (ev2 ixV (evVar 2) (evVar 6)) (evC (.d (.int 2))))) (tgName 7) [7] (cYes) (evOr (ev2 (cmpV .In) (evVar 7) (evVar 2)) (evNot (evLam 1 lid mb (evVar 7))))) (evNil)))) (oLoc L lid cd S.length x4 x5 (some (.d n)) x7) (S ++ ordT m made ++ t) = .ok (freeOk met m n) (S ++ ordT m made ++ t) := by
  obtain ⟨d, e1, e2, e3, e4⟩ := h.look hn
  have hk : keyOk n = true := name_keyOk (h.key hn)
  have aD : ∀ t : Store, asDic (.ref S.length) (S ++ ordT m made ++ t) = some (lf m) := fun t => asDic_ref oL0
  have i1 : ev2 ixV (ev2 ixV (evVar 2) (evVar 6)) (evC (.d (.int 2))) (oLoc L lid cd S.length x4 x5 (some (.d n)) x7) (S ++ ordT m made ++ t) = .ok (.d (.tuple (afterOf d))) (S ++ ordT m made ++ t) :=
    ev2_o (ev2_o (x := .ref S.length) (y := .d n) rfl rfl (ix_dicv (aD t) hk (by rw [lf_look, e1]; rfl))) rfl (e2.ix2 _)
  have lc : evLC false (evIter (ev2 ixV (ev2 ixV (evVar 2) (evVar 6)) (evC (.d (.int 2))))) (tgName 7) [7] (cYes) (evOr (ev2 (cmpV .In) (evVar 7) (evVar 2)) (evNot (evLam 1 lid mb (evVar 7)))) (oLoc L lid cd S.length x4 x5 (some (.d n)) x7) (S ++ ordT m made ++ t) =
      .ok (.d (.list ((afterOf d).map fun one => .bool (hasK m one || !met one)))) (S ++ ordT m made ++ t) := by
    refine lc_map (iter_tup i1) (fun one => .bool (hasK m one || !met one)) (fun one ho => ⟨_, rfl, fun acc => ⟨rfl, ?_⟩⟩) (Nat.le_trans e2.few (by decide))
    have hno := e2.names one ho
    have a1 : asDic (.ref S.length) (lockS (.d (.tuple (afterOf d))) (S ++ ordT m made ++ t) ++ [.lst acc]) = some (lf m) := by
      rw [show lockS (.d (.tuple (afterOf d))) (S ++ ordT m made ++ t) = S ++ ordT m made ++ t from rfl, List.append_assoc]
      exact aD _
    have h2 : ∀ S' : Store, evNot (evLam 1 lid mb (evVar 7)) (oLoc L lid cd S.length x4 x5 (some (.d n)) (some (.d one))) S' = .ok (.d (.bool (!met one))) S' := fun S' => evNot_b (evLam_v (cd := cd) (v := .d one) rfl rfl (hm one _ hno))
    have h1 : ev2 (cmpV .In) (evVar 7) (evVar 2) (oLoc L lid cd S.length x4 x5 (some (.d n)) (some (.d one))) (lockS (.d (.tuple (afterOf d))) (S ++ ordT m made ++ t) ++ [.lst acc]) = .ok (.d (.bool (hasK m one))) (lockS (.d (.tuple (afterOf d))) (S ++ ordT m made ++ t) ++ [.lst acc]) := by
      refine ev2_o (x := .d one) (y := .ref S.length) rfl rfl ?_
      rw [in_dic a1 (by intro z; simp) (by intro z; simp) (name_keyOk hno), lf_look]
      unfold hasK
      cases dlook m one <;> rfl
    exact evOr_b h1 fun _ => h2 _
  have r := cNot_b (evB_b (p := ((afterOf d).map fun one => hasK m one || !met one).any id) (evL_o (ev_1 lc) (by rw [show (afterOf d).map (fun one => PyData.bool (hasK m one || !met one)) = ((afterOf d).map fun one => hasK m one || !met one).map .bool by simp [Function.comp_def]]; exact any_bools)))
  rw [r]
  unfold freeOk
  rw [e1]
  simp [List.any_map, Function.comp_def]
theorem free_lc (hm : MetIs mb cd met) (h : LeftOk m) :
    evLC false (evIter (evL sortedL (evCons (evVar 2) (evNil)))) (tgName 6) [6] (cNot (evB (evL anyL (evCons (evLC false (evIter (ev2 ixV (ev2 ixV (evVar 2) (evVar 6)) (evC (.d (.int 2))))) (tgName 7) [7] (cYes) (evOr (ev2 (cmpV .In) (evVar 7) (evVar 2)) (evNot (evLam 1 lid mb (evVar 7))))) (evNil))))) (evVar 6) (oLoc L lid cd S.length x4 x5 x6 x7) (S ++ ordT m made) = .ok (.d (.list ((sortD (m.map (·.1))).filter (freeOk met m)))) (S ++ ordT m made) := by
  have hs : evL sortedL (evCons (evVar 2) evNil) (oLoc L lid cd S.length x4 x5 x6 x7) (S ++ ordT m made) = .ok (.d (.list (sortD (m.map (·.1))))) (S ++ ordT m made) :=
    evL_o (ev_1 (v := .ref S.length) rfl) (sort_dic (asDic_ref oL0') (by simp [asL, oL0']) (by intro z; simp) h.names (Nat.le_trans h.few (by decide)))
  refine lc_filter (iter_data hs) (freeOk met m) (fun n hn => ?_) (by rw [(sortD_perm _).length_eq, List.length_map]; exact Nat.le_trans h.few (by decide))
  have hn' : n ∈ m.map (·.1) := mem_sortD.mp hn
  have T : ∀ acc : List Val, cNot (evB (evL anyL (evCons (evLC false (evIter (ev2 ixV (ev2 ixV (evVar 2) (evVar 6)) (evC (.d (.int 2))))) (tgName 7) [7] (cYes) (evOr (ev2 (cmpV .In) (evVar 7) (evVar 2)) (evNot (evLam 1 lid mb (evVar 7))))) (evNil)))) (oLoc L lid cd S.length x4 x5 (some (.d n)) x7) (lockS (.d (.list (sortD (m.map (·.1))))) (S ++ ordT m made) ++ [.lst acc]) = .ok (freeOk met m n) (lockS (.d (.list (sortD (m.map (·.1))))) (S ++ ordT m made) ++ [.lst acc]) := fun acc => free_test hm h hn' [.lst acc]
  cases e : freeOk met m n with
  | true =>
    rw [if_pos rfl]
    exact ⟨oLoc L lid cd S.length x4 x5 (some (.d n)) x7, rfl, fun acc => ⟨by rw [T acc, e], rfl⟩⟩
  | false =>
    rw [if_neg (by decide)]
    exact ⟨oLoc L lid cd S.length x4 x5 (some (.d n)) x7, rfl, fun acc => by rw [T acc, e]⟩
theorem free2_lc (h : LeftOk m) {fs : List D} (hf : ∀ n ∈ fs, isName n = true) (hz : fs.length ≤ 1000) :
    evLC false (evIter (evVar 4)) (tgName 6) [6] (evB (ev2 (cmpV .NotIn) (evTup (evCons (ev2 ixV (evVar 6) (evC (.d (.int 0)))) (evCons (ev2 subV (ev2 ixV (evVar 6) (evC (.d (.int 1)))) (evC (.d (.int 1)))) (evNil)))) (evVar 2))) (evVar 6) (oLoc L lid cd S.length (some (.d (.list fs))) x5 x6 x7) (S ++ ordT m made) = .ok (.d (.list (fs.filter fun n => !hasK m (predOf n)))) (S ++ ordT m made) := by
  refine lc_filter (iter_data rfl) (fun n => !hasK m (predOf n)) (fun n hn => ?_) (Nat.le_trans hz (by decide))
  obtain ⟨x, i, rfl⟩ := name_shape (hf n hn)
  have T : ∀ acc : List Val, evB (ev2 (cmpV .NotIn) (evTup (evCons (ev2 ixV (evVar 6) (evC (.d (.int 0)))) (evCons (ev2 subV (ev2 ixV (evVar 6) (evC (.d (.int 1)))) (evC (.d (.int 1)))) (evNil)))) (evVar 2)) (oLoc L lid cd S.length (some (.d (.list fs))) x5 (some (.d (.tuple [.str x, .int i]))) x7) (lockS (.d (.list fs)) (S ++ ordT m made) ++ [.lst acc]) = .ok (!hasK m (.tuple [.str x, .int (i - 1)])) (lockS (.d (.list fs)) (S ++ ordT m made) ++ [.lst acc]) := fun acc => by
    have e1 : evTup (evCons (ev2 ixV (evVar 6) (evC (.d (.int 0)))) (evCons (ev2 subV (ev2 ixV (evVar 6) (evC (.d (.int 1)))) (evC (.d (.int 1)))) (evNil))) (oLoc L lid cd S.length (some (.d (.list fs))) x5 (some (.d (.tuple [.str x, .int i]))) x7) (lockS (.d (.list fs)) (S ++ ordT m made) ++ [.lst acc]) = .ok (.d (.tuple [.str x, .int (i - 1)])) (lockS (.d (.list fs)) (S ++ ordT m made) ++ [.lst acc]) :=
      evL_o (vs := [PyData.str x, .int (i - 1)].map .d) (ev_2 (ev2_o (x := .d (.tuple [.str x, .int i])) rfl rfl ix_t0) (ev2_o (ev2_o (x := .d (.tuple [.str x, .int i])) rfl rfl ix_t1) rfl rfl)) (tup_data (sz100 (by show 2 ≤ 100; decide)))
    have a1 : asDic (.ref S.length) (lockS (.d (.list fs)) (S ++ ordT m made) ++ [.lst acc]) = some (lf m) := asDic_ref (oL0 (t := [.lst acc]))
    refine evB_b (ev2_o e1 (y := .ref S.length) rfl ?_)
    have hk : keyOk (.tuple [.str x, .int (i - 1)]) = true := pred_key (d := .tuple [.str x, .int i]) (hf _ hn)
    rw [notin_dic a1 (by intro z; simp) (by intro z; simp) hk, lf_look]
    unfold hasK
    cases dlook m (.tuple [.str x, .int (i - 1)]) <;> rfl
  have e0 : predOf (.tuple [.str x, .int i]) = .tuple [.str x, .int (i - 1)] := rfl
  rw [e0]
  cases e : hasK m (.tuple [.str x, .int (i - 1)]) with
  | false =>
    rw [if_pos (show (!false) = true from rfl)]
    exact ⟨oLoc L lid cd S.length (some (.d (.list fs))) x5 (some (.d (.tuple [.str x, .int i]))) x7, rfl, fun acc => ⟨by rw [T acc, e]; rfl, rfl⟩⟩
  | true =>
    rw [if_neg (show ¬ (!true) = true by decide)]
    exact ⟨oLoc L lid cd S.length (some (.d (.list fs))) x5 (some (.d (.tuple [.str x, .int i]))) x7, rfl, fun acc => by rw [T acc, e]; rfl⟩
theorem eq_nil0 {ds : List D} {e : Ev} {l : FH.Loc} {S : Store} (he : e l S = .ok (.d (.list ds)) S) (hs : SeqAt.shaped (.list ds) = true) : evB (ev2 (cmpV .Eq) e (evLst false evNil)) l S = .ok (decide (ds = [])) S := by
  refine evB_b (ev2_o he (lst_frz (ds := []) rfl (by decide)) ?_)
  have s2 : SeqAt.shaped (.list []) = true := by decide
  simp only [cmpV, cmpB, eqB, toP, hs, s2]
  cases ds with
  | nil => rfl
  | cons a b => rfl
theorem frees_sub {n : D} (hn : n ∈ frees met m) : n ∈ m.map (·.1) := by
  unfold frees at hn
  exact mem_sortD.mp (List.mem_filter.mp (List.mem_filter.mp hn).1).1
theorem frees_names (h : LeftOk m) : Names (frees met m) := fun n hn => h.key (frees_sub hn)
theorem names_shaped {ds : List D} (h : Names ds) : SeqAt.shaped (.list ds) = true := h.shaped
/-- one turn of the loop -/
theorem ord_turn (hm : MetIs mb cd met) (h : LeftOk m) (hz : made.length ≤ 1000) {res : List D} (hres : ordF met (m.length + 1) m made = res) :
    Goes ((sSeq (sSet (evLC false (evIter (evL sortedL (evCons (evVar 2) (evNil)))) (tgName 6) [6] (cNot (evB (evL anyL (evCons (evLC false (evIter (ev2 ixV (ev2 ixV (evVar 2) (evVar 6)) (evC (.d (.int 2))))) (tgName 7) [7] (cYes) (evOr (ev2 (cmpV .In) (evVar 7) (evVar 2)) (evNot (evLam 1 lid mb (evVar 7))))) (evNil))))) (evVar 6)) (tgName 4)) (sSeq (sSet (evLC false (evIter (evVar 4)) (tgName 6) [6] (evB (ev2 (cmpV .NotIn) (evTup (evCons (ev2 ixV (evVar 6) (evC (.d (.int 0)))) (evCons (ev2 subV (ev2 ixV (evVar 6) (evC (.d (.int 1)))) (evC (.d (.int 1)))) (evNil)))) (evVar 2))) (evVar 6)) (tgName 4)) (sSeq (sIf (evB (ev2 (cmpV .Eq) (evVar 4) (evLst false (evNil)))) (sRet (evVar 3)) (sNx)) (sDrop (evM "list" appM (evVar 3) (evCons (evM "dict" popD (evVar 2) (evCons (ev2 ixV (evVar 4) (evC (.d (.int 0)))) (evNil))) (evNil))))))) (oLoc L lid cd S.length x4 x5 x6 x7) (S ++ ordT m made))
      (fun l' S' => ∃ m' made' y4, l' = oLoc L lid cd S.length y4 x5 x6 x7 ∧ S' = S ++ ordT m' made' ∧ LeftOk m' ∧ m'.length + 1 = m.length ∧ made'.length = made.length + 1 ∧ ordF met (m'.length + 1) m' made' = res) (fun v S' => ∃ m', v = .ref (S.length + 1) ∧ S' = S ++ ordT m' res) := by
  refine gs_name (.of (free_lc hm h) ⟨rfl, rfl⟩ : Ends _ fun v S1 => v = _ ∧ S1 = _) (by simp) fun v S1 ⟨e1, e2⟩ => ?_
  subst e1 e2
  show Goes (sSeq _ _ (oLoc L lid cd S.length (some (.d (.list ((sortD (m.map (·.1))).filter (freeOk met m))))) x5 x6 x7) (S ++ ordT m made)) _ _
  refine gs_name (.of (free2_lc (x6 := x6) (x7 := x7) (x5 := x5) (lid := lid) (cd := cd) (L := L) (made := made) (S := S) h (fs := (sortD (m.map (·.1))).filter (freeOk met m)) (fun n hn => h.key (mem_sortD.mp (List.mem_filter.mp hn).1)) ?_) ⟨rfl, rfl⟩ : Ends _ fun v S1 => v = _ ∧ S1 = _) (by simp) fun v S1 ⟨e1, e2⟩ => ?_
  · refine Nat.le_trans (List.length_filter_le _ _) ?_
    rw [(sortD_perm _).length_eq, List.length_map]
    exact h.few
  subst e1 e2
  have fr : ((sortD (m.map (·.1))).filter (freeOk met m)).filter (fun n => !hasK m (predOf n)) = frees met m := rfl
  rw [fr]
  show Goes (sSeq (sIf (evB (ev2 (cmpV .Eq) (evVar 4) (evLst false (evNil)))) (sRet (evVar 3)) (sNx)) _ (oLoc L lid cd S.length (some (.d (.list (frees met m)))) x5 x6 x7) (S ++ ordT m made)) _ _
  refine gs_ret (eq_nil0 (ds := frees met m) rfl (names_shaped (frees_names h))) (fun hp => ?_) (fun hp => ?_)
  · have hp := of_decide_eq_true hp
    refine go_ret (P := fun v S' => v = .ref (S.length + 1) ∧ S' = S ++ ordT m made) (.ok ⟨rfl, rfl⟩) fun v S1 ⟨e1, e2⟩ => ⟨m, e1, ?_⟩
    rw [e2, ← hres, ordF, hp]
  · have hp := of_decide_eq_false hp
    cases hfr : frees met m with
    | nil => exact absurd hfr hp
    | cons n r =>
      have hn : n ∈ m.map (·.1) := frees_sub (met := met) (by rw [hfr]; exact List.mem_cons_self)
      obtain ⟨d, e1, e2, e3, e4⟩ := h.look hn
      have hk := name_keyOk (h.key hn)
      have ht : isTup n = true := by
        obtain ⟨x, i, rfl⟩ := name_shape (h.key hn)
        rfl
      have hlen := ddel_len hn
      have p1 : popD (.ref S.length) [.d n] (S ++ ordT m made) = some (.d d, S ++ ordT (ddel m n) made) := by
        unfold popD
        simp only [oL0', lf_look, e1, Option.map_some]
        rw [if_pos ⟨hk, ht⟩, lf_del]
        simp [ordT]
      have ix0 : ixV (.d (.list (n :: r))) (.d (.int 0)) (S ++ ordT m made) = some (.d n, S ++ ordT m made) := by
        have z : atI (Val.d n :: r.map Val.d) 0 = some (.d n) := atI_nat (k := 0) rfl
        simp [ixV, ixQ, asDic, ixI, asL, z]
      have p2 : evM "dict" popD (evVar 2) (evCons (ev2 ixV (evVar 4) (evC (.d (.int 0)))) (evNil)) (oLoc L lid cd S.length (some (.d (.list (n :: r)))) x5 x6 x7) (S ++ ordT m made) = .ok (.d d) (S ++ ordT (ddel m n) made) :=
        evM_v (v := .ref S.length) (vs := [.d n]) (S1 := S ++ ordT m made) (S2 := S ++ ordT m made) (r := (.d d, S ++ ordT (ddel m n) made)) rfl (kind_dic oL0') (ev_1 (ev2_o (x := .d (.list (n :: r))) rfl rfl ix0)) p1
      have p3 : evM "list" appM (evVar 3) (evCons (evM "dict" popD (evVar 2) (evCons (ev2 ixV (evVar 4) (evC (.d (.int 0)))) (evNil))) (evNil)) (oLoc L lid cd S.length (some (.d (.list (n :: r)))) x5 x6 x7) (S ++ ordT m made) = .ok (.d .none) (S ++ ordT (ddel m n) (made ++ [d])) := by
        refine evM_v (v := .ref (S.length + 1)) (vs := [.d d]) (S1 := S ++ ordT m made) (S2 := S ++ ordT (ddel m n) made) (r := (.d .none, S ++ ordT (ddel m n) (made ++ [d]))) rfl (kind_lst oL1') (evCons_v p2 rfl) ?_
        rw [app_v oL1' (by rw [List.length_map]; omega)]
        simp [ordT]
      refine go_drop (P := fun v S' => S' = S ++ ordT (ddel m n) (made ++ [d])) (.of p3 rfl) fun v S1 e => ⟨ddel m n, made ++ [d], _, rfl, e, h.del, hlen, by simp, ?_⟩
      have eq : ordF met (m.length + 1) m made = ordF met m.length (ddel m n) (made ++ [d]) := by
        conv => lhs; unfold ordF
        rw [hfr]
        simp only
        rw [e1]
        rfl
      rw [← hres, eq, hlen]
theorem fin_ord : finR false S (.ref (S.length + 1)) (S ++ ordT m made) = .ok (.d (.list made)) S := by
  have f : freezeV (.ref (S.length + 1)) (S ++ ordT m made) = some (.d (.list made), S ++ [.dic (lf m), .gone]) := by
    unfold freezeV
    simp only [oL1', allD_map]
    simp [ordT]
  unfold finR
  rw [if_neg (by decide)]
  simp only
  rw [if_pos (by omega), f]
  simp only
  rw [popO_self _ (show Val.cl S.length (.d (.list made)) from trivial)]
  rfl
end
theorem putAllD_len : ∀ (ps m : List (D × D)), (putAllD m ps).length ≤ m.length + ps.length
  | [], m => by simp [putAllD]
  | p :: r, m => by
    have h1 := putAllD_len r (dput m p.1 p.2)
    have h2 := dput_lenD (m := m) (k := p.1) (v := p.2)
    show (putAllD (dput m p.1 p.2) r).length ≤ _
    simp only [List.length_cons]
    omega
theorem mem_dput0 {m : List (D × D)} {k v : D} {p : D × D} (h : p ∈ dput m k v) : p ∈ m ∨ p = (k, v) := by
  induction m with
  | nil => exact .inr (by simpa [dput] using h)
  | cons q r ih =>
    rw [dput] at h
    split at h
    · rename_i e
      rcases List.mem_cons.mp h with z | z
      · rw [e] at z
        exact .inr z
      · exact .inl (List.mem_cons_of_mem _ z)
    · rcases List.mem_cons.mp h with z | z
      · exact .inl (by rw [z]; exact List.mem_cons_self)
      · exact (ih z).imp (List.mem_cons_of_mem _) id
theorem dput_mem {m : List (D × D)} {k v x : D} : x ∈ (dput m k v).map (·.1) ↔ x ∈ m.map (·.1) ∨ x = k := by
  induction m with
  | nil => simp [dput]
  | cons q r ih =>
    rw [dput]
    split
    · rename_i e
      simp only [List.map_cons, List.mem_cons]
      constructor
      · rintro (z | z)
        · exact .inl (.inl z)
        · exact .inl (.inr z)
      · rintro ((z | z) | z)
        · exact .inl z
        · exact .inr z
        · exact .inl (z.trans e.symm)
    · simp only [List.map_cons, List.mem_cons, ih]
      constructor
      · rintro (z | z | z)
        · exact .inl (.inl z)
        · exact .inl (.inr z)
        · exact .inr z
      · rintro ((z | z) | z)
        · exact .inl z
        · exact .inr (.inl z)
        · exact .inr (.inr z)
theorem dput_nd {m : List (D × D)} {k v : D} (nd : (m.map (·.1)).Nodup) : ((dput m k v).map (·.1)).Nodup := by
  induction m with
  | nil => simp [dput]
  | cons q r ih =>
    rw [List.map_cons, List.nodup_cons] at nd
    rw [dput]
    split
    · rw [List.map_cons, List.nodup_cons]
      exact nd
    · rename_i e
      rw [List.map_cons, List.nodup_cons]
      exact ⟨fun z => (dput_mem.mp z).elim nd.1 e, ih nd.2⟩
theorem putAllD_mem : ∀ {ps m : List (D × D)} {p : D × D}, p ∈ putAllD m ps → p ∈ m ∨ p ∈ ps
  | [], m, p, h => .inl h
  | q :: r, m, p, h => by
    rcases putAllD_mem (ps := r) (m := dput m q.1 q.2) h with z | z
    · exact (mem_dput0 z).imp id fun e => by rw [e]; exact List.mem_cons_self
    · exact .inr (List.mem_cons_of_mem _ z)
theorem putAllD_nd : ∀ {ps m : List (D × D)}, (m.map (·.1)).Nodup → ((putAllD m ps).map (·.1)).Nodup
  | [], m, h => h
  | q :: r, m, h => putAllD_nd (ps := r) (dput_nd h)
theorem putAllD_keys : ∀ {ps m : List (D × D)} {x : D}, x ∈ (putAllD m ps).map (·.1) ↔ x ∈ m.map (·.1) ∨ x ∈ ps.map (·.1)
  | [], m, x => by simp [putAllD]
  | q :: r, m, x => by
    have ih := putAllD_keys (ps := r) (m := dput m q.1 q.2) (x := x)
    show x ∈ (putAllD (dput m q.1 q.2) r).map (·.1) ↔ _
    rw [ih, dput_mem, List.map_cons, List.mem_cons]
    constructor
    · rintro ((z | z) | z)
      · exact .inl z
      · exact .inr (.inl z)
      · exact .inr (.inr z)
    · rintro (z | z | z)
      · exact .inl (.inl z)
      · exact .inl (.inr z)
      · exact .inr z
theorem leftOk {L : List D} (h : ∀ d ∈ L, DeedL d) (hz : L.length ≤ 1000) : LeftOk (leftOf L) := by
  refine ⟨fun p hp => ?_, putAllD_nd List.nodup_nil, ?_⟩
  · rcases putAllD_mem hp with z | z
    · cases z
    · obtain ⟨d, hd, rfl⟩ := List.mem_map.mp z
      exact ⟨h d hd, rfl⟩
  · have := putAllD_len (L.map fun d => (nm2 d, d)) []
    rw [List.length_map] at this
    simpa [leftOf] using Nat.le_trans this (by simpa using hz)
theorem filterMap_some {α β : Type} (f : α → β) (l : List α) : l.filterMap (fun x => some (f x)) = l.map f := by
  induction l with
  | nil => rfl
  | cons a l ih => simp
/-- how long the rest can be -/
theorem ordF_fuel (met : D → Bool) : ∀ (k : Nat) (m : List (D × D)) (made : List D), m.length + 1 ≤ k → ordF met k m made = ordF met (m.length + 1) m made
  | 0, m, made, h => by omega
  | k + 1, m, made, h => by
    rw [ordF, ordF]
    cases hf : frees met m with
    | nil => rfl
    | cons n r =>
      simp only
      have hn : n ∈ m.map (·.1) := frees_sub (met := met) (by rw [hf]; exact List.mem_cons_self)
      have hl := ddel_len hn
      rw [ordF_fuel met k (ddel m n) _ (by omega), ← hl]
/-- what a call of `ordered` gives -/
theorem ord_eval {lid : LamId} {mb : Ev} {cd : List D} {met : D → Bool} {L : List D} {S : Store} (hm : MetIs mb cd met) (h : ∀ d ∈ L, DeedL d) (hz : L.length ≤ 500) : fnB false 8 (b_ordered lid mb) [.d (.list L), .lam lid cd] S = .ok (.d (.list (ordL met L))) S := by
  have lo := leftOk h (by omega)
  have ll : (leftOf L).length ≤ L.length := by
    have := putAllD_len (L.map fun d => (nm2 d, d)) []
    rw [List.length_map] at this
    simpa [leftOf] using this
  refine ends_eq (en_fn (N := fun _ _ => False) (R := fun v S' => ∃ m', v = .ref (S.length + 1) ∧ S' = S ++ ordT m' (ordL met L)) ?_ (fun _ _ z => z.elim) fun v S' ⟨m', e1, e2⟩ => ?_)
  · show Goes (b_ordered lid mb [some (.d (.list L)), some (.lam lid cd), none, none, none, none, none, none] S) _ _
    unfold b_ordered
    have d1 : evDC true (evIter (evVar 0)) (tgName 5) [5] (cYes) (evSl (evVar 5) none (some (evC (.d (.int 2))))) (evVar 5) [some (.d (.list L)), some (.lam lid cd), none, none, none, none, none, none] S = .ok (.ref S.length) (S ++ [.dic (lf (leftOf L))]) := by
      have := dc_own (t := tgName 5) (vs := [5]) (c := cYes) (k := evSl (evVar 5) none (some (evC (.d (.int 2))))) (e := evVar 5) (l := [some (.d (.list L)), some (.lam lid cd), none, none, none, none, none, none]) (S := S) (f := fun d => some (nm2 d, d)) (iter_data (e := evVar 0) (ds := L) rfl) (fun d hd => ⟨[some (.d (.list L)), some (.lam lid cd), none, none, none, some (.d d), none, none], rfl, name_keyOk (h d hd).name, fun acc => ⟨rfl, by simp [evSl, evPart, (h d hd).sl2], rfl⟩⟩) (by omega)
      rw [this, filterMap_some]
      rfl
    refine gs_name (P := fun v S1 => v = .ref S.length ∧ S1 = S ++ [.dic (lf (leftOf L))]) (.of d1 ⟨rfl, rfl⟩) (by simp) fun v S1 ⟨e1, e2⟩ => ?_
    subst e1 e2
    refine gs_name (P := fun v S1 => v = .ref (S.length + 1) ∧ S1 = S ++ ordT (leftOf L) []) (.of (lst_own (vs := []) rfl (by decide)) ⟨by simp, by simp [ordT]⟩) (by simp) fun v S1 ⟨e1, e2⟩ => ?_
    subst e1 e2
    refine go_wh (fun k l' S' => ∃ m' made' y4, l' = oLoc L lid cd S.length y4 none none none ∧ S' = S ++ ordT m' made' ∧ LeftOk m' ∧ m'.length = k ∧ made'.length + m'.length ≤ L.length ∧ ordF met (m'.length + 1) m' made' = ordL met L) (fun k l' S' ⟨m', made', y4, e1, e2, e3, e4, e5, e6⟩ => ⟨true, rfl, fun _ => ?_, fun z => by cases z⟩) (m := (leftOf L).length) ⟨leftOf L, [], none, rfl, rfl, lo, rfl, by simpa using ll, ?_⟩ (by omega)
    · subst e1 e2
      refine Goes.mono (ord_turn hm e3 (by omega) e6) fun l'' S'' ⟨m2, made2, z4, g1, g2, g3, g4, g5, g6⟩ => ⟨m2.length, by omega, m2, made2, z4, g1, g2, g3, rfl, by omega, g6⟩
    · unfold ordL
      rw [ordF_fuel met (L.length + 1) _ _ (by omega)]
  · subst e1 e2
    exact .of fin_ord ⟨rfl, rfl⟩
end Lw
/-! deeds in order: the plain law -/
namespace Lw
open L2 PySem PySem.Spec FH
/-- a run of the loop: what is put out, what is left -/
inductive Run (met : D → Bool) : List (D × D) → List D → List (D × D) → Prop
  | done {m : List (D × D)} : frees met m = [] → Run met m [] m
  | step {m left : List (D × D)} {n d : D} {rest : List D} : n ∈ frees met m → dlook m n = some d → Run met (ddel m n) rest left → Run met m (d :: rest) left
theorem ordF_run {met : D → Bool} : ∀ (k : Nat) (m : List (D × D)) (made : List D), LeftOk m → m.length + 1 ≤ k → ∃ rest left, ordF met k m made = made ++ rest ∧ Run met m rest left
  | 0, m, made, _, h => by omega
  | k + 1, m, made, ok, h => by
    rw [ordF]
    cases hf : frees met m with
    | nil => exact ⟨[], m, by simp, .done hf⟩
    | cons n r =>
      simp only
      have hn' : n ∈ frees met m := by rw [hf]; exact List.mem_cons_self
      have hn : n ∈ m.map (·.1) := frees_sub hn'
      obtain ⟨d, e1, e2, e3, e4⟩ := ok.look hn
      have hl := ddel_len hn
      obtain ⟨rest, left, g1, g2⟩ := ordF_run (met := met) k (ddel m n) (made ++ [(dlook m n).getD .none]) ok.del (by omega)
      refine ⟨d :: rest, left, ?_, .step hn' e1 g2⟩
      rw [g1, e1]
      simp
theorem Run.ok {met : D → Bool} {m left : List (D × D)} {rest : List D} (r : Run met m rest left) (h : LeftOk m) : LeftOk left := by
  induction r with
  | done _ => exact h
  | step _ _ _ ih => exact ih h.del
theorem Run.empty {met : D → Bool} {m left : List (D × D)} {rest : List D} (r : Run met m rest left) : frees met left = [] := by
  induction r with
  | done h => exact h
  | step _ _ _ ih => exact ih
theorem ddel_perm {m : List (D × D)} {n d : D} (h : dlook m n = some d) : ((n, d) :: ddel m n).Perm m := by
  induction m with
  | nil => cases h
  | cons q r ih =>
    rw [dlook] at h
    rw [ddel]
    split at h
    · rename_i e
      rw [if_pos e]
      cases h
      rw [← e]
    · rename_i e
      rw [if_neg e]
      exact (List.Perm.swap _ _ _).trans ((ih h).cons _)
theorem Run.perm {met : D → Bool} {m left : List (D × D)} {rest : List D} (r : Run met m rest left) (h : LeftOk m) : ((rest.map fun d => (nm2 d, d)) ++ left).Perm m := by
  induction r with
  | done _ => exact List.Perm.refl _
  | @step m left n d rest hn hd _ ih =>
    obtain ⟨d', e1, e2, e3, e4⟩ := h.look (frees_sub hn)
    rw [hd] at e1
    cases e1
    rw [List.map_cons, e3, List.cons_append]
    exact ((ih h.del).cons _).trans (ddel_perm hd)
/-- what is free names nothing that is left -/
theorem freeOk_after {met : D → Bool} {m : List (D × D)} {n d : D} (hn : n ∈ frees met m) (hd : dlook m n = some d) : (∀ x ∈ afterOf d, met x = true ∧ x ∉ m.map (·.1)) ∧ predOf n ∉ m.map (·.1) := by
  unfold frees at hn
  obtain ⟨h1, h2⟩ := List.mem_filter.mp hn
  obtain ⟨_, h1⟩ := List.mem_filter.mp h1
  refine ⟨fun x hx => ?_, ?_⟩
  · unfold freeOk at h1
    rw [hd] at h1
    simp only [Option.getD_some, Bool.not_eq_true', List.any_eq_false] at h1
    have z := h1 x hx
    simp only [Bool.or_eq_true, Bool.not_eq_true', not_or, Bool.not_eq_true, Bool.not_eq_false] at z
    exact ⟨z.2, hasK_not.mp z.1⟩
  · exact hasK_not.mp (by simpa using h2)
theorem Run.met {met : D → Bool} {m left : List (D × D)} {rest : List D} (r : Run met m rest left) : ∀ d ∈ rest, ∀ x ∈ afterOf d, met x = true := by
  induction r with
  | done _ => exact fun d h => by cases h
  | step hn hd _ ih =>
    intro d h x hx
    rcases List.mem_cons.mp h with e | e
    · rw [e] at hx
      exact ((freeOk_after hn hd).1 x hx).1
    · exact ih d e x hx
/-- each behind what it names -/
theorem Run.topo {met : D → Bool} {m left : List (D × D)} {rest : List D} (r : Run met m rest left) (h : LeftOk m) : ∀ a d b, rest = a ++ d :: b → (∀ x ∈ afterOf d, x ∈ m.map (·.1) → x ∈ a.map nm2) ∧ (predOf (nm2 d) ∈ m.map (·.1) → predOf (nm2 d) ∈ a.map nm2) := by
  induction r with
  | done _ => exact fun a d b e => by simp at e
  | @step m left n d0 rest hn hd _ ih =>
    intro a d b e
    obtain ⟨d', e1, e2, e3, e4⟩ := h.look (frees_sub hn)
    rw [hd] at e1
    cases e1
    obtain ⟨f1, f2⟩ := freeOk_after hn hd
    cases a with
    | nil =>
      cases e
      rw [e3]
      exact ⟨fun x hx z => absurd z (f1 x hx).2, fun z => absurd z f2⟩
    | cons a0 a =>
      cases e
      obtain ⟨g1, g2⟩ := ih h.del a d b rfl
      refine ⟨fun x hx z => ?_, fun z => ?_⟩
      · rw [List.map_cons, List.mem_cons]
        by_cases q : x = n
        · exact .inl (q.trans e3.symm)
        · exact .inr (g1 x hx ((ddel_keys h.nd).mpr ⟨z, q⟩))
      · rw [List.map_cons, List.mem_cons]
        by_cases q : predOf (nm2 d) = n
        · exact .inl (q.trans e3.symm)
        · exact .inr (g2 ((ddel_keys h.nd).mpr ⟨z, q⟩))
/-- deeds with their pasts: P n, the names in the past of n -/
structure Sys (L : List D) (P : D → List D) : Prop where
  deed : ∀ d ∈ L, DeedL d
  nd : (L.map nm2).Nodup
  few : L.length ≤ 500
  closed : ∀ d ∈ L, ∀ x ∈ P (nm2 d), x ∈ L.map nm2
  irr : ∀ d ∈ L, nm2 d ∉ P (nm2 d)
  trans : ∀ d ∈ L, ∀ x ∈ P (nm2 d), ∀ y ∈ P x, y ∈ P (nm2 d)
  after : ∀ d ∈ L, ∀ x, x ∈ P (nm2 d) ↔ (x ∈ afterOf d ∨ ∃ z ∈ afterOf d, x ∈ P z)
  pred : ∀ d ∈ L, ∀ m j, nm2 d = nm m j → 1 < j → nm m (j - 1) ∈ P (nm2 d)
  pnd : ∀ d ∈ L, (P (nm2 d)).Nodup
theorem Sys.perm {L L' : List D} {P : D → List D} (h : Sys L P) (p : L'.Perm L) : Sys L' P := by
  have hm : ∀ d, d ∈ L' → d ∈ L := fun d => p.mem_iff.mp
  have hn : ∀ x, x ∈ L.map nm2 → x ∈ L'.map nm2 := fun x => (p.map nm2).mem_iff.mpr
  exact ⟨fun d hd => h.deed d (hm d hd), ((p.map nm2).nodup_iff).mpr h.nd, by rw [p.length_eq]; exact h.few, fun d hd x hx => hn x (h.closed d (hm d hd) x hx), fun d hd => h.irr d (hm d hd), fun d hd => h.trans d (hm d hd), fun d hd => h.after d (hm d hd), fun d hd => h.pred d (hm d hd), fun d hd => h.pnd d (hm d hd)⟩
theorem mem_nm2 {L : List D} {x : D} (h : x ∈ L.map nm2) : ∃ d ∈ L, nm2 d = x := List.mem_map.mp h
/-- the past of what is past is smaller -/
theorem Sys.less {L : List D} {P : D → List D} (h : Sys L P) {d : D} (hd : d ∈ L) {x : D} (hx : x ∈ P (nm2 d)) : (P x).length < (P (nm2 d)).length := by
  obtain ⟨e, he, rfl⟩ := mem_nm2 (h.closed d hd x hx)
  have h1 : (nm2 e :: P (nm2 e)).Nodup := List.nodup_cons.mpr ⟨h.irr e he, h.pnd e he⟩
  have h2 := nodup_le h1 fun y hy => by
    rcases List.mem_cons.mp hy with z | z
    · rw [z]
      exact hx
    · exact h.trans d hd _ hx y z
  simp only [List.length_cons] at h2
  omega
theorem putAllD_fresh : ∀ {ps m : List (D × D)}, ((m ++ ps).map (·.1)).Nodup → putAllD m ps = m ++ ps
  | [], m, _ => by simp [putAllD]
  | p :: r, m, h => by
    have hn : p.1 ∉ m.map (·.1) := fun z => by
      rw [List.map_append, List.map_cons, List.nodup_append] at h
      exact h.2.2 _ z _ List.mem_cons_self rfl
    show putAllD (dput m p.1 p.2) r = _
    rw [dput_new hn, putAllD_fresh (by simpa using h)]
    simp
theorem left_eq {L : List D} (nd : (L.map nm2).Nodup) : leftOf L = L.map fun d => (nm2 d, d) := by
  unfold leftOf
  rw [putAllD_fresh (by simpa [Function.comp_def] using nd)]
  rfl
/-- all are put out -/
theorem ord_all {L : List D} {P : D → List D} {met : D → Bool} (h : Sys L P) (hm : ∀ x ∈ L.map nm2, met x = true) :
    (ordL met L).Perm L ∧ ∀ a d b, ordL met L = a ++ d :: b → ∀ x ∈ P (nm2 d), x ∈ a.map nm2 := by
  have lo : LeftOk (leftOf L) := leftOk h.deed (by have := h.few; omega)
  have el := left_eq h.nd
  have ek : (leftOf L).map (·.1) = L.map nm2 := by rw [el]; simp [Function.comp_def]
  obtain ⟨rest, left, e, r⟩ := ordF_run (met := met) (L.length + 1) (leftOf L) [] lo (by rw [el]; simp)
  have e' : ordL met L = rest := by
    unfold ordL
    rw [e]
    rfl
  have lok := r.ok lo
  have pm := r.perm lo
  have hleft : left = [] := by
    cases hl : left with
    | nil => rfl
    | cons p0 ps =>
      exfalso
      -- one of least past
      have key : ∀ (k : Nat) (n : D), n ∈ left.map (·.1) → (P n).length ≤ k → False := by
        intro k
        induction k with
        | zero =>
          intro n hn hk
          have hemp := r.empty
          obtain ⟨d, d1, d2, d3, d4⟩ := lok.look hn
          have hdL : d ∈ L := by
            have z : (n, d) ∈ leftOf L := pm.mem_iff.mp (List.mem_append_right _ d4)
            rw [el] at z
            obtain ⟨d', z1, z2⟩ := List.mem_map.mp z
            have z3 : d' = d := congrArg Prod.snd z2
            rw [← z3]
            exact z1
          have noP : ∀ x, x ∉ P (nm2 d) := fun x hx => by
            rw [d3] at hx
            have : (P n).length = 0 := by omega
            rw [List.length_eq_zero_iff.mp this] at hx
            cases hx
          have hfree : n ∈ frees met left := by
            unfold frees
            refine List.mem_filter.mpr ⟨List.mem_filter.mpr ⟨mem_sortD.mpr hn, ?_⟩, ?_⟩
            · unfold freeOk
              rw [d1]
              simp only [Option.getD_some, Bool.not_eq_true', List.any_eq_false]
              intro x hx
              exact absurd ((h.after d hdL x).mpr (.inl hx)) (noP x)
            · rw [Bool.not_eq_true', hasK_not]
              intro z
              obtain ⟨m0, j0, q1, q2⟩ := d2.nm2
              rw [d3] at q1
              rw [q1] at z
              have zn := lok.key z
              have hj : 1 ≤ j0 - 1 := by
                have := zn
                simp only [predOf, isName, isWhole, Bool.and_eq_true, decide_eq_true_eq] at this
                omega
              exact noP _ (h.pred d hdL m0 j0 (d3.trans q1) (by omega))
          rw [hemp] at hfree
          cases hfree
        | succ k ih =>
          intro n hn hk
          have hemp := r.empty
          obtain ⟨d, d1, d2, d3, d4⟩ := lok.look hn
          have hdL : d ∈ L := by
            have z : (n, d) ∈ leftOf L := pm.mem_iff.mp (List.mem_append_right _ d4)
            rw [el] at z
            obtain ⟨d', z1, z2⟩ := List.mem_map.mp z
            have z3 : d' = d := congrArg Prod.snd z2
            rw [← z3]
            exact z1
          have noP : ∀ x, x ∈ P (nm2 d) → x ∉ left.map (·.1) := fun x hx z => by
            have := h.less hdL hx
            rw [d3] at this
            exact ih x z (by omega)
          have hfree : n ∈ frees met left := by
            unfold frees
            refine List.mem_filter.mpr ⟨List.mem_filter.mpr ⟨mem_sortD.mpr hn, ?_⟩, ?_⟩
            · unfold freeOk
              rw [d1]
              simp only [Option.getD_some, Bool.not_eq_true', List.any_eq_false]
              intro x hx
              have hp := (h.after d hdL x).mpr (.inl hx)
              simp only [Bool.or_eq_true, Bool.not_eq_true', not_or, Bool.not_eq_true, Bool.not_eq_false]
              exact ⟨hasK_not.mpr (noP x hp), hm x (h.closed d hdL x hp)⟩
            · rw [Bool.not_eq_true', hasK_not]
              intro z
              obtain ⟨m0, j0, q1, q2⟩ := d2.nm2
              rw [d3] at q1
              rw [q1] at z
              have zn := lok.key z
              have hj : 1 ≤ j0 - 1 := by
                have := zn
                simp only [predOf, isName, isWhole, Bool.and_eq_true, decide_eq_true_eq] at this
                omega
              exact noP _ (h.pred d hdL m0 j0 (d3.trans q1) (by omega)) z
          rw [hemp] at hfree
          cases hfree
      exact key _ p0.1 (by rw [hl]; exact List.mem_cons_self) (Nat.le_refl _)
  have pL : rest.Perm L := by
    rw [hleft, List.append_nil, el] at pm
    have := pm.map (·.2)
    simpa [Function.comp_def] using this
  rw [e']
  refine ⟨pL, ?_⟩
  have top := r.topo lo
  rw [ek] at top
  intro a
  generalize hlen : a.length = k
  induction k using Nat.strongRecOn generalizing a with
  | _ k ih =>
    intro d b hab x hx
    have hdL : d ∈ L := pL.mem_iff.mp (by rw [hab]; simp)
    rcases (h.after d hdL x).mp hx with z | ⟨z, z1, z2⟩
    · exact (top a d b hab).1 x z (h.closed d hdL x hx)
    · have hzP := (h.after d hdL z).mpr (.inl z1)
      have hz := (top a d b hab).1 z z1 (h.closed d hdL z hzP)
      obtain ⟨dz, q1, q2⟩ := mem_nm2 hz
      obtain ⟨a1, a2, rfl⟩ := List.append_of_mem q1
      have := ih a1.length (by rw [← hlen]; simp) a1 rfl dz (a2 ++ d :: b) (by rw [hab]; simp) x (by rw [q2]; exact z2)
      rw [List.map_append]
      exact List.mem_append_left _ this
/-- what names one that is not met, is not put out -/
theorem ord_short {L : List D} {met : D → Bool} (hd : ∀ d ∈ L, DeedL d) (nd : (L.map nm2).Nodup) (hz : L.length ≤ 500) {y x : D} (hy : y ∈ L) (hx : x ∈ afterOf y) (hm : met x = false) : (ordL met L).length < L.length := by
  have lo : LeftOk (leftOf L) := leftOk hd (by omega)
  have el := left_eq nd
  obtain ⟨rest, left, e, r⟩ := ordF_run (met := met) (L.length + 1) (leftOf L) [] lo (by rw [el]; simp)
  have e' : ordL met L = rest := by
    unfold ordL
    rw [e]
    rfl
  rw [e']
  have pm := r.perm lo
  have hlen := pm.length_eq
  rw [el, List.length_append, List.length_map, List.length_map] at hlen
  have hy2 : (nm2 y, y) ∈ (rest.map fun d => (nm2 d, d)) ++ left := pm.mem_iff.mpr (by rw [el]; exact List.mem_map.mpr ⟨y, hy, rfl⟩)
  rcases List.mem_append.mp hy2 with z | z
  · obtain ⟨y', z1, z2⟩ := List.mem_map.mp z
    have z3 : y' = y := congrArg Prod.snd z2
    rw [z3] at z1
    have := r.met y z1 x hx
    rw [hm] at this
    cases this
  · have : 0 < left.length := List.length_pos_of_mem z
    omega
end Lw
/-! what `pasts_of` computes -/
namespace Lw
open L2 PySem PySem.Spec FH
open Classical in
noncomputable def kput (ks : List D) (x : D) : List D := if x ∈ ks then ks else ks ++ [x]
def kT (ks : List D) : List (D × D) := ks.map fun x => (x, .bool true)
def dictT (ks : List D) : D := .dict (kT ks)
theorem kT_keys (ks : List D) : (kT ks).map (·.1) = ks := by simp [kT, Function.comp_def]
theorem kT_put (ks : List D) (x : D) : dput (kT ks) x (.bool true) = kT (kput ks x) := by
  unfold kput
  by_cases h : x ∈ ks
  · rw [if_pos h]
    induction ks with
    | nil => cases h
    | cons y ks ih =>
      show dput ((y, PyData.bool true) :: kT ks) x (.bool true) = (y, .bool true) :: kT ks
      rw [dput]
      by_cases e : y = x
      · rw [if_pos e]
      · rw [if_neg e, ih ((List.mem_cons.mp h).resolve_left fun z => e z.symm)]
  · rw [if_neg h, dput_new (by rw [kT_keys]; exact h)]
    simp [kT]
theorem kT_putAll (more : List D) : ∀ ks : List D, dputAll (lf (kT ks)) (lf (kT more)) = lf (kT (more.foldl kput ks)) := by
  induction more with
  | nil => exact fun ks => rfl
  | cons x r ih =>
    intro ks
    show dputAll (dput (lf (kT ks)) x (.d (.bool true))) (lf (kT r)) = _
    rw [lf_put, kT_put, ih]
    rfl
theorem mem_kput {ks : List D} {x y : D} : y ∈ kput ks x ↔ y ∈ ks ∨ y = x := by
  unfold kput
  by_cases h : x ∈ ks
  · rw [if_pos h]
    exact ⟨.inl, fun z => z.elim id fun e => e ▸ h⟩
  · rw [if_neg h]
    simp
theorem kput_nd {ks : List D} {x : D} (h : ks.Nodup) : (kput ks x).Nodup := by
  unfold kput
  by_cases hx : x ∈ ks
  · rw [if_pos hx]
    exact h
  · rw [if_neg hx, List.nodup_append]
    exact ⟨h, by simp, fun a ha b hb => by
      have : b = x := by simpa using hb
      rw [this]
      exact fun e => hx (e ▸ ha)⟩
theorem kput_ne {ks : List D} {x : D} : kput ks x ≠ [] := fun z => by
  have := mem_kput (ks := ks) (x := x) (y := x)
  rw [z] at this
  simpa using this
theorem mem_kputs : ∀ {more ks : List D} {y : D}, y ∈ more.foldl kput ks ↔ y ∈ ks ∨ y ∈ more
  | [], ks, y => by simp
  | x :: r, ks, y => by
    rw [List.foldl_cons, mem_kputs (more := r), mem_kput, List.mem_cons]
    constructor
    · rintro ((z | z) | z)
      · exact .inl z
      · exact .inr (.inl z)
      · exact .inr (.inr z)
    · rintro (z | z | z)
      · exact .inl (.inl z)
      · exact .inl (.inr z)
      · exact .inr z
theorem kputs_nd : ∀ {more ks : List D}, ks.Nodup → (more.foldl kput ks).Nodup
  | [], _, h => h
  | _ :: r, _, h => kputs_nd (more := r) (kput_nd h)
noncomputable def addPast (made : List (D × List D)) (ns : List D) (one : D) : List D := ((dlook made one).getD []).foldl kput (kput ns one)
noncomputable def pastStep (made : List (D × List D)) (d : D) : List (D × List D) := dput made (nm2 d) ((afterOf d).foldl (addPast made) [])
noncomputable def pastsF (row : List D) : List (D × List D) := row.foldl pastStep []
def pE (made : List (D × List D)) : List (D × Val) := made.map fun p => (p.1, .d (dictT p.2))
def pD (made : List (D × List D)) : List (D × D) := made.map fun p => (p.1, dictT p.2)
theorem pE_lf (made : List (D × List D)) : pE made = lf (pD made) := by simp [pE, lf, pD]
theorem pE_put (k : D) (v : List D) : ∀ made : List (D × List D), dput (pE made) k (.d (dictT v)) = pE (dput made k v)
  | [] => rfl
  | p :: r => by
    show dput ((p.1, Val.d (dictT p.2)) :: pE r) k _ = pE (dput (p :: r) k v)
    rw [dput, dput]
    by_cases h : p.1 = k
    · rw [if_pos h, if_pos h]
      rfl
    · rw [if_neg h, if_neg h, pE_put k v r]
      rfl
theorem pE_look (k : D) : ∀ made : List (D × List D), dlook (pE made) k = (dlook made k).map fun v => .d (dictT v)
  | [] => rfl
  | p :: r => by
    show dlook ((p.1, Val.d (dictT p.2)) :: pE r) k = (dlook (p :: r) k).map _
    rw [dlook, dlook]
    by_cases h : p.1 = k
    · rw [if_pos h, if_pos h]
      rfl
    · rw [if_neg h, if_neg h, pE_look k r]
theorem pD_look (k : D) (made : List (D × List D)) : dlook (pD made) k = (dlook made k).map dictT := by
  induction made with
  | nil => rfl
  | cons p r ih =>
    show dlook ((p.1, dictT p.2) :: pD r) k = (dlook (p :: r) k).map _
    rw [dlook, dlook]
    by_cases h : p.1 = k
    · rw [if_pos h, if_pos h]
      rfl
    · rw [if_neg h, if_neg h, ih]
/-- what is kept of pasts: few names -/
def PastOk (U : List D) (made : List (D × List D)) : Prop := ∀ p ∈ made, p.2.Nodup ∧ ∀ x ∈ p.2, x ∈ U
theorem look_ok {U : List D} {made : List (D × List D)} (h : PastOk U made) (k : D) : ((dlook made k).getD []).Nodup ∧ ∀ x ∈ (dlook made k).getD [], x ∈ U := by
  cases e : dlook made k with
  | none => exact ⟨List.nodup_nil, fun x hx => by cases hx⟩
  | some v =>
    obtain ⟨j, hj⟩ := dlook_get e
    exact h _ (List.mem_of_getElem? hj)
theorem addPast_ok {U : List D} {made : List (D × List D)} (h : PastOk U made) {ns : List D} {one : D} (hn : ns.Nodup ∧ ∀ x ∈ ns, x ∈ U) (ho : one ∈ U) : (addPast made ns one).Nodup ∧ ∀ x ∈ addPast made ns one, x ∈ U := by
  unfold addPast
  refine ⟨kputs_nd (kput_nd hn.1), fun x hx => ?_⟩
  rcases mem_kputs.mp hx with z | z
  · rcases mem_kput.mp z with z | z
    · exact hn.2 x z
    · rw [z]
      exact ho
  · exact (look_ok h one).2 x z
theorem mem_dputG {α : Type} {m : List (D × α)} {k : D} {v : α} {p : D × α} (h : p ∈ dput m k v) : p ∈ m ∨ p = (k, v) := by
  induction m with
  | nil => exact .inr (by simpa [dput] using h)
  | cons q r ih =>
    rw [dput] at h
    split at h
    · rename_i e
      rcases List.mem_cons.mp h with z | z
      · rw [e] at z
        exact .inr z
      · exact .inl (List.mem_cons_of_mem _ z)
    · rcases List.mem_cons.mp h with z | z
      · exact .inl (by rw [z]; exact List.mem_cons_self)
      · exact (ih z).imp (List.mem_cons_of_mem _) id
theorem addAll_ok {U : List D} {made : List (D × List D)} (h : PastOk U made) : ∀ {os ns : List D}, (ns.Nodup ∧ ∀ x ∈ ns, x ∈ U) → (∀ x ∈ os, x ∈ U) → (os.foldl (addPast made) ns).Nodup ∧ ∀ x ∈ os.foldl (addPast made) ns, x ∈ U
  | [], _, hn, _ => hn
  | o :: os, _, hn, ho => addAll_ok h (os := os) (addPast_ok h hn (ho o List.mem_cons_self)) fun x hx => ho x (List.mem_cons_of_mem _ hx)
theorem pastStep_ok {U : List D} {made : List (D × List D)} (h : PastOk U made) {d : D} (hd : ∀ x ∈ afterOf d, x ∈ U) : PastOk U (pastStep made d) := fun p hp => by
  rcases mem_dputG hp with z | z
  · exact h p z
  · rw [z]
    exact addAll_ok h ⟨List.nodup_nil, fun x hx => by cases hx⟩ hd
theorem dput_lenG {α : Type} {m : List (D × α)} {k : D} {v : α} : (dput m k v).length ≤ m.length + 1 := by
  induction m with
  | nil => simp [dput]
  | cons p r ih =>
    unfold dput
    split
    · simp
    · simp only [List.length_cons]
      omega
/-! ### its evaluation -/
theorem disp_own0 {l : FH.Loc} {S : Store} : evDisp true [] l S = .ok (.ref S.length) (S ++ [.dic []]) := disp_own (kvs := []) rfl rfl
theorem disp_frz0 {l : FH.Loc} {S : Store} : evDisp false [] l S = .ok (.d (.dict [])) S := by
  unfold evDisp
  show (Res.bind (.ok [] (S ++ [Ob.dic []])) _) = _
  simp only [Res.bind, fillD, get_last]
  rw [set_last]
  unfold fin
  rw [if_neg (by decide), show S ++ [Ob.dic []] = S ++ [.dic (lf [])] from rfl, freeze_dic]
  simp only [cut_gone (S := S) (v := .d _) trivial, ofO]
abbrev pLoc (row : List D) (n : Nat) (x2 x3 x4 : Option Val) : FH.Loc := [some (.d (.list row)), some (.ref n), x2, x3, x4]
def pS (S : Store) (made : List (D × List D)) (i : Nat) : Store := S ++ .dic (pE made) :: List.replicate i .gone
theorem pS_len {S : Store} {made : List (D × List D)} {i : Nat} : (pS S made i).length = S.length + 1 + i := by
  simp [pS]
  omega
theorem pS_at {S : Store} {made : List (D × List D)} {i : Nat} {t : Store} : (pS S made i ++ t)[S.length]? = some (.dic (pE made)) := by simp [pS]
theorem pS_at0 {S : Store} {made : List (D × List D)} {i : Nat} : (pS S made i)[S.length]? = some (.dic (pE made)) := by simp [pS]
theorem pS_set {S : Store} {made : List (D × List D)} {i : Nat} {t : Store} {m : List (D × Val)} {made' : List (D × List D)} (h : m = pE made') : (pS S made i ++ t).set S.length (.dic m) = pS S made' i ++ t := by
  subst h
  simp [pS]
section
variable {S : Store} {row : List D} {made : List (D × List D)} {i : Nat} {ns U : List D} {d one : D} {x2 x4 : Option Val}
theorem past_one (hP : PastOk U made) (hn : ns.Nodup ∧ ∀ x ∈ ns, x ∈ U) (ho : one ∈ U) (hU : U.length ≤ 1000) (hk : isName one = true) {N : FH.Loc → Store → Prop} {R : Val → Store → Prop} (q : N (pLoc row S.length x2 (some (.ref (S.length + 1 + i))) (some (.d one))) (pS S made i ++ [.dic (lf (kT (addPast made ns one)))])) :
    Goes (sSeq (sSub (evC (.d (.bool true))) (evVar 3) (evVar 4)) (sDrop (evM "dict" FH.updM (evVar 3) (evCons (evM "dict" getM2 (evVar 1) (evCons (evVar 4) (evCons (evDisp false []) (evNil)))) (evNil)))) (pLoc row S.length x2 (some (.ref (S.length + 1 + i))) (some (.d one))) (pS S made i ++ [.dic (lf (kT ns))])) N R := by
  have gl : ∀ m : List (D × Val), (pS S made i ++ [Ob.dic m])[S.length + 1 + i]? = some (.dic m) := fun m => by
    rw [← pS_len (made := made)]
    exact get_last
  have sl : ∀ m m' : List (D × Val), (pS S made i ++ [Ob.dic m]).set (S.length + 1 + i) (Ob.dic m') = pS S made i ++ [Ob.dic m'] := fun m m' => by
    rw [← pS_len (made := made)]
    exact set_last
  have hkk := name_keyOk hk
  have l1 : ns.length ≤ 1000 := Nat.le_trans (nodup_le hn.1 hn.2) hU
  have l2 : (kput ns one).length ≤ 1000 := Nat.le_trans (nodup_le (kput_nd hn.1) fun x hx => by
    rcases mem_kput.mp hx with z | z
    · exact hn.2 x z
    · rw [z]
      exact ho) hU
  have l3 : ((dlook made one).getD []).length ≤ 1000 := Nat.le_trans (nodup_le (look_ok hP one).1 (look_ok hP one).2) hU
  have szl : sizeLine = 16777216 := sizeLine_eq
  refine gs_sub (P := fun v S1 => v = .d (.bool true) ∧ S1 = pS S made i ++ [.dic (lf (kT ns))]) (.ok ⟨rfl, rfl⟩) fun v S1 ⟨e1, e2⟩ => ⟨.ref (S.length + 1 + i), .d one, pS S made i ++ [.dic (lf (kT (kput ns one)))], by rw [e2]; rfl, by rw [e2]; rfl, ?_, ?_⟩
  · subst e1 e2
    unfold setV
    simp only [gl]
    rw [if_pos ⟨hkk, by rw [lf_len]; simp only [kT, List.length_map]; omega⟩, lf_put, kT_put, sl]
  · have g1 : getM2 (.ref S.length) [.d one, .d (.dict [])] (pS S made i ++ [.dic (lf (kT (kput ns one)))]) = some (.d (dictT ((dlook made one).getD [])), pS S made i ++ [.dic (lf (kT (kput ns one)))]) := by
      unfold getM2
      simp only [asDic_ref pS_at]
      rw [if_pos hkk, pE_look]
      cases dlook made one <;> rfl
    have g2 : evM "dict" getM2 (evVar 1) (evCons (evVar 4) (evCons (evDisp false []) (evNil))) (pLoc row S.length x2 (some (.ref (S.length + 1 + i))) (some (.d one))) (pS S made i ++ [.dic (lf (kT (kput ns one)))]) = .ok (.d (dictT ((dlook made one).getD []))) (pS S made i ++ [.dic (lf (kT (kput ns one)))]) :=
      evM_v (v := .ref S.length) (vs := [.d one, .d (.dict [])]) (r := (.d (dictT ((dlook made one).getD [])), _)) rfl (kind_dic pS_at) (ev_2 rfl disp_frz0) g1
    have g3 : FH.updM (.ref (S.length + 1 + i)) [.d (dictT ((dlook made one).getD []))] (pS S made i ++ [.dic (lf (kT (kput ns one)))]) = some (.d .none, pS S made i ++ [.dic (lf (kT (addPast made ns one)))]) := by
      have ad : asDic (.d (dictT ((dlook made one).getD []))) (pS S made i ++ [.dic (lf (kT (kput ns one)))]) = some (lf (kT ((dlook made one).getD []))) := rfl
      have ne : lf (kT (kput ns one)) ≠ [] := fun z => by
        have := congrArg List.length z
        simp only [lf, kT, List.length_map, List.length_nil] at this
        exact kput_ne (List.length_eq_zero_iff.mp this)
      unfold FH.updM
      simp only [gl, ad]
      rw [if_pos ⟨ne, by simp only [lf, kT, List.length_map]; omega, by simp⟩, kT_putAll, sl]
      rfl
    refine go_drop (P := fun v S' => S' = pS S made i ++ [.dic (lf (kT (addPast made ns one)))]) (.of (evM_v (v := .ref (S.length + 1 + i)) (vs := [.d (dictT ((dlook made one).getD []))]) (r := (.d .none, _)) rfl (kind_dic (gl _)) (ev_1 g2) g3) rfl) fun v S1 e => ?_
    rw [e]
    exact q
theorem frz_names {x : Store} : freezeV (.ref x.length) (x ++ [.dic (lf (kT ns))]) = some (.d (dictT ns), x ++ [.gone]) := freeze_dic
/-- one deed -/
theorem past_deed (hP : PastOk U made) (hU : U.length ≤ 1000) (hd : DeedL d) (ha : ∀ x ∈ afterOf d, x ∈ U) (hl : made.length ≤ 1000) {x3 : Option Val} {N : FH.Loc → Store → Prop} {R : Val → Store → Prop} (q : ∀ y3 y4, N (pLoc row S.length (some (.d d)) y3 y4) (pS S (pastStep made d) (i + 1))) :
    Goes (sSeq (sSet (evDisp true []) (tgName 3)) (sSeq (sFor (evIter (ev2 ixV (evVar 2) (evC (.d (.int 2))))) (tgName 4) (sSeq (sSub (evC (.d (.bool true))) (evVar 3) (evVar 4)) (sDrop (evM "dict" FH.updM (evVar 3) (evCons (evM "dict" getM2 (evVar 1) (evCons (evVar 4) (evCons (evDisp false []) (evNil)))) (evNil)))))) (sSub (evFrz (evVar 3)) (evVar 1) (evSl (evVar 2) none (some (evC (.d (.int 2))))))) (pLoc row S.length (some (.d d)) x3 x4) (pS S made i)) N R := by
  have szl : sizeLine = 16777216 := sizeLine_eq
  refine gs_name (P := fun v S1 => v = .ref (S.length + 1 + i) ∧ S1 = pS S made i ++ [.dic (lf (kT []))]) (.of disp_own0 ⟨by rw [pS_len], rfl⟩) (by simp) fun v S1 ⟨e1, e2⟩ => ?_
  subst e1 e2
  show Goes (sSeq _ _ (pLoc row S.length (some (.d d)) (some (.ref (S.length + 1 + i))) x4) (pS S made i ++ [.dic (lf (kT []))])) _ _
  have hit : evIter (ev2 ixV (evVar 2) (evC (.d (.int 2)))) (pLoc row S.length (some (.d d)) (some (.ref (S.length + 1 + i))) x4) (pS S made i ++ [.dic (lf (kT []))]) = .ok ((afterOf d).map .d, .d (.tuple (afterOf d))) (pS S made i ++ [.dic (lf (kT []))]) := iter_tup (ev2_o (x := .d d) rfl rfl (hd.ix2 _))
  refine go_seq (N' := fun l' S' => ∃ y4, l' = pLoc row S.length (some (.d d)) (some (.ref (S.length + 1 + i))) y4 ∧ S' = pS S made i ++ [.dic (lf (kT ((afterOf d).foldl (addPast made) [])))]) ?_ fun l' S' ⟨y4, e1, e2⟩ => ?_
  · refine go_for hit (fun k l' S' => ∃ y4, l' = pLoc row S.length (some (.d d)) (some (.ref (S.length + 1 + i))) y4 ∧ S' = pS S made i ++ [.dic (lf (kT (((afterOf d).take k).foldl (addPast made) [])))]) ⟨x4, rfl, rfl⟩ (fun k x l' S' hx ⟨y4, e1, e2⟩ => ?_) fun l' S' ⟨y4, e1, e2⟩ => ⟨y4, e1, ?_⟩
    · rw [List.getElem?_map] at hx
      obtain ⟨one, h1, rfl⟩ := Option.map_eq_some_iff.mp hx
      subst e1 e2
      refine ⟨pLoc row S.length (some (.d d)) (some (.ref (S.length + 1 + i))) (some (.d one)), rfl, ?_⟩
      have hone : one ∈ afterOf d := List.mem_of_getElem? h1
      have hns := addAll_ok hP (os := (afterOf d).take k) (ns := []) ⟨List.nodup_nil, fun x hx => by cases hx⟩ fun x hx => ha x (List.mem_of_mem_take hx)
      refine past_one hP hns (ha one hone) hU (hd.names one hone) ⟨_, rfl, ?_⟩
      rw [List.take_succ, h1]
      simp [List.foldl_append]
    · rw [List.length_map, List.take_length] at e2
      exact e2
  · subst e1 e2
    have f1 : evFrz (evVar 3) (pLoc row S.length (some (.d d)) (some (.ref (S.length + 1 + i))) y4) (pS S made i ++ [.dic (lf (kT ((afterOf d).foldl (addPast made) [])))]) = .ok (.d (dictT ((afterOf d).foldl (addPast made) []))) (pS S made i ++ [.gone]) := by
      show ofO (freezeV (.ref (S.length + 1 + i)) _) = _
      rw [← pS_len (made := made), frz_names]
      rfl
    refine go_sub (P := fun v S1 => v = .d (dictT ((afterOf d).foldl (addPast made) [])) ∧ S1 = pS S made i ++ [.gone]) (.of f1 ⟨rfl, rfl⟩) fun v S1 ⟨e1, e2⟩ => ⟨.ref S.length, .d (nm2 d), pS S (pastStep made d) (i + 1), by rw [e2]; rfl, ?_, ?_, q _ _⟩
    · subst e2
      simp [evSl, evPart, hd.sl2, evVar]
    · subst e1 e2
      unfold setV
      simp only [pS_at]
      rw [if_pos ⟨name_keyOk hd.name, by simp only [pE, List.length_map]; omega⟩, pS_set (pE_put _ _ _)]
      simp [pS, pastStep, List.replicate_succ']
end
theorem pastsF_ok {U : List D} : ∀ {row : List D} {made : List (D × List D)}, PastOk U made → (∀ d ∈ row, ∀ x ∈ afterOf d, x ∈ U) → PastOk U (row.foldl pastStep made)
  | [], _, h, _ => h
  | d :: r, _, h, hd => pastsF_ok (row := r) (pastStep_ok h (hd d List.mem_cons_self)) fun e he => hd e (List.mem_cons_of_mem _ he)
theorem pastsF_len : ∀ {row : List D} {made : List (D × List D)}, (row.foldl pastStep made).length ≤ made.length + row.length
  | [], _ => by simp
  | d :: r, made => by
    have h1 := pastsF_len (row := r) (made := pastStep made d)
    have h2 : (pastStep made d).length ≤ made.length + 1 := dput_lenG
    rw [List.foldl_cons, List.length_cons]
    omega
theorem frz_pasts {S : Store} {made : List (D × List D)} {i : Nat} : finR false S (.ref S.length) (pS S made i) = .ok (.d (.dict (pD made))) S := by
  have f : freezeV (.ref S.length) (pS S made i) = some (.d (.dict (pD made)), S ++ List.replicate (i + 1) .gone) := by
    unfold freezeV
    simp only [pS_at0, pE_lf, lf_vals, allD_map, lf_keys]
    have e : ((pD made).map (·.1)).zip ((pD made).map (·.2)) = pD made := by
      rw [List.zip_map', List.map_id'']
      intro p
      rfl
    rw [e]
    simp [pS, List.replicate_succ]
  unfold finR
  rw [if_neg (by decide)]
  simp only
  rw [if_pos (Nat.le_refl _), f]
  simp only
  rw [popO_self _ (show Val.cl S.length (.d (.dict (pD made))) from trivial)]
  rfl
/-- what a call of `pasts_of` gives -/
theorem pasts_eval {Φ : Tab} {row U : List D} {S : Store} (hd : ∀ d ∈ row, DeedL d) (ha : ∀ d ∈ row, ∀ x ∈ afterOf d, x ∈ U) (hU : U.length ≤ 1000) (hz : row.length ≤ 500) : fnB false 5 (b_pasts_of Φ) [.d (.list row)] S = .ok (.d (.dict (pD (pastsF row)))) S := by
  refine ends_eq (en_fn (N := fun _ _ => False) (R := fun v S' => ∃ i, v = .ref S.length ∧ S' = pS S (pastsF row) i) ?_ (fun _ _ z => z.elim) fun v S' ⟨i, e1, e2⟩ => ?_)
  · show Goes (b_pasts_of Φ [some (.d (.list row)), none, none, none, none] S) _ _
    unfold b_pasts_of
    refine gs_name (P := fun v S1 => v = .ref S.length ∧ S1 = pS S [] 0) (.of disp_own0 ⟨rfl, by simp [pS, pE]⟩) (by simp) fun v S1 ⟨e1, e2⟩ => ?_
    subst e1 e2
    refine go_seq (N' := fun l' S' => ∃ y2 y3 y4, l' = pLoc row S.length y2 y3 y4 ∧ S' = pS S (pastsF row) row.length) ?_ fun l' S' ⟨y2, y3, y4, e1, e2⟩ => ?_
    · refine go_for (iter_data (e := evVar 0) (ds := row) rfl) (fun k l' S' => ∃ y2 y3 y4, l' = pLoc row S.length y2 y3 y4 ∧ S' = pS S (pastsF (row.take k)) k) ⟨none, none, none, rfl, rfl⟩ (fun k x l' S' hx ⟨y2, y3, y4, e1, e2⟩ => ?_) fun l' S' ⟨y2, y3, y4, e1, e2⟩ => ⟨y2, y3, y4, e1, ?_⟩
      · rw [List.getElem?_map] at hx
        obtain ⟨d, h1, rfl⟩ := Option.map_eq_some_iff.mp hx
        subst e1 e2
        have hdm : d ∈ row := List.mem_of_getElem? h1
        refine ⟨pLoc row S.length (some (.d d)) y3 y4, rfl, ?_⟩
        refine past_deed (U := U) (pastsF_ok (fun p hp => by cases hp) fun e he => ha e (List.mem_of_mem_take he)) hU (hd d hdm) (ha d hdm) ?_ fun y3 y4 => ⟨_, _, _, rfl, ?_⟩
        · have := pastsF_len (row := row.take k) (made := [])
          have h2 : (row.take k).length ≤ row.length := by
            rw [List.length_take]
            omega
          simp only [List.length_nil] at this
          omega
        · unfold pastsF
          rw [List.take_succ, h1]
          simp [List.foldl_append]
      · rw [List.length_map] at e2
        rw [e2, List.take_length]
        rfl
    · subst e1 e2
      refine go_ret (P := fun v S' => v = .ref S.length ∧ S' = pS S (pastsF row) row.length) (.ok ⟨rfl, rfl⟩) fun v S1 ⟨e1, e2⟩ => ⟨row.length, e1, e2⟩
  · subst e1 e2
    exact .of frz_pasts ⟨rfl, rfl⟩
/-! ### its plain law -/
theorem mem_addAll {made : List (D × List D)} : ∀ {os ns : List D} {x : D}, x ∈ os.foldl (addPast made) ns ↔ x ∈ ns ∨ ∃ o ∈ os, x = o ∨ x ∈ (dlook made o).getD []
  | [], ns, x => by simp
  | o :: os, ns, x => by
    rw [List.foldl_cons, mem_addAll (os := os)]
    unfold addPast
    rw [mem_kputs, mem_kput]
    constructor
    · rintro (((z | z) | z) | ⟨o', h1, h2⟩)
      · exact .inl z
      · exact .inr ⟨o, List.mem_cons_self, .inl z⟩
      · exact .inr ⟨o, List.mem_cons_self, .inr z⟩
      · exact .inr ⟨o', List.mem_cons_of_mem _ h1, h2⟩
    · rintro (z | ⟨o', h1, h2⟩)
      · exact .inl (.inl (.inl z))
      · rcases List.mem_cons.mp h1 with e | e
        · rw [e] at h2
          rcases h2 with z | z
          · exact .inl (.inl (.inr z))
          · exact .inl (.inr z)
        · exact .inr ⟨o', e, h2⟩
theorem dlook_put_self {α : Type} {m : List (D × α)} {k : D} {v : α} : dlook (dput m k v) k = some v := by
  induction m with
  | nil => simp [dput, dlook]
  | cons p r ih =>
    rw [dput]
    split
    · rename_i e
      rw [dlook, if_pos e]
    · rename_i e
      rw [dlook, if_neg e, ih]
theorem dlook_put_ne {α : Type} {m : List (D × α)} {k x : D} {v : α} (h : x ≠ k) : dlook (dput m k v) x = dlook m x := by
  induction m with
  | nil =>
    have z : dput ([] : List (D × α)) k v = [(k, v)] := rfl
    rw [z, dlook]
    exact if_neg (fun e => h e.symm)
  | cons p r ih =>
    rw [dput]
    split
    · rename_i e
      rw [dlook, dlook, if_neg (fun z => h (z.symm.trans e)), if_neg (fun z => h (z.symm.trans e))]
    · rw [dlook, dlook, ih]
theorem addAll_nd {made : List (D × List D)} : ∀ {os ns : List D}, ns.Nodup → (os.foldl (addPast made) ns).Nodup
  | [], _, h => h
  | _ :: os, _, h => addAll_nd (os := os) (kputs_nd (kput_nd h))
/-- the pasts that are found -/
def PastIs (P : D → List D) (made : List (D × List D)) (names : List D) : Prop := made.map (·.1) = names ∧ ∀ n ∈ names, ∃ ks, dlook made n = some ks ∧ ks.Nodup ∧ ∀ x, x ∈ ks ↔ x ∈ P n
theorem dput_new_keys {α : Type} {m : List (D × α)} {k : D} {v : α} (h : k ∉ m.map (·.1)) : (dput m k v).map (·.1) = m.map (·.1) ++ [k] := by
  rw [dput_new h]
  simp
theorem pasts_is {L : List D} {P : D → List D} (h : Sys L P) {row : List D} (pm : row.Perm L) (top : ∀ a d b, row = a ++ d :: b → ∀ x ∈ P (nm2 d), x ∈ a.map nm2) : ∀ k, k ≤ row.length → PastIs P (pastsF (row.take k)) ((row.take k).map nm2)
  | 0, _ => ⟨rfl, fun n hn => by simp at hn⟩
  | k + 1, hk => by
    obtain ⟨h1, h2⟩ := pasts_is h pm top k (by omega)
    have hlt : k < row.length := by omega
    have hg : row[k]? = some row[k] := List.getElem?_eq_getElem hlt
    have split : row = row.take k ++ row[k] :: row.drop (k + 1) := by
      conv => lhs; rw [← List.take_append_drop k row, List.drop_eq_getElem_cons hlt]
    generalize row[k] = d at hg split
    have hdL : d ∈ L := pm.mem_iff.mp (List.mem_of_getElem? hg)
    have t1 : row.take (k + 1) = row.take k ++ [d] := by
      rw [List.take_succ, hg]
      rfl
    have t2 : pastsF (row.take (k + 1)) = pastStep (pastsF (row.take k)) d := by
      unfold pastsF
      rw [t1, List.foldl_append]
      rfl
    have fresh : nm2 d ∉ (row.take k).map nm2 := fun z => by
      have nd : (row.map nm2).Nodup := ((pm.map nm2).nodup_iff).mpr h.nd
      rw [split, List.map_append, List.map_cons, List.nodup_append] at nd
      exact nd.2.2 _ z _ List.mem_cons_self rfl
    rw [t2, t1, List.map_append]
    unfold pastStep
    refine ⟨?_, fun n hn => ?_⟩
    · rw [dput_new_keys (by rw [h1]; exact fresh), h1]
      rfl
    · rcases List.mem_append.mp hn with z | z
      · obtain ⟨ks, g1, g2, g3⟩ := h2 n z
        refine ⟨ks, ?_, g2, g3⟩
        rw [dlook_put_ne (fun e : n = nm2 d => fresh (e ▸ z))]
        exact g1
      · have en : n = nm2 d := by simpa using z
        subst en
        refine ⟨_, dlook_put_self, addAll_nd List.nodup_nil, fun x => ?_⟩
        rw [mem_addAll, h.after d hdL x]
        have look : ∀ o ∈ afterOf d, ∀ x, x ∈ (dlook (pastsF (row.take k)) o).getD [] ↔ x ∈ P o := fun o ho x => by
          have hoP := (h.after d hdL o).mpr (.inl ho)
          obtain ⟨ks, g1, g2, g3⟩ := h2 o (top _ _ _ split o hoP)
          rw [g1]
          exact g3 x
        constructor
        · rintro (z | ⟨o, ho, z | z⟩)
          · cases z
          · exact .inl (z ▸ ho)
          · exact .inr ⟨o, ho, (look o ho x).mp z⟩
        · rintro (z | ⟨o, ho, z⟩)
          · exact .inr ⟨x, z, .inl rfl⟩
          · exact .inr ⟨o, ho, .inr ((look o ho x).mpr z)⟩
end Lw
/-! what `are_deeds` computes -/
namespace FH
open L2 PySem PySem.Spec
/-! ### comprehensions of two walks that write nothing -/
section
variable {it it1 : Loc → Store → Res Walked} {t t1 : Tg} {vs vs1 : List Nat} {e : Ev} {l : Loc} {S : Store} {v : Val}
def Turn2 (t : Tg) (vs : List Nat) (it1 : Loc → Store → Res Walked) (t1 : Tg) (vs1 : List Nat) (e : Ev) (l : Loc) (S : Store) (g : D → List D) (h : D → D → D) (d : D) : Prop :=
  ∃ l' w, t.2 (.d d) (wipeL l vs) = some l' ∧ (∀ acc : List Val, it1 l' (S ++ [.lst acc]) = .ok ((g d).map .d, .d w) (S ++ [.lst acc])) ∧ (g d).length ≤ 1000 ∧ ∀ x ∈ g d, ∃ l2, t1.2 (.d x) (wipeL l' vs1) = some l2 ∧ ∀ acc : List Val, e l2 (S ++ [.lst acc]) = .ok (.d (h d x)) (S ++ [.lst acc])
theorem inner_map {l : Loc} {ds : List D} {h : D → D} (hf : ∀ x ∈ ds, ∃ l2, t1.2 (.d x) (wipeL l vs1) = some l2 ∧ ∀ acc : List Val, e l2 (S ++ [.lst acc]) = .ok (.d (h x)) (S ++ [.lst acc])) {acc : List Val} (hz : acc.length + ds.length ≤ sizeLine) :
    goAll (lcTurn S.length t1 vs1 cYes e l) (ds.map .d) (S ++ [.lst acc]) = .ok () (S ++ [.lst (acc ++ (ds.map h).map .d)]) := by
  have := goAll_pure (t := t1) (vs := vs1) (c := cYes) (e := e) (l := l) (S := S) (f := onD fun x => some (h x)) (items := ds.map .d) (acc := acc) (fun x hx => by
    obtain ⟨d, hd, rfl⟩ := List.mem_map.mp hx
    obtain ⟨l2, h1, h2⟩ := hf d hd
    exact ⟨l2, h1, fun acc => ⟨rfl, h2 acc⟩⟩) (by rw [List.length_map]; exact hz)
  rw [this, filterMap_onD]
  have e2 : ds.filterMap (fun x => some (h x)) = ds.map h := by
    induction ds with
    | nil => rfl
    | cons a l ih => simp
  rw [e2]
theorem goAll_2 {g : D → List D} {h : D → D → D} : ∀ {ds : List D} {acc : List Val}, (∀ d ∈ ds, Turn2 t vs it1 t1 vs1 e l S g h d) → acc.length + ds.length * 1000 ≤ 10000000 →
    goAll (lc2Turn S.length t vs cYes it1 t1 vs1 cYes e l) (ds.map .d) (S ++ [.lst acc]) = .ok () (S ++ [.lst (acc ++ (ds.flatMap fun d => (g d).map (h d)).map .d)])
  | [], acc, _, _ => by simp [goAll]
  | d :: ds, acc, hd, hz => by
    obtain ⟨l', w, h1, h2, h3, h4⟩ := hd d List.mem_cons_self
    simp only [List.length_cons] at hz
    have szl : sizeLine = 16777216 := sizeLine_eq
    have tn : lc2Turn S.length t vs cYes it1 t1 vs1 cYes e l (.d d) (S ++ [.lst acc]) = .ok () (S ++ [.lst (acc ++ ((g d).map (h d)).map .d)]) := by
      unfold lc2Turn
      rw [h1]
      simp only [cYes, Res.bind, if_true, h2]
      have i := inner_map (t1 := t1) (vs1 := vs1) (e := e) (S := S) (l := l') (ds := g d) (h := h d) h4 (acc := acc) (by omega)
      rw [show lockS (Val.d w) (S ++ [Ob.lst acc]) = S ++ [.lst acc] from rfl, i]
      rfl
    rw [List.map_cons, goAll, tn]
    simp only [Res.bind]
    have l5 : (acc ++ ((g d).map (h d)).map Val.d).length = acc.length + (g d).length := by simp
    rw [goAll_2 (ds := ds) (fun x hx => hd x (List.mem_cons_of_mem _ hx)) (by omega)]
    simp
theorem lc2_data {ds : List D} {g : D → List D} {h : D → D → D} (hit : it l S = .ok (ds.map .d, v) S) (hd : ∀ d ∈ ds, Turn2 t vs it1 t1 vs1 e l (lockS v S) g h d) (hz : ds.length ≤ 1000) : evLC2 false it t vs cYes it1 t1 vs1 cYes e l S = .ok (.d (.list (ds.flatMap fun d => (g d).map (h d)))) S := by
  unfold evLC2
  rw [hit]
  simp only [Res.bind]
  have hn : (lockS v S).length = S.length := lockS_len _ _
  have g1 := goAll_2 (S := lockS v S) (acc := []) hd (by simp; omega)
  rw [hn] at g1
  rw [g1]
  simp only [calmR, List.nil_append]
  rw [fin_last]
  simp only [unlR]
  rw [unlock_lock0]
end
end FH
namespace Lw
open L2 PySem PySem.Spec FH
/-- a deed by form, not great -/
structure DG (d : D) : Prop where
  good : goodD d = true
  depth : d.depth ≤ 50
  is : isDeed d = true
  few : (afterOf d).length ≤ 1000
theorem DG.L {d : D} (h : DG d) : DeedL d := by
  obtain ⟨m, n, a, hd, w, r, rfl⟩ := deed_shape h.is
  have hi := h.is
  simp only [isDeed, Bool.and_eq_true] at hi
  refine ⟨m, n, a, _, rfl, fun x hx => List.all_eq_true.mp hi.1.1.1.2 x hx, hi.1.1.1.1, h.few⟩
theorem DG.hlen {d : D} (h : DG d) : ∀ m n after hand what, d = .tuple [m, n, .tuple after, hand, what] → after.length ≤ 100000 := fun m n a hd w e => by
  have := h.few
  subst e
  exact Nat.le_trans this (by decide)
/-- the names, as a dict -/
noncomputable def nmT (L : List D) : List (D × D) := putAllD [] (L.map fun d => (nm2 d, .bool true))
theorem nmT_keys {L : List D} {x : D} : x ∈ (nmT L).map (·.1) ↔ x ∈ L.map nm2 := by
  unfold nmT
  rw [putAllD_keys]
  simp [Function.comp_def]
theorem nmT_len {L : List D} (nd : (L.map nm2).Nodup) : (nmT L).length = L.length := by
  unfold nmT
  rw [putAllD_fresh (by simpa [Function.comp_def] using nd)]
  simp
theorem dput_old_len {m : List (D × D)} {k v : D} (h : k ∈ m.map (·.1)) : (dput m k v).length = m.length := by
  induction m with
  | nil => cases h
  | cons q r ih =>
    rw [dput]
    split
    · rfl
    · rename_i e
      rw [List.length_cons, List.length_cons, ih ((List.mem_cons.mp h).resolve_left fun z => e z.symm)]
theorem nmT_short {M : List D} {d0 : D} (h : nm2 d0 ∈ M.map nm2) : (nmT (M ++ [d0])).length < (M ++ [d0]).length := by
  have e : nmT (M ++ [d0]) = dput (nmT M) (nm2 d0) (.bool true) := by
    unfold nmT putAllD
    rw [List.map_append, List.foldl_append]
    rfl
  have l := putAllD_len (M.map fun d => (nm2 d, PyData.bool true)) []
  rw [e, dput_old_len (nmT_keys.mpr h), List.length_append]
  simp only [List.length_nil, List.length_map, Nat.zero_add, List.length_singleton] at l ⊢
  unfold nmT
  omega
noncomputable abbrev metL (L : List D) : D → Bool := hasK (nmT L)
theorem metL_is (L : List D) : MetIs (ev2 (cmpV .In) (evVar 0) (evVar 1)) [.dict (nmT L)] (metL L) := fun x S hx => by
  refine ev2_o (x := .d x) (y := .d (.dict (nmT L))) rfl rfl ?_
  rw [in_dic asDic_d (by intro z; simp) (by intro z; simp) (name_keyOk hx), lf_look]
  unfold metL hasK
  cases dlook (nmT L) x <;> rfl
theorem metL_mem {L : List D} {x : D} : metL L x = true ↔ x ∈ L.map nm2 := by
  unfold metL
  rw [hasK_iff, nmT_keys]
def adT (S : Store) : Prop := hasTab ("are_deeds", none) "are_deeds.<locals>.<lambda>" S
section
variable {k : Nat} {L : List D} {S : Store}
/-- the part ahead of the loop -/
theorem ad_head (hT : adT S) (h : ∀ d ∈ L, DG d) (hz : L.length ≤ 500) {N : FH.Loc → Store → Prop} {R : Val → Store → Prop} {b : Sv}
    (hs : (nmT L).length < L.length ∨ (ordL (metL L) L).length < L.length → R (.d (.bool false)) S)
    (hb : ¬ ((nmT L).length < L.length ∨ (ordL (metL L) L).length < L.length) → Goes (b [some (.d (.list L)), some (.d (.dict (nmT L))), some (.d (.list (ordL (metL L) L))), none, none, none, none] S) N R) :
    Goes (sSeq (sIf (cOr (cNot (evB (evL isinstL (evCons (evVar 0) (evCons (evC (.ty "list")) (evNil)))))) (cNot (evB (evL allL (evCons (evLC false (evIter (evVar 0)) (tgName 5) [5] (cYes) (evCall 1 (tab (k + 5) i_is_deed) (evCons (evVar 5) (evNil)))) (evNil)))))) (sRet (evC (.d (.bool false)))) (sNx)) (sSeq (sSet (evDC false (evIter (evVar 0)) (tgName 4) [4] (cYes) (evSl (evVar 4) none (some (evC (.d (.int 2))))) (evC (.d (.bool true)))) (tgName 1)) (sSeq (sSet (evCallL ("are_deeds", none) "are_deeds.<locals>.<lambda>" [1] (tabL (k + 5)) (ev2 (cmpV .In) (evVar 0) (evVar 1)) (evVar 0)) (tgName 2)) (sSeq (sIf (cOr (evB (ev2 (cmpV .Lt) (evL lenL (evCons (evVar 1) (evNil))) (evL lenL (evCons (evVar 0) (evNil))))) (evB (ev2 (cmpV .Lt) (evL lenL (evCons (evVar 2) (evNil))) (evL lenL (evCons (evVar 0) (evNil)))))) (sRet (evC (.d (.bool false)))) (sNx)) b))) [some (.d (.list L)), none, none, none, none, none, none] S) N R := by
  have i1 : evB (evL isinstL (evCons (evVar 0) (evCons (evC (.ty "list")) (evNil)))) [some (.d (.list L)), none, none, none, none, none, none] S = .ok true S := evB_b (evL_o (vs := [.d (.list L), .ty "list"]) rfl rfl)
  have a1 : evLC false (evIter (evVar 0)) (tgName 5) [5] (cYes) (evCall 1 (tab (k + 5) i_is_deed) (evCons (evVar 5) (evNil))) [some (.d (.list L)), none, none, none, none, none, none] S = .ok (.d (.list (L.map fun _ => .bool true))) S := by
    refine lc_map (iter_data rfl) (fun _ => .bool true) (fun d hd => ⟨[some (.d (.list L)), none, none, none, none, some (.d d), none], rfl, fun acc => ⟨rfl, ?_⟩⟩) (by omega)
    have g := h d hd
    refine evCall_v (vs := [.d d]) (n := 1) rfl rfl ?_
    rw [t_deed k d _ g.good g.depth g.hlen, g.is]
  have a2 : evB (evL allL (evCons (evLC false (evIter (evVar 0)) (tgName 5) [5] (cYes) (evCall 1 (tab (k + 5) i_is_deed) (evCons (evVar 5) (evNil)))) (evNil))) [some (.d (.list L)), none, none, none, none, none, none] S = .ok true S := by
    have e : L.map (fun _ => PyData.bool true) = (L.map fun _ => true).map .bool := by simp [Function.comp_def]
    rw [e] at a1
    have := evB_b (evL_o (ev_1 a1) all_bools)
    rw [this]
    simp [List.all_map, Function.comp_def]
  refine gs_ret (p := false) ((cOr_b (p := false) (q := false) (cNot_b i1) fun _ => cNot_b a2)) (fun z => by cases z) fun _ => ?_
  have d1 : evDC false (evIter (evVar 0)) (tgName 4) [4] (cYes) (evSl (evVar 4) none (some (evC (.d (.int 2))))) (evC (.d (.bool true))) [some (.d (.list L)), none, none, none, none, none, none] S = .ok (.d (.dict (nmT L))) S := by
    have := dc_frz (t := tgName 4) (vs := [4]) (c := cYes) (k := evSl (evVar 4) none (some (evC (.d (.int 2))))) (e := evC (.d (.bool true))) (l := [some (.d (.list L)), none, none, none, none, none, none]) (S := S) (f := fun d => some (nm2 d, .bool true)) (iter_data (e := evVar 0) (ds := L) rfl) (fun d hd => ⟨[some (.d (.list L)), none, none, none, some (.d d), none, none], rfl, name_keyOk (h d hd).L.name, fun acc => ⟨rfl, by simp [evSl, evPart, (h d hd).L.sl2, evVar], rfl⟩⟩) (by omega)
    rw [this, filterMap_some]
    rfl
  refine gs_name (P := fun v S1 => v = .d (.dict (nmT L)) ∧ S1 = S) (.of d1 ⟨rfl, rfl⟩) (by simp) fun v S1 ⟨e1, e2⟩ => ?_
  subst e1 e2
  have c1 : evCallL ("are_deeds", none) "are_deeds.<locals>.<lambda>" [1] (tabL (k + 5)) (ev2 (cmpV .In) (evVar 0) (evVar 1)) (evVar 0) [some (.d (.list L)), some (.d (.dict (nmT L))), none, none, none, none, none] S1 = .ok (.d (.list (ordL (metL L) L))) S1 :=
    callL_v (v := .d (.list L)) (cd := [.dict (nmT L)]) rfl rfl hT fun id => ord_eval (metL_is L) (fun d hd => (h d hd).L) hz
  refine gs_name (P := fun v S2 => v = .d (.list (ordL (metL L) L)) ∧ S2 = S1) (.of c1 ⟨rfl, rfl⟩) (by simp) fun v S2 ⟨e1, e2⟩ => ?_
  subst e1 e2
  have la : evL lenL (evCons (evVar 0) (evNil)) [some (.d (.list L)), some (.d (.dict (nmT L))), some (.d (.list (ordL (metL L) L))), none, none, none, none] S2 = .ok (.d (.int L.length)) S2 := evL_o (vs := [.d (.list L)]) rfl len_lst_
  have lb : evL lenL (evCons (evVar 2) (evNil)) [some (.d (.list L)), some (.d (.dict (nmT L))), some (.d (.list (ordL (metL L) L))), none, none, none, none] S2 = .ok (.d (.int (ordL (metL L) L).length)) S2 := evL_o (vs := [.d (.list (ordL (metL L) L))]) rfl len_lst_
  have lc : evL lenL (evCons (evVar 1) (evNil)) [some (.d (.list L)), some (.d (.dict (nmT L))), some (.d (.list (ordL (metL L) L))), none, none, none, none] S2 = .ok (.d (.int (nmT L).length)) S2 := evL_o (vs := [.d (.dict (nmT L))]) rfl (by
      rw [len_dic (v := .d (.dict (nmT L))) (m := lf (nmT L)) rfl (by intro z; simp) (by intro z; simp) (by intro z; simp), lf_len])
  have n1 : evB (ev2 (cmpV .Lt) (evL lenL (evCons (evVar 1) (evNil))) (evL lenL (evCons (evVar 0) (evNil)))) [some (.d (.list L)), some (.d (.dict (nmT L))), some (.d (.list (ordL (metL L) L))), none, none, none, none] S2 = .ok (decide ((nmT L).length < L.length)) S2 := by
    have := evB_b (ev2_o lc la lt_int_)
    rw [this]
    simp
  have n2 : evB (ev2 (cmpV .Lt) (evL lenL (evCons (evVar 2) (evNil))) (evL lenL (evCons (evVar 0) (evNil)))) [some (.d (.list L)), some (.d (.dict (nmT L))), some (.d (.list (ordL (metL L) L))), none, none, none, none] S2 = .ok (decide ((ordL (metL L) L).length < L.length)) S2 := by
    have := evB_b (ev2_o lb la lt_int_)
    rw [this]
    simp
  refine gs_ret (cOr_b n1 fun _ => n2) (fun hp => ?_) fun hp => ?_
  · refine go_ret (P := fun v S' => v = .d (.bool false) ∧ S' = S2) (.ok ⟨rfl, rfl⟩) fun v S1 ⟨e1, e2⟩ => ?_
    rw [e1, e2]
    exact hs (by simpa using hp)
  · exact hb (fun z => by simp at hp; omega)
end
/-- after names none that another of it has in its past -/
def Heads (P : D → List D) (d : D) : Prop := ∀ x ∈ afterOf d, ∀ z ∈ afterOf d, x ∉ P z
theorem hasK_kT {ks : List D} {x : D} : hasK (kT ks) x = true ↔ x ∈ ks := by
  rw [hasK_iff, kT_keys]
section
variable {L : List D} {P : D → List D} {S : Store} {row : List D} {made : List (D × List D)}
noncomputable abbrev adLoc (L row : List D) (made : List (D × List D)) (x4 x5 x6 : Option Val) : FH.Loc := [some (.d (.list L)), some (.d (.dict (nmT L))), some (.d (.list row)), some (.d (.dict (pD made))), x4, x5, x6]
theorem PastIs.look {names : List D} (h : PastIs P made names) {n : D} (hn : n ∈ names) : ∃ ks, dlook (lf (pD made)) n = some (.d (dictT ks)) ∧ ∀ x, hasK (kT ks) x = true ↔ x ∈ P n := by
  obtain ⟨ks, h1, h2, h3⟩ := h.2 n hn
  exact ⟨ks, by rw [lf_look, pD_look, h1]; rfl, fun x => by rw [hasK_kT, h3]⟩
theorem in_dictT {ks : List D} {x : D} (hx : isName x = true) : cmpV .In (.d x) (.d (dictT ks)) S = some (.d (.bool (hasK (kT ks) x)), S) := by
  rw [in_dic (m := lf (kT ks)) rfl (by intro z; simp [dictT]) (by intro z; simp [dictT]) (name_keyOk hx), lf_look]
  unfold hasK
  cases dlook (kT ks) x <;> rfl
theorem notin_dictT {ks : List D} {x : D} (hx : keyOk x = true) : cmpV .NotIn (.d x) (.d (dictT ks)) S = some (.d (.bool (!hasK (kT ks) x)), S) := by
  rw [notin_dic (m := lf (kT ks)) rfl (by intro z; simp [dictT]) (by intro z; simp [dictT]) hx, lf_look]
  unfold hasK
  cases dlook (kT ks) x <;> rfl
theorem ix_pasts {names : List D} (hp : PastIs P made names) {n : D} (hn : n ∈ names) (hk : isName n = true) : ∃ ks, (∀ S, ixV (.d (.dict (pD made))) (.d n) S = some (.d (dictT ks), S)) ∧ ∀ x, hasK (kT ks) x = true ↔ x ∈ P n := by
  obtain ⟨ks, h1, h2⟩ := hp.look hn
  exact ⟨ks, fun S => ix_dicv (m := lf (pD made)) rfl (name_keyOk hk) h1, h2⟩
noncomputable def ksOf (made : List (D × List D)) (n : D) : List D := (dlook made n).getD []
theorem ix_ksOf {names : List D} (hp : PastIs P made names) {n : D} (hn : n ∈ names) (hk : isName n = true) : (∀ S, ixV (.d (.dict (pD made))) (.d n) S = some (.d (dictT (ksOf made n)), S)) ∧ ∀ x, hasK (kT (ksOf made n)) x = true ↔ x ∈ P n := by
  obtain ⟨ks, h1, h2, h3⟩ := hp.2 n hn
  have e : ksOf made n = ks := by
    unfold ksOf
    rw [h1]
    rfl
  rw [e]
  exact ⟨fun S => ix_dicv (m := lf (pD made)) rfl (name_keyOk hk) (by rw [lf_look, pD_look, h1]; rfl), fun x => by rw [hasK_kT, h3]⟩
/-- does it name what is past? -/
theorem ad_any {names : List D} (hp : PastIs P made names) {d : D} (hd : DeedL d) (ha : ∀ x ∈ afterOf d, x ∈ names) {x5 x6 : Option Val} :
    ∃ b, evB (evL anyL (evCons (evLC2 false (evIter (ev2 ixV (evVar 4) (evC (.d (.int 2))))) (tgName 5) [5, 6] (cYes) (evIter (ev2 ixV (evVar 4) (evC (.d (.int 2))))) (tgName 6) [6] (cYes) (ev2 (cmpV .In) (evVar 5) (ev2 ixV (evVar 3) (evVar 6)))) (evNil))) (adLoc L row made (some (.d d)) x5 x6) S = .ok b S ∧ (b = false ↔ Heads P d) := by
  have hit : ∀ (y5 y6 : Option Val) (S' : Store), evIter (ev2 ixV (evVar 4) (evC (.d (.int 2)))) (adLoc L row made (some (.d d)) y5 y6) S' = .ok ((afterOf d).map .d, .d (.tuple (afterOf d))) S' := fun y5 y6 S' => iter_tup (ev2_o (x := .d d) rfl rfl (hd.ix2 _))
  have lc := lc2_data (t := tgName 5) (vs := [5, 6]) (it1 := evIter (ev2 ixV (evVar 4) (evC (.d (.int 2))))) (t1 := tgName 6) (vs1 := [6]) (e := ev2 (cmpV .In) (evVar 5) (ev2 ixV (evVar 3) (evVar 6))) (g := fun _ => afterOf d) (h := fun one other => .bool (hasK (kT (ksOf made other)) one)) (hit x5 x6 S) (fun one ho => by
    refine ⟨adLoc L row made (some (.d d)) (some (.d one)) none, .tuple (afterOf d), rfl, fun acc => hit _ _ _, hd.few, fun other ho2 => ⟨adLoc L row made (some (.d d)) (some (.d one)) (some (.d other)), rfl, fun acc => ?_⟩⟩
    have hno := hd.names one ho
    have hnt := hd.names other ho2
    exact ev2_o (x := .d one) rfl (ev2_o (x := .d (.dict (pD made))) (y := .d other) rfl rfl ((ix_ksOf hp (ha other ho2) hnt).1 _)) (in_dictT hno)) (by have := hd.few; omega)
  have eb : (afterOf d).flatMap (fun one => (afterOf d).map fun other => PyData.bool (hasK (kT (ksOf made other)) one)) = ((afterOf d).flatMap fun one => (afterOf d).map fun other => hasK (kT (ksOf made other)) one).map .bool := by
    rw [List.map_flatMap]
    simp [Function.comp_def]
  rw [eb] at lc
  refine ⟨_, evB_b (evL_o (ev_1 lc) any_bools), ?_⟩
  rw [List.any_eq_false]
  constructor
  · intro h x hx z hz hxz
    have := h (hasK (kT (ksOf made z)) x) (List.mem_flatMap.mpr ⟨x, hx, List.mem_map.mpr ⟨z, hz, rfl⟩⟩)
    exact this (((ix_ksOf hp (ha z hz) (hd.names z hz)).2 x).mpr hxz)
  · intro h b hb hb2
    obtain ⟨x, hx, h2⟩ := List.mem_flatMap.mp hb
    obtain ⟨z, hz, e⟩ := List.mem_map.mp h2
    rw [← e] at hb2
    exact h x hx z hz (((ix_ksOf hp (ha z hz) (hd.names z hz)).2 x).mp hb2)
/-- the one ahead of it is past -/
theorem ad_pred {names : List D} (hp : PastIs P made names) {d : D} (hd : DeedL d) (hn : nm2 d ∈ names) (hpr : ∀ m j, nm2 d = nm m j → 1 < j → nm m (j - 1) ∈ P (nm2 d)) {x5 x6 : Option Val} :
    cAnd (evB (ev2 (cmpV .Gt) (ev2 ixV (evVar 4) (evC (.d (.int 1)))) (evC (.d (.int 1))))) (evB (ev2 (cmpV .NotIn) (evTup (evCons (ev2 ixV (evVar 4) (evC (.d (.int 0)))) (evCons (ev2 subV (ev2 ixV (evVar 4) (evC (.d (.int 1)))) (evC (.d (.int 1)))) (evNil)))) (ev2 ixV (evVar 3) (evSl (evVar 4) none (some (evC (.d (.int 2)))))))) (adLoc L row made (some (.d d)) x5 x6) S = .ok false S := by
  have hi := ix_ksOf hp hn hd.name
  obtain ⟨m, j, a, r, rfl, h1, h2, h3⟩ := hd
  have g1 : evB (ev2 (cmpV .Gt) (ev2 ixV (evVar 4) (evC (.d (.int 1)))) (evC (.d (.int 1)))) (adLoc L row made (some (.d (.tuple (.str m :: .int j :: .tuple a :: r)))) x5 x6) S = .ok (decide (1 < j)) S := evB_b (ev2_o (ev2_o (x := .d (.tuple (.str m :: .int j :: .tuple a :: r))) rfl rfl ix_t1) rfl gt_int_)
  by_cases hj : 1 < j
  · have e1 : evTup (evCons (ev2 ixV (evVar 4) (evC (.d (.int 0)))) (evCons (ev2 subV (ev2 ixV (evVar 4) (evC (.d (.int 1)))) (evC (.d (.int 1)))) (evNil))) (adLoc L row made (some (.d (.tuple (.str m :: .int j :: .tuple a :: r)))) x5 x6) S = .ok (.d (.tuple [.str m, .int (j - 1)])) S :=
      evL_o (vs := [PyData.str m, .int (j - 1)].map .d) (ev_2 (ev2_o (x := .d (.tuple (.str m :: .int j :: .tuple a :: r))) rfl rfl ix_t0) (ev2_o (ev2_o (x := .d (.tuple (.str m :: .int j :: .tuple a :: r))) rfl rfl ix_t1) rfl rfl)) (tup_data (sz100 (by show 2 ≤ 100; decide)))
    have e2 : evSl (evVar 4) none (some (evC (.d (.int 2)))) (adLoc L row made (some (.d (.tuple (.str m :: .int j :: .tuple a :: r)))) x5 x6) S = .ok (.d (nm m j)) S := by
      simp [evSl, evPart, evVar]
    have e3 : ev2 ixV (evVar 3) (evSl (evVar 4) none (some (evC (.d (.int 2))))) (adLoc L row made (some (.d (.tuple (.str m :: .int j :: .tuple a :: r)))) x5 x6) S = .ok (.d (dictT (ksOf made (nm m j)))) S := ev2_o (x := .d (.dict (pD made))) rfl e2 (hi.1 S)
    have hk : keyOk (.tuple [.str m, .int (j - 1)]) = true := pred_key (d := nm m j) h2
    have hin : hasK (kT (ksOf made (nm m j))) (nm m (j - 1)) = true := (hi.2 _).mpr (hpr m j rfl hj)
    have g2 : evB (ev2 (cmpV .NotIn) (evTup (evCons (ev2 ixV (evVar 4) (evC (.d (.int 0)))) (evCons (ev2 subV (ev2 ixV (evVar 4) (evC (.d (.int 1)))) (evC (.d (.int 1)))) (evNil)))) (ev2 ixV (evVar 3) (evSl (evVar 4) none (some (evC (.d (.int 2))))))) (adLoc L row made (some (.d (.tuple (.str m :: .int j :: .tuple a :: r)))) x5 x6) S = .ok false S := by
      refine evB_b (ev2_o e1 e3 ?_)
      rw [notin_dictT hk, hin]
      rfl
    have := cAnd_b g1 fun _ => g2
    rw [this, Bool.and_false]
  · rw [decide_eq_false hj] at g1
    exact cAnd_b (q := false) g1 fun z => by cases z
end
/-- are_deeds, of deeds with pasts -/
theorem ad_sys {k : Nat} {L : List D} {P : D → List D} {S : Store} (hT : adT S) (hg : ∀ d ∈ L, DG d) (h : Sys L P) : ∃ b, tab (k + 6) i_are_deeds [.d (.list L)] S = .ok (.d (.bool b)) S ∧ (b = true ↔ ∀ d ∈ L, Heads P d) := by
  obtain ⟨pm, top⟩ := ord_all (met := metL L) h fun x hx => metL_mem.mpr hx
  have hlen : (ordL (metL L) L).length = L.length := pm.length_eq
  have hz := h.few
  have hp := pasts_is h pm top _ (Nat.le_refl _)
  rw [List.take_length] at hp
  have hd : ∀ d ∈ ordL (metL L) L, d ∈ L := fun d z => pm.mem_iff.mp z
  have ha : ∀ d ∈ ordL (metL L) L, ∀ x ∈ afterOf d, x ∈ (ordL (metL L) L).map nm2 := fun d z x hx => (pm.map nm2).mem_iff.mpr (h.closed d (hd d z) x ((h.after d (hd d z) x).mpr (.inl hx)))
  have key : Ends (fnB false 7 (b_are_deeds (tab (k + 5)) (tabL (k + 5))) [.d (.list L)] S) fun v S' => S' = S ∧ ∃ b, v = .d (.bool b) ∧ (b = true ↔ ∀ d ∈ L, Heads P d) := by
    refine en_fn (N := fun _ _ => False) (R := fun v S' => S' = S ∧ ∃ b, v = .d (.bool b) ∧ (b = true ↔ ∀ d ∈ L, Heads P d)) ?_ (fun _ _ z => z.elim) fun v S' ⟨e1, b, e2, e3⟩ => by
      subst e1 e2
      exact .of finR_d ⟨rfl, b, rfl, e3⟩
    show Goes (b_are_deeds (tab (k + 5)) (tabL (k + 5)) [some (.d (.list L)), none, none, none, none, none, none] S) _ _
    unfold b_are_deeds
    refine ad_head hT hg hz (fun z => by rw [nmT_len h.nd, hlen] at z; omega) fun _ => ?_
    have p1 : evCall 1 (tab (k + 5) i_pasts_of) (evCons (evVar 2) (evNil)) [some (.d (.list L)), some (.d (.dict (nmT L))), some (.d (.list (ordL (metL L) L))), none, none, none, none] S = .ok (.d (.dict (pD (pastsF (ordL (metL L) L))))) S :=
      evCall_v (vs := [.d (.list (ordL (metL L) L))]) rfl rfl (pasts_eval (Φ := tab (k + 4)) (U := (ordL (metL L) L).map nm2) (fun d z => h.deed d (hd d z)) ha (by rw [List.length_map]; omega) (by omega))
    refine gs_name (P := fun v S1 => v = .d (.dict (pD (pastsF (ordL (metL L) L)))) ∧ S1 = S) (.of p1 ⟨rfl, rfl⟩) (by simp) fun v S1 ⟨e1, e2⟩ => ?_
    subst e1 e2
    show Goes (sSeq _ _ (adLoc L (ordL (metL L) L) (pastsF (ordL (metL L) L)) none none none) S1) _ _
    refine go_seq (N' := fun l' S' => S' = S1 ∧ ∀ d ∈ ordL (metL L) L, Heads P d) ?_ fun l' S' ⟨e1, e2⟩ => ?_
    · refine go_for (iter_data (e := evVar 2) (ds := ordL (metL L) L) rfl) (fun i l' S' => S' = S1 ∧ (∃ x4 x5 x6, l' = adLoc L (ordL (metL L) L) (pastsF (ordL (metL L) L)) x4 x5 x6) ∧ ∀ d ∈ (ordL (metL L) L).take i, Heads P d) ⟨rfl, ⟨_, _, _, rfl⟩, fun d hd => by simp at hd⟩ (fun i x l' S' hx ⟨e1, ⟨x4, x5, x6, e2⟩, e3⟩ => ?_) fun l' S' ⟨e1, _, e3⟩ => ⟨e1, ?_⟩
      · rw [List.getElem?_map] at hx
        obtain ⟨d, h1, rfl⟩ := Option.map_eq_some_iff.mp hx
        subst e1 e2
        have hdr : d ∈ ordL (metL L) L := List.mem_of_getElem? h1
        have hdL := hd d hdr
        refine ⟨adLoc L (ordL (metL L) L) (pastsF (ordL (metL L) L)) (some (.d d)) x5 x6, rfl, ?_⟩
        obtain ⟨b, g1, g2⟩ := ad_any (L := L) (row := ordL (metL L) L) (S := S') hp (h.deed d hdL) (ha d hdr) (x5 := x5) (x6 := x6)
        refine gs_ret g1 (fun hb => ?_) fun hb => ?_
        · refine go_ret (P := fun v S2 => v = .d (.bool false) ∧ S2 = S') (.ok ⟨rfl, rfl⟩) fun v S2 ⟨z1, z2⟩ => ⟨z2, false, z1, ?_⟩
          constructor
          · intro z
            cases z
          · intro z
            have := g2.mpr (z d hdL)
            rw [hb] at this
            cases this
        · have pr := ad_pred (L := L) (row := ordL (metL L) L) (S := S') hp (h.deed d hdL) (List.mem_map.mpr ⟨d, hdr, rfl⟩) (h.pred d hdL) (x5 := x5) (x6 := x6)
          refine go_if (P := fun p S2 => p = false ∧ S2 = S') (.of pr ⟨rfl, rfl⟩) fun p S2 ⟨z1, z2⟩ => ?_
          subst z1 z2
          show Goes (sNx _ _) _ _
          refine go_nx ⟨rfl, ⟨_, _, _, rfl⟩, fun d' hd' => ?_⟩
          rw [List.take_succ, h1] at hd'
          rcases List.mem_append.mp hd' with z | z
          · exact e3 d' z
          · have : d' = d := by simpa using z
            rw [this]
            exact g2.mp hb
      · rw [List.length_map, List.take_length] at e3
        exact e3
    · subst e1
      refine go_ret (P := fun v S2 => v = .d (.bool true) ∧ S2 = S') (.ok ⟨rfl, rfl⟩) fun v S2 ⟨z1, z2⟩ => ⟨z2, true, z1, fun _ d z => e2 d (pm.mem_iff.mpr z), fun _ => rfl⟩
  obtain ⟨v, S', e, e1, b, e2, e3⟩ := key
  subst e1 e2
  exact ⟨b, e, e3⟩
/-- are_deeds, of names twice -/
theorem ad_twice {k : Nat} {M : List D} {d0 : D} {S : Store} (hT : adT S) (hg : ∀ d ∈ M ++ [d0], DG d) (hz : M.length < 500) (h : nm2 d0 ∈ M.map nm2) : tab (k + 6) i_are_deeds [.d (.list (M ++ [d0]))] S = .ok (.d (.bool false)) S := by
  refine ends_eq (en_fn (k := false) (n := 7) (body := b_are_deeds (tab (k + 5)) (tabL (k + 5))) (N := fun _ _ => False) (R := fun v S' => S' = S ∧ v = .d (.bool false)) ?_ (fun _ _ z => z.elim) fun v S' ⟨e1, e2⟩ => by
    subst e1 e2
    exact .of finR_d ⟨rfl, rfl⟩)
  show Goes (b_are_deeds (tab (k + 5)) (tabL (k + 5)) [some (.d (.list (M ++ [d0]))), none, none, none, none, none, none] S) _ _
  unfold b_are_deeds
  exact ad_head hT hg (by simp; omega) (fun _ => ⟨rfl, rfl⟩) fun z => absurd (.inl (nmT_short h)) z
/-- are_deeds, of deeds that name one that is none of them -/
theorem ad_lacks {k : Nat} {L : List D} {S : Store} (hT : adT S) (hg : ∀ d ∈ L, DG d) (hz : L.length ≤ 500) (nd : (L.map nm2).Nodup) {y x : D} (hy : y ∈ L) (hx : x ∈ afterOf y) (hn : x ∉ L.map nm2) : tab (k + 6) i_are_deeds [.d (.list L)] S = .ok (.d (.bool false)) S := by
  refine ends_eq (en_fn (k := false) (n := 7) (body := b_are_deeds (tab (k + 5)) (tabL (k + 5))) (N := fun _ _ => False) (R := fun v S' => S' = S ∧ v = .d (.bool false)) ?_ (fun _ _ z => z.elim) fun v S' ⟨e1, e2⟩ => by
    subst e1 e2
    exact .of finR_d ⟨rfl, rfl⟩)
  show Goes (b_are_deeds (tab (k + 5)) (tabL (k + 5)) [some (.d (.list L)), none, none, none, none, none, none] S) _ _
  unfold b_are_deeds
  refine ad_head hT hg hz (fun _ => ⟨rfl, rfl⟩) fun z => absurd (.inr (ord_short (fun d hd => (hg d hd).L) nd hz hy hx ?_)) z
  cases e : metL L x with
  | false => rfl
  | true => exact absurd (metL_mem.mp e) hn
end Lw
/-! histories are deeds with pasts -/
namespace Lw
open L2 PySem PySem.Spec FH
structure OneOk (names : List D) (P : D → List D) (d : D) : Prop where
  few : (afterOf d).length ≤ 900
  name : nm2 d ∈ names
  closed : ∀ x ∈ P (nm2 d), x ∈ names
  irr : nm2 d ∉ P (nm2 d)
  trans : ∀ x ∈ P (nm2 d), ∀ y ∈ P x, y ∈ P (nm2 d)
  after : ∀ x, x ∈ P (nm2 d) ↔ (x ∈ afterOf d ∨ ∃ z ∈ afterOf d, x ∈ P z)
  heads : Heads P d
  pred : ∀ m j, nm2 d = nm m j → 1 < j → nm m (j - 1) ∈ P (nm2 d)
  pnd : (P (nm2 d)).Nodup
theorem OneOk.keep {names names' : List D} {P P' : D → List D} {d : D} (h : OneOk names P d) (hs : ∀ x ∈ names, x ∈ names') (hP : ∀ x ∈ names, P' x = P x) : OneOk names' P' d := by
  have e := hP _ h.name
  have ea : ∀ z ∈ afterOf d, P' z = P z := fun z hz => hP z (h.closed z ((h.after z).mpr (.inl hz)))
  refine ⟨h.few, hs _ h.name, ?_, ?_, ?_, fun x => ?_, fun x hx z hz => ?_, ?_, ?_⟩
  · rw [e]
    exact fun x hx => hs x (h.closed x hx)
  · rw [e]
    exact h.irr
  · rw [e]
    intro x hx y hy
    rw [hP x (h.closed x hx)] at hy
    exact h.trans x hx y hy
  · rw [e, h.after x]
    constructor
    · rintro (z | ⟨z, z1, z2⟩)
      · exact .inl z
      · exact .inr ⟨z, z1, by rw [ea z z1]; exact z2⟩
    · rintro (z | ⟨z, z1, z2⟩)
      · exact .inl z
      · exact .inr ⟨z, z1, by rw [ea z z1] at z2; exact z2⟩
  · rw [ea z hz]
    exact h.heads x hx z hz
  · rw [e]
    exact h.pred
  · rw [e]
    exact h.pnd
structure HPast (h : Hs) : Prop where
  one : ∀ d ∈ h.deeds, OneOk (h.deeds.map nm2) (pastOf h.pasts) d
  met : ∀ m ∈ MA, ∀ x ∈ h.met m, ∀ y ∈ pastOf h.pasts x, y ∈ h.met m
theorem mem_heads {ps : List (D × List D)} {ms : List D} (hn : Names ms) (hp : ∀ o ∈ ms, Names (pastOf ps o)) {x : D} : x ∈ headsOf ps ms ↔ x ∈ ms ∧ ∀ o ∈ ms, x ∉ pastOf ps o := by
  unfold headsOf
  rw [List.mem_filter, mem_sortD]
  constructor
  · rintro ⟨h1, h2⟩
    refine ⟨h1, fun o ho z => ?_⟩
    unfold isHead at h2
    rw [Bool.not_eq_true', List.any_eq_false] at h2
    exact h2 o ho ((memB_iff (hn x h1) (hp o ho)).mpr z)
  · rintro ⟨h1, h2⟩
    refine ⟨h1, ?_⟩
    unfold isHead
    rw [Bool.not_eq_true', List.any_eq_false]
    exact fun o ho z => h2 o ho ((memB_iff (hn x h1) (hp o ho)).mp z)
theorem HInv.pastN {i : Nat} {h : Hs} {cnt : Str → Nat} (I : HInv i h cnt) {d : D} (hd : d ∈ h.deeds.map nm2) : Names (pastOf h.pasts d) := by
  obtain ⟨x, h1, h2⟩ := I.look hd
  unfold pastOf
  rw [h1]
  exact h2
theorem meets_past {i : Nat} {h h1 : Hs} {cnt : Str → Nat} {m : Str} (I : HInv i h cnt) (H : HPast h) (hm : m ∈ MA) (M : Meets m h h1) : HPast h1 := by
  cases M with
  | not => exact H
  | yes ho =>
    rename_i o
    refine ⟨H.one, fun x hx a ha y hy => ?_⟩
    simp only [updM] at ha ⊢
    split
    · rename_i e
      rw [if_pos e] at ha
      refine mem_setSort.mpr (List.mem_append.mpr ?_)
      rcases List.mem_append.mp (mem_setSort.mp ha) with z | z
      · exact .inl (H.met m hm a z y hy)
      · exact .inr (H.met o ho a z y hy)
    · rename_i e
      rw [if_neg e] at ha
      exact H.met x hx a ha y hy
theorem does_past {i : Nat} {h h1 : Hs} {cnt : Str → Nat} {m : Str} (I : HInv i h cnt) (H : HPast h) (hi : i < 800) (hm : m ∈ MA) (M : Does m h h1) : HPast h1 := by
  cases M with
  | none _ => exact H
  | new hne hh T =>
    rename_i hand what
    have en := I.num hm
    have fresh : nm m (numOf h m) ∉ h.deeds.map nm2 := fun z => by
      obtain ⟨m', hm', j, e, j1, j2⟩ := I.dn _ z
      simp only [PyData.tuple.injEq, List.cons.injEq, PyData.str.injEq, PyData.int.injEq, and_true] at e
      obtain ⟨rfl, rfl⟩ := e
      omega
    have pN : pastOf (dput h.pasts (nm m (numOf h m)) (h.met m)) (nm m (numOf h m)) = h.met m := by
      unfold pastOf
      rw [dlook_put_self]
      rfl
    have pO : ∀ x ∈ h.deeds.map nm2, pastOf (dput h.pasts (nm m (numOf h m)) (h.met m)) x = pastOf h.pasts x := fun x hx => by
      unfold pastOf
      rw [dlook_put_ne (fun e : x = nm m (numOf h m) => fresh (e ▸ hx))]
    have hmet : ∀ x ∈ h.met m, x ∈ h.deeds.map nm2 := I.met m hm
    have hNm : Names (h.met m) := I.names (by omega) hm
    have hNp : ∀ o ∈ h.met m, Names (pastOf h.pasts o) := fun o ho => I.pastN (hmet o ho)
    have sub : ∀ x ∈ h.deeds.map nm2, x ∈ (h.deeds ++ [newDeed h m hand what]).map nm2 := fun x hx => by
      rw [List.map_append]
      exact List.mem_append_left _ hx
    have eN : nm2 (newDeed h m hand what) = nm m (numOf h m) := rfl
    have eA : afterOf (newDeed h m hand what) = headsOf h.pasts (h.met m) := rfl
    -- what is met is a head, or past of one
    have up : ∀ (k : Nat) (x : D), x ∈ h.met m → 900 - (pastOf h.pasts x).length ≤ k → x ∈ headsOf h.pasts (h.met m) ∨ ∃ z ∈ headsOf h.pasts (h.met m), x ∈ pastOf h.pasts z := by
      have bound : ∀ x ∈ h.met m, (pastOf h.pasts x).length ≤ 801 := fun x hx => by
        obtain ⟨d, hd, rfl⟩ := mem_nm2 (hmet x hx)
        have := nodup_le (H.one d hd).pnd (H.one d hd).closed
        rw [List.length_map] at this
        have := I.few
        omega
      intro k
      induction k with
      | zero =>
        intro x hx hk
        have := bound x hx
        omega
      | succ k ih =>
        intro x hx hk
        by_cases hh : x ∈ headsOf h.pasts (h.met m)
        · exact .inl hh
        · have : ∃ o ∈ h.met m, x ∈ pastOf h.pasts o := by
            refine Classical.byContradiction fun z => hh ((mem_heads hNm hNp).mpr ⟨hx, fun o ho w => z ⟨o, ho, w⟩⟩)
          obtain ⟨o, ho, hxo⟩ := this
          obtain ⟨d, hd, rfl⟩ := mem_nm2 (hmet o ho)
          obtain ⟨dx, hdx, rfl⟩ := mem_nm2 (hmet x hx)
          have h1 : (nm2 dx :: pastOf h.pasts (nm2 dx)).Nodup := List.nodup_cons.mpr ⟨(H.one dx hdx).irr, (H.one dx hdx).pnd⟩
          have h2 := nodup_le h1 fun y hy => by
            rcases List.mem_cons.mp hy with z | z
            · rw [z]
              exact hxo
            · exact (H.one d hd).trans _ hxo y z
          simp only [List.length_cons] at h2
          have := bound _ ho
          rcases ih (nm2 d) ho (by omega) with z | ⟨z, z1, z2⟩
          · exact .inr ⟨_, z, hxo⟩
          · obtain ⟨dz, hdz, rfl⟩ := mem_nm2 (hmet z ((mem_heads hNm hNp).mp z1).1)
            exact .inr ⟨_, z1, (H.one dz hdz).trans _ z2 _ hxo⟩
    refine ⟨fun d hd => ?_, fun x hx a ha y hy => ?_⟩
    · rcases List.mem_append.mp hd with z | z
      · exact (H.one d z).keep sub pO
      · rw [List.mem_singleton.mp z]
        have ph : ∀ z ∈ headsOf h.pasts (h.met m), pastOf (dput h.pasts (nm m (numOf h m)) (h.met m)) z = pastOf h.pasts z := fun z hz => pO z (hmet z ((mem_heads hNm hNp).mp hz).1)
        refine ⟨?_, ?_, ?_, ?_, ?_, fun x => ?_, fun x hx z hz => ?_, ?_, ?_⟩
        · rw [eA]
          unfold headsOf
          refine Nat.le_trans (List.length_filter_le _ _) ?_
          rw [(sortD_perm _).length_eq]
          have := I.mlen hm
          omega
        · rw [List.map_append]
          exact List.mem_append_right _ (by simp)
        · rw [eN, pN]
          exact fun x hx => sub x (hmet x hx)
        · rw [eN, pN]
          exact fun z => fresh (hmet _ z)
        · rw [eN, pN]
          intro x hx y hy
          rw [pO x (hmet x hx)] at hy
          exact H.met m hm x hx y hy
        · rw [eN, pN, eA]
          constructor
          · intro hx
            rcases up _ x hx (Nat.le_refl _) with z | ⟨z, z1, z2⟩
            · exact .inl z
            · exact .inr ⟨z, z1, by rw [ph z z1]; exact z2⟩
          · rintro (z | ⟨z, z1, z2⟩)
            · exact ((mem_heads hNm hNp).mp z).1
            · rw [ph z z1] at z2
              exact H.met m hm z ((mem_heads hNm hNp).mp z1).1 x z2
        · rw [eA] at hx hz
          rw [ph z hz]
          exact ((mem_heads hNm hNp).mp hx).2 z ((mem_heads hNm hNp).mp hz).1
        · intro m' j e hj
          rw [eN] at e
          simp only [PyData.tuple.injEq, List.cons.injEq, PyData.str.injEq, PyData.int.injEq, and_true] at e
          obtain ⟨e1, e2⟩ := e
          rw [eN, pN, ← e1]
          exact I.own m hm (j - 1) (by omega) (by omega)
        · rw [eN, pN]
          exact I.mnd m hm
    · simp only [updM] at ha ⊢
      split
      · rename_i e
        rw [if_pos e] at ha
        refine mem_sortD.mpr (List.mem_append.mpr ?_)
        rcases List.mem_append.mp (mem_sortD.mp ha) with z | z
        · rw [pO a (hmet a z)] at hy
          exact .inl (H.met m hm a z y hy)
        · rw [List.mem_singleton.mp z, pN] at hy
          exact .inl hy
      · rename_i e
        rw [if_neg e] at ha
        rw [pO a (I.met x hx a ha)] at hy
        exact H.met x hx a ha y hy
theorem init_past : HPast init := by
  refine ⟨fun d hd => ?_, fun m hm x hx y hy => ?_⟩
  · have e : d = deed1 := List.mem_singleton.mp hd
    subst e
    have eP : pastOf init.pasts (nm2 deed1) = [] := by
      show ((dlook [(nm "ma" 1, [])] (nm "ma" 1)).getD [] : List D) = []
      rw [dlook, if_pos rfl]
      rfl
    refine ⟨by decide, by simp [init], (by rw [eP]; exact fun x hx => nomatch hx), (by rw [eP]; exact fun z => nomatch z), (by rw [eP]; exact fun x hx => nomatch hx), fun x => ?_, (fun x hx => nomatch (show x ∈ ([] : List D) from hx)), fun m j e hj => ?_, (by rw [eP]; exact List.nodup_nil)⟩
    · rw [eP]
      constructor
      · intro z
        cases z
      · rintro (z | ⟨z, z1, _⟩)
        · cases z
        · cases z1
    · have e2 : nm "ma" 1 = nm m j := e
      simp only [PyData.tuple.injEq, List.cons.injEq, PyData.str.injEq, PyData.int.injEq, and_true] at e2
      omega
  · have hx2 : x ∈ ([nm "ma" 1] : List D) := by
      simp only [init] at hx
      split at hx
      · exact hx
      · cases hx
    rw [List.mem_singleton.mp hx2] at hy
    have eP : pastOf init.pasts (nm "ma" 1) = [] := by
      show ((dlook [(nm "ma" 1, [])] (nm "ma" 1)).getD [] : List D) = []
      rw [dlook, if_pos rfl]
      rfl
    rw [eP] at hy
    cases hy
theorem reach_past {i : Nat} {h : Hs} (R : Reach i h) (hi : i < 800) : HPast h := by
  induction R with
  | zero => exact init_past
  | succ R' hm M Dd ih =>
    obtain ⟨cnt, I⟩ := reach_inv R' (by omega)
    exact does_past (meets_inv I hm M) (meets_past I (ih (by omega)) hm M) (by omega) hm Dd
/-- a history is deeds with pasts -/
theorem hist_sys {i : Nat} {h : Hs} {cnt : Str → Nat} (I : HInv i h cnt) (H : HPast h) (hi : i < 400) : Sys h.deeds (pastOf h.pasts) ∧ (∀ d ∈ h.deeds, DG d) ∧ ∀ d ∈ h.deeds, Heads (pastOf h.pasts) d := by
  have dg : ∀ d ∈ h.deeds, DG d := fun d hd => by
    obtain ⟨h1, h2, h3⟩ := I.deed d hd
    exact ⟨h2, by omega, h1, Nat.le_trans (H.one d hd).few (by decide)⟩
  exact ⟨⟨fun d hd => (dg d hd).L, I.nd, by have := I.few; omega, fun d hd => (H.one d hd).closed, fun d hd => (H.one d hd).irr, fun d hd => (H.one d hd).trans, fun d hd => (H.one d hd).after, fun d hd => (H.one d hd).pred, fun d hd => (H.one d hd).pnd⟩, dg, fun d hd => (H.one d hd).heads⟩
end Lw
/-! what `past` and `are_apart` compute -/
namespace Lw
open L2 PySem PySem.Spec FH
theorem le_anti {a b : D} (ha : isName a = true) (hb : isName b = true) (h : dle a b = true) (h2 : dle b a = true) : a = b := by
  refine Classical.byContradiction fun z => ?_
  have h3 := lt_of_le_ne ha hb h z
  have h4 : (!W.dataLt a b) = true := h2
  rw [h3] at h4
  cases h4
theorem sortD_eq {a b : List D} (hn : Names a) (hp : a.Perm b) : sortD a = sortD b :=
  List.Perm.eq_of_pairwise (le := fun x y => dle x y = true) (fun x y hx hy h1 h2 => le_anti (hn x (mem_sortD.mp hx)) (hn y (hp.mem_iff.mpr (mem_sortD.mp hy))) h1 h2) (sortD_sorted a) (sortD_sorted b) (((sortD_perm a).trans hp).trans (sortD_perm b).symm)
theorem perm_of_mem {a b : List D} (ha : a.Nodup) (hb : b.Nodup) (h : ∀ x, x ∈ a ↔ x ∈ b) : a.Perm b := by
  induction a generalizing b with
  | nil =>
    cases b with
    | nil => exact List.Perm.refl _
    | cons y b => exact absurd ((h y).mpr List.mem_cons_self) (by simp)
  | cons x a ih =>
    obtain ⟨b1, b2, rfl⟩ := List.append_of_mem ((h x).mp List.mem_cons_self)
    rw [List.nodup_cons] at ha
    have hb' : (x :: (b1 ++ b2)).Nodup := (List.perm_middle.nodup_iff).mp hb
    rw [List.nodup_cons] at hb'
    refine ((ih ha.2 hb'.2 fun y => ?_).cons x).trans List.perm_middle.symm
    have := h y
    simp only [List.mem_cons, List.mem_append] at this ⊢
    constructor
    · intro z
      rcases this.mp (.inr z) with w | w | w
      · exact .inl w
      · exact absurd (w ▸ z) ha.1
      · exact .inr w
    · intro z
      rcases this.mpr (z.imp id .inr) with w | w
      · rw [w, ← List.mem_append] at z
        exact absurd z hb'.1
      · exact w
/-- deeds as `are_deeds` wants them -/
structure Deeds (L : List D) (P : D → List D) : Prop where
  dg : ∀ d ∈ L, DG d
  sys : Sys L P
  heads : ∀ d ∈ L, Heads P d
  names : ∀ d ∈ L, Names (P (nm2 d))
theorem Deeds.perm {L L' : List D} {P : D → List D} (h : Deeds L P) (p : L'.Perm L) : Deeds L' P :=
  ⟨fun d hd => h.dg d (p.mem_iff.mp hd), h.sys.perm p, fun d hd => h.heads d (p.mem_iff.mp hd), fun d hd => h.names d (p.mem_iff.mp hd)⟩
section
variable {k : Nat} {L : List D} {P : D → List D} {S : Store}
theorem ad_true (hT : adT S) (h : Deeds L P) : tab (k + 6) i_are_deeds [.d (.list L)] S = .ok (.d (.bool true)) S := by
  obtain ⟨b, e, hb⟩ := ad_sys (k := k) hT h.dg h.sys
  rw [e, hb.mpr h.heads]
theorem need_eval (hT : adT S) (h : Deeds L P) : tab (k + 7) i_need_deeds [.d (.list L)] S = .ok (.d .none) S := by
  refine ends_eq (en_fn (k := false) (n := 1) (body := b_need_deeds (tab (k + 6))) (N := fun _ S' => S' = S) (R := fun _ _ => False) ?_ (fun l' S' e => ?_) (fun _ _ z => z.elim))
  · show Goes (b_need_deeds (tab (k + 6)) [some (.d (.list L))] S) _ _
    unfold b_need_deeds
    have e1 : evB (evCall 1 (tab (k + 6) i_are_deeds) (evCons (evVar 0) (evNil))) [some (.d (.list L))] S = .ok true S := evB_b (evCall_v (vs := [.d (.list L)]) rfl rfl (ad_true hT h))
    refine go_if (P := fun p S1 => p = false ∧ S1 = S) (.of (cNot_b e1) ⟨rfl, rfl⟩) fun p S1 ⟨z1, z2⟩ => ?_
    subst z1 z2
    exact go_nx rfl
  · subst e
    exact .of finR_d ⟨rfl, rfl⟩
theorem names_eval (h : ∀ d ∈ L, DeedL d) (hz : L.length ≤ 500) {ns : List D} (hn : ∀ n ∈ ns, n ∈ L.map nm2) (hl : ns.length ≤ 100) : tab (k + 3) i_need_names [.d (.list L), .d (.list ns)] S = .ok (.d .none) S := by
  have hN : Names (L.map nm2) := fun n hn => by
    obtain ⟨d, hd, rfl⟩ := mem_nm2 hn
    exact (h d hd).name
  refine ends_eq (en_fn (k := false) (n := 5) (body := b_need_names (tab (k + 2))) (N := fun _ S' => S' = S) (R := fun _ _ => False) ?_ (fun l' S' e => ?_) (fun _ _ z => z.elim))
  · show Goes (b_need_names (tab (k + 2)) [some (.d (.list L)), some (.d (.list ns)), none, none, none] S) _ _
    unfold b_need_names
    have e1 : evLC false (evIter (evVar 0)) (tgName 3) [3] (cYes) (evSl (evVar 3) none (some (evC (.d (.int 2))))) [some (.d (.list L)), some (.d (.list ns)), none, none, none] S = .ok (.d (.list (L.map nm2))) S :=
      lc_map (iter_data rfl) nm2 (fun d hd => ⟨[some (.d (.list L)), some (.d (.list ns)), none, some (.d d), none], rfl, fun acc => ⟨rfl, by simp [evSl, evPart, (h d hd).sl2, evVar]⟩⟩) (by omega)
    refine gs_name (P := fun v S1 => v = .d (.list (L.map nm2)) ∧ S1 = S) (.of e1 ⟨rfl, rfl⟩) (by simp) fun v S1 ⟨z1, z2⟩ => ?_
    subst z1 z2
    have e2 : evLC false (evIter (evVar 1)) (tgName 4) [4] (cYes) (evAnd (evCall 1 (tab (k + 2) i_is_name) (evCons (evVar 4) (evNil))) (ev2 (cmpV .In) (evVar 4) (evVar 2))) [some (.d (.list L)), some (.d (.list ns)), some (.d (.list (L.map nm2))), none, none] S1 = .ok (.d (.list (ns.map fun _ => .bool true))) S1 := by
      refine lc_map (iter_data rfl) (fun _ => .bool true) (fun n hn' => ⟨[some (.d (.list L)), some (.d (.list ns)), some (.d (.list (L.map nm2))), none, some (.d n)], rfl, fun acc => ⟨rfl, ?_⟩⟩) (by omega)
      have hnn := hN n (hn n hn')
      have g1 : evCall 1 (tab (k + 2) i_is_name) (evCons (evVar 4) (evNil)) [some (.d (.list L)), some (.d (.list ns)), some (.d (.list (L.map nm2))), none, some (.d n)] (lockS (.d (.list ns)) S1 ++ [.lst acc]) = .ok (.d (.bool true)) (lockS (.d (.list ns)) S1 ++ [.lst acc]) := by
        refine evCall_v (vs := [.d n]) rfl rfl ?_
        rw [t_name k n _ (name_good hnn), hnn]
      have g2 : ev2 (cmpV .In) (evVar 4) (evVar 2) [some (.d (.list L)), some (.d (.list ns)), some (.d (.list (L.map nm2))), none, some (.d n)] (lockS (.d (.list ns)) S1 ++ [.lst acc]) = .ok (.d (.bool true)) (lockS (.d (.list ns)) S1 ++ [.lst acc]) := by
        refine ev2_o (x := .d n) (y := .d (.list (L.map nm2))) rfl rfl ?_
        rw [in_names hnn hN, (memB_iff hnn hN).mpr (hn n hn')]
      exact evAnd_b g1 fun _ => g2
    have e3 : evB (evL allL (evCons (evLC false (evIter (evVar 1)) (tgName 4) [4] (cYes) (evAnd (evCall 1 (tab (k + 2) i_is_name) (evCons (evVar 4) (evNil))) (ev2 (cmpV .In) (evVar 4) (evVar 2)))) (evNil))) [some (.d (.list L)), some (.d (.list ns)), some (.d (.list (L.map nm2))), none, none] S1 = .ok true S1 := by
      have e : ns.map (fun _ => PyData.bool true) = (ns.map fun _ => true).map .bool := by simp [Function.comp_def]
      rw [e] at e2
      have := evB_b (evL_o (ev_1 e2) all_bools)
      rw [this]
      simp [List.all_map, Function.comp_def]
    refine go_if (P := fun p S2 => p = false ∧ S2 = S1) (.of (cNot_b e3) ⟨rfl, rfl⟩) fun p S2 ⟨z1, z2⟩ => ?_
    subst z1 z2
    exact go_nx rfl
  · subst e
    exact .of finR_d ⟨rfl, rfl⟩
/-- the row that is found where all are met -/
noncomputable abbrev rowT (L : List D) : List D := ordL (fun _ => true) L
theorem rowT_ok (h : Sys L P) : (rowT L).Perm L ∧ (∀ a d b, rowT L = a ++ d :: b → ∀ x ∈ P (nm2 d), x ∈ a.map nm2) ∧ PastIs P (pastsF (rowT L)) ((rowT L).map nm2) := by
  obtain ⟨pm, top⟩ := ord_all (met := fun _ => true) h fun _ _ => rfl
  have hp := pasts_is h pm top _ (Nat.le_refl _)
  rw [List.take_length] at hp
  exact ⟨pm, top, hp⟩
theorem met_true : MetIs (evC (.d (.bool true))) [] (fun _ => true) := fun _ _ _ => rfl
theorem pasts_row (h : Sys L P) : tab (k + 1) i_pasts_of [.d (.list (rowT L))] S = .ok (.d (.dict (pD (pastsF (rowT L))))) S := by
  obtain ⟨pm, top, hp⟩ := rowT_ok h
  have hl := pm.length_eq
  have := h.few
  exact pasts_eval (Φ := tab k) (U := (rowT L).map nm2) (fun d z => h.deed d (pm.mem_iff.mp z)) (fun d z x hx => (pm.map nm2).mem_iff.mpr (h.closed d (pm.mem_iff.mp z) x ((h.after d (pm.mem_iff.mp z) x).mpr (.inl hx)))) (by rw [List.length_map]; omega) (by omega)
theorem ord_row (h : Sys L P) (id : LamId) : tabL (k + 2) id (evC (.d (.bool true))) [.d (.list L), .lam id []] S = .ok (.d (.list (rowT L))) S := ord_eval met_true h.deed h.few
def paT (S : Store) : Prop := adT S ∧ hasTab ("past", none) "past.<locals>.<lambda>" S ∧ hasTab ("are_apart", none) "are_apart.<locals>.<lambda>" S
theorem past_eval (hT : paT S) (h : Deeds L P) {n : D} (hn : n ∈ L.map nm2) : tab (k + 8) i_past [.d (.list L), .d n] S = .ok (.d (.list (sortD (P n)))) S := by
  obtain ⟨d, hd, rfl⟩ := mem_nm2 hn
  have hname := (h.sys.deed d hd).name
  refine fnB_ret ?_
  show b_past (tab (k + 7)) (tabL (k + 7)) [some (.d (.list L)), some (.d (nm2 d))] S = _
  unfold b_past
  obtain ⟨pm, top, hp⟩ := rowT_ok h.sys
  have c1 : evCall 1 (tab (k + 7) i_need_deeds) (evCons (evVar 0) (evNil)) [some (.d (.list L)), some (.d (nm2 d))] S = .ok (.d .none) S := evCall_v (vs := [.d (.list L)]) rfl rfl (need_eval hT.1 h)
  have c2 : evCall 2 (tab (k + 7) i_need_names) (evCons (evVar 0) (evCons (evLst false (evCons (evVar 1) (evNil))) (evNil))) [some (.d (.list L)), some (.d (nm2 d))] S = .ok (.d .none) S :=
    evCall_v (vs := [.d (.list L), .d (.list [nm2 d])]) (ev_2 rfl (lst_frz (ds := [nm2 d]) rfl (by simp))) rfl (names_eval (k := k + 4) h.sys.deed h.sys.few (ns := [nm2 d]) (fun n hn => by rw [List.mem_singleton.mp hn]; exact List.mem_map.mpr ⟨d, hd, rfl⟩) (by simp))
  have c3 : evCallL ("past", none) "past.<locals>.<lambda>" [] (tabL (k + 7)) (evC (.d (.bool true))) (evVar 0) [some (.d (.list L)), some (.d (nm2 d))] S = .ok (.d (.list (rowT L))) S :=
    callL_v (v := .d (.list L)) (cd := []) rfl rfl hT.2.1 fun id => ord_row (k := k + 5) h.sys id
  have c4 : evCall 1 (tab (k + 7) i_pasts_of) (evCons (evCallL ("past", none) "past.<locals>.<lambda>" [] (tabL (k + 7)) (evC (.d (.bool true))) (evVar 0)) (evNil)) [some (.d (.list L)), some (.d (nm2 d))] S = .ok (.d (.dict (pD (pastsF (rowT L))))) S :=
    evCall_v (vs := [.d (.list (rowT L))]) (ev_1 c3) rfl (pasts_row (k := k + 6) h.sys)
  have hnr : nm2 d ∈ (rowT L).map nm2 := (pm.map nm2).mem_iff.mpr (List.mem_map.mpr ⟨d, hd, rfl⟩)
  have ix := ix_ksOf hp hnr hname
  obtain ⟨ks, k1, k2, k3⟩ := hp.2 _ hnr
  have ek : ksOf (pastsF (rowT L)) (nm2 d) = ks := by
    unfold ksOf
    rw [k1]
    rfl
  have hks : Names ks := fun x hx => h.names d hd x ((k3 x).mp hx)
  have pk : ks.Perm (P (nm2 d)) := perm_of_mem k2 (h.sys.pnd d hd) k3
  have hlen : ks.length ≤ 500 := by
    rw [pk.length_eq]
    have := nodup_le (h.sys.pnd d hd) (h.sys.closed d hd)
    rw [List.length_map] at this
    have := h.sys.few
    omega
  have c5 : evL sortedL (evCons (ev2 ixV (evCall 1 (tab (k + 7) i_pasts_of) (evCons (evCallL ("past", none) "past.<locals>.<lambda>" [] (tabL (k + 7)) (evC (.d (.bool true))) (evVar 0)) (evNil))) (evVar 1)) (evNil)) [some (.d (.list L)), some (.d (nm2 d))] S = .ok (.d (.list (sortD ks))) S := by
    refine evL_o (vs := [.d (dictT (ksOf (pastsF (rowT L)) (nm2 d)))]) (ev_1 (ev2_o c4 (y := .d (nm2 d)) rfl (ix.1 S))) ?_
    rw [ek, sort_dic (v := .d (dictT ks)) (m := kT ks) rfl rfl (by intro z; simp [dictT]) (by rw [kT_keys]; exact hks) (by simp only [kT, List.length_map]; omega), kT_keys]
  rw [sortD_eq hks pk] at c5
  simp only [sSeq, sDrop, sRet, sW, c1, c2, c5, sNx, SR.thenS]
theorem apart_eval (hT : paT S) (h : Deeds L P) {x y : D} (hx : x ∈ L.map nm2) (hy : y ∈ L.map nm2) : ∃ b, tab (k + 8) i_are_apart [.d (.list L), .d x, .d y] S = .ok (.d (.bool b)) S ∧ (b = true ↔ x ≠ y ∧ x ∉ P y ∧ y ∉ P x) := by
  have hxn : isName x = true := by
    obtain ⟨d, hd, rfl⟩ := mem_nm2 hx
    exact (h.sys.deed d hd).name
  have hyn : isName y = true := by
    obtain ⟨d, hd, rfl⟩ := mem_nm2 hy
    exact (h.sys.deed d hd).name
  obtain ⟨pm, top, hp⟩ := rowT_ok h.sys
  have c1 : evCall 1 (tab (k + 7) i_need_deeds) (evCons (evVar 0) (evNil)) [some (.d (.list L)), some (.d x), some (.d y), none] S = .ok (.d .none) S := evCall_v (vs := [.d (.list L)]) rfl rfl (need_eval hT.1 h)
  have c2 : evCall 2 (tab (k + 7) i_need_names) (evCons (evVar 0) (evCons (evLst false (evCons (evVar 1) (evCons (evVar 2) (evNil)))) (evNil))) [some (.d (.list L)), some (.d x), some (.d y), none] S = .ok (.d .none) S :=
    evCall_v (vs := [.d (.list L), .d (.list [x, y])]) (ev_2 rfl (lst_frz (ds := [x, y]) rfl (by simp))) rfl (names_eval (k := k + 4) h.sys.deed h.sys.few (ns := [x, y]) (fun n hn => by
      simp only [List.mem_cons, List.not_mem_nil, or_false] at hn
      rcases hn with rfl | rfl
      · exact hx
      · exact hy) (by simp))
  have c3 : evCallL ("are_apart", none) "are_apart.<locals>.<lambda>" [] (tabL (k + 7)) (evC (.d (.bool true))) (evVar 0) [some (.d (.list L)), some (.d x), some (.d y), none] S = .ok (.d (.list (rowT L))) S :=
    callL_v (v := .d (.list L)) (cd := []) rfl rfl hT.2.2 fun id => ord_row (k := k + 5) h.sys id
  have c4 : evCall 1 (tab (k + 7) i_pasts_of) (evCons (evCallL ("are_apart", none) "are_apart.<locals>.<lambda>" [] (tabL (k + 7)) (evC (.d (.bool true))) (evVar 0)) (evNil)) [some (.d (.list L)), some (.d x), some (.d y), none] S = .ok (.d (.dict (pD (pastsF (rowT L))))) S :=
    evCall_v (vs := [.d (.list (rowT L))]) (ev_1 c3) rfl (pasts_row (k := k + 6) h.sys)
  have ixx := ix_ksOf hp ((pm.map nm2).mem_iff.mpr hx) hxn
  have ixy := ix_ksOf hp ((pm.map nm2).mem_iff.mpr hy) hyn
  have ne : cmpV .NotEq (.d x) (.d y) S = some (.d (.bool (!PyData.eqv x y)), S) := by
    simp only [cmpV, cmpB, eqB, toP, name_shaped hxn, name_shaped hyn]
    rfl
  have e1 : ev2 (cmpV .NotEq) (evVar 1) (evVar 2) [some (.d (.list L)), some (.d x), some (.d y), some (.d (.dict (pD (pastsF (rowT L)))))] S = .ok (.d (.bool (!PyData.eqv x y))) S := ev2_o (x := .d x) (y := .d y) rfl rfl ne
  have e2 : ev2 (cmpV .NotIn) (evVar 1) (ev2 ixV (evVar 3) (evVar 2)) [some (.d (.list L)), some (.d x), some (.d y), some (.d (.dict (pD (pastsF (rowT L)))))] S = .ok (.d (.bool (!hasK (kT (ksOf (pastsF (rowT L)) y)) x))) S := ev2_o (x := .d x) rfl (ev2_o (x := .d (.dict (pD (pastsF (rowT L))))) (y := .d y) rfl rfl (ixy.1 S)) (notin_dictT (name_keyOk hxn))
  have e3 : ev2 (cmpV .NotIn) (evVar 2) (ev2 ixV (evVar 3) (evVar 1)) [some (.d (.list L)), some (.d x), some (.d y), some (.d (.dict (pD (pastsF (rowT L)))))] S = .ok (.d (.bool (!hasK (kT (ksOf (pastsF (rowT L)) x)) y))) S := ev2_o (x := .d y) rfl (ev2_o (x := .d (.dict (pD (pastsF (rowT L))))) (y := .d x) rfl rfl (ixx.1 S)) (notin_dictT (name_keyOk hyn))
  have e4 := evAnd_b e1 fun _ => evAnd_b e2 fun _ => e3
  refine ⟨_, fnB_ret (body := b_are_apart (tab (k + 7)) (tabL (k + 7))) (x := .bool ((!PyData.eqv x y) && ((!hasK (kT (ksOf (pastsF (rowT L)) y)) x) && !hasK (kT (ksOf (pastsF (rowT L)) x)) y))) ?_, ?_⟩
  · show b_are_apart (tab (k + 7)) (tabL (k + 7)) [some (.d (.list L)), some (.d x), some (.d y), none] S = _
    unfold b_are_apart
    simp only [sSeq, sDrop, sSet, sRet, sW, c1, c2, c4, sNx, SR.thenS, goT, tgName, List.length_cons, List.length_nil, Nat.lt_add_one, if_true, List.set_cons_succ, List.set_cons_zero, Nat.reduceAdd, Nat.reduceLT, e4]
  · simp only [Bool.and_eq_true, Bool.not_eq_true']
    rw [← Bool.not_eq_true, ← Bool.not_eq_true, ixy.2, ← Bool.not_eq_true, ixx.2, eqv_name hxn hyn]
end
end Lw
/-! deeds turned about -/
namespace Lw
open L2 PySem PySem.Spec FH
def GoodL (L : List D) : Prop := ∀ d ∈ L, goodD d = true ∧ d.depth ≤ 50
theorem GoodL.shaped {L : List D} (h : GoodL L) : SeqAt.shaped (.list L) = true := by
  refine shaped_good (by rw [goodD]; exact good_of fun d hd => (h d hd).1) ?_
  rw [PyData.depth]
  have := depthAll_le (k := 50) fun d hd => (h d hd).2
  omega
theorem ne_nil_ref {S : Store} {n : Nat} {L : List D} (hS : S[n]? = some (.lst (L.map .d))) (h : GoodL L) : cmpV .NotEq (.ref n) (.d (.list [])) S = some (.d (.bool (!decide (L = []))), S) := by
  have s2 : SeqAt.shaped (.list []) = true := by decide
  simp only [cmpV, cmpB, eqB, toP, asL, hS, allD_map, Option.map_some, h.shaped, s2, and_self, if_true]
  cases L with
  | nil => rfl
  | cons a b => rfl
theorem eraseIdx_perm {α : Type} : ∀ {l : List α} {i : Nat} {x : α}, l[i]? = some x → (x :: l.eraseIdx i).Perm l
  | [], i, x, h => by cases h
  | a :: l, 0, x, h => by
    cases h
    exact List.Perm.refl _
  | a :: l, i + 1, x, h => by
    have h' : l[i]? = some x := h
    show (x :: a :: l.eraseIdx i).Perm (a :: l)
    exact (List.Perm.swap _ _ _).trans ((eraseIdx_perm h').cons a)
abbrev shLoc (ns : List Int) (t : Nat) (L : List D) (n : Nat) : FH.Loc := [some (.scr ns), some (.ref t), some (.d (.list L)), some (.ref n), some (.ref (n + 1))]
def shT (left made : List D) : Store := [.lst (left.map .d), .lst (made.map .d)]
section
variable {S : Store} {left made : List D}
theorem sh0 : (S ++ shT left made)[S.length]? = some (.lst (left.map .d)) := by simp [shT]
theorem sh1 : (S ++ shT left made)[S.length + 1]? = some (.lst (made.map .d)) := by simp [shT]
end
def ShufOk (f : Fn) : Prop := ∀ (ns : List Int) (t : Nat) (L : List D) (S : Store), Town S t → GoodL L → L.length ≤ 500 → Ends (f [.scr ns, .ref t, .d (.list L)] S) fun v S' => Tw S t S' ∧ ∃ L', L'.Perm L ∧ v = .d (.list L')
theorem shuf_ok {Φ : Tab} (hd : DrawOk (Φ i__law_draw)) : ShufOk (fnB false 5 (b__law_shuffled Φ)) := by
  intro ns t L S ht hg hz
  refine en_fn (N := fun _ _ => False) (R := fun v S' => ∃ Sa made, Tw S t Sa ∧ made.Perm L ∧ v = .ref (S.length + 1) ∧ S' = Sa ++ shT [] made) ?_ (fun _ _ z => z.elim) fun v S' ⟨Sa, made, tw, pm, e1, e2⟩ => ?_
  · show Goes (b__law_shuffled Φ [some (.scr ns), some (.ref t), some (.d (.list L)), none, none] S) _ _
    unfold b__law_shuffled
    have l1 : evL listO (evCons (evVar 2) (evNil)) [some (.scr ns), some (.ref t), some (.d (.list L)), none, none] S = .ok (.ref S.length) (S ++ [.lst (L.map .d)]) := evL_v (vs := [.d (.list L)]) (r := (.ref S.length, S ++ [.lst (L.map .d)])) rfl rfl
    have l2 : evLst true evNil [some (.scr ns), some (.ref t), some (.d (.list L)), none, none] (S ++ [.lst (L.map .d)]) = .ok (.ref (S.length + 1)) (S ++ shT L []) := by
      rw [lst_own (vs := []) rfl (by decide)]
      simp [shT]
    refine gs_par (P := fun vs S1 => vs = [.ref S.length, .ref (S.length + 1)] ∧ S1 = S ++ shT L []) (.of (evCons_v l1 (evCons_v l2 rfl)) ⟨rfl, rfl⟩) fun vs S1 ⟨e1, e2⟩ => ?_
    subst e1 e2
    refine ⟨shLoc ns t L S.length, rfl, ?_⟩
    refine go_seq (N' := fun l' S' => l' = shLoc ns t L S.length ∧ ∃ Sa made, Tw S t Sa ∧ made.Perm L ∧ S' = Sa ++ shT [] made) ?_ fun l' S' ⟨e1, Sa, made, tw, pm, e2⟩ => ?_
    · refine go_wh (fun k l' S' => l' = shLoc ns t L S.length ∧ ∃ Sa left made, Tw S t Sa ∧ (made ++ left).Perm L ∧ S' = Sa ++ shT left made ∧ left.length = k) (fun k l' S' ⟨e1, Sa, left, made, tw, pm, e2, ek⟩ => ?_) (m := L.length) ⟨rfl, S, L, [], ht.refl, List.Perm.refl _, rfl, rfl⟩ (by omega)
      subst e1 e2
      have hl : Sa.length = S.length := tw.len
      have gl : GoodL left := fun d hd => hg d (pm.mem_iff.mp (List.mem_append_right _ hd))
      have len1 : made.length + left.length = L.length := by
        have := pm.length_eq
        rw [List.length_append] at this
        exact this
      have c0 : (Sa ++ shT left made)[S.length]? = some (.lst (left.map .d)) := by
        rw [← hl]
        exact sh0
      have c1 : (Sa ++ shT left made)[S.length + 1]? = some (.lst (made.map .d)) := by
        rw [← hl]
        exact sh1
      have ct : evB (ev2 (cmpV .NotEq) (evVar 3) (evLst false (evNil))) (shLoc ns t L S.length) (Sa ++ shT left made) = .ok (!decide (left = [])) (Sa ++ shT left made) := evB_b (ev2_o (x := .ref S.length) rfl (lst_frz (ds := []) rfl (by decide)) (ne_nil_ref c0 gl))
      refine ⟨_, ct, fun hb => ?_, fun hb => ?_⟩
      · have hne : left ≠ [] := by simpa using hb
        have hpos : 0 < left.length := List.length_pos_iff.mpr hne
        have ln : lenL [.ref S.length] (Sa ++ shT left made) = some (.d (.int left.length), Sa ++ shT left made) := by
          simp [lenL, lenN, asDic, asL, c0]
        obtain ⟨r, S1, w1, r0, r1, e1⟩ := hd ns t left.length (Sa ++ shT left made) (town_app (tw.town ht.lt)) (by omega) (by omega)
        obtain ⟨Sb, tb, e2⟩ := tw_app (tw.town ht.lt).lt w1
        subst e2
        have hb' : Sb.length = S.length := by rw [tb.len, hl]
        have d0 : (Sb ++ shT left made)[S.length]? = some (.lst (left.map .d)) := by
          rw [← hb']
          exact sh0
        have rl : r.toNat < left.length := by omega
        have hx : left[r.toNat]? = some left[r.toNat] := List.getElem?_eq_getElem rl
        generalize left[r.toNat] = x at hx
        have p1 : popL (.ref S.length) [.d (.int r)] (Sb ++ shT left made) = some (.d x, Sb ++ shT (left.eraseIdx r.toNat) made) := by
          have ixn : ixN (left.map Val.d).length r = some r.toNat := by
            rw [List.length_map]
            simp [ixN, r0, r1]
          unfold popL
          simp only [d0, ixn, List.getElem?_map, hx, Option.map_some]
          unfold putO
          rw [← map_erase, ← hb']
          simp [shT]
        have dr : evCall 3 (Φ i__law_draw) (evCons (evVar 0) (evCons (evVar 1) (evCons (evL lenL (evCons (evVar 3) (evNil))) (evNil)))) (shLoc ns t L S.length) (Sa ++ shT left made) = .ok (.d (.int r)) (Sb ++ shT left made) :=
          evCall_v (vs := [.scr ns, .ref t, .d (.int left.length)]) (evCons_v rfl (evCons_v rfl (evCons_v (evL_o (vs := [.ref S.length]) rfl ln) rfl))) rfl e1
        have q1 : evM "list" popL (evVar 3) (evCons (evCall 3 (Φ i__law_draw) (evCons (evVar 0) (evCons (evVar 1) (evCons (evL lenL (evCons (evVar 3) (evNil))) (evNil))))) (evNil)) (shLoc ns t L S.length) (Sa ++ shT left made) = .ok (.d x) (Sb ++ shT (left.eraseIdx r.toNat) made) :=
          evM_v (v := .ref S.length) (vs := [.d (.int r)]) (S1 := Sa ++ shT left made) (S2 := Sb ++ shT left made) (r := (.d x, Sb ++ shT (left.eraseIdx r.toNat) made)) rfl (kind_lst c0) (evCons_v dr rfl) p1
        have d1 : (Sb ++ shT (left.eraseIdx r.toNat) made)[S.length + 1]? = some (.lst (made.map .d)) := by
          rw [← hb']
          exact sh1
        have q2 : evM "list" appM (evVar 4) (evCons (evM "list" popL (evVar 3) (evCons (evCall 3 (Φ i__law_draw) (evCons (evVar 0) (evCons (evVar 1) (evCons (evL lenL (evCons (evVar 3) (evNil))) (evNil))))) (evNil))) (evNil)) (shLoc ns t L S.length) (Sa ++ shT left made) = .ok (.d .none) (Sb ++ shT (left.eraseIdx r.toNat) (made ++ [x])) := by
          refine evM_v (v := .ref (S.length + 1)) (vs := [.d x]) (S1 := Sa ++ shT left made) (S2 := Sb ++ shT (left.eraseIdx r.toNat) made) (r := (.d .none, Sb ++ shT (left.eraseIdx r.toNat) (made ++ [x]))) rfl (kind_lst c1) (evCons_v q1 rfl) ?_
          rw [app_v d1 (by rw [List.length_map]; omega), ← hb']
          simp [shT]
        refine go_drop (P := fun v S' => S' = Sb ++ shT (left.eraseIdx r.toNat) (made ++ [x])) (.of q2 rfl) fun v S' e => ⟨(left.eraseIdx r.toNat).length, ?_, rfl, Sb, left.eraseIdx r.toNat, made ++ [x], tw.trans tb, ?_, e, rfl⟩
        · rw [List.length_eraseIdx, if_pos rl]
          omega
        · rw [List.append_assoc]
          exact ((eraseIdx_perm hx).append_left made).trans pm
      · have hne : left = [] := by simpa using hb
        subst hne
        exact ⟨rfl, Sa, made, tw, by simpa using pm, rfl⟩
    · subst e1 e2
      refine go_ret (P := fun v S' => v = .ref (S.length + 1) ∧ S' = Sa ++ shT [] made) (.ok ⟨rfl, rfl⟩) fun v S' ⟨z1, z2⟩ => ⟨Sa, made, tw, pm, z1, z2⟩
  · subst e1 e2
    have hl : Sa.length = S.length := tw.len
    refine .of (a := .d (.list made)) (S := Sa) ?_ ⟨tw, made, pm, rfl⟩
    have f : freezeV (.ref (S.length + 1)) (Sa ++ shT [] made) = some (.d (.list made), Sa ++ [.lst [], .gone]) := by
      have c1 : (Sa ++ shT [] made)[S.length + 1]? = some (.lst (made.map .d)) := by
        rw [← hl]
        exact sh1
      unfold freezeV
      simp only [c1, allD_map]
      rw [← hl]
      simp [shT]
    unfold finR
    rw [if_neg (by decide)]
    simp only
    rw [if_pos (by omega), f]
    simp only
    unfold popO
    have co : cutOk S (Sa ++ [.lst [], .gone]) := fun i o hi e => by
      rw [List.getElem?_append_left (by omega)] at e
      exact tw.cut i o hi e
    rw [if_pos ⟨co, trivial⟩, ← hl]
    simp
theorem t_shuf (k : Nat) : ShufOk (tab (k + 2) i__law_shuffled) := shuf_ok (Φ := tab (k + 1)) (t_draw k)
end Lw
/-! deeds left out, deeds bent: the plain law -/
namespace Lw
open L2 PySem PySem.Spec FH
theorem eqv_self {d : D} (h : goodD d = true) : PyData.eqv d d = true := SeqAt.eqv_refl d (good_lay h)
theorem eqv_nm2 {d e : D} (hd : DeedL d) (he : DeedL e) (h : PyData.eqv d e = true) : nm2 d = nm2 e := by
  obtain ⟨m, j, a, r, rfl, _⟩ := hd
  obtain ⟨m', j', a', r', rfl, _⟩ := he
  simp only [PyData.eqv, PyData.eqvAll, Bool.and_eq_true] at h
  have h1 : m = m' := by simpa [PyData.eqv] using h.1
  have h2 : j = j' := by simpa [PyData.eqv] using h.2.1
  rw [h1, h2]
  rfl
theorem nm2_inj {L : List D} (nd : (L.map nm2).Nodup) {d e : D} (hd : d ∈ L) (he : e ∈ L) (h : nm2 d = nm2 e) : d = e := by
  induction L with
  | nil => cases hd
  | cons x L ih =>
    rw [List.map_cons, List.nodup_cons] at nd
    rcases List.mem_cons.mp hd with z | z
    · rcases List.mem_cons.mp he with w | w
      · rw [z, w]
      · exact absurd (List.mem_map.mpr ⟨e, w, by rw [← h, z]⟩) nd.1
    · rcases List.mem_cons.mp he with w | w
      · exact absurd (List.mem_map.mpr ⟨d, z, by rw [h, w]⟩) nd.1
      · exact ih nd.2 z w
theorem eqv_deed {L : List D} {P : D → List D} (h : Deeds L P) {d e : D} (hd : d ∈ L) (he : e ∈ L) : PyData.eqv d e = true ↔ d = e := by
  constructor
  · exact fun z => nm2_inj h.sys.nd hd he (eqv_nm2 (h.sys.deed d hd) (h.sys.deed e he) z)
  · intro z
    rw [z]
    exact eqv_self (h.dg e he).good
/-- who names it -/
theorem named_by {L : List D} {P : D → List D} (h : Sys L P) {g : D} : ∀ (k : Nat) {d : D}, d ∈ L → (P (nm2 d)).length ≤ k → g ∈ P (nm2 d) → ∃ y ∈ L, g ∈ afterOf y
  | 0, d, hd, hk, hg => by
    have := List.length_pos_of_mem hg
    omega
  | k + 1, d, hd, hk, hg => by
    rcases (h.after d hd g).mp hg with z | ⟨z, z1, z2⟩
    · exact ⟨d, hd, z⟩
    · have hz := (h.after d hd z).mpr (.inl z1)
      have hl := h.less hd hz
      obtain ⟨e, he, rfl⟩ := mem_nm2 (h.closed d hd z hz)
      exact named_by h k he (by omega) z2
/-- deeds without one that is past of none -/
theorem without {L : List D} {P : D → List D} (h : Deeds L P) {g : D} (hg : g ∈ L) {p : D → Bool} (hp : ∀ d ∈ L, p d = true ↔ d ≠ g) (no : ∀ d ∈ L, nm2 g ∉ P (nm2 d)) : Deeds (L.filter p) P := by
  have sub : ∀ d ∈ L.filter p, d ∈ L := fun d hd => (List.mem_filter.mp hd).1
  have s := h.sys
  refine ⟨fun d hd => h.dg d (sub d hd), ⟨fun d hd => s.deed d (sub d hd), s.nd.sublist (List.Sublist.map _ List.filter_sublist), Nat.le_trans (List.length_filter_le _ _) s.few, fun d hd x hx => ?_, fun d hd => s.irr d (sub d hd), fun d hd => s.trans d (sub d hd), fun d hd => s.after d (sub d hd), fun d hd => s.pred d (sub d hd), fun d hd => s.pnd d (sub d hd)⟩, fun d hd => h.heads d (sub d hd), fun d hd => h.names d (sub d hd)⟩
  obtain ⟨e, he, rfl⟩ := mem_nm2 (s.closed d (sub d hd) x hx)
  refine List.mem_map.mpr ⟨e, List.mem_filter.mpr ⟨he, (hp e he).mpr fun z => ?_⟩, rfl⟩
  rw [z] at hx
  exact no d (sub d hd) hx
/-- deeds without one that is past of some -/
theorem lacking {L : List D} {P : D → List D} (h : Deeds L P) {g : D} (hg : g ∈ L) {p : D → Bool} (hp : ∀ d ∈ L, p d = true ↔ d ≠ g) {d : D} (hd : d ∈ L) (hgd : nm2 g ∈ P (nm2 d)) :
    (∃ y ∈ L.filter p, nm2 g ∈ afterOf y) ∧ nm2 g ∉ (L.filter p).map nm2 ∧ ((L.filter p).map nm2).Nodup := by
  have s := h.sys
  refine ⟨?_, fun z => ?_, s.nd.sublist (List.Sublist.map _ List.filter_sublist)⟩
  · obtain ⟨y, hy, hgy⟩ := named_by s _ hd (Nat.le_refl _) hgd
    refine ⟨y, List.mem_filter.mpr ⟨hy, (hp y hy).mpr fun z => ?_⟩, hgy⟩
    have := (s.after y hy _).mpr (.inl hgy)
    rw [z] at this
    exact s.irr g hg this
  · obtain ⟨e, he, e2⟩ := mem_nm2 z
    obtain ⟨h1, h2⟩ := List.mem_filter.mp he
    exact (hp e h1).mp h2 (nm2_inj s.nd h1 hg e2)
/-- a deed that names one more -/
noncomputable def bentD (d : D) (after : List D) : D := match d with
  | .tuple (m :: n :: _ :: r) => .tuple (m :: n :: .tuple after :: r)
  | d => d
theorem bent_sys {L : List D} {P : D → List D} (h : Deeds L P) {d : D} (hd : d ∈ L) {x : D} (hx : x ∈ P (nm2 d)) (hn : x ∉ afterOf d) {f : D → D} (hf1 : f d = bentD d (sortD (afterOf d ++ [x]))) (hf2 : ∀ e ∈ L, e ≠ d → f e = e) (hfew : (afterOf d).length ≤ 900) (hnd : (afterOf d).Nodup) :
    (∀ e ∈ L.map f, DG e) ∧ Sys (L.map f) P ∧ ¬ ∀ e ∈ L.map f, Heads P e := by
  classical
  have s := h.sys
  have hdg := h.dg d hd
  obtain ⟨m, n, a, hand, w, r, ed⟩ := deed_shape hdg.is
  have ea : afterOf d = a := by rw [ed]; rfl
  have eb : bentD d (sortD (afterOf d ++ [x])) = .tuple [.str m, .int n, .tuple (sortD (a ++ [x])), .str hand, .tuple (.str w :: r)] := by
    rw [ea, ed]
    rfl
  rw [ea] at hfew hnd hn
  have hxn : isName x = true := h.names d hd x hx
  have han : Names a := by
    have := (s.deed d hd).names
    rw [ea] at this
    exact this
  have hsn : Names (a ++ [x]) := fun y hy => by
    rcases List.mem_append.mp hy with z | z
    · exact han y z
    · rw [List.mem_singleton.mp z]
      exact hxn
  have hsd : (a ++ [x]).Nodup := List.nodup_append.mpr ⟨hnd, by simp, fun u hu v hv => by
    rw [List.mem_singleton.mp hv]
    exact fun e => hn (e ▸ hu)⟩
  generalize hdb : bentD d (sortD (afterOf d ++ [x])) = db at hf1 eb
  have nb : nm2 db = nm2 d := by
    rw [eb, ed]
    rfl
  have ab : afterOf db = sortD (a ++ [x]) := by
    rw [eb]
    rfl
  have mab : ∀ y, y ∈ afterOf db ↔ y ∈ a ∨ y = x := fun y => by
    rw [ab, mem_sortD, List.mem_append, List.mem_singleton]
  have fm : ∀ e ∈ L.map f, (e ∈ L ∧ e ≠ d) ∨ e = db := fun e he => by
    obtain ⟨e0, h0, rfl⟩ := List.mem_map.mp he
    by_cases z : e0 = d
    · rw [z, hf1]
      exact .inr rfl
    · rw [hf2 e0 h0 z]
      exact .inl ⟨h0, z⟩
  have fn : (L.map f).map nm2 = L.map nm2 := by
    rw [List.map_map]
    refine List.map_congr_left fun e he => ?_
    show nm2 (f e) = nm2 e
    by_cases z : e = d
    · rw [z, hf1, nb]
    · rw [hf2 e he z]
  have aft : ∀ y, y ∈ P (nm2 d) ↔ (y ∈ afterOf db ∨ ∃ z ∈ afterOf db, y ∈ P z) := fun y => by
    rw [s.after d hd y, ea]
    constructor
    · rintro (z | ⟨z, z1, z2⟩)
      · exact .inl ((mab y).mpr (.inl z))
      · exact .inr ⟨z, (mab z).mpr (.inl z1), z2⟩
    · rintro (z | ⟨z, z1, z2⟩)
      · rcases (mab y).mp z with w | w
        · exact .inl w
        · rw [w]
          have := (s.after d hd x).mp hx
          rw [ea] at this
          exact this
      · rcases (mab z).mp z1 with w | w
        · exact .inr ⟨z, w, z2⟩
        · rw [w] at z2
          have := (s.after d hd y).mp (s.trans d hd x hx y z2)
          rw [ea] at this
          exact this
  have dgb : DG db := by
    have hi := hdg.is
    have hg := hdg.good
    have hdep := hdg.depth
    rw [ed] at hi hg hdep
    simp only [isDeed, Bool.and_eq_true] at hi
    refine ⟨?_, ?_, ?_, ?_⟩
    · rw [eb]
      simp only [goodD, goodAll, Bool.and_eq_true] at hg ⊢
      exact ⟨hg.1, hg.2.1, good_of fun y hy => name_good (hsn y (mem_sortD.mp hy)), hg.2.2.2⟩
    · rw [eb]
      have h1 : PyData.depthAll (sortD (a ++ [x])) ≤ 1 := depthAll_le fun y hy => name_depth (hsn y (mem_sortD.mp hy))
      simp only [PyData.depth, PyData.depthAll] at hdep ⊢
      omega
    · rw [eb]
      simp only [isDeed, Bool.and_eq_true]
      exact ⟨⟨⟨⟨hi.1.1.1.1, List.all_eq_true.mpr fun y hy => hsn y (mem_sortD.mp hy)⟩, hi.1.1.2⟩, hi.1.2⟩, adj_all (fun y hy => hsn y (mem_sortD.mp hy)) (sortD_sorted _) ((sortD_perm _).nodup_iff.mpr hsd)⟩
    · rw [ab, (sortD_perm _).length_eq, List.length_append]
      simp only [List.length_singleton]
      omega
  refine ⟨fun e he => ?_, ⟨fun e he => ?_, by rw [fn]; exact s.nd, by rw [List.length_map]; exact s.few, fun e he y hy => ?_, fun e he => ?_, fun e he => ?_, fun e he => ?_, fun e he => ?_, fun e he => ?_⟩, fun z => ?_⟩
  · rcases fm e he with ⟨w, _⟩ | w
    · exact h.dg e w
    · rw [w]
      exact dgb
  · rcases fm e he with ⟨w, _⟩ | w
    · exact s.deed e w
    · rw [w]
      exact dgb.L
  · rw [fn]
    rcases fm e he with ⟨w, _⟩ | w
    · exact s.closed e w y hy
    · rw [w, nb] at hy
      exact s.closed d hd y hy
  · rcases fm e he with ⟨w, _⟩ | w
    · exact s.irr e w
    · rw [w, nb]
      exact s.irr d hd
  · rcases fm e he with ⟨w, _⟩ | w
    · exact s.trans e w
    · rw [w, nb]
      exact s.trans d hd
  · rcases fm e he with ⟨w, _⟩ | w
    · exact s.after e w
    · rw [w, nb]
      exact aft
  · rcases fm e he with ⟨w, _⟩ | w
    · exact s.pred e w
    · rw [w, nb]
      exact s.pred d hd
  · rcases fm e he with ⟨w, _⟩ | w
    · exact s.pnd e w
    · rw [w, nb]
      exact s.pnd d hd
  · have hdb' : db ∈ L.map f := List.mem_map.mpr ⟨d, hd, hf1⟩
    have hh := z db hdb'
    rcases (s.after d hd x).mp hx with w | ⟨o, o1, o2⟩
    · rw [ea] at w
      exact hn w
    · rw [ea] at o1
      exact hh x ((mab x).mpr (.inr rfl)) o ((mab o).mpr (.inl o1)) o2
end Lw
/-! the law k02 -/
namespace Lw
open L2 PySem PySem.Spec FH
/-- the tables of code objects that the law's run writes -/
def S0 : Store := [.tab ("are_deeds", none) "are_deeds.<locals>.<lambda>", .tab ("past", none) "past.<locals>.<lambda>", .tab ("are_apart", none) "are_apart.<locals>.<lambda>"]
abbrev T0 : Store := S0 ++ [tw 0 0]
theorem pa_of {S : Store} (h : Tw T0 3 S) : paT S := by
  obtain ⟨p, q, _, _, rfl⟩ := h
  exact ⟨⟨0, rfl⟩, ⟨1, rfl⟩, ⟨2, rfl⟩⟩
theorem iter_dict {e : Ev} {l : FH.Loc} {S : Store} {m : List (D × D)} (h : e l S = .ok (.d (.dict m)) S) : evIter e l S = .ok ((m.map (·.1)).map .d, .d (.dict m)) S := by
  simp [evIter, h, itemsOf, asDic, Function.comp_def]
theorem notin_names {a : D} {ds : List D} {S : Store} (ha : isName a = true) (h : Names ds) : cmpV .NotIn (.d a) (.d (.list ds)) S = some (.d (.bool (!memB a ds)), S) := by
  simp only [cmpV, cmpB, inB, asDic, inLst, toP, name_shaped ha, h.shaped]
  rfl
theorem notin_tup {a : D} {ds : List D} {S : Store} (ha : isName a = true) (h : Names ds) : cmpV .NotIn (.d a) (.d (.tuple ds)) S = some (.d (.bool (!memB a ds)), S) := by
  have s1 : SeqAt.shaped (.tuple ds) = true := shaped_good (by rw [goodD]; exact h.good) (by rw [PyData.depth]; have := h.depth; omega)
  have f1 : flatD a = false := by
    obtain ⟨x, i, rfl⟩ := name_shape ha
    rfl
  simp only [cmpV, cmpB, inB, inTup, f1, name_shaped ha, s1]
  rfl
theorem ne_shaped {a b : D} {S : Store} (ha : SeqAt.shaped a = true) (hb : SeqAt.shaped b = true) : cmpV .NotEq (.d a) (.d b) S = some (.d (.bool (!PyData.eqv a b)), S) := by simp [cmpV, cmpB, eqB, toP, ha, hb]
theorem isnot_v {b c : Bool} {a : Ev} {l : FH.Loc} {S : Store} (h : a l S = .ok (.d (.bool b)) S) : evB (ev2 (cmpV .IsNot) a (evC (.d (.bool c)))) l S = .ok (!decide (b = c)) S := evB_b (ev2_o h rfl isnot_bool_)
section
variable {i : Nat} {h : Hs} {cnt : Str → Nat}
noncomputable abbrev PO (h : Hs) : D → List D := pastOf h.pasts
theorem hist_deeds (I : HInv i h cnt) (H : HPast h) (hi : i < 400) : Deeds h.deeds (PO h) := by
  obtain ⟨a, b, c⟩ := hist_sys I H hi
  exact ⟨b, a, c, fun d hd => I.pastN (List.mem_map.mpr ⟨d, hd, rfl⟩)⟩
def pmD (h : Hs) : List (D × D) := h.pasts.map fun p => (p.1, .list p.2)
theorem pmD_keys : (pmD h).map (·.1) = h.pasts.map (·.1) := by simp [pmD, Function.comp_def]
theorem pmD_look (n : D) : dlook (pmD h) n = (dlook h.pasts n).map .list := by
  unfold pmD
  induction h.pasts with
  | nil => rfl
  | cons p r ih =>
    rw [List.map_cons, dlook, dlook]
    by_cases e : p.1 = n
    · rw [if_pos e, if_pos e]
      rfl
    · rw [if_neg e, if_neg e, ih]
theorem ix_pastsD (I : HInv i h cnt) {n : D} (hn : n ∈ h.deeds.map nm2) (hk : isName n = true) (S : Store) : ixV (.d (pastsD h)) (.d n) S = some (.d (.list (PO h n)), S) := by
  obtain ⟨x, h1, h2⟩ := I.look hn
  refine ix_dicv (m := lf (pmD h)) rfl (name_keyOk hk) ?_
  rw [lf_look, pmD_look, h1]
  unfold PO pastOf
  rw [h1]
  rfl
end
end Lw
namespace Lw
open L2 PySem PySem.Spec FH
abbrev lw (ns : List Int) (h : Hs) (M : List D) (x6 x7 x8 x9 x10 x11 x12 x13 x14 x15 : Option Val) : FH.Loc := [some (.scr ns), some (.ref 3), some (.d (.list h.deeds)), some (.d (pastsD h)), some (.d (metD h)), some (.d (.list M)), x6, x7, x8, x9, x10, x11, x12, x13, x14, x15]
section
variable {i : Nat} {h : Hs} {cnt : Str → Nat} {M : List D} {S : Store} {ns : List Int} {x6 x7 x8 x9 x10 x11 x12 x13 x14 x15 : Option Val}
theorem ix0_list {d : D} {r : List D} (S : Store) : ixV (.d (.list (d :: r))) (.d (.int 0)) S = some (.d d, S) := by
  have z : atI (Val.d d :: r.map Val.d) 0 = some (.d d) := atI_nat (k := 0) rfl
  simp [ixV, ixQ, asDic, ixI, asL, z]
/-- mixed up, and with one twice -/
theorem st_mixed (hT : Tw T0 3 S) (DS : Deeds h.deeds (PO h)) (pm : M.Perm h.deeds) (hne : h.deeds ≠ []) (hfew : h.deeds.length ≤ 400) :
    cOr (evB (ev2 (cmpV .IsNot) (evCall 1 (tab 14 i_are_deeds) (evCons (evVar 5) (evNil))) (evC (.d (.bool true))))) (evB (ev2 (cmpV .IsNot) (evCall 1 (tab 14 i_are_deeds) (evCons (ev2 addV (evVar 5) (evLst false (evCons (ev2 ixV (evVar 2) (evC (.d (.int 0)))) (evNil)))) (evNil))) (evC (.d (.bool false))))) (lw ns h M x6 x7 x8 x9 x10 x11 x12 x13 x14 x15) S = .ok false S := by
  have hpa := pa_of hT
  have DM := DS.perm pm
  have c1 := isnot_v (c := true) (evCall_v (n := 1) (f := tab 14 i_are_deeds) (m := evCons (evVar 5) evNil) (l := lw ns h M x6 x7 x8 x9 x10 x11 x12 x13 x14 x15) (vs := [.d (.list M)]) rfl rfl (ad_true (k := 8) hpa.1 DM))
  cases hd : h.deeds with
  | nil => exact absurd hd hne
  | cons d0 r =>
    have hd0 : d0 ∈ h.deeds := by rw [hd]; exact List.mem_cons_self
    have hlen := pm.length_eq
    have a1 : ev2 addV (evVar 5) (evLst false (evCons (ev2 ixV (evVar 2) (evC (.d (.int 0)))) (evNil))) (lw ns h M x6 x7 x8 x9 x10 x11 x12 x13 x14 x15) S = .ok (.d (.list (M ++ [d0]))) S := by
      have e0 : ev2 ixV (evVar 2) (evC (.d (.int 0))) (lw ns h M x6 x7 x8 x9 x10 x11 x12 x13 x14 x15) S = .ok (.d d0) S := ev2_o (x := .d (.list h.deeds)) rfl rfl (by rw [hd]; exact ix0_list S)
      exact ev2_o (x := .d (.list M)) rfl (lst_frz (ds := [d0]) (ev_1 e0) (by simp)) (add_lst (by simp; omega))
    have c2 := isnot_v (c := false) (evCall_v (n := 1) (f := tab 14 i_are_deeds) (vs := [.d (.list (M ++ [d0]))]) (ev_1 a1) rfl (ad_twice (k := 8) hpa.1 (fun d hd' => by
      rcases List.mem_append.mp hd' with z | z
      · exact DM.dg d z
      · rw [List.mem_singleton.mp z]
        exact DS.dg d0 hd0) (by omega) ((pm.map nm2).mem_iff.mpr (List.mem_map.mpr ⟨d0, hd0, rfl⟩))))
    exact cOr_b (p := false) (q := false) c1 fun _ => c2
/-- each past -/
theorem st_past (hT : Tw T0 3 S) (I : HInv i h cnt) (DS : Deeds h.deeds (PO h)) (pm : M.Perm h.deeds) (hfew : h.deeds.length ≤ 400) {n : D} (hn : n ∈ h.deeds.map nm2) :
    evB (ev2 (cmpV .NotEq) (evCall 2 (tab 14 i_past) (evCons (evVar 5) (evCons (evVar 6) (evNil)))) (evL sortedL (evCons (ev2 ixV (evVar 3) (evVar 6)) (evNil)))) (lw ns h M (some (.d n)) x7 x8 x9 x10 x11 x12 x13 x14 x15) S = .ok false S := by
  have hpa := pa_of hT
  have DM := DS.perm pm
  obtain ⟨d, hd, rfl⟩ := mem_nm2 hn
  have hk := (DS.sys.deed d hd).name
  have hN := DS.names d hd
  have hz : (PO h (nm2 d)).length ≤ 400 := by
    have := nodup_le (DS.sys.pnd d hd) (DS.sys.closed d hd)
    rw [List.length_map] at this
    omega
  have c1 : evCall 2 (tab 14 i_past) (evCons (evVar 5) (evCons (evVar 6) (evNil))) (lw ns h M (some (.d (nm2 d))) x7 x8 x9 x10 x11 x12 x13 x14 x15) S = .ok (.d (.list (sortD (PO h (nm2 d))))) S := evCall_v (vs := [.d (.list M), .d (nm2 d)]) rfl rfl (past_eval (k := 6) hpa DM ((pm.map nm2).mem_iff.mpr hn))
  have c2 : evL sortedL (evCons (ev2 ixV (evVar 3) (evVar 6)) (evNil)) (lw ns h M (some (.d (nm2 d))) x7 x8 x9 x10 x11 x12 x13 x14 x15) S = .ok (.d (.list (sortD (PO h (nm2 d))))) S := evL_o (vs := [.d (.list (PO h (nm2 d)))]) (ev_1 (ev2_o (x := .d (pastsD h)) (y := .d (nm2 d)) rfl rfl (ix_pastsD I hn hk S))) (sorted_names hN (by omega))
  have sh := hN.sortD.shaped
  have gd : goodD (.list (sortD (PO h (nm2 d)))) = true := by
    rw [goodD]
    exact hN.sortD.good
  refine evB_b (ev2_o c1 c2 ?_)
  rw [ne_shaped sh sh, eqv_self gd]
  rfl
/-- apart -/
theorem st_due (I : HInv i h cnt) (DS : Deeds h.deeds (PO h)) {x y : D} (hx : x ∈ h.deeds.map nm2) (hy : y ∈ h.deeds.map nm2) :
    ∃ b, evAnd (ev2 (cmpV .NotEq) (evVar 8) (evVar 9)) (evAnd (ev2 (cmpV .NotIn) (evVar 8) (ev2 ixV (evVar 3) (evVar 9))) (ev2 (cmpV .NotIn) (evVar 9) (ev2 ixV (evVar 3) (evVar 8)))) (lw ns h M x6 x7 (some (.d x)) (some (.d y)) x10 x11 x12 x13 x14 x15) S = .ok (.d (.bool b)) S ∧ (b = true ↔ x ≠ y ∧ x ∉ PO h y ∧ y ∉ PO h x) := by
  obtain ⟨dx, hdx, ex⟩ := mem_nm2 hx
  obtain ⟨dy, hdy, ey⟩ := mem_nm2 hy
  have hxn : isName x = true := by rw [← ex]; exact (DS.sys.deed dx hdx).name
  have hyn : isName y = true := by rw [← ey]; exact (DS.sys.deed dy hdy).name
  have nx : Names (PO h x) := by rw [← ex]; exact DS.names dx hdx
  have ny : Names (PO h y) := by rw [← ey]; exact DS.names dy hdy
  have e1 : ev2 (cmpV .NotEq) (evVar 8) (evVar 9) (lw ns h M x6 x7 (some (.d x)) (some (.d y)) x10 x11 x12 x13 x14 x15) S = .ok (.d (.bool (!PyData.eqv x y))) S := ev2_o (x := .d x) (y := .d y) rfl rfl (ne_shaped (name_shaped hxn) (name_shaped hyn))
  have e2 : ev2 (cmpV .NotIn) (evVar 8) (ev2 ixV (evVar 3) (evVar 9)) (lw ns h M x6 x7 (some (.d x)) (some (.d y)) x10 x11 x12 x13 x14 x15) S = .ok (.d (.bool (!memB x (PO h y)))) S := ev2_o (x := .d x) rfl (ev2_o (x := .d (pastsD h)) (y := .d y) rfl rfl (ix_pastsD I hy hyn S)) (notin_names hxn ny)
  have e3 : ev2 (cmpV .NotIn) (evVar 9) (ev2 ixV (evVar 3) (evVar 8)) (lw ns h M x6 x7 (some (.d x)) (some (.d y)) x10 x11 x12 x13 x14 x15) S = .ok (.d (.bool (!memB y (PO h x)))) S := ev2_o (x := .d y) rfl (ev2_o (x := .d (pastsD h)) (y := .d x) rfl rfl (ix_pastsD I hx hxn S)) (notin_names hyn nx)
  refine ⟨_, evAnd_b e1 fun _ => evAnd_b e2 fun _ => e3, ?_⟩
  simp only [Bool.and_eq_true, Bool.not_eq_true']
  rw [← Bool.not_eq_true, ← Bool.not_eq_true, ← Bool.not_eq_true, eqv_name hxn hyn, memB_iff hxn ny, memB_iff hyn nx]
theorem st_apart (hT : Tw T0 3 S) (DS : Deeds h.deeds (PO h)) (pm : M.Perm h.deeds) {x y : D} (hx : x ∈ h.deeds.map nm2) (hy : y ∈ h.deeds.map nm2) {b : Bool} (hb : b = true ↔ x ≠ y ∧ x ∉ PO h y ∧ y ∉ PO h x) :
    evB (ev2 (cmpV .NotEq) (evCall 3 (tab 14 i_are_apart) (evCons (evVar 5) (evCons (evVar 8) (evCons (evVar 9) (evNil))))) (evVar 10)) (lw ns h M x6 x7 (some (.d x)) (some (.d y)) (some (.d (.bool b))) x11 x12 x13 x14 x15) S = .ok false S := by
  have hpa := pa_of hT
  have DM := DS.perm pm
  obtain ⟨b', e1, e2⟩ := apart_eval (k := 6) hpa DM ((pm.map nm2).mem_iff.mpr hx) ((pm.map nm2).mem_iff.mpr hy)
  have ebb : b' = b := by
    cases b <;> cases b' <;> simp_all
  subst ebb
  have c1 : evCall 3 (tab 14 i_are_apart) (evCons (evVar 5) (evCons (evVar 8) (evCons (evVar 9) (evNil)))) (lw ns h M x6 x7 (some (.d x)) (some (.d y)) (some (.d (.bool b'))) x11 x12 x13 x14 x15) S = .ok (.d (.bool b')) S := evCall_v (vs := [.d (.list M), .d x, .d y]) rfl rfl e1
  refine evB_b (ev2_o c1 (y := .d (.bool b')) rfl ?_)
  rw [ne_shaped (shaped_bool _) (shaped_bool _)]
  cases b' <;> rfl
/-- one left out -/
theorem st_gone (hT : Tw T0 3 S) (I : HInv i h cnt) (DS : Deeds h.deeds (PO h)) (pm : M.Perm h.deeds) (hfew : h.deeds.length ≤ 400) {g : D} (hg : g ∈ h.deeds) {nms : List D} (hnm : ∀ n, n ∈ nms ↔ n ∈ h.deeds.map nm2) (hnl : nms.length ≤ 400) :
    evB (ev2 (cmpV .NotEq) (evCall 1 (tab 14 i_are_deeds) (evCons (evLC false (evIter (evVar 5)) (tgName 13) [13] (evB (ev2 (cmpV .NotEq) (evVar 13) (evVar 11))) (evVar 13)) (evNil))) (evNot (evL anyL (evCons (evLC false (evIter (evVar 7)) (tgName 6) [6] (cYes) (ev2 (cmpV .In) (evSl (evVar 11) none (some (evC (.d (.int 2))))) (ev2 ixV (evVar 3) (evVar 6)))) (evNil))))) (lw ns h M x6 (some (.d (.list nms))) x8 x9 x10 (some (.d g)) x12 x13 x14 x15) S = .ok false S := by
  have hpa := pa_of hT
  have DM := DS.perm pm
  have hgM : g ∈ M := pm.mem_iff.mpr hg
  have hlen := pm.length_eq
  have hgn := (DS.sys.deed g hg).name
  have shd : ∀ d ∈ h.deeds, SeqAt.shaped d = true := fun d hd => shaped_good (DS.dg d hd).good (Nat.le_trans (DS.dg d hd).depth (by decide))
  have f1 : evLC false (evIter (evVar 5)) (tgName 13) [13] (evB (ev2 (cmpV .NotEq) (evVar 13) (evVar 11))) (evVar 13) (lw ns h M x6 (some (.d (.list nms))) x8 x9 x10 (some (.d g)) x12 x13 x14 x15) S = .ok (.d (.list (M.filter fun d => !PyData.eqv d g))) S := by
    refine lc_filter (iter_data rfl) (fun d => !PyData.eqv d g) (fun d hd => ?_) (by omega)
    have hdd : d ∈ h.deeds := pm.mem_iff.mp hd
    have T : ∀ S' : Store, evB (ev2 (cmpV .NotEq) (evVar 13) (evVar 11)) (lw ns h M x6 (some (.d (.list nms))) x8 x9 x10 (some (.d g)) x12 (some (.d d)) x14 x15) S' = .ok (!PyData.eqv d g) S' := fun S' => evB_b (ev2_o (x := .d d) (y := .d g) rfl rfl (ne_shaped (shd d hdd) (shd g hg)))
    cases e : PyData.eqv d g with
    | true =>
      rw [if_neg (show ¬ (!true) = true by decide)]
      exact ⟨lw ns h M x6 (some (.d (.list nms))) x8 x9 x10 (some (.d g)) x12 (some (.d d)) x14 x15, rfl, fun acc => by rw [T, e]; rfl⟩
    | false =>
      rw [if_pos (show (!false) = true from rfl)]
      exact ⟨lw ns h M x6 (some (.d (.list nms))) x8 x9 x10 (some (.d g)) x12 (some (.d d)) x14 x15, rfl, fun acc => ⟨by rw [T, e]; rfl, rfl⟩⟩
  have hp : ∀ d ∈ M, (!PyData.eqv d g) = true ↔ d ≠ g := fun d hd => by
    rw [Bool.not_eq_true', ← Bool.not_eq_true, eqv_deed DM hd hgM]
  have f2 : evLC false (evIter (evVar 7)) (tgName 6) [6] (cYes) (ev2 (cmpV .In) (evSl (evVar 11) none (some (evC (.d (.int 2))))) (ev2 ixV (evVar 3) (evVar 6))) (lw ns h M x6 (some (.d (.list nms))) x8 x9 x10 (some (.d g)) x12 x13 x14 x15) S = .ok (.d (.list ((nms.map fun n => memB (nm2 g) (PO h n)).map .bool))) S := by
    rw [List.map_map]
    refine lc_map (iter_data rfl) (PyData.bool ∘ fun n => memB (nm2 g) (PO h n)) (fun n hn => ⟨lw ns h M (some (.d n)) (some (.d (.list nms))) x8 x9 x10 (some (.d g)) x12 x13 x14 x15, rfl, fun acc => ⟨rfl, ?_⟩⟩) (by omega)
    obtain ⟨d, hd, rfl⟩ := mem_nm2 ((hnm n).mp hn)
    have hdn := (DS.sys.deed d hd).name
    refine ev2_o (x := .d (nm2 g)) ?_ (ev2_o (x := .d (pastsD h)) (y := .d (nm2 d)) rfl rfl (ix_pastsD I ((hnm _).mp hn) hdn _)) (in_names hgn (DS.names d hd))
    simp [evSl, evPart, (DS.sys.deed g hg).sl2, evVar]
  have f3 : evNot (evL anyL (evCons (evLC false (evIter (evVar 7)) (tgName 6) [6] (cYes) (ev2 (cmpV .In) (evSl (evVar 11) none (some (evC (.d (.int 2))))) (ev2 ixV (evVar 3) (evVar 6)))) (evNil))) (lw ns h M x6 (some (.d (.list nms))) x8 x9 x10 (some (.d g)) x12 x13 x14 x15) S = .ok (.d (.bool (!((nms.map fun n => memB (nm2 g) (PO h n)).any id)))) S := evNot_b (evL_o (ev_1 f2) any_bools)
  have fin : ∀ b : Bool, tab 14 i_are_deeds [.d (.list (M.filter fun d => !PyData.eqv d g))] S = .ok (.d (.bool b)) S → (nms.map fun n => memB (nm2 g) (PO h n)).any id = !b → evB (ev2 (cmpV .NotEq) (evCall 1 (tab 14 i_are_deeds) (evCons (evLC false (evIter (evVar 5)) (tgName 13) [13] (evB (ev2 (cmpV .NotEq) (evVar 13) (evVar 11))) (evVar 13)) (evNil))) (evNot (evL anyL (evCons (evLC false (evIter (evVar 7)) (tgName 6) [6] (cYes) (ev2 (cmpV .In) (evSl (evVar 11) none (some (evC (.d (.int 2))))) (ev2 ixV (evVar 3) (evVar 6)))) (evNil))))) (lw ns h M x6 (some (.d (.list nms))) x8 x9 x10 (some (.d g)) x12 x13 x14 x15) S = .ok false S := fun b hb ha => by
    have c1 := evCall_v (n := 1) (f := tab 14 i_are_deeds) (ev_1 f1) rfl hb
    rw [ha, Bool.not_not] at f3
    refine evB_b (ev2_o c1 f3 ?_)
    rw [ne_shaped (shaped_bool _) (shaped_bool _)]
    cases b <;> rfl
  by_cases q : ∃ d ∈ h.deeds, nm2 g ∈ PO h (nm2 d)
  · obtain ⟨d, hd, hgd⟩ := q
    obtain ⟨⟨y, y1, y2⟩, y3, y4⟩ := lacking DM hgM hp (pm.mem_iff.mpr hd) hgd
    refine fin false (ad_lacks (k := 8) hpa.1 (fun e he => DM.dg e (List.mem_filter.mp he).1) (Nat.le_trans (List.length_filter_le _ _) DM.sys.few) y4 y1 y2 y3) ?_
    rw [Bool.not_false, List.any_eq_true]
    exact ⟨_, List.mem_map.mpr ⟨nm2 d, (hnm _).mpr (List.mem_map.mpr ⟨d, hd, rfl⟩), rfl⟩, (memB_iff hgn (DS.names d hd)).mpr hgd⟩
  · have no : ∀ d ∈ M, nm2 g ∉ PO h (nm2 d) := fun d hd z => q ⟨d, pm.mem_iff.mp hd, z⟩
    refine fin true (ad_true (k := 8) hpa.1 (without DM hgM hp no)) ?_
    rw [Bool.not_true, List.any_eq_false]
    intro b hb hb2
    obtain ⟨n, hn, e⟩ := List.mem_map.mp hb
    obtain ⟨d, hd, rfl⟩ := mem_nm2 ((hnm n).mp hn)
    rw [← e] at hb2
    exact q ⟨d, hd, (memB_iff hgn (DS.names d hd)).mp hb2⟩
end
end Lw
namespace Lw
open L2 PySem PySem.Spec FH
section
variable {i : Nat} {h : Hs} {cnt : Str → Nat} {M : List D} {S : Store} {ns : List Int} {x6 x7 x8 x9 x10 x11 x12 x13 x14 x15 : Option Val}
theorem tup_add {xs ys : List D} {S : Store} (h : xs.length + ys.length ≤ 2000) : addV (.d (.tuple xs)) (.d (.tuple ys)) S = some (.d (.tuple (xs ++ ys)), S) := by
  have : xs.length + ys.length ≤ sizeLine := Nat.le_trans h (by decide)
  simp [addV, this]
theorem sl_of {d : D} {S : Store} {l : FH.Loc} {k : Nat} (hv : evVar k l S = .ok (.d d) S) (hd : DeedL d) : evSl (evVar k) none (some (evC (.d (.int 2)))) l S = .ok (.d (nm2 d)) S := by
  simp [evSl, evPart, hv, hd.sl2]
/-- those with more than one in their past -/
theorem st_bent (I : HInv i h cnt) (DS : Deeds h.deeds (PO h)) (hfew : h.deeds.length ≤ 400) :
    evLC false (evIter (evVar 2)) (tgName 13) [13] (evB (ev2 (cmpV .Gt) (evL lenL (evCons (ev2 ixV (evVar 3) (evSl (evVar 13) none (some (evC (.d (.int 2)))))) (evNil))) (evC (.d (.int 1))))) (evVar 13) (lw ns h M x6 x7 x8 x9 x10 x11 x12 x13 x14 x15) S = .ok (.d (.list (h.deeds.filter fun d => decide ((1 : Int) < (PO h (nm2 d)).length)))) S := by
  refine lc_filter (iter_data rfl) (fun d => decide ((1 : Int) < (PO h (nm2 d)).length)) (fun d hd => ?_) (by omega)
  have hL := DS.sys.deed d hd
  have T : ∀ S' : Store, evB (ev2 (cmpV .Gt) (evL lenL (evCons (ev2 ixV (evVar 3) (evSl (evVar 13) none (some (evC (.d (.int 2)))))) (evNil))) (evC (.d (.int 1)))) (lw ns h M x6 x7 x8 x9 x10 x11 x12 (some (.d d)) x14 x15) S' = .ok (decide ((1 : Int) < (PO h (nm2 d)).length)) S' := fun S' => by
    have e1 : evSl (evVar 13) none (some (evC (.d (.int 2)))) (lw ns h M x6 x7 x8 x9 x10 x11 x12 (some (.d d)) x14 x15) S' = .ok (.d (nm2 d)) S' := sl_of rfl hL
    have e2 : ev2 ixV (evVar 3) (evSl (evVar 13) none (some (evC (.d (.int 2))))) (lw ns h M x6 x7 x8 x9 x10 x11 x12 (some (.d d)) x14 x15) S' = .ok (.d (.list (PO h (nm2 d)))) S' := ev2_o (x := .d (pastsD h)) rfl e1 (ix_pastsD I (List.mem_map.mpr ⟨d, hd, rfl⟩) hL.name S')
    exact evB_b (ev2_o (evL_o (ev_1 e2) len_lst_) rfl gt_int_)
  cases e : decide ((1 : Int) < (PO h (nm2 d)).length) with
  | true =>
    rw [if_pos rfl]
    exact ⟨lw ns h M x6 x7 x8 x9 x10 x11 x12 (some (.d d)) x14 x15, rfl, fun acc => ⟨by rw [T, e], rfl⟩⟩
  | false =>
    rw [if_neg (by decide)]
    exact ⟨lw ns h M x6 x7 x8 x9 x10 x11 x12 (some (.d d)) x14 x15, rfl, fun acc => by rw [T, e]⟩
/-- with one twice -/
theorem st_twice (hT : Tw T0 3 S) (DS : Deeds h.deeds (PO h)) (hfew : h.deeds.length ≤ 400) {g : D} (hg : g ∈ h.deeds) :
    ev2 (cmpV .Is) (evCall 1 (tab 14 i_are_deeds) (evCons (ev2 addV (evVar 2) (evLst false (evCons (evVar 11) (evNil)))) (evNil))) (evC (.d (.bool false))) (lw ns h M x6 x7 x8 x9 x10 (some (.d g)) x12 x13 x14 x15) S = .ok (.d (.bool true)) S := by
  have hpa := pa_of hT
  have a1 : ev2 addV (evVar 2) (evLst false (evCons (evVar 11) (evNil))) (lw ns h M x6 x7 x8 x9 x10 (some (.d g)) x12 x13 x14 x15) S = .ok (.d (.list (h.deeds ++ [g]))) S := ev2_o (x := .d (.list h.deeds)) rfl (lst_frz (ds := [g]) rfl (by simp)) (add_lst (by simp; omega))
  have c1 := evCall_v (n := 1) (f := tab 14 i_are_deeds) (ev_1 a1) rfl (ad_twice (k := 8) hpa.1 (fun d hd' => by
      rcases List.mem_append.mp hd' with z | z
      · exact DS.dg d z
      · rw [List.mem_singleton.mp z]
        exact DS.dg g hg) (by omega) (List.mem_map.mpr ⟨g, hg, rfl⟩))
  exact ev2_o c1 rfl is_bool_
/-- what is past of it, and not named -/
theorem st_more (I : HInv i h cnt) (DS : Deeds h.deeds (PO h)) (hfew : h.deeds.length ≤ 400) {d : D} (hd : d ∈ h.deeds) :
    evLC false (evIter (ev2 ixV (evVar 3) (evSl (evVar 13) none (some (evC (.d (.int 2))))))) (tgName 6) [6] (evB (ev2 (cmpV .NotIn) (evVar 6) (ev2 ixV (evVar 13) (evC (.d (.int 2)))))) (evVar 6) (lw ns h M x6 x7 x8 x9 x10 x11 x12 (some (.d d)) x14 x15) S = .ok (.d (.list ((PO h (nm2 d)).filter fun x => !memB x (afterOf d)))) S := by
  have hL := DS.sys.deed d hd
  have hl : (PO h (nm2 d)).length ≤ 400 := by
    have := nodup_le (DS.sys.pnd d hd) (DS.sys.closed d hd)
    rw [List.length_map] at this
    omega
  have e1 : evSl (evVar 13) none (some (evC (.d (.int 2)))) (lw ns h M x6 x7 x8 x9 x10 x11 x12 (some (.d d)) x14 x15) S = .ok (.d (nm2 d)) S := sl_of rfl hL
  have e2 : ev2 ixV (evVar 3) (evSl (evVar 13) none (some (evC (.d (.int 2))))) (lw ns h M x6 x7 x8 x9 x10 x11 x12 (some (.d d)) x14 x15) S = .ok (.d (.list (PO h (nm2 d)))) S := ev2_o (x := .d (pastsD h)) rfl e1 (ix_pastsD I (List.mem_map.mpr ⟨d, hd, rfl⟩) hL.name S)
  refine lc_filter (iter_data e2) (fun x => !memB x (afterOf d)) (fun x hx => ?_) (by omega)
  have hxn := DS.names d hd x hx
  have T : ∀ S' : Store, evB (ev2 (cmpV .NotIn) (evVar 6) (ev2 ixV (evVar 13) (evC (.d (.int 2))))) (lw ns h M (some (.d x)) x7 x8 x9 x10 x11 x12 (some (.d d)) x14 x15) S' = .ok (!memB x (afterOf d)) S' := fun S' => evB_b (ev2_o (x := .d x) rfl (ev2_o (x := .d d) rfl rfl (hL.ix2 S')) (notin_tup hxn hL.names))
  cases e : memB x (afterOf d) with
  | false =>
    rw [if_pos (show (!false) = true from rfl)]
    exact ⟨lw ns h M (some (.d x)) x7 x8 x9 x10 x11 x12 (some (.d d)) x14 x15, rfl, fun acc => ⟨by rw [T, e]; rfl, rfl⟩⟩
  | true =>
    rw [if_neg (show ¬ (!true) = true by decide)]
    exact ⟨lw ns h M (some (.d x)) x7 x8 x9 x10 x11 x12 (some (.d d)) x14 x15, rfl, fun acc => by rw [T, e]; rfl⟩
theorem sort_tup {ds : List D} {S : Store} (h : Names ds) (hz : ds.length ≤ 2000) : sortedL [.d (.tuple ds)] S = some (.d (.list (sortD ds)), S) := by
  have e : asL (.d (.tuple ds)) S = none := rfl
  have e2 : itemsK (.d (.tuple ds)) S = some ds := rfl
  unfold sortedL
  simp only [e, e2]
  rw [if_pos ⟨h.sort, Nat.le_trans hz (by decide)⟩]
/-- one named more -/
theorem st_after (DS : Deeds h.deeds (PO h)) {d : D} (hd : d ∈ h.deeds) {more : List D} (hm : ∀ x ∈ more, isName x = true) (hne : more ≠ []) (hl : more.length ≤ 400) (ht : Town S 3) :
    Ends (evL tupleL (evCons (evL sortedL (evCons (ev2 addV (ev2 ixV (evVar 13) (evC (.d (.int 2)))) (evTup (evCons (evCall 3 (tab 14 i__law_pick) (evCons (evVar 0) (evCons (evVar 1) (evCons (evVar 14) (evNil))))) (evNil)))) (evNil))) (evNil)) (lw ns h M x6 x7 x8 x9 x10 x11 x12 (some (.d d)) (some (.d (.list more))) x15) S) fun v S' => Tw S 3 S' ∧ ∃ x ∈ more, v = .d (.tuple (sortD (afterOf d ++ [x]))) := by
  have hL := DS.sys.deed d hd
  obtain ⟨x, S', hx, w, e⟩ := t_pick 12 ns 3 more S ht hne (by omega)
  have hN : Names (afterOf d ++ [x]) := fun y hy => by
    rcases List.mem_append.mp hy with z | z
    · exact hL.names y z
    · rw [List.mem_singleton.mp z]
      exact hm x hx
  have c1 : evCall 3 (tab 14 i__law_pick) (evCons (evVar 0) (evCons (evVar 1) (evCons (evVar 14) (evNil)))) (lw ns h M x6 x7 x8 x9 x10 x11 x12 (some (.d d)) (some (.d (.list more))) x15) S = .ok (.d x) S' := evCall_v (vs := [.scr ns, .ref 3, .d (.list more)]) rfl rfl e
  have c2 : evTup (evCons (evCall 3 (tab 14 i__law_pick) (evCons (evVar 0) (evCons (evVar 1) (evCons (evVar 14) (evNil))))) (evNil)) (lw ns h M x6 x7 x8 x9 x10 x11 x12 (some (.d d)) (some (.d (.list more))) x15) S = .ok (.d (.tuple [x])) S' := evL_v (vs := [x].map .d) (r := (.d (.tuple [x]), S')) (evCons_v c1 rfl) (tup_data (sz100 (by simp)))
  have c3 : ev2 addV (ev2 ixV (evVar 13) (evC (.d (.int 2)))) (evTup (evCons (evCall 3 (tab 14 i__law_pick) (evCons (evVar 0) (evCons (evVar 1) (evCons (evVar 14) (evNil))))) (evNil))) (lw ns h M x6 x7 x8 x9 x10 x11 x12 (some (.d d)) (some (.d (.list more))) x15) S = .ok (.d (.tuple (afterOf d ++ [x]))) S' :=
    ev2_v (r := (.d (.tuple (afterOf d ++ [x])), S')) (ev2_o (x := .d d) rfl rfl (hL.ix2 S)) c2 (tup_add (by have := hL.few; simp; omega))
  have c4 := evL_v (g := sortedL) (r := (.d (.list (sortD (afterOf d ++ [x]))), S')) (evCons_v (r := evNil) c3 rfl) (sort_tup hN (by have := hL.few; simp; omega))
  refine .of (evL_v (g := tupleL) (r := (.d (.tuple (sortD (afterOf d ++ [x]))), S')) (evCons_v (r := evNil) c4 rfl) ?_) ⟨w, x, hx, rfl⟩
  simp [tupleL, asT, asL, mkT, allD_map]
/-- bent -/
theorem st_last (hT : Tw T0 3 S) (DS : Deeds h.deeds (PO h)) (hfew : h.deeds.length ≤ 400) {d x : D} (hd : d ∈ h.deeds) (hx : x ∈ PO h (nm2 d)) (hn : x ∉ afterOf d) (ha : (afterOf d).length ≤ 900) (hnd : (afterOf d).Nodup) :
    ev2 (cmpV .Is) (evCall 1 (tab 14 i_are_deeds) (evCons (evLC false (evIter (evVar 2)) (tgName 8) [8] (cYes) (evIf (evB (ev2 (cmpV .NotEq) (evVar 8) (evVar 13))) (evVar 8) (ev2 addV (ev2 addV (evSl (evVar 13) none (some (evC (.d (.int 2))))) (evTup (evCons (evVar 15) (evNil)))) (evSl (evVar 13) (some (evC (.d (.int 3)))) none)))) (evNil))) (evC (.d (.bool false))) (lw ns h M x6 x7 x8 x9 x10 x11 x12 (some (.d d)) x14 (some (.d (.tuple (sortD (afterOf d ++ [x])))))) S = .ok (.d (.bool true)) S := by
  have hpa := pa_of hT
  have shd : ∀ d ∈ h.deeds, SeqAt.shaped d = true := fun d hd => shaped_good (DS.dg d hd).good (Nat.le_trans (DS.dg d hd).depth (by decide))
  obtain ⟨m, n, a, hand, w, r, ed⟩ := deed_shape (DS.dg d hd).is
  have lc : evLC false (evIter (evVar 2)) (tgName 8) [8] (cYes) (evIf (evB (ev2 (cmpV .NotEq) (evVar 8) (evVar 13))) (evVar 8) (ev2 addV (ev2 addV (evSl (evVar 13) none (some (evC (.d (.int 2))))) (evTup (evCons (evVar 15) (evNil)))) (evSl (evVar 13) (some (evC (.d (.int 3)))) none))) (lw ns h M x6 x7 x8 x9 x10 x11 x12 (some (.d d)) x14 (some (.d (.tuple (sortD (afterOf d ++ [x])))))) S = .ok (.d (.list (h.deeds.map fun e => cond (!PyData.eqv e d) e (bentD d (sortD (afterOf d ++ [x])))))) S := by
    refine lc_map (iter_data rfl) (fun e => cond (!PyData.eqv e d) e (bentD d (sortD (afterOf d ++ [x])))) (fun e he => ⟨lw ns h M x6 x7 (some (.d e)) x9 x10 x11 x12 (some (.d d)) x14 (some (.d (.tuple (sortD (afterOf d ++ [x]))))), rfl, fun acc => ⟨rfl, ?_⟩⟩) (by omega)
    generalize hS' : lockS (.d (.list h.deeds)) S ++ [Ob.lst acc] = S'
    have t1 : evB (ev2 (cmpV .NotEq) (evVar 8) (evVar 13)) (lw ns h M x6 x7 (some (.d e)) x9 x10 x11 x12 (some (.d d)) x14 (some (.d (.tuple (sortD (afterOf d ++ [x])))))) S' = .ok (!PyData.eqv e d) S' := evB_b (ev2_o (x := .d e) (y := .d d) rfl rfl (ne_shaped (shd e he) (shd d hd)))
    cases q : PyData.eqv e d with
    | false =>
      rw [q] at t1
      simp only [evIf, t1, Res.bind]
      rfl
    | true =>
      rw [q] at t1
      have s1 : evSl (evVar 13) none (some (evC (.d (.int 2)))) (lw ns h M x6 x7 (some (.d e)) x9 x10 x11 x12 (some (.d d)) x14 (some (.d (.tuple (sortD (afterOf d ++ [x])))))) S' = .ok (.d (.tuple [.str m, .int n])) S' := by
        rw [ed]
        simp [evSl, evPart, evVar]
      have s2 : evSl (evVar 13) (some (evC (.d (.int 3)))) none (lw ns h M x6 x7 (some (.d e)) x9 x10 x11 x12 (some (.d d)) x14 (some (.d (.tuple (sortD (afterOf d ++ [x])))))) S' = .ok (.d (.tuple [.str hand, .tuple (.str w :: r)])) S' := by
        rw [ed]
        simp [evSl, evPart, evVar]
      have s3 : evTup (evCons (evVar 15) (evNil)) (lw ns h M x6 x7 (some (.d e)) x9 x10 x11 x12 (some (.d d)) x14 (some (.d (.tuple (sortD (afterOf d ++ [x])))))) S' = .ok (.d (.tuple [.tuple (sortD (afterOf d ++ [x]))])) S' := evL_o (vs := [PyData.tuple (sortD (afterOf d ++ [x]))].map .d) rfl (tup_data (sz100 (by simp)))
      have s4 := ev2_o (ev2_o s1 s3 (tup_add (by simp))) s2 (tup_add (by simp))
      simp only [evIf, t1, Res.bind]
      rw [if_neg (by decide), s4]
      show Res.ok (Val.d _) S' = Res.ok (.d (bentD d (sortD (afterOf d ++ [x])))) S'
      rw [ed]
      rfl
  obtain ⟨g1, g2, g3⟩ := bent_sys DS hd hx hn (f := fun e => cond (!PyData.eqv e d) e (bentD d (sortD (afterOf d ++ [x])))) (by rw [eqv_self (DS.dg d hd).good]; rfl) (fun e he hne => by
    have : PyData.eqv e d = false := by
      cases q : PyData.eqv e d with
      | false => rfl
      | true => exact absurd ((eqv_deed DS he hd).mp q) hne
    rw [this]
    rfl) ha hnd
  obtain ⟨b, e1, e2⟩ := ad_sys (k := 8) hpa.1 g1 g2
  have hb : b = false := by
    cases b with
    | false => rfl
    | true => exact absurd (e2.mp rfl) g3
  subst hb
  exact ev2_o (evCall_v (n := 1) (f := tab 14 i_are_deeds) (ev_1 lc) rfl e1) rfl is_bool_
end
end Lw
namespace Lw
open L2 PySem PySem.Spec FH
theorem reach_after {i : Nat} {h : Hs} (R : Reach i h) (hi : i < 800) : ∀ d ∈ h.deeds, (afterOf d).Nodup := by
  induction R with
  | zero =>
    intro d hd
    rw [List.mem_singleton.mp (show d ∈ [deed1] from hd)]
    exact List.nodup_nil
  | succ R hm M Dd ih =>
    rename_i i h h1 h2 mm
    obtain ⟨cnt, I⟩ := reach_inv R (by omega)
    have I1 := meets_inv I hm M
    have ih1 : ∀ d ∈ h1.deeds, (afterOf d).Nodup := by
      cases M <;> exact ih (by omega)
    intro d hd
    cases Dd with
    | none _ => exact ih1 d hd
    | new h1' h2' h3' =>
      rcases List.mem_append.mp hd with z | z
      · exact ih1 d z
      · rw [List.mem_singleton.mp z]
        show (headsOf h1.pasts (h1.met mm)).Nodup
        unfold headsOf
        exact ((sortD_perm _).nodup_iff.mpr (I1.mnd mm hm)).sublist List.filter_sublist
theorem gs_nv {l : FH.Loc} {S : Store} {N : FH.Loc → Store → Prop} {R : Val → Store → Prop} {m : Ev} {i : Nat} {b : Sv} {v : Val} (h : m l S = .ok v S) (hi : i < l.length) (hk : Goes (b (l.set i (some v)) S) N R) : Goes (sSeq (sSet m (tgName i)) b l S) N R :=
  gs_name (P := fun u S' => u = v ∧ S' = S) (.of h ⟨rfl, rfl⟩) hi fun u S' ⟨e1, e2⟩ => by
    subst e1 e2
    exact hk
theorem fin_tw {S' : Store} {x : D} (h : Tw T0 3 S') : ∃ S, finR false S0 (.d x) S' = .ok (.d x) S := by
  obtain ⟨p, q, hp, hq, rfl⟩ := h
  refine ⟨S0, ?_⟩
  unfold finR
  rw [if_neg (by decide)]
  show ofO (popO S0 (.d x) _) = _
  unfold popO
  have c : cutOk S0 (T0.set 3 (tw p q)) := fun i o hl hi => by
    match i, hl, hi with
    | 0, _, hi => exact .inl hi
    | 1, _, hi => exact .inl hi
    | 2, _, hi => exact .inl hi
    | n + 3, hl, hi => exact absurd (show n + 3 < 3 from hl) (by omega)
  rw [if_pos ⟨c, trivial⟩]
  rfl
theorem law_true (ns : List Int) (hns : ns.length ≤ 63) : ∃ S, fnB false 16 (b_law (tab 14)) [.scr ns] S0 = .ok (.d (.bool true)) S := by
  suffices h : Ends (fnB false 16 (b_law (tab 14)) [.scr ns] S0) fun v _ => v = .d (.bool true) by
    obtain ⟨v, S, e, rfl⟩ := h
    exact ⟨S, e⟩
  refine en_fn (N := fun _ _ => False) (R := fun v S' => v = .d (.bool true) ∧ Tw T0 3 S') ?_ (fun _ _ z => z.elim) fun v S' ⟨e, w⟩ => ?_
  · unfold b_law
    rw [show [Val.scr ns].map some ++ List.replicate (16 - [Val.scr ns].length) none = [some (.scr ns), none, none, none, none, none, none, none, none, none, none, none, none, none, none, none] from rfl]
    refine gs_name (P := fun v S1 => v = .ref 3 ∧ S1 = T0) (.of (lst_own (vs := [.d (.int 0), .d (.int 0)]) rfl (by simp)) ⟨rfl, rfl⟩) (by simp) fun v S1 ⟨e1, e2⟩ => ?_
    subst e1 e2
    have ht : Town T0 3 := ⟨0, 0, by decide, by decide, rfl⟩
    refine gs_set (P := fun v S1 => Tw T0 3 S1 ∧ ∃ h, Reach 12 h ∧ v = .d (histD h)) (en_call (evCons_v rfl (evCons_v rfl (evCons_v rfl rfl))) rfl (t_hist 10 (many := 12) (by decide) ns 3 T0 ht)) fun v S1 ⟨w1, h, R, e1⟩ => ?_
    subst e1
    refine ⟨_, rfl, ?_⟩
    obtain ⟨cnt, I⟩ := reach_inv R (by decide)
    have hfew : h.deeds.length ≤ 400 := Nat.le_trans I.few (by decide)
    have H := reach_past R (by decide)
    have DS := hist_deeds I H (by decide)
    have hne := reach_ne R
    have hnd := reach_after R (by decide)
    refine gs_name (P := fun v S2 => Tw S1 3 S2 ∧ ∃ M, M.Perm h.deeds ∧ v = .d (.list M)) (en_call (vs := [.scr ns, .ref 3, .d (.list h.deeds)]) rfl rfl (t_shuf 12 ns 3 h.deeds S1 (w1.town (by decide)) (fun d hd => ⟨(DS.dg d hd).good, (DS.dg d hd).depth⟩) (by omega))) (by simp) fun v S2 ⟨w2, M, pm, e1⟩ => ?_
    subst e1
    have wT2 := w1.trans w2
    show Goes (sSeq _ _ (lw ns h M none none none none none none none none none none) S2) _ _
    refine gs_ret (st_mixed wT2 DS pm hne hfew) (fun z => by cases z) fun _ => ?_
    refine go_seq (N' := fun l' S' => (∃ x6, l' = lw ns h M x6 none none none none none none none none none) ∧ S' = S2) ?_ ?_
    · refine go_for (items := ((pmD h).map (·.1)).map .d) (w := .d (pastsD h)) (iter_dict rfl) (fun _ l' S' => (∃ x6, l' = lw ns h M x6 none none none none none none none none none) ∧ S' = S2) ⟨⟨none, rfl⟩, rfl⟩ (fun j x l' S' hx ⟨⟨x6, e1⟩, e2⟩ => ?_) fun l' S' z => ⟨z.1, z.2 ▸ rfl⟩
      subst e1 e2
      obtain ⟨n, hn, rfl⟩ := List.mem_map.mp (List.mem_of_getElem? hx)
      rw [pmD_keys, I.keys] at hn
      refine ⟨lw ns h M (some (.d n)) none none none none none none none none none, rfl, ?_⟩
      have c := st_past (ns := ns) (x7 := none) (x8 := none) (x9 := none) (x10 := none) (x11 := none) (x12 := none) (x13 := none) (x14 := none) (x15 := none) wT2 I DS pm hfew hn
      refine go_if (P := fun p S1' => p = false ∧ S1' = S') (.of c ⟨rfl, rfl⟩) fun p S1' ⟨e1, e2⟩ => ?_
      subst e1 e2
      rw [if_neg (by decide)]
      exact go_nx ⟨⟨_, rfl⟩, rfl⟩
    · rintro l' S' ⟨⟨x6, rfl⟩, rfl⟩
      have hkn : Names ((pmD h).map (·.1)) := fun n hn => by
        rw [pmD_keys, I.keys] at hn
        exact I.name (by decide) hn
      have hkl : (pmD h).length ≤ 400 := by
        have e : ((pmD h).map (·.1)).length = (h.deeds.map nm2).length := by rw [pmD_keys, I.keys]
        rw [List.length_map, List.length_map] at e
        omega
      have es : sortedL [.d (pastsD h)] S' = some (.d (.list (sortD ((pmD h).map (·.1)))), S') := sort_dic (m := pmD h) rfl rfl (fun z e => by cases e) hkn (by omega)
      refine gs_nv (evL_o (vs := [.d (pastsD h)]) rfl es) (by simp) ?_
      have hnm : ∀ n, n ∈ sortD ((pmD h).map (·.1)) ↔ n ∈ h.deeds.map nm2 := fun n => by rw [mem_sortD, pmD_keys, I.keys]
      have hnl : (sortD ((pmD h).map (·.1))).length ≤ 400 := by
        rw [(sortD_perm _).length_eq, List.length_map]
        exact hkl
      have hnne : sortD ((pmD h).map (·.1)) ≠ [] := fun z => by
        cases hd : h.deeds with
        | nil => exact hne hd
        | cons d0 r =>
          have : nm2 d0 ∈ sortD ((pmD h).map (·.1)) := (hnm _).mpr (List.mem_map.mpr ⟨d0, by rw [hd]; exact List.mem_cons_self, rfl⟩)
          rw [z] at this
          cases this
      generalize sortD ((pmD h).map (·.1)) = nms at hnm hnl hnne ⊢
      show Goes (sSeq _ _ (lw ns h M x6 (some (.d (.list nms))) none none none none none none none none) S') _ _
      have hT3 : 3 < S'.length := by
        rw [wT2.len]
        decide
      refine gs_par (P := fun vs S3 => ∃ x y, x ∈ nms ∧ y ∈ nms ∧ vs = [.d x, .d y] ∧ Tw T0 3 S3) ?_ fun vs S3 ⟨x, y, hx, hy, e1, w3⟩ => ?_
      · obtain ⟨x, Sx, hx, wx, ex⟩ := t_pick 12 ns 3 nms S' (wT2.town (by decide)) hnne (by omega)
        obtain ⟨y, Sy, hy, wy, ey⟩ := t_pick 12 ns 3 nms Sx ((wT2.trans wx).town (by decide)) hnne (by omega)
        exact .of (evCons_v (evCall_v (vs := [.scr ns, .ref 3, .d (.list nms)]) rfl rfl ex) (evCons_v (evCall_v (vs := [.scr ns, .ref 3, .d (.list nms)]) rfl rfl ey) rfl)) ⟨x, y, hx, hy, rfl, (wT2.trans wx).trans wy⟩
      subst e1
      refine ⟨_, rfl, ?_⟩
      have hx' := (hnm x).mp hx
      have hy' := (hnm y).mp hy
      show Goes (sSeq _ _ (lw ns h M x6 (some (.d (.list nms))) (some (.d x)) (some (.d y)) none none none none none none) S3) _ _
      obtain ⟨b, eb, hb⟩ := st_due (S := S3) (M := M) (ns := ns) (x6 := x6) (x7 := some (.d (.list nms))) (x10 := none) (x11 := none) (x12 := none) (x13 := none) (x14 := none) (x15 := none) I DS hx' hy'
      refine gs_nv eb (by simp) ?_
      show Goes (sSeq _ _ (lw ns h M x6 (some (.d (.list nms))) (some (.d x)) (some (.d y)) (some (.d (.bool b))) none none none none none) S3) _ _
      refine gs_ret (st_apart w3 DS pm hx' hy' hb) (fun z => by cases z) fun _ => ?_
      refine gs_name (en_pick (t_pick 12) (xs := h.deeds) rfl rfl rfl (w3.town (by decide)) hne (by omega)) (by simp) fun v S4 ⟨w4, g, hg, e1⟩ => ?_
      subst e1
      have wT4 := w3.trans w4
      show Goes (sSeq _ _ (lw ns h M x6 (some (.d (.list nms))) (some (.d x)) (some (.d y)) (some (.d (.bool b))) (some (.d g)) none none none none) S4) _ _
      refine gs_ret (st_gone wT4 I DS pm hfew hg hnm hnl) (fun z => by cases z) fun _ => ?_
      refine gs_nv (st_bent I DS hfew) (by simp) ?_
      generalize hbt : (h.deeds.filter fun d => decide ((1 : Int) < (PO h (nm2 d)).length)) = bent
      have hbs : ∀ d ∈ bent, d ∈ h.deeds := fun d hd => by
        rw [← hbt] at hd
        exact (List.mem_filter.mp hd).1
      have hbl : bent.length ≤ 400 := by
        rw [← hbt]
        exact Nat.le_trans (List.length_filter_le _ _) hfew
      show Goes (sSeq _ _ (lw ns h M x6 (some (.d (.list nms))) (some (.d x)) (some (.d y)) (some (.d (.bool b))) (some (.d g)) (some (.d (.list bent))) none none none) S4) _ _
      have shb : SeqAt.shaped (.list bent) = true := GoodL.shaped fun d hd => ⟨(DS.dg d (hbs d hd)).good, (DS.dg d (hbs d hd)).depth⟩
      refine gs_ret (eq_nil0 (e := evVar 12) rfl shb) (fun _ => go_ret (P := fun v S' => v = .d (.bool true) ∧ S' = S4) (.of (st_twice wT4 DS hfew hg) ⟨rfl, rfl⟩) fun v S' ⟨e1, e2⟩ => ⟨e1, e2 ▸ wT4⟩) fun hbe => ?_
      have hbne : bent ≠ [] := of_decide_eq_false hbe
      refine gs_name (en_pick (t_pick 12) (xs := bent) rfl rfl rfl (wT4.town (by decide)) hbne (by omega)) (by simp) fun v S5 ⟨w5, d, hdb, e1⟩ => ?_
      subst e1
      have hd := hbs d hdb
      have wT5 := wT4.trans w5
      show Goes (sSeq _ _ (lw ns h M x6 (some (.d (.list nms))) (some (.d x)) (some (.d y)) (some (.d (.bool b))) (some (.d g)) (some (.d (.list bent))) (some (.d d)) none none) S5) _ _
      refine gs_nv (st_more I DS hfew hd) (by simp) ?_
      have hmn : ∀ z ∈ (PO h (nm2 d)).filter (fun x => !memB x (afterOf d)), isName z = true ∧ z ∈ PO h (nm2 d) ∧ z ∉ afterOf d := fun z hz => by
        obtain ⟨z1, z2⟩ := List.mem_filter.mp hz
        have zn := DS.names d hd z z1
        refine ⟨zn, z1, fun w => ?_⟩
        rw [Bool.not_eq_true', ← Bool.not_eq_true] at z2
        exact z2 ((memB_iff zn (DS.sys.deed d hd).names).mpr w)
      have hml : ((PO h (nm2 d)).filter (fun x => !memB x (afterOf d))).length ≤ 400 := by
        have := nodup_le (DS.sys.pnd d hd) (DS.sys.closed d hd)
        rw [List.length_map] at this
        exact Nat.le_trans (List.length_filter_le _ _) (by omega)
      generalize (PO h (nm2 d)).filter (fun x => !memB x (afterOf d)) = more at hmn hml ⊢
      show Goes (sSeq _ _ (lw ns h M x6 (some (.d (.list nms))) (some (.d x)) (some (.d y)) (some (.d (.bool b))) (some (.d g)) (some (.d (.list bent))) (some (.d d)) (some (.d (.list more))) none) S5) _ _
      have shm : SeqAt.shaped (.list more) = true := Names.shaped fun z hz => (hmn z hz).1
      refine gs_ret (eq_nil0 (e := evVar 14) rfl shm) (fun _ => go_ret (P := fun v S' => v = .d (.bool true) ∧ S' = S5) (.of rfl ⟨rfl, rfl⟩) fun v S' ⟨e1, e2⟩ => ⟨e1, e2 ▸ wT5⟩) fun hme => ?_
      have hmne : more ≠ [] := of_decide_eq_false hme
      refine gs_name (st_after DS hd (fun z hz => (hmn z hz).1) hmne hml (wT5.town (by decide))) (by simp) fun v S6 ⟨w6, z, hz, e1⟩ => ?_
      subst e1
      have wT6 := wT5.trans w6
      show Goes (sRet _ (lw ns h M x6 (some (.d (.list nms))) (some (.d x)) (some (.d y)) (some (.d (.bool b))) (some (.d g)) (some (.d (.list bent))) (some (.d d)) (some (.d (.list more))) (some (.d (.tuple (sortD (afterOf d ++ [z])))))) S6) _ _
      exact go_ret (P := fun v S' => v = .d (.bool true) ∧ S' = S6) (.of (st_last wT6 DS hfew hd (hmn z hz).2.1 (hmn z hz).2.2 (H.one d hd).few (hnd d hd)) ⟨rfl, rfl⟩) fun v S' ⟨e1, e2⟩ => ⟨e1, e2 ▸ wT6⟩
  · subst e
    obtain ⟨S, e⟩ := fin_tw w
    exact .of e rfl
end Lw
set_option maxHeartbeats 0
namespace Lw
open L2 PySem PySem.Spec FH
def dd_is_whole : He.DefD := ⟨("is_whole", none), "is_whole", "is_whole", defArgs s_is_whole, defBody s_is_whole, defScope s_is_whole, [], []⟩
def dd_is_word : He.DefD := ⟨("is_word", none), "is_word", "is_word", defArgs s_is_word, defBody s_is_word, defScope s_is_word, [], []⟩
def dd_is_value : He.DefD := ⟨("is_value", none), "is_value", "is_value", defArgs s_is_value, defBody s_is_value, defScope s_is_value, [], []⟩
def dd_is_name : He.DefD := ⟨("is_name", none), "is_name", "is_name", defArgs s_is_name, defBody s_is_name, defScope s_is_name, [], []⟩
def dd_is_right : He.DefD := ⟨("is_right", none), "is_right", "is_right", defArgs s_is_right, defBody s_is_right, defScope s_is_right, [], []⟩
def dd_is_on_entry : He.DefD := ⟨("is_on_entry", none), "is_on_entry", "is_on_entry", defArgs s_is_on_entry, defBody s_is_on_entry, defScope s_is_on_entry, [], []⟩
def dd_is_what : He.DefD := ⟨("is_what", none), "is_what", "is_what", defArgs s_is_what, defBody s_is_what, defScope s_is_what, [], []⟩
def dd_is_deed : He.DefD := ⟨("is_deed", none), "is_deed", "is_deed", defArgs s_is_deed, defBody s_is_deed, defScope s_is_deed, [], []⟩
def dd_ordered : He.DefD := ⟨("ordered", none), "ordered", "ordered", defArgs s_ordered, defBody s_ordered, defScope s_ordered, [], []⟩
def dd_pasts_of : He.DefD := ⟨("pasts_of", none), "pasts_of", "pasts_of", defArgs s_pasts_of, defBody s_pasts_of, defScope s_pasts_of, [], []⟩
def dd_are_deeds : He.DefD := ⟨("are_deeds", none), "are_deeds", "are_deeds", defArgs s_are_deeds, defBody s_are_deeds, defScope s_are_deeds, [], []⟩
def dd_need_deeds : He.DefD := ⟨("need_deeds", none), "need_deeds", "need_deeds", defArgs s_need_deeds, defBody s_need_deeds, defScope s_need_deeds, [], []⟩
def dd_need_names : He.DefD := ⟨("need_names", none), "need_names", "need_names", defArgs s_need_names, defBody s_need_names, defScope s_need_names, [], []⟩
def dd_past : He.DefD := ⟨("past", none), "past", "past", defArgs s_past, defBody s_past, defScope s_past, [], []⟩
def dd_are_apart : He.DefD := ⟨("are_apart", none), "are_apart", "are_apart", defArgs s_are_apart, defBody s_are_apart, defScope s_are_apart, [], []⟩
def dd__law_draw : He.DefD := ⟨("_law_draw", none), "_law_draw", "_law_draw", defArgs s__law_draw, defBody s__law_draw, defScope s__law_draw, [], []⟩
def dd__law_pick : He.DefD := ⟨("_law_pick", none), "_law_pick", "_law_pick", defArgs s__law_pick, defBody s__law_pick, defScope s__law_pick, [], []⟩
def dd__law_heads : He.DefD := ⟨("_law_heads", none), "_law_heads", "_law_heads", defArgs s__law_heads, defBody s__law_heads, defScope s__law_heads, [], []⟩
def dd__law_thing : He.DefD := ⟨("_law_thing", none), "_law_thing", "_law_thing", defArgs s__law_thing, defBody s__law_thing, defScope s__law_thing, [], []⟩
def dd__law_history : He.DefD := ⟨("_law_history", none), "_law_history", "_law_history", defArgs s__law_history, defBody s__law_history, defScope s__law_history, [], []⟩
def dd__law_shuffled : He.DefD := ⟨("_law_shuffled", none), "_law_shuffled", "_law_shuffled", defArgs s__law_shuffled, defBody s__law_shuffled, defScope s__law_shuffled, [], []⟩
def dd_law : He.DefD := ⟨("law", none), "law", "law", defArgs s_law, defBody s_law, defScope s_law, [], []⟩
def dds : List He.DefD := [dd_is_whole, dd_is_word, dd_is_value, dd_is_name, dd_is_right, dd_is_on_entry, dd_is_what, dd_is_deed, dd_ordered, dd_pasts_of, dd_are_deeds, dd_need_deeds, dd_need_names, dd_past, dd_are_apart, dd__law_draw, dd__law_pick, dd__law_heads, dd__law_thing, dd__law_history, dd__law_shuffled, dd_law]
def fas : List He.Fa := [.glo "is_whole", .glo "is_word", .glo "is_value", .glo "is_name", .glo "is_right", .glo "is_on_entry", .glo "is_what", .glo "is_deed", .glo "ordered", .glo "pasts_of", .glo "are_deeds", .glo "need_deeds", .glo "need_names", .glo "past", .glo "are_apart", .glo "_law_draw", .glo "_law_pick", .glo "_law_heads", .glo "_law_thing", .glo "_law_history", .glo "_law_shuffled", .glo "law", .free "all", .free "any", .free "bool", .free "int", .free "isinstance", .free "len", .free "list", .free "range", .free "set", .free "sorted", .free "str", .free "tuple", .free "zip", .str "LETTERS" "abcdefghijklmnopqrstuvwxyz", .str "FIGURES" "0123456789", .int "MOST" 9999]
abbrev Rw : PySem.W.OpenRow := PySem.W.OpenLaw.row PySem.Challenge.rw_farhands_k02_pasts
def tbs : FH.Tabs := [(("are_deeds", none), "are_deeds.<locals>.<lambda>"), (("past", none), "past.<locals>.<lambda>"), (("are_apart", none), "are_apart.<locals>.<lambda>")]
abbrev hk : PySem.W.Hook := He.hookX 4 fas dds [] (tbs.map (·.1)) (FH.tabsX tbs)
def obs (s : PySem.W.SharedT) : He.AlX := He.obsX 4 fas dds [] (tbs.map (·.1)) (FH.tabsX tbs) (HandSHeadRun.getT s)
theorem obs_eq (s : PySem.W.SharedT) : obs s = hk.obs s.abs := He.obsX_eq (HandSHeadRun.getT_eq s)
def loose : List Str := [("BookError" : Str), ("NoDeeds" : Str), ("NoNames" : Str), ("LETTERS" : Str), ("FIGURES" : Str), ("MOST" : Str), ("is_whole" : Str), ("is_word" : Str), ("is_value" : Str), ("is_name" : Str), ("is_right" : Str), ("is_on_entry" : Str), ("is_what" : Str), ("is_deed" : Str), ("ordered" : Str), ("pasts_of" : Str), ("are_deeds" : Str), ("need_deeds" : Str), ("need_names" : Str), ("past" : Str), ("are_apart" : Str), ("_law_draw" : Str), ("_law_pick" : Str), ("_law_heads" : Str), ("_law_thing" : Str), ("_law_history" : Str), ("_law_shuffled" : Str)]
theorem runs (w : World) : HandSHeadRun.RunEq Rw (PySem.W.view Rw.prog [30]) hk obs 4000 loose w := by
  intro os
  kernel_rfl
theorem tx_of {K : PySem.W.Frag} {h : Heap} {mg : Str → Option Value} (X : K.In h) (G : h.Ns mainGlobals mg) (c : He.SaysD fas dds K) : Tx K mg := by
  exact ⟨He.free_ok X G (c.fact 22 (f := .free "all") rfl),
    He.free_ok X G (c.fact 23 (f := .free "any") rfl),
    He.free_ok X G (c.fact 24 (f := .free "bool") rfl),
    He.free_ok X G (c.fact 25 (f := .free "int") rfl),
    He.free_ok X G (c.fact 26 (f := .free "isinstance") rfl),
    He.free_ok X G (c.fact 27 (f := .free "len") rfl),
    He.free_ok X G (c.fact 28 (f := .free "list") rfl),
    He.free_ok X G (c.fact 29 (f := .free "range") rfl),
    He.free_ok X G (c.fact 30 (f := .free "set") rfl),
    He.free_ok X G (c.fact 31 (f := .free "sorted") rfl),
    He.free_ok X G (c.fact 32 (f := .free "str") rfl),
    He.free_ok X G (c.fact 33 (f := .free "tuple") rfl),
    He.free_ok X G (c.fact 34 (f := .free "zip") rfl),
    He.str_ok X G (c.fact 35 (f := .str "LETTERS" "abcdefghijklmnopqrstuvwxyz") rfl),
    He.str_ok X G (c.fact 36 (f := .str "FIGURES" "0123456789") rfl),
    He.int_ok X G (c.fact 37 (f := .int "MOST" 9999) rfl),
    He.glo_ok X G (c.fact 0 (f := .glo "is_whole") rfl),
    He.glo_ok X G (c.fact 1 (f := .glo "is_word") rfl),
    He.glo_ok X G (c.fact 2 (f := .glo "is_value") rfl),
    He.glo_ok X G (c.fact 3 (f := .glo "is_name") rfl),
    He.glo_ok X G (c.fact 4 (f := .glo "is_right") rfl),
    He.glo_ok X G (c.fact 5 (f := .glo "is_on_entry") rfl),
    He.glo_ok X G (c.fact 6 (f := .glo "is_what") rfl),
    He.glo_ok X G (c.fact 7 (f := .glo "is_deed") rfl),
    He.glo_ok X G (c.fact 8 (f := .glo "ordered") rfl),
    He.glo_ok X G (c.fact 9 (f := .glo "pasts_of") rfl),
    He.glo_ok X G (c.fact 10 (f := .glo "are_deeds") rfl),
    He.glo_ok X G (c.fact 11 (f := .glo "need_deeds") rfl),
    He.glo_ok X G (c.fact 12 (f := .glo "need_names") rfl),
    He.glo_ok X G (c.fact 13 (f := .glo "past") rfl),
    He.glo_ok X G (c.fact 14 (f := .glo "are_apart") rfl),
    He.glo_ok X G (c.fact 15 (f := .glo "_law_draw") rfl),
    He.glo_ok X G (c.fact 16 (f := .glo "_law_pick") rfl),
    He.glo_ok X G (c.fact 17 (f := .glo "_law_heads") rfl),
    He.glo_ok X G (c.fact 18 (f := .glo "_law_thing") rfl),
    He.glo_ok X G (c.fact 19 (f := .glo "_law_history") rfl),
    He.glo_ok X G (c.fact 20 (f := .glo "_law_shuffled") rfl),
    He.glo_ok X G (c.fact 21 (f := .glo "law") rfl),
    c.def_ 0 (d := dd_is_whole) rfl,
    c.def_ 1 (d := dd_is_word) rfl,
    c.def_ 2 (d := dd_is_value) rfl,
    c.def_ 3 (d := dd_is_name) rfl,
    c.def_ 4 (d := dd_is_right) rfl,
    c.def_ 5 (d := dd_is_on_entry) rfl,
    c.def_ 6 (d := dd_is_what) rfl,
    c.def_ 7 (d := dd_is_deed) rfl,
    c.def_ 8 (d := dd_ordered) rfl,
    c.def_ 9 (d := dd_pasts_of) rfl,
    c.def_ 10 (d := dd_are_deeds) rfl,
    c.def_ 11 (d := dd_need_deeds) rfl,
    c.def_ 12 (d := dd_need_names) rfl,
    c.def_ 13 (d := dd_past) rfl,
    c.def_ 14 (d := dd_are_apart) rfl,
    c.def_ 15 (d := dd__law_draw) rfl,
    c.def_ 16 (d := dd__law_pick) rfl,
    c.def_ 17 (d := dd__law_heads) rfl,
    c.def_ 18 (d := dd__law_thing) rfl,
    c.def_ 19 (d := dd__law_history) rfl,
    c.def_ 20 (d := dd__law_shuffled) rfl,
    c.def_ 21 (d := dd_law) rfl⟩
def spLaw (K : PySem.W.Frag) : Sp := fun vs H Q _ => ∃ (a : Addr) (ns : List Int), vs = [.ref a] ∧ SqL K H a (ns.map V.int) ∧ ns.length ≤ 63 ∧ (∀ p ∈ FH.tabsC K tbs, H p.2 = some (.tbl #[])) ∧ ∀ H', Q (.bl true) H'
theorem law_ok {P : Program} {w : World} {K : PySem.W.Frag} {mg : Str → Option Value} {fa : Addr} {h : Heap} (X : K.In h) (G : h.Ns mainGlobals mg) (hfa : mg ("law" : Str) = some (.ref fa)) (c : He.SaysD fas dds K) (nd : FH.tabsX tbs K = true) :
    ∃ fd : FuncData, (∀ (s : Shared) (v : Value), BindsTo s fd ⟨[v], []⟩ [("script", v)]) ∧ ∀ base : Heap, K.In base → base.Ns mainGlobals mg → (∀ p ∈ FH.tabsC K tbs, LamX.TabB base mg p.1 p.2) → FnOk P w K mg base CX0 15 fa fd ["script"] (spLaw K) := by
  have T := tx_of X G c
  obtain ⟨fd, F⟩ := T.d_law
  have e := hfa.symm.trans T.g_law
  cases e
  have b := FunD.bindsA (ps := ["script"]) F fun _ _ _ _ _ _ us hl => match us, hl with | [_], _ => rfl
  refine ⟨fd, fun s v => b s [v] rfl, fun base _ _ hB => ?_⟩
  have B : Tb K mg base := ⟨hB _ (List.mem_map.mpr ⟨(("are_deeds", none), "are_deeds.<locals>.<lambda>"), by simp [tbs], rfl⟩), hB _ (List.mem_map.mpr ⟨(("past", none), "past.<locals>.<lambda>"), by simp [tbs], rfl⟩), hB _ (List.mem_map.mpr ⟨(("are_apart", none), "are_apart.<locals>.<lambda>"), by simp [tbs], rfl⟩)⟩
  have L := k_law (P := P) (w := w) (base := base) T B (lv (P := P) (w := w) (base := base) T B 14)
  refine (L.fd F).imp fun vs H Q E h => ?_
  obtain ⟨a, ns, rfl, h1, h2, hH, h3⟩ := h
  refine ⟨FH.tabsA K tbs, FH.tabsS tbs, [.scr ns], relT (of_decide_eq_true nd) hH, .cons ⟨a, rfl, sqlT hH h1⟩ .nil, rfl, ?_⟩
  · obtain ⟨S', e⟩ := law_true ns h2
    have e2 : fnB false 16 (b_law (tab 14)) [.scr ns] (FH.tabsS tbs) = .ok (.d (.bool true)) S' := e
    rw [e2]
    refine fun ρ' H' x _ _ q => ?_
    cases q.bl_
    exact h3 H'
end Lw
open PySem PySem.W PySem.Calls PyProof.Rows in
set_option maxRecDepth 100000 in
set_option maxHeartbeats 0 in
theorem PySem.Challenge.cw_farhands_k02_pasts_holds : PySem.Challenge.rw_farhands_k02_pasts.Holds := by
  w_on; o_law
  refine HandSHeadRun.head_any (r := OpenLaw.row PySem.Challenge.rw_farhands_k02_pasts) (q := view (OpenLaw.row PySem.Challenge.rw_farhands_k02_pasts).prog [30]) (H := Lw.hk) (ob := Lw.obs) (M := 4000) (loose := Lw.loose) (d := HandSHeadRun.topDef (OpenLaw.row PySem.Challenge.rw_farhands_k02_pasts).prog 30) (kwd := []) Lw.obs_eq
    (by kernel_rfl) (fun s => by kernel_rfl) Lw.runs (by kernel_rfl) (by kernel_rfl) (by kernel_rfl) (by rfl) (by first | assumption | decide +kernel) (by decide +kernel) ⟨rfl, rfl, rfl, rfl, rfl, by decide +kernel⟩ ?hw ?hc
  case hw => w_witness2
  case hc =>
    refine FH.walk_ofTE (l := PySem.Challenge.rw_farhands_k02_pasts) (n := 63) (k := 15) (x := "script") (CX := L2.CX0) rfl (by decide) (by kernel_rfl) ⟨rfl, by decide, by decide⟩ ?F (fun _ _ _ _ z => z)
    intro w mg fa h Y G hmg0
    obtain ⟨K, KX, c⟩ := Y
    have hmg : mg ("law" : PySem.Str) = some (.ref fa) := by
      have e : (HandSHeadRun.topDef (OpenLaw.row PySem.Challenge.rw_farhands_k02_pasts).prog 30).name = ("law" : PySem.Str) := by kernel_rfl
      rw [← e]
      exact hmg0
    obtain ⟨fd, hb, hF⟩ := Lw.law_ok (P := (PySem.Challenge.rw_farhands_k02_pasts).prog) (w := w) KX G hmg c.t.d c.more
    have hm : ∀ p ∈ FH.tabsC K Lw.tbs, ∃ q ∈ Lw.tbs.map (·.1), p = He.cT K q := fun p hp => by
      obtain ⟨q, hq, e⟩ := List.mem_map.mp hp
      exact ⟨q.1, List.mem_map.mpr ⟨q, hq, rfl⟩, e.symm⟩
    refine ⟨K, KX, fd, FH.tabsC K Lw.tbs, Lw.spLaw K, fun p hp => ?_, fun p hp => ?_, fun p hp => ?_, hb, fun H a ns hl _ hH hS => ⟨a, ns, rfl, hS, hl, hH, fun _ => rfl⟩, hF⟩
    · obtain ⟨q, hq, rfl⟩ := hm p hp
      exact c.empty q hq
    · obtain ⟨q, hq, rfl⟩ := hm p hp
      exact c.out q hq
    · obtain ⟨q, hq, rfl⟩ := hm p hp
      exact PySem.W.codeHd_of_K KX (c.hd q hq)
