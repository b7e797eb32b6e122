import PyProof.Rows.All
import Wide.All
import OpenK.AllK
import Wide.FinOn
import HandS.ForMost
import HandS.Exc
import HandS.TryOnly
import HandS.ExcOwn
import HandS.WordsExc
import HandS.Wide
import HandS.Walk
import HandS.IsInst
import HandS.Style
import HandS.Defaults
import HandS.Zip
import PyProof.ReprRoads
import HandS.Codes
import PyProof.InstNe
import PyProof.StrReplace2
import KE.RegKIsAll
import HandS.Small
import HandS.ExcField
import HandS.ExcInit
import HandS.ExcSuper
import HandS.Nested
import KE.KExcSuper
import HandS.OwnEq
import PyProof.RowDictHeap
import HandS.FStr
import HandS.StrMore
import HandS.RaiseMore
import HandS.ClsMeth
import HandS.Star
import KE.KCallOwn
import KE.RegKTryMore
import KE.RegKSuper
import PySem.Challenge.RW_saidchances_k06_texts_of_ratios
set_option Elab.async false
set_option linter.all false
set_option maxRecDepth 100000
set_option maxHeartbeats 4000000
/-! Dv1: values as plain data (D), a store of what may change (MO), and how they stand in the abstract heap. -/
namespace Dv
open PySem L2
/-- plain data that nobody changes; ins a c fs: an instance at a of the class with the number c -/
inductive D where
  | non | bl (b : Bool) | int (i : Int) | str (x : Str) | ty (n : String)
  | lst (xs : List D) | tup (xs : List D)
  | obj (a : Addr) (o : HO)
  | ins (a : Addr) (c : Nat) (fs : List (Str × D))
  | cls (c : Nat)
  | exn (a d : Addr) (c : Nat) (fs : List (Str × D))
/-- a value: plain data, or the k-th thing of the store -/
inductive Sl where
  | val (d : D) | cell (k : Nat)
/-- what may change: a list, an instance, the law's own drawing state (n: a bound of its draws) -/
inductive MO where
  | lst (xs : List Sl) | ins (c : Nat) (fs : List (Str × Sl)) | draw (n : Nat) | dead
structure G where
  K : PySem.W.Frag
  cls : Nat → Addr
section
variable (g : G) (I : Hp)
mutual
inductive Rp : V → D → Prop
  | non : Rp .non .non
  | bl {b : Bool} : Rp (.bl b) (.bl b)
  | int {i : Int} : Rp (.int i) (.int i)
  | str {x : Str} : Rp (.str x) (.str x)
  | ty {n : String} : Rp (.ty n) (.ty n)
  | lst {a : Addr} {vs : List V} {ds : List D} : SqL g.K I a vs → RpL vs ds → Rp (.ref a) (.lst ds)
  | tup {a : Addr} {vs : List V} {ds : List D} : SqT g.K I a vs → RpL vs ds → Rp (.ref a) (.tup ds)
  | obj {a : Addr} {o : HO} : I a = some o → Rp (.ref a) (.obj a o)
  | ins {a : Addr} {c : Nat} {dx : Addr} {vs : List (Str × V)} {fs : List (Str × D)} : I a = some (.ins (g.cls c) dx vs) → RpF vs fs → Rp (.ref a) (.ins a c fs)
  | cls {c : Nat} : Rp (.ref (g.cls c)) (.cls c)
  | exn0 {a d : Addr} {c : Nat} : Rp (.ref a) (.exn a d c [])
  | exn {a d : Addr} {c : Nat} {vs : List (Str × V)} {fs : List (Str × D)} : I d = some (.xd vs) → RpF vs fs → Rp (.ref a) (.exn a d c fs)
inductive RpL : List V → List D → Prop
  | nil : RpL [] []
  | cons {v : V} {d : D} {vs : List V} {ds : List D} : Rp v d → RpL vs ds → RpL (v :: vs) (d :: ds)
inductive RpF : List (Str × V) → List (Str × D) → Prop
  | nil : RpF [] []
  | cons {f : Str} {v : V} {d : D} {vs : List (Str × V)} {fs : List (Str × D)} : Rp v d → RpF vs fs → RpF ((f, v) :: vs) ((f, d) :: fs)
end
end
theorem sqT_same {K : PySem.W.Frag} {H H' : Hp} {a : Addr} {xs : List V} (e : Same H H') (h : SqT K H a xs) : SqT K H' a xs := by
  rcases h with (h | ⟨o, h⟩) | h
  · exact .inl (.inl (e _ _ h))
  · exact .inl (.inr ⟨o, e _ _ h⟩)
  · exact .inr h
section
variable {g : G} {I I' : Hp}
mutual
theorem Rp.mono (x : Same I I') : ∀ {v : V} {d : D}, Rp g I v d → Rp g I' v d
  | _, _, .non => .non
  | _, _, .bl => .bl
  | _, _, .int => .int
  | _, _, .str => .str
  | _, _, .ty => .ty
  | _, _, .lst h r => .lst (x.seq h) (RpL.mono x r)
  | _, _, .tup h r => .tup (sqT_same x h) (RpL.mono x r)
  | _, _, .obj h => .obj (x _ _ h)
  | _, _, .ins h r => .ins (x _ _ h) (RpF.mono x r)
  | _, _, .cls => .cls
  | _, _, .exn0 => .exn0
  | _, _, .exn h r => .exn (x _ _ h) (RpF.mono x r)
theorem RpL.mono (x : Same I I') : ∀ {vs : List V} {ds : List D}, RpL g I vs ds → RpL g I' vs ds
  | _, _, .nil => .nil
  | _, _, .cons r t => .cons (Rp.mono x r) (RpL.mono x t)
theorem RpF.mono (x : Same I I') : ∀ {vs : List (Str × V)} {ds : List (Str × D)}, RpF g I vs ds → RpF g I' vs ds
  | _, _, .nil => .nil
  | _, _, .cons r t => .cons (Rp.mono x r) (RpF.mono x t)
end
theorem RpL.length : ∀ {vs : List V} {ds : List D}, RpL g I vs ds → vs.length = ds.length
  | _, _, .nil => rfl
  | _, _, .cons _ t => congrArg Nat.succ (RpL.length t)
theorem RpL.get : ∀ {vs : List V} {ds : List D} {i : Nat} {v : V}, RpL g I vs ds → vs[i]? = some v → ∃ d, ds[i]? = some d ∧ Rp g I v d
  | _, _, 0, _, .cons r _, h => by
    have e := Option.some.inj h
    subst e
    exact ⟨_, rfl, r⟩
  | _, _, i + 1, _, .cons _ t, h => RpL.get (i := i) t h
theorem RpL.getD : ∀ {vs : List V} {ds : List D} {i : Nat} {d : D}, RpL g I vs ds → ds[i]? = some d → ∃ v, vs[i]? = some v ∧ Rp g I v d
  | _, _, 0, _, .cons r _, h => by
    have e := Option.some.inj h
    subst e
    exact ⟨_, rfl, r⟩
  | _, _, i + 1, _, .cons _ t, h => RpL.getD (i := i) t h
theorem RpL.append : ∀ {vs ws : List V} {ds es : List D}, RpL g I vs ds → RpL g I ws es → RpL g I (vs ++ ws) (ds ++ es)
  | _, _, _, _, .nil, b => b
  | _, _, _, _, .cons r t, b => .cons r (RpL.append t b)
theorem RpL.take : ∀ {vs : List V} {ds : List D} (n : Nat), RpL g I vs ds → RpL g I (vs.take n) (ds.take n)
  | _, _, 0, _ => .nil
  | _, _, _ + 1, .nil => .nil
  | _, _, n + 1, .cons r t => .cons r (RpL.take n t)
theorem RpL.drop : ∀ {vs : List V} {ds : List D} (n : Nat), RpL g I vs ds → RpL g I (vs.drop n) (ds.drop n)
  | _, _, 0, r => r
  | _, _, _ + 1, .nil => .nil
  | _, _, n + 1, .cons _ t => RpL.drop n t
theorem RpL.ints : ∀ (ns : List Int), RpL g I (ns.map V.int) (ns.map D.int)
  | [] => .nil
  | _ :: r => .cons .int (RpL.ints r)
theorem RpL.ints_inv : ∀ {vs : List V} {ns : List Int}, RpL g I vs (ns.map D.int) → vs = ns.map V.int
  | _, [], .nil => rfl
  | _, _ :: r, .cons h t => by
    cases h
    rw [RpL.ints_inv (ns := r) t]
    rfl
theorem RpL.bls_inv : ∀ {vs : List V} {bs : List Bool}, RpL g I vs (bs.map D.bl) → vs = bs.map V.bl
  | _, [], .nil => rfl
  | _, _ :: r, .cons h t => by
    cases h
    rw [RpL.bls_inv (bs := r) t]
    rfl
theorem RpF.lookup : ∀ {vs : List (Str × V)} {ds : List (Str × D)} {f : Str} {d : D}, RpF g I vs ds → ds.lookup f = some d → ∃ v, vs.lookup f = some v ∧ Rp g I v d
  | _, _, f, d, .nil, h => by cases h
  | _, _, f, d, .cons (f := f') r t, h => by
    by_cases e : f = f'
    · subst e
      rw [List.lookup_cons_self] at h
      cases h
      exact ⟨_, List.lookup_cons_self, r⟩
    · have q : (f == f') = false := by simpa using e
      rw [List.lookup_cons, q] at h
      obtain ⟨v, h1, h2⟩ := RpF.lookup (f := f) t h
      exact ⟨v, by rw [List.lookup_cons, q]; exact h1, h2⟩
theorem RpF.lookup_none : ∀ {vs : List (Str × V)} {ds : List (Str × D)} {f : Str}, RpF g I vs ds → ds.lookup f = none → vs.lookup f = none
  | _, _, f, .nil, h => rfl
  | _, _, f, .cons (f := f') r t, h => by
    by_cases e : f = f'
    · subst e
      rw [List.lookup_cons_self] at h
      cases h
    · have q : (f == f') = false := by simpa using e
      rw [List.lookup_cons, q] at h ⊢
      exact RpF.lookup_none (f := f) t h
theorem RpF.length : ∀ {vs : List (Str × V)} {ds : List (Str × D)}, RpF g I vs ds → vs.length = ds.length
  | _, _, .nil => rfl
  | _, _, .cons _ t => congrArg Nat.succ (RpF.length t)
end
/-! ### values of either kind -/
section
variable (g : G) (I : Hp) (α : List Addr)
inductive RpS : V → Sl → Prop
  | val {v : V} {d : D} : Rp g I v d → RpS v (.val d)
  | cell {k : Nat} {a : Addr} : α[k]? = some a → RpS (.ref a) (.cell k)
inductive RpSL : List V → List Sl → Prop
  | nil : RpSL [] []
  | cons {v : V} {d : Sl} {vs : List V} {ds : List Sl} : RpS g I α v d → RpSL vs ds → RpSL (v :: vs) (d :: ds)
inductive RpSF : List (Str × V) → List (Str × Sl) → Prop
  | nil : RpSF [] []
  | cons {f : Str} {v : V} {d : Sl} {vs : List (Str × V)} {fs : List (Str × Sl)} : RpS g I α v d → RpSF vs fs → RpSF ((f, v) :: vs) ((f, d) :: fs)
end
/-- the heap has grown -/
structure Ext (I : Hp) (α : List Addr) (I' : Hp) (α' : List Addr) : Prop where
  hp : Same I I'
  ad : ∀ (k : Nat) (a : Addr), α[k]? = some a → α'[k]? = some a
theorem Ext.refl (I : Hp) (α : List Addr) : Ext I α I α := ⟨Same.refl I, fun _ _ h => h⟩
theorem Ext.trans {I I1 I2 : Hp} {α α1 α2 : List Addr} (a : Ext I α I1 α1) (b : Ext I1 α1 I2 α2) : Ext I α I2 α2 :=
  ⟨a.hp.trans b.hp, fun k x h => b.ad k x (a.ad k x h)⟩
theorem Ext.of {I I' : Hp} (h : Same I I') (α : List Addr) : Ext I α I' α := ⟨h, fun _ _ h => h⟩
section
variable {g : G} {I I' : Hp} {α α' : List Addr}
theorem RpS.mono (x : Ext I α I' α') {v : V} {d : Sl} : RpS g I α v d → RpS g I' α' v d
  | .val r => .val (r.mono x.hp)
  | .cell h => .cell (x.ad _ _ h)
theorem RpSL.mono (x : Ext I α I' α') : ∀ {vs : List V} {ds : List Sl}, RpSL g I α vs ds → RpSL g I' α' vs ds
  | _, _, .nil => .nil
  | _, _, .cons r t => .cons (r.mono x) (RpSL.mono x t)
theorem RpSF.mono (x : Ext I α I' α') : ∀ {vs : List (Str × V)} {ds : List (Str × Sl)}, RpSF g I α vs ds → RpSF g I' α' vs ds
  | _, _, .nil => .nil
  | _, _, .cons r t => .cons (r.mono x) (RpSF.mono x t)
theorem RpSL.length : ∀ {vs : List V} {ds : List Sl}, RpSL g I α vs ds → vs.length = ds.length
  | _, _, .nil => rfl
  | _, _, .cons _ t => congrArg Nat.succ (RpSL.length t)
theorem RpSL.append : ∀ {vs ws : List V} {ds es : List Sl}, RpSL g I α vs ds → RpSL g I α ws es → RpSL g I α (vs ++ ws) (ds ++ es)
  | _, _, _, _, .nil, b => b
  | _, _, _, _, .cons r t, b => .cons r (RpSL.append t b)
theorem RpSL.set : ∀ {vs : List V} {ds : List Sl} (n : Nat) {v : V} {d : Sl}, RpSL g I α vs ds → RpS g I α v d → RpSL g I α (vs.set n v) (ds.set n d)
  | _, _, _, _, _, .nil, _ => .nil
  | _, _, 0, _, _, .cons _ t, r => .cons r t
  | _, _, n + 1, _, _, .cons q t, r => .cons q (RpSL.set n t r)
theorem RpSL.get : ∀ {vs : List V} {ds : List Sl} {i : Nat} {v : V}, RpSL g I α vs ds → vs[i]? = some v → ∃ d, ds[i]? = some d ∧ RpS g I α v d
  | _, _, 0, _, .cons r _, h => by
    have e := Option.some.inj h
    subst e
    exact ⟨_, rfl, r⟩
  | _, _, i + 1, _, .cons _ t, h => RpSL.get (i := i) t h
theorem RpSL.getD : ∀ {vs : List V} {ds : List Sl} {i : Nat} {d : Sl}, RpSL g I α vs ds → ds[i]? = some d → ∃ v, vs[i]? = some v ∧ RpS g I α v d
  | _, _, 0, _, .cons r _, h => by
    have e := Option.some.inj h
    subst e
    exact ⟨_, rfl, r⟩
  | _, _, i + 1, _, .cons _ t, h => RpSL.getD (i := i) t h
theorem RpSL.ofL : ∀ {vs : List V} {ds : List D}, RpL g I vs ds → RpSL g I α vs (ds.map Sl.val)
  | _, _, .nil => .nil
  | _, _, .cons r t => .cons (.val r) (RpSL.ofL t)
theorem RpSL.toL : ∀ {vs : List V} {ds : List D}, RpSL g I α vs (ds.map Sl.val) → RpL g I vs ds
  | _, [], .nil => .nil
  | _, _ :: _, .cons (.val r) t => .cons r (RpSL.toL t)
end
/-! ### the store -/
section
variable (g : G) (I : Hp) (α : List Addr) (H : Hp)
def MRep (a : Addr) (fp : List Addr) : MO → Prop
  | .lst ds => fp = [a] ∧ ∃ vs, H a = some (.lst vs) ∧ RpSL g I α vs ds
  | .ins c fs => fp = [a] ∧ ∃ dx vs, H a = some (.ins (g.cls c) dx vs) ∧ RpSF g I α vs fs
  | .draw n => ∃ (b c : Addr) (gs cs : List Int) (m : Int), fp = [a, b] ∧ H a = some (.lst [.ref b, .ref c, .int m]) ∧ H b = some (.lst (gs.map V.int)) ∧ SqL g.K I c (cs.map V.int) ∧ cs ≠ [] ∧ 0 ≤ m ∧ m ≤ (n : Int)
  | .dead => fp = []
end
theorem MRep.mono {g : G} {I I' : Hp} {α α' : List Addr} {H H' : Hp} {a : Addr} {fp : List Addr} {o : MO} (x : Ext I α I' α') (h : ∀ b ∈ fp, H' b = H b) (r : MRep g I α H a fp o) : MRep g I' α' H' a fp o := by
  cases o with
  | lst ds =>
    obtain ⟨e, vs, h1, h2⟩ := r
    subst e
    exact ⟨rfl, vs, (h a (by simp)).trans h1, h2.mono x⟩
  | ins c fs =>
    obtain ⟨e, dx, vs, h1, h2⟩ := r
    subst e
    exact ⟨rfl, dx, vs, (h a (by simp)).trans h1, h2.mono x⟩
  | draw n =>
    obtain ⟨b, c, gs, cs, m, e, h1, h2, h3, h4⟩ := r
    subst e
    exact ⟨b, c, gs, cs, m, rfl, (h a (by simp)).trans h1, (h b (by simp)).trans h2, x.hp.seq h3, h4⟩
  | dead => exact (show fp = [] from r)
abbrev Al := List (Addr × List Addr)
def ad (α : Al) : List Addr := α.map (·.1)
def owned (α : Al) : List Addr := α.flatMap (·.2)
theorem ad_get {α : Al} {k : Nat} {a : Addr} : (ad α)[k]? = some a ↔ ∃ fp, α[k]? = some (a, fp) := by
  unfold ad
  rw [List.getElem?_map]
  constructor
  · intro h
    cases e : α[k]? with
    | none => rw [e] at h; cases h
    | some p =>
      rw [e] at h
      have h' : p.1 = a := Option.some.inj h
      exact ⟨p.2, by rw [← h']⟩
  · rintro ⟨fp, h⟩
    rw [h]
    rfl
theorem owned_append (α β : Al) : owned (α ++ β) = owned α ++ owned β := List.flatMap_append
theorem mem_owned {α : Al} {k : Nat} {p : Addr × List Addr} {b : Addr} (h : α[k]? = some p) (hb : b ∈ p.2) : b ∈ owned α :=
  List.mem_flatMap.mpr ⟨p, List.mem_of_getElem? h, hb⟩
/-- the heap H holds the plain part I, the store μ at α, and what stands aside (F) -/
structure Hf (g : G) (I : Hp) (α : Al) (H : Hp) (μ : List MO) (F : Hp) : Prop where
  sub : Same I H
  len : α.length = μ.length
  sto : ∀ (k : Nat) (p : Addr × List Addr) (o : MO), α[k]? = some p → μ[k]? = some o → MRep g I (ad α) H p.1 p.2 o
  nod : (owned α).Nodup
  own : ∀ b, b ∈ owned α → I b = none ∧ H b ≠ none
  frm : ∀ b o, F b = some o → H b = some o ∧ I b = none ∧ b ∉ owned α
/-- the slots -/
structure En (g : G) (I : Hp) (α : List Addr) (σ : St) (ρ : List (Option Sl)) : Prop where
  len : σ.length = ρ.length
  val : ∀ (i : Nat) (d : Sl), ρ[i]? = some (some d) → ∃ v, σ[i]? = some (some v) ∧ RpS g I α v d
theorem En.mono {g : G} {I I' : Hp} {α α' : List Addr} {σ : St} {ρ : List (Option Sl)} (x : Ext I α I' α') (e : En g I α σ ρ) : En g I' α' σ ρ :=
  ⟨e.len, fun i d h => let ⟨v, h1, h2⟩ := e.val i d h; ⟨v, h1, h2.mono x⟩⟩
theorem En.set {g : G} {I : Hp} {α : List Addr} {σ : St} {ρ : List (Option Sl)} {i : Nat} {v : V} {d : Sl} (e : En g I α σ ρ) (r : RpS g I α v d) : En g I α (σ.set i (some v)) (ρ.set i (some d)) := by
  refine ⟨by rw [List.length_set, List.length_set]; exact e.len, fun j d' h => ?_⟩
  by_cases hj : i = j
  · subst hj
    by_cases hl : i < ρ.length
    · rw [List.getElem?_set_self hl] at h
      cases h
      exact ⟨v, List.getElem?_set_self (by rw [e.len]; exact hl), r⟩
    · rw [List.getElem?_eq_none (by rw [List.length_set]; omega)] at h
      cases h
  · rw [List.getElem?_set_ne hj] at h
    obtain ⟨w, h1, h2⟩ := e.val j d' h
    exact ⟨w, by rw [List.getElem?_set_ne hj]; exact h1, h2⟩
theorem En.unset {g : G} {I : Hp} {α : List Addr} {σ : St} {ρ : List (Option Sl)} {i : Nat} {x : Option V} (e : En g I α σ ρ) : En g I α (σ.set i x) (ρ.set i none) := by
  refine ⟨by rw [List.length_set, List.length_set]; exact e.len, fun j d' h => ?_⟩
  by_cases hj : i = j
  · subst hj
    by_cases hl : i < ρ.length
    · rw [List.getElem?_set_self hl] at h
      cases h
    · rw [List.getElem?_eq_none (by rw [List.length_set]; omega)] at h
      cases h
  · rw [List.getElem?_set_ne hj] at h
    obtain ⟨w, h1, h2⟩ := e.val j d' h
    exact ⟨w, by rw [List.getElem?_set_ne hj]; exact h1, h2⟩
/-- the slots of a block's own names forgotten -/
def wipeD (ρ : List (Option Sl)) : List Nat → List (Option Sl)
  | [] => ρ
  | v :: vs => (wipeD ρ vs).set v none
theorem En.wipe {g : G} {I : Hp} {α : List Addr} {σ : St} {ρ : List (Option Sl)} (e : En g I α σ ρ) : ∀ vs, En g I α (wipe σ vs) (wipeD ρ vs)
  | [] => e
  | v :: vs => (En.wipe e vs).unset
theorem En.start {g : G} {I : Hp} {α : List Addr} {vs : List V} {ds : List Sl} {n : Nat} (r : RpSL g I α vs ds) : En g I α (vs.map some ++ List.replicate n none) (ds.map some ++ List.replicate n none) := by
  refine ⟨by simp [r.length], fun i d h => ?_⟩
  by_cases hi : i < (ds.map some).length
  · rw [List.getElem?_append_left hi, List.getElem?_map] at h
    cases e : ds[i]? with
    | none => rw [e] at h; cases h
    | some d' =>
      rw [e] at h
      have z : some d' = some d := Option.some.inj h
      cases z
      obtain ⟨v, h1, h2⟩ := r.getD e
      refine ⟨v, ?_, h2⟩
      rw [List.getElem?_append_left (by rw [List.length_map] at hi ⊢; rw [r.length]; exact hi), List.getElem?_map, h1]
      rfl
  · rw [List.getElem?_append_right (by omega)] at h
    have z := List.mem_of_getElem? h
    rw [List.mem_replicate] at z
    cases z.2
section
variable {g : G} {I : Hp} {α : Al} {H : Hp} {μ : List MO} {F : Hp}
/-- a new plain thing -/
theorem Hf.new {p : Addr} {o : HO} (h : Hf g I α H μ F) (hp : H p = none) : Hf g (upd I p o) α (upd H p o) μ F ∧ Same I (upd I p o) := by
  have hI : I p = none := h.sub.free hp
  have x : Same I (upd I p o) := fun b u e => by rw [upd_ne (ne_of_none e hI)]; exact e
  have no : ∀ b ∈ owned α, b ≠ p := fun b hb e => by
    subst e
    exact (h.own b hb).2 hp
  refine ⟨⟨fun b u e => ?_, h.len, fun k q m e1 e2 => ?_, h.nod, fun b hb => ?_, fun b u e => ?_⟩, x⟩
  · by_cases hb : b = p
    · subst hb
      rw [upd_same] at e ⊢
      exact e
    · rw [upd_ne hb] at e ⊢
      exact h.sub b u e
  · exact (h.sto k q m e1 e2).mono (Ext.of x _) fun b hb => upd_ne (no b (mem_owned e1 hb))
  · rw [upd_ne (no b hb), upd_ne (no b hb)]
    exact h.own b hb
  · obtain ⟨h1, h2, h3⟩ := h.frm b u e
    have hb : b ≠ p := ne_of_none h1 hp
    exact ⟨by rw [upd_ne hb]; exact h1, by rw [upd_ne hb]; exact h2, h3⟩
/-- a new thing that may change -/
theorem Hf.newC {p : Addr} {o : HO} {m : MO} (h : Hf g I α H μ F) (hp : H p = none)
    (hm : ∀ H' : Hp, H' p = some o → MRep g I (ad α ++ [p]) H' p [p] m) :
    Hf g I (α ++ [(p, [p])]) (upd H p o) (μ ++ [m]) F ∧ Ext I (ad α) I (ad (α ++ [(p, [p])])) ∧ (ad (α ++ [(p, [p])]))[μ.length]? = some p := by
  have hI : I p = none := h.sub.free hp
  have ea : ad (α ++ [(p, [p])]) = ad α ++ [p] := by unfold ad; rw [List.map_append]; rfl
  have x : Ext I (ad α) I (ad (α ++ [(p, [p])])) := ⟨Same.refl I, fun k a e => by
    rw [ea, List.getElem?_append_left (by have := (List.getElem?_eq_some_iff.mp e).1; exact this)]
    exact e⟩
  have no : ∀ b ∈ owned α, b ≠ p := fun b hb e => by
    subst e
    exact (h.own b hb).2 hp
  have eo : owned (α ++ [(p, [p])]) = owned α ++ [p] := by rw [owned_append]; rfl
  refine ⟨⟨fun b u e => ?_, by rw [List.length_append, List.length_append, h.len]; rfl, fun k q m' e1 e2 => ?_, ?_, fun b hb => ?_, fun b u e => ?_⟩, x, ?_⟩
  · rw [upd_ne (ne_of_none e hI)]
    exact h.sub b u e
  · by_cases hk : k < α.length
    · rw [List.getElem?_append_left hk] at e1
      rw [List.getElem?_append_left (by rw [← h.len]; exact hk)] at e2
      exact (h.sto k q m' e1 e2).mono x fun b hb => upd_ne (no b (mem_owned e1 hb))
    · have hk' : k = α.length := by
        have := (List.getElem?_eq_some_iff.mp e1).1
        rw [List.length_append] at this
        have : k < α.length + 1 := this
        omega
      subst hk'
      rw [List.getElem?_append_right (Nat.le_refl _), Nat.sub_self] at e1
      rw [List.getElem?_append_right (by rw [h.len]; exact Nat.le_refl _), h.len, Nat.sub_self] at e2
      cases e1
      cases e2
      rw [ea]
      exact hm _ upd_same
  · rw [eo]
    refine List.nodup_append.mpr ⟨h.nod, by simp, fun a ha b hb e => ?_⟩
    rw [List.mem_singleton] at hb
    subst hb
    exact no a ha e
  · rw [eo] at hb
    rcases List.mem_append.mp hb with hb | hb
    · rw [upd_ne (no b hb)]
      exact h.own b hb
    · rw [List.mem_singleton] at hb
      subst hb
      exact ⟨hI, by rw [upd_same]; exact fun z => by cases z⟩
  · obtain ⟨h1, h2, h3⟩ := h.frm b u e
    have hb : b ≠ p := ne_of_none h1 hp
    refine ⟨by rw [upd_ne hb]; exact h1, h2, fun hm => ?_⟩
    rw [eo] at hm
    rcases List.mem_append.mp hm with hm | hm
    · exact h3 hm
    · exact hb (List.mem_singleton.mp hm)
  · rw [ea, List.getElem?_append_right (by unfold ad; rw [List.length_map, h.len]; exact Nat.le_refl _)]
    unfold ad
    rw [List.length_map, h.len, Nat.sub_self]
    rfl
theorem Hf.other (h : Hf g I α H μ F) {k j : Nat} {p q : Addr × List Addr} {b : Addr} (hk : α[k]? = some p) (hj : α[j]? = some q) (hne : j ≠ k) (hb : b ∈ q.2) : b ∉ p.2 := by
  intro hp
  obtain ⟨hjl, ej⟩ := List.getElem?_eq_some_iff.mp hj
  obtain ⟨hkl, ek⟩ := List.getElem?_eq_some_iff.mp hk
  have nd : List.Pairwise (fun a b : Addr × List Addr => ∀ x ∈ a.2, ∀ y ∈ b.2, x ≠ y) α := by
    have := h.nod
    unfold owned at this
    unfold List.Nodup at this
    rw [List.pairwise_flatMap] at this
    exact this.2.imp fun hab x hx y hy => hab x hx y hy
  have pw := List.pairwise_iff_getElem.mp nd
  rcases Nat.lt_or_gt_of_ne hne with hlt | hgt
  · exact pw j k hjl hkl hlt b (by rw [ej]; exact hb) b (by rw [ek]; exact hp) rfl
  · exact pw k j hkl hjl hgt b (by rw [ek]; exact hp) b (by rw [ej]; exact hb) rfl
/-- a thing of the store changes -/
theorem Hf.put {k : Nat} {p : Addr} {o : HO} {m : MO} (h : Hf g I α H μ F) (hk : α[k]? = some (p, [p]))
    (hm : ∀ H' : Hp, H' p = some o → MRep g I (ad α) H' p [p] m) : Hf g I α (upd H p o) (μ.set k m) F := by
  have hp : p ∈ owned α := mem_owned hk (List.mem_singleton.mpr rfl)
  obtain ⟨hI, hH⟩ := h.own p hp
  refine ⟨fun b u e => ?_, by rw [List.length_set]; exact h.len, fun j q m' e1 e2 => ?_, h.nod, fun b hb => ?_, fun b u e => ?_⟩
  · rw [upd_ne (ne_of_none e hI)]
    exact h.sub b u e
  · by_cases hj : k = j
    · subst hj
      rw [hk] at e1
      cases e1
      rw [List.getElem?_set_self (by rw [← h.len]; exact (List.getElem?_eq_some_iff.mp hk).1)] at e2
      cases e2
      exact hm _ upd_same
    · rw [List.getElem?_set_ne hj] at e2
      exact (h.sto j q m' e1 e2).mono (Ext.refl _ _) fun b hb => upd_ne fun e => h.other hk e1 (fun z => hj z.symm) hb (by rw [e]; exact List.mem_singleton.mpr rfl)
  · refine ⟨(h.own b hb).1, ?_⟩
    by_cases hbp : b = p
    · subst hbp
      rw [upd_same]
      exact fun z => by cases z
    · rw [upd_ne hbp]
      exact (h.own b hb).2
  · obtain ⟨h1, h2, h3⟩ := h.frm b u e
    have hb : b ≠ p := fun z => h3 (by rw [z]; exact hp)
    exact ⟨by rw [upd_ne hb]; exact h1, h2, h3⟩
theorem Hf.cell {k : Nat} {a : Addr} {o : MO} (h : Hf g I α H μ F) (ha : (ad α)[k]? = some a) (hm : μ[k]? = some o) : ∃ fp, α[k]? = some (a, fp) ∧ MRep g I (ad α) H a fp o := by
  obtain ⟨fp, e⟩ := ad_get.mp ha
  exact ⟨fp, e, h.sto k (a, fp) o e hm⟩
/-- a list of the store becomes plain -/
theorem Hf.freeze {k : Nat} {a : Addr} {fp : List Addr} {vs : List V} (h : Hf g I α H μ F) (hk : α[k]? = some (a, [a])) (ha : H a = some (.lst vs)) :
    Hf g (upd I a (.lst vs)) (α.set k (a, [])) H (μ.set k .dead) F ∧ Ext I (ad α) (upd I a (.lst vs)) (ad (α.set k (a, []))) := by
  have hm : a ∈ owned α := mem_owned hk (List.mem_singleton.mpr rfl)
  obtain ⟨hI, hH⟩ := h.own a hm
  have hkl := (List.getElem?_eq_some_iff.mp hk).1
  have x : Same I (upd I a (.lst vs)) := fun b u e => by rw [upd_ne (ne_of_none e hI)]; exact e
  have ea : ad (α.set k (a, [])) = ad α := by
    unfold ad
    rw [List.map_set]
    refine List.ext_getElem? fun j => ?_
    by_cases hj : k = j
    · subst hj
      rw [List.getElem?_set_self (by rw [List.length_map]; exact hkl), List.getElem?_map, hk]
      rfl
    · rw [List.getElem?_set_ne hj]
  have sub : ∀ b, b ∈ owned (α.set k (a, [])) → b ∈ owned α ∧ b ≠ a := fun b hb => by
    obtain ⟨q, hq, hbq⟩ := List.mem_flatMap.mp hb
    obtain ⟨j, hj⟩ := List.mem_iff_getElem?.mp hq
    by_cases hjk : k = j
    · subst hjk
      rw [List.getElem?_set_self hkl] at hj
      cases hj
      cases hbq
    · rw [List.getElem?_set_ne hjk] at hj
      exact ⟨mem_owned hj hbq, fun e => h.other hk hj (fun z => hjk z.symm) hbq (by rw [e]; exact List.mem_singleton.mpr rfl)⟩
  refine ⟨⟨fun b u e => ?_, by rw [List.length_set, List.length_set]; exact h.len, fun j q m' e1 e2 => ?_, ?_, fun b hb => ?_, fun b u e => ?_⟩, ⟨x, fun j b e => by rw [ea]; exact e⟩⟩
  · by_cases hb : b = a
    · subst hb
      rw [upd_same] at e
      rw [ha]
      exact e
    · rw [upd_ne hb] at e
      exact h.sub b u e
  · rw [ea]
    by_cases hj : k = j
    · subst hj
      rw [List.getElem?_set_self hkl] at e1
      rw [List.getElem?_set_self (by rw [← h.len]; exact hkl)] at e2
      cases e1
      cases e2
      exact rfl
    · rw [List.getElem?_set_ne hj] at e1 e2
      exact (h.sto j q m' e1 e2).mono (Ext.of x _) fun b _ => rfl
  · have nd := h.nod
    unfold owned List.Nodup at nd ⊢
    rw [List.pairwise_flatMap] at nd ⊢
    refine ⟨fun q hq => ?_, ?_⟩
    · obtain ⟨j, hj⟩ := List.mem_iff_getElem?.mp hq
      by_cases hjk : k = j
      · subst hjk
        rw [List.getElem?_set_self hkl] at hj
        cases hj
        exact List.Pairwise.nil
      · rw [List.getElem?_set_ne hjk] at hj
        exact nd.1 q (List.mem_of_getElem? hj)
    · rw [List.pairwise_iff_getElem]
      intro i j hi hj hij x hx y hy
      rw [List.length_set] at hi hj
      by_cases hik : k = i
      · subst hik
        rw [List.getElem_set_self] at hx
        cases hx
      · by_cases hjk : k = j
        · subst hjk
          rw [List.getElem_set_self] at hy
          cases hy
        · rw [List.getElem_set_ne hik] at hx
          rw [List.getElem_set_ne hjk] at hy
          exact (List.pairwise_iff_getElem.mp nd.2) i j hi hj hij x hx y hy
  · obtain ⟨h1, h2⟩ := sub b hb
    exact ⟨by rw [upd_ne h2]; exact (h.own b h1).1, (h.own b h1).2⟩
  · obtain ⟨h1, h2, h3⟩ := h.frm b u e
    have hb : b ≠ a := fun z => h3 (by rw [z]; exact hm)
    exact ⟨h1, by rw [upd_ne hb]; exact h2, fun z => h3 (sub b z).1⟩
/-- something more, or less, stands aside -/
theorem Hf.aside {a : Addr} {o : HO} (h : Hf g I α H μ F) (ha : H a = none) : Hf g I α (upd H a o) μ (upd F a o) := by
  have hI : I a = none := h.sub.free ha
  have no : ∀ b ∈ owned α, b ≠ a := fun b hb e => by
    subst e
    exact (h.own b hb).2 ha
  refine ⟨fun b u e => ?_, h.len, fun k q m e1 e2 => ?_, h.nod, fun b hb => ?_, fun b u e => ?_⟩
  · rw [upd_ne (ne_of_none e hI)]
    exact h.sub b u e
  · exact (h.sto k q m e1 e2).mono (Ext.refl _ _) fun b hb => upd_ne (no b (mem_owned e1 hb))
  · rw [upd_ne (no b hb)]
    exact h.own b hb
  · by_cases hb : b = a
    · subst hb
      rw [upd_same] at e ⊢
      exact ⟨e, hI, fun z => no b z rfl⟩
    · rw [upd_ne hb] at e ⊢
      exact h.frm b u e
theorem Hf.reput {a : Addr} {o o' : HO} (h : Hf g I α H μ F) (ha : F a = some o) : Hf g I α (upd H a o') μ (upd F a o') := by
  obtain ⟨h1, h2, h3⟩ := h.frm a o ha
  have no : ∀ b ∈ owned α, b ≠ a := fun b hb e => h3 (by rw [← e]; exact hb)
  refine ⟨fun b u e => ?_, h.len, fun k q m e1 e2 => ?_, h.nod, fun b hb => ?_, fun b u e => ?_⟩
  · rw [upd_ne (ne_of_none e h2)]
    exact h.sub b u e
  · exact (h.sto k q m e1 e2).mono (Ext.refl _ _) fun b hb => upd_ne (no b (mem_owned e1 hb))
  · rw [upd_ne (no b hb)]
    exact h.own b hb
  · by_cases hb : b = a
    · subst hb
      rw [upd_same] at e ⊢
      exact ⟨e, h2, h3⟩
    · rw [upd_ne hb] at e ⊢
      exact h.frm b u e
theorem Hf.less {F' : Hp} (h : Hf g I α H μ F) (hf : Same F' F) : Hf g I α H μ F' :=
  ⟨h.sub, h.len, h.sto, h.nod, h.own, fun b u e => h.frm b u (hf b u e)⟩
/-- what stood aside becomes plain -/
theorem Hf.settle {a : Addr} {o : HO} (h : Hf g I α H μ F) (ha : F a = some o) : Hf g (upd I a o) α H μ (fun b => if b = a then none else F b) ∧ Same I (upd I a o) := by
  obtain ⟨h1, h2, h3⟩ := h.frm a o ha
  have x : Same I (upd I a o) := fun b u e => by rw [upd_ne (ne_of_none e h2)]; exact e
  refine ⟨⟨fun b u e => ?_, h.len, fun k q m e1 e2 => (h.sto k q m e1 e2).mono (Ext.of x _) fun b _ => rfl, h.nod, fun b hb => ?_, fun b u e => ?_⟩, x⟩
  · by_cases hb : b = a
    · subst hb
      rw [upd_same] at e
      rw [h1]
      exact e
    · rw [upd_ne hb] at e
      exact h.sub b u e
  · have hb' : b ≠ a := fun e => h3 (by rw [← e]; exact hb)
    rw [upd_ne hb']
    exact h.own b hb
  · by_cases hb : b = a
    · rw [if_pos hb] at e
      cases e
    · rw [if_neg hb] at e
      rw [upd_ne hb]
      exact h.frm b u e
end
end Dv
/-! Dv2: readings over plain data, and how the layer's readings follow from them. -/
namespace Dv
open PySem L2
abbrev Rho := List (Option Sl)
abbrev Sto := List MO
abbrev KE := Sl → Sto → Prop
/-- an error: its class, its attributes -/
structure Exn where
  c : Nat
  fs : List (Str × D)
abbrev KX := Exn → Sto → Prop
abbrev TrE := Rho → Sto → KE → KX → Prop
abbrev TrA := Rho → Sto → (List Sl → Sto → Prop) → KX → Prop
abbrev TrT := Rho → Sto → (Bool → Sto → Prop) → KX → Prop
structure EndsD where
  nx : Rho → Sto → Prop
  rt : KE
  bk : Rho → Sto → Prop
  ct : Rho → Sto → Prop
  ex : Exn → Rho → Sto → Prop
abbrev TrS := EndsD → Rho → Sto → Prop
/-- an error as it lies -/
def ER (g : G) (I : Hp) (cls : Value) (dx : Option Addr) (x : Exn) : Prop :=
  cls = .ref (g.cls x.c) ∧ ((x.fs = [] ∧ dx = none) ∨ ∃ d vs, dx = some d ∧ I d = some (.xd vs) ∧ RpF g I vs x.fs)
section
variable (g : G) (I : Hp) (α : Al) (F : Hp)
def okE (k : KE) (Q : VK) : Prop := ∀ v d I' α' H' μ', Ext I (ad α) I' (ad α') → Hf g I' α' H' μ' F → RpS g I' (ad α') v d → k d μ' → Q v H'
def okA (k : List Sl → Sto → Prop) (Q : List V → Hp → Prop) : Prop := ∀ vs ds I' α' H' μ', Ext I (ad α) I' (ad α') → Hf g I' α' H' μ' F → RpSL g I' (ad α') vs ds → k ds μ' → Q vs H'
def okT (k : Bool → Sto → Prop) (Q : Bool → Hp → Prop) : Prop := ∀ b I' α' H' μ', Ext I (ad α) I' (ad α') → Hf g I' α' H' μ' F → k b μ' → Q b H'
def okX (E : KX) (W : Value → Option Addr → Hp → Prop) : Prop := ∀ x cls dx I' α' H' μ', Ext I (ad α) I' (ad α') → Hf g I' α' H' μ' F → ER g I' cls dx x → E x μ' → W cls dx H'
def okN (k : Rho → Sto → Prop) (Q : St → Hp → Prop) : Prop := ∀ σ' ρ' I' α' H' μ', Ext I (ad α) I' (ad α') → Hf g I' α' H' μ' F → En g I' (ad α') σ' ρ' → k ρ' μ' → Q σ' H'
def okY (E : Exn → Rho → Sto → Prop) (W : WX) : Prop := ∀ x cls dx σ' ρ' I' α' H' μ', Ext I (ad α) I' (ad α') → Hf g I' α' H' μ' F → En g I' (ad α') σ' ρ' → ER g I' cls dx x → E x ρ' μ' → W cls dx σ' H'
end
section
variable {g : G} {I I1 : Hp} {α α1 : Al} {F : Hp}
theorem okE.mono {k : KE} {Q : VK} (x : Ext I (ad α) I1 (ad α1)) (h : okE g I α F k Q) : okE g I1 α1 F k Q := fun v d I' α' H' μ' e => h v d I' α' H' μ' (x.trans e)
theorem okA.mono {k : List Sl → Sto → Prop} {Q : List V → Hp → Prop} (x : Ext I (ad α) I1 (ad α1)) (h : okA g I α F k Q) : okA g I1 α1 F k Q := fun v d I' α' H' μ' e => h v d I' α' H' μ' (x.trans e)
theorem okT.mono {k : Bool → Sto → Prop} {Q : Bool → Hp → Prop} (x : Ext I (ad α) I1 (ad α1)) (h : okT g I α F k Q) : okT g I1 α1 F k Q := fun b I' α' H' μ' e => h b I' α' H' μ' (x.trans e)
theorem okX.mono {E : KX} {W : Value → Option Addr → Hp → Prop} (x : Ext I (ad α) I1 (ad α1)) (h : okX g I α F E W) : okX g I1 α1 F E W := fun b cls dx I' α' H' μ' e => h b cls dx I' α' H' μ' (x.trans e)
theorem okN.mono {k : Rho → Sto → Prop} {Q : St → Hp → Prop} (x : Ext I (ad α) I1 (ad α1)) (h : okN g I α F k Q) : okN g I1 α1 F k Q := fun a b I' α' H' μ' e => h a b I' α' H' μ' (x.trans e)
theorem okY.mono {E : Exn → Rho → Sto → Prop} {W : WX} (x : Ext I (ad α) I1 (ad α1)) (h : okY g I α F E W) : okY g I1 α1 F E W := fun b cls dx s r I' α' H' μ' e => h b cls dx s r I' α' H' μ' (x.trans e)
theorem okY.at {E : Exn → Rho → Sto → Prop} {W : WX} {σ : St} {ρ : Rho} (h : okY g I α F E W) (e : En g I (ad α) σ ρ) : okX g I α F (fun x μ => E x ρ μ) (fun cls dx H => W cls dx σ H) :=
  fun x cls dx I' α' H' μ' e1 hf er q => h x cls dx σ ρ I' α' H' μ' e1 hf (e.mono e1) er q
end
section
variable (g : G) (W : WX)
def lift (T : TrE) : TE := fun σ H Q => ∃ I α ρ μ F k E, Hf g I α H μ F ∧ En g I (ad α) σ ρ ∧ T ρ μ k E ∧ okE g I α F k Q ∧ okX g I α F E (fun cls dx H => W cls dx σ H)
def liftA (T : TrA) : TA := fun σ H Q => ∃ I α ρ μ F k E, Hf g I α H μ F ∧ En g I (ad α) σ ρ ∧ T ρ μ k E ∧ okA g I α F k Q ∧ okX g I α F E (fun cls dx H => W cls dx σ H)
def liftT (T : TrT) : TT := fun σ H Q => ∃ I α ρ μ F k E, Hf g I α H μ F ∧ En g I (ad α) σ ρ ∧ T ρ μ k E ∧ okT g I α F k Q ∧ okX g I α F E (fun cls dx H => W cls dx σ H)
def liftS (T : TrS) : TS := fun D σ H => ∃ I α ρ μ F N, Hf g I α H μ F ∧ En g I (ad α) σ ρ ∧ T N ρ μ ∧ okN g I α F N.nx D.nx ∧ okN g I α F N.bk D.bk ∧ okN g I α F N.ct D.ct ∧ okE g I α F N.rt D.rt ∧ okY g I α F N.ex W
end
/-- another reading from which the rule's own follows -/
theorem PE.of {X : Cx} {e : Expr} {t t' : TE} (h : PE X e t) (w : ∀ σ H Q, t' σ H Q → t σ H Q) : PE X e t' := ⟨fun pins s σ H Q I q => h.run pins s σ H Q I (w σ H Q q)⟩
theorem PT.of {X : Cx} {e : Expr} {t t' : TT} (h : PT X e t) (w : ∀ σ H Q, t' σ H Q → t σ H Q) : PT X e t' := ⟨fun pins s σ H Q I q => h.run pins s σ H Q I (w σ H Q q)⟩
theorem PW.of {X : Cx} {e : Expr} {t t' : TT} (h : PW X e t) (w : ∀ σ H Q, t' σ H Q → t σ H Q) : PW X e t' := ⟨fun wh pins s σ H Q I q => h.run wh pins s σ H Q I (w σ H Q q)⟩
theorem PA.of {X : Cx} {e : List Expr} {t t' : TA} (h : PA X e t) (w : ∀ σ H Q, t' σ H Q → t σ H Q) : PA X e t' := ⟨fun pos pins s σ H Q I q => h.run pos pins s σ H Q I (w σ H Q q)⟩
theorem PS.of {X : Cx} {e : Stmt} {t t' : TS} (h : PS X e t) (w : ∀ D σ H, t' D σ H → t D σ H) : PS X e t' := ⟨fun pins s σ H D I q => h.run pins s σ H D I (w D σ H q)⟩
theorem PSs.of {X : Cx} {e : List Stmt} {t t' : TS} (h : PSs X e t) (w : ∀ D σ H, t' D σ H → t D σ H) : PSs X e t' := ⟨fun pins s σ H D I q => h.run pins s σ H D I (w D σ H q)⟩
abbrev DE (X : Cx) (cl : Nat → Addr) (W : WX) (e : Expr) (T : TrE) : Prop := PE X e (lift ⟨X.K, cl⟩ W T)
abbrev DA (X : Cx) (cl : Nat → Addr) (W : WX) (e : List Expr) (T : TrA) : Prop := PA X e (liftA ⟨X.K, cl⟩ W T)
abbrev DT (X : Cx) (cl : Nat → Addr) (W : WX) (e : Expr) (T : TrT) : Prop := PT X e (liftT ⟨X.K, cl⟩ W T)
abbrev DW (X : Cx) (cl : Nat → Addr) (W : WX) (e : Expr) (T : TrT) : Prop := PW X e (liftT ⟨X.K, cl⟩ W T)
abbrev DS (X : Cx) (cl : Nat → Addr) (W : WX) (e : Stmt) (T : TrS) : Prop := PS X e (liftS ⟨X.K, cl⟩ W T)
abbrev DSs (X : Cx) (cl : Nat → Addr) (W : WX) (e : List Stmt) (T : TrS) : Prop := PSs X e (liftS ⟨X.K, cl⟩ W T)
/-! ### bindings -/
section
variable {g : G} {W : WX} {σ : St} {H : Hp} {I : Hp} {α : Al} {ρ : Rho} {μ : Sto} {F : Hp} {E : KX}
theorem lift_go {T : TrE} {k : KE} {Q : VK} (hf : Hf g I α H μ F) (en : En g I (ad α) σ ρ) (t : T ρ μ k E) (hk : okE g I α F k Q) (hx : okX g I α F E (fun cls dx H => W cls dx σ H)) : lift g W T σ H Q := ⟨I, α, ρ, μ, F, k, E, hf, en, t, hk, hx⟩
theorem liftA_go {T : TrA} {k : List Sl → Sto → Prop} {Q : List V → Hp → Prop} (hf : Hf g I α H μ F) (en : En g I (ad α) σ ρ) (t : T ρ μ k E) (hk : okA g I α F k Q) (hx : okX g I α F E (fun cls dx H => W cls dx σ H)) : liftA g W T σ H Q := ⟨I, α, ρ, μ, F, k, E, hf, en, t, hk, hx⟩
theorem liftT_go {T : TrT} {k : Bool → Sto → Prop} {Q : Bool → Hp → Prop} (hf : Hf g I α H μ F) (en : En g I (ad α) σ ρ) (t : T ρ μ k E) (hk : okT g I α F k Q) (hx : okX g I α F E (fun cls dx H => W cls dx σ H)) : liftT g W T σ H Q := ⟨I, α, ρ, μ, F, k, E, hf, en, t, hk, hx⟩
end
/-! ### names and constants -/
def T_var (i : Nat) : TrE := fun ρ μ k _ => match ρ[i]? with | some (some d) => k d μ | _ => False
def T_c (d : D) : TrE := fun _ μ k _ => k (.val d) μ
section
variable {X : Cx} {cl : Nat → Addr} {W : WX}
theorem d_var (i : Nat) {x : Str} {pos : Pos} (hN : X.N[i]? = some x := by rfl) (hv : Vis X.env.scope x := by first | exact Or.inl rfl | exact Or.inr (Or.inl rfl) | exact Or.inr (Or.inr rfl)) (hd : (x == ("__debug__" : Str)) = false := by decide)
    (hcd : (x == ("__classdict__" : Str)) = false := by decide) : DE X cl W (.Name x pos) (T_var i) := by
  refine PE.of (pe_var hN hv hd hcd) fun σ H Q h => ?_
  obtain ⟨I, α, ρ, μ, F, k, E, hf, en, t, hk, hx⟩ := h
  unfold T_var at t
  cases e : ρ[i]? with
  | none => rw [e] at t; exact t.elim
  | some o =>
    cases o with
    | none => rw [e] at t; exact t.elim
    | some d =>
      rw [e] at t
      obtain ⟨v, h1, h2⟩ := en.val i d e
      exact ⟨v, h1, hk v d I α H μ (Ext.refl _ _) hf h2 t⟩
theorem d_c {e : Expr} {v : V} {d : D} (h : PE X e (tC v)) (r : ∀ I, Rp ⟨X.K, cl⟩ I v d) : DE X cl W e (T_c d) := by
  refine PE.of h fun σ H Q h => ?_
  obtain ⟨I, α, ρ, μ, F, k, E, hf, en, t, hk, hx⟩ := h
  exact hk v (.val d) I α H μ (Ext.refl _ _) hf (.val (r I)) t
theorem d_int {i j pos} : DE X cl W (.Constant (.int i) j pos) (T_c (.int i)) := d_c pe_int fun _ => .int
theorem d_bl {i j pos} : DE X cl W (.Constant (.bool i) j pos) (T_c (.bl i)) := d_c pe_bl fun _ => .bl
theorem d_non {j pos} : DE X cl W (.Constant .none j pos) (T_c .non) := d_c pe_non fun _ => .non
theorem d_str {i j pos} : DE X cl W (.Constant (.str i) j pos) (T_c (.str i)) := d_c pe_str fun _ => .str
theorem d_glob {x : Str} {v : V} {d : D} {u : Value} {pos : Pos} (hg : Gl X x) (hm : X.mg x = some u) (r : RelV v u) (q : ∀ I, Rp ⟨X.K, cl⟩ I v d) (hd : (x == ("__debug__" : Str)) = false := by decide) : DE X cl W (.Name x pos) (T_c d) := d_c (pe_glob hg hm r hd) q
theorem d_bltn {x : Str} {v : V} {d : D} {u : Value} {pos : Pos} (hg : Gl X x) (hm : X.mg x = none) (hv : bootBuiltins x = some u) (r : RelV v u) (q : ∀ I, Rp ⟨X.K, cl⟩ I v d) (hn : x ≠ "__name__" := by decide) (hd : (x == ("__debug__" : Str)) = false := by decide) : DE X cl W (.Name x pos) (T_c d) := d_c (pe_bltn hg hm hv r hn hd) q
end
/-! ### arguments -/
def T_nil : TrA := fun _ μ k _ => k [] μ
def T_cons (Ta : TrE) (Tr : TrA) : TrA := fun ρ μ k E => Ta ρ μ (fun d μ1 => Tr ρ μ1 (fun ds μ2 => k (d :: ds) μ2) E) E
section
variable {X : Cx} {cl : Nat → Addr} {W : WX}
theorem da_nil : DA X cl W [] T_nil := by
  refine PA.of pa_nil fun σ H Q h => ?_
  obtain ⟨I, α, ρ, μ, F, k, E, hf, en, t, hk, hx⟩ := h
  exact hk [] [] I α H μ (Ext.refl _ _) hf .nil t
theorem da_cons {e : Expr} {es : List Expr} {Ta : TrE} {Tr : TrA} (ha : DE X cl W e Ta) (hr : DA X cl W es Tr) (hs : starEach (e :: es) X.env = (false, eval e X.env) :: starEach es X.env := by rfl) : DA X cl W (e :: es) (T_cons Ta Tr) := by
  refine PA.of (pa_cons ha hr hs) fun σ H Q h => ?_
  obtain ⟨I, α, ρ, μ, F, k, E, hf, en, t, hk, hx⟩ := h
  refine lift_go hf en t (fun v d I1 α1 H1 μ1 x1 hf1 r1 t1 => ?_) hx
  refine liftA_go hf1 (en.mono x1) t1 (fun vs ds I2 α2 H2 μ2 x2 hf2 r2 t2 => ?_) (hx.mono x1)
  exact hk (v :: vs) (d :: ds) I2 α2 H2 μ2 (x1.trans x2) hf2 (.cons (r1.mono x2) r2) t2
end
/-! ### operations by values -/
/-- what a two-place operation gives -/
abbrev OD := Sl → Sl → Sto → KE → Prop
def OSnd (g : G) (o : OD) (r : R2) : Prop := ∀ I α H μ F x y dx dy k Q, Hf g I α H μ F → RpS g I (ad α) x dx → RpS g I (ad α) y dy → o dx dy μ k → okE g I α F k Q → r x y H Q
abbrev OU := Sl → Sto → KE → Prop
def USnd (g : G) (o : OU) (r : V → Hp → VK → Prop) : Prop := ∀ I α H μ F x dx k Q, Hf g I α H μ F → RpS g I (ad α) x dx → o dx μ k → okE g I α F k Q → r x H Q
abbrev OC := List Sl → Sto → KE → Prop
def CSnd (g : G) (o : OC) (r : List V → Hp → VK → Prop) : Prop := ∀ I α H μ F xs ds k Q, Hf g I α H μ F → RpSL g I (ad α) xs ds → o ds μ k → okE g I α F k Q → r xs H Q
def T_op (o : OD) (Ta Tb : TrE) : TrE := fun ρ μ k E => Ta ρ μ (fun x μ1 => Tb ρ μ1 (fun y μ2 => o x y μ2 k) E) E
def T_un (o : OU) (Ta : TrE) : TrE := fun ρ μ k E => Ta ρ μ (fun x μ1 => o x μ1 k) E
def T_cb (o : OC) (Ta : TrA) : TrE := fun ρ μ k E => Ta ρ μ (fun x μ1 => o x μ1 k) E
section
variable {X : Cx} {cl : Nat → Addr} {W : WX} {a b c : Expr} {Ta Tb Tc : TrE} {pos : Pos}
theorem lift_op {g : G} {r : R2} {o : OD} (hs : OSnd g o r) {σ : St} {H : Hp} {Q : VK} (h : lift g W (T_op o Ta Tb) σ H Q) : tOp r (lift g W Ta) (lift g W Tb) σ H Q := by
  obtain ⟨I, α, ρ, μ, F, k, E, hf, en, t, hk, hx⟩ := h
  refine lift_go hf en t (fun v d I1 α1 H1 μ1 x1 hf1 r1 t1 => ?_) hx
  refine lift_go hf1 (en.mono x1) t1 (fun v2 d2 I2 α2 H2 μ2 x2 hf2 r2 t2 => ?_) (hx.mono x1)
  exact hs I2 α2 H2 μ2 F v v2 d d2 k Q hf2 (r1.mono x2) r2 t2 (hk.mono (x1.trans x2))
theorem d_op {op : Operator} {r : R2} {o : OD} (ho : OpR X (binaryOp op) r) (hs : OSnd ⟨X.K, cl⟩ o r) (ha : DE X cl W a Ta) (hb : DE X cl W b Tb) : DE X cl W (.BinOp a op b pos) (T_op o Ta Tb) :=
  PE.of (pe_op ho ha hb) fun σ H Q h => lift_op hs h
theorem d_un {op : UnaryOp} {r : V → Hp → VK → Prop} {o : OU} (ho : UnR X (unaryOp op) r) (hs : USnd ⟨X.K, cl⟩ o r) (ha : DE X cl W a Ta) : DE X cl W (.UnaryOp op a pos) (T_un o Ta) := by
  refine PE.of (pe_un ho ha) fun σ H Q h => ?_
  obtain ⟨I, α, ρ, μ, F, k, E, hf, en, t, hk, hx⟩ := h
  refine lift_go hf en t (fun v d I1 α1 H1 μ1 x1 hf1 r1 t1 => ?_) hx
  exact hs I1 α1 H1 μ1 F v d k Q hf1 r1 t1 (hk.mono x1)
theorem d_cmp {op : CmpOp} {r : R2} {o : OD} (ho : OpR X (compareOp op) r) (hs : OSnd ⟨X.K, cl⟩ o r) (ha : DE X cl W a Ta) (hb : DE X cl W b Tb) (hm : behindInMarks op b = false) : DE X cl W (.Compare a [op] [b] pos) (T_op o Ta Tb) :=
  PE.of (pe_cmpR ho ha hb hm) fun σ H Q h => lift_op hs h
/-- a value that is a bool, as a test -/
def T_t (Ta : TrE) : TrT := fun ρ μ k E => Ta ρ μ (fun x μ1 => match x with | .val (.bl b) => k b μ1 | _ => False) E
theorem lift_t {g : G} {σ : St} {H : Hp} {Q : Bool → Hp → Prop} (h : liftT g W (T_t Ta) σ H Q) : lift g W Ta σ H fun x H1 => ∃ c, x = .bl c ∧ Q c H1 := by
  obtain ⟨I, α, ρ, μ, F, k, E, hf, en, t, hk, hx⟩ := h
  refine lift_go hf en t (fun v d I1 α1 H1 μ1 x1 hf1 r1 t1 => ?_) hx
  cases r1 with
  | cell => exact t1.elim
  | val r =>
    cases r with
    | bl => exact ⟨_, rfl, hk _ I1 α1 H1 μ1 x1 hf1 t1⟩
    | _ => exact (show False from t1).elim
theorem dt_cmp {op : CmpOp} {r : R2} {o : OD} (ho : OpR X (compareOp op) r) (hs : OSnd ⟨X.K, cl⟩ o r) (ha : DE X cl W a Ta) (hb : DE X cl W b Tb) (hm : behindInMarks op b = false) : DT X cl W (.Compare a [op] [b] pos) (T_t (T_op o Ta Tb)) := by
  refine PT.of (pt_cmpR ho ha hb hm) fun σ H Q h => ?_
  obtain ⟨I, α, ρ, μ, F, k, E, hf, en, t, hk, hx⟩ := h
  refine lift_go hf en t (fun v d I1 α1 H1 μ1 x1 hf1 r1 t1 => ?_) hx
  refine lift_go hf1 (en.mono x1) t1 (fun v2 d2 I2 α2 H2 μ2 x2 hf2 r2 t2 => ?_) (hx.mono x1)
  refine hs I2 α2 H2 μ2 F v v2 d d2 _ _ hf2 (r1.mono x2) r2 t2 fun w dw I3 α3 H3 μ3 x3 hf3 r3 t3 => ?_
  cases r3 with
  | cell => exact t3.elim
  | val r =>
    cases r with
    | bl => exact ⟨_, rfl, hk _ I3 α3 H3 μ3 (x1.trans (x2.trans x3)) hf3 t3⟩
    | _ => exact (show False from t3).elim
theorem dt_val {e : Expr} {T : TrE} (h : DE X cl W e T) (he : ∀ whole, isTrue e X.env whole = (do let v ← whole; standAt e.pos; holding [v] (truthy v)) := by intro _; rfl) : DT X cl W e (T_t T) :=
  PT.of (pt_val h he) fun σ H Q h => lift_t h
def T_chain (o o' : OD) (Ta Tb Tc : TrE) : TrE := fun ρ μ k E => Ta ρ μ (fun x μ1 => Tb ρ μ1 (fun y μ2 => o x y μ2 fun z μ3 => match z with | .val (.bl b) => if b = true then Tc ρ μ3 (fun w μ4 => o' y w μ4 k) E else k (.val (.bl false)) μ3 | _ => False) E) E
theorem lift_chain {g : G} {r r' : R2} {o o' : OD} (hs : OSnd g o r) (hs' : OSnd g o' r') {σ : St} {H : Hp} {Q : VK} (h : lift g W (T_chain o o' Ta Tb Tc) σ H Q) : tChain r r' (lift g W Ta) (lift g W Tb) (lift g W Tc) σ H Q := by
  obtain ⟨I, α, ρ, μ, F, k, E, hf, en, t, hk, hx⟩ := h
  refine lift_go hf en t (fun v d I1 α1 H1 μ1 x1 hf1 r1 t1 => ?_) hx
  refine lift_go hf1 (en.mono x1) t1 (fun v2 d2 I2 α2 H2 μ2 x2 hf2 r2 t2 => ?_) (hx.mono x1)
  refine hs I2 α2 H2 μ2 F v v2 d d2 _ _ hf2 (r1.mono x2) r2 t2 fun w dw I3 α3 H3 μ3 x3 hf3 r3 t3 => ?_
  have x13 := x1.trans (x2.trans x3)
  cases r3 with
  | cell => exact t3.elim
  | val r =>
    cases r with
    | @bl b =>
      refine ⟨b, rfl, ?_⟩
      cases b with
      | false => exact hk _ _ I3 α3 H3 μ3 x13 hf3 (.val .bl) t3
      | true =>
        refine lift_go hf3 (en.mono x13) t3 (fun v4 d4 I4 α4 H4 μ4 x4 hf4 r4 t4 => ?_) (hx.mono x13)
        exact hs' I4 α4 H4 μ4 F v2 v4 d2 d4 k Q hf4 (r2.mono (x3.trans x4)) r4 t4 (hk.mono (x13.trans x4))
    | _ => exact (show False from t3).elim
theorem d_chain {op op' : CmpOp} {r r' : R2} {o o' : OD} (ho : OpR X (compareOp op) r) (ho' : OpR X (compareOp op') r') (hs : OSnd ⟨X.K, cl⟩ o r) (hs' : OSnd ⟨X.K, cl⟩ o' r') (ha : DE X cl W a Ta) (hb : DE X cl W b Tb) (hc : DE X cl W c Tc)
    (hm : lastMarks [op, op'] [b, c] = false := by with_unfolding_all rfl) : DE X cl W (.Compare a [op, op'] [b, c] pos) (T_chain o o' Ta Tb Tc) :=
  PE.of (pe_chain ho ho' ha hb hc hm) fun σ H Q h => lift_chain hs hs' h
theorem dt_chain {op op' : CmpOp} {r r' : R2} {o o' : OD} (ho : OpR X (compareOp op) r) (ho' : OpR X (compareOp op') r') (hs : OSnd ⟨X.K, cl⟩ o r) (hs' : OSnd ⟨X.K, cl⟩ o' r') (ha : DE X cl W a Ta) (hb : DE X cl W b Tb) (hc : DE X cl W c Tc)
    (hm : lastMarks [op, op'] [b, c] = false := by with_unfolding_all rfl) : DT X cl W (.Compare a [op, op'] [b, c] pos) (T_t (T_chain o o' Ta Tb Tc)) :=
  PT.of (pt_chain ho ho' ha hb hc hm) fun σ H Q h => by
    obtain ⟨I, α, ρ, μ, F, k, E, hf, en, t, hk, hx⟩ := h
    refine lift_chain hs hs' (lift_go hf en t (fun v d I1 α1 H1 μ1 x1 hf1 r1 t1 => ?_) hx)
    cases r1 with
    | cell => exact t1.elim
    | val r =>
      cases r with
      | bl => exact ⟨_, rfl, hk _ I1 α1 H1 μ1 x1 hf1 t1⟩
      | _ => exact (show False from t1).elim
end
/-! ### and, or, not, if -/
def T_and (Ta Tb : TrT) : TrT := fun ρ μ k E => Ta ρ μ (fun b μ1 => if b = true then Tb ρ μ1 k E else k false μ1) E
def T_or (Ta Tb : TrT) : TrT := fun ρ μ k E => Ta ρ μ (fun b μ1 => if b = true then k true μ1 else Tb ρ μ1 k E) E
def T_not (Ta : TrT) : TrT := fun ρ μ k E => Ta ρ μ (fun b μ1 => k (!b) μ1) E
def T_andV (Ta Tb : TrE) : TrE := fun ρ μ k E => Ta ρ μ (fun x μ1 => match x with | .val (.bl b) => if b = true then Tb ρ μ1 k E else k (.val (.bl false)) μ1 | _ => False) E
def T_orV (Ta Tb : TrE) : TrE := fun ρ μ k E => Ta ρ μ (fun x μ1 => match x with | .val (.bl b) => if b = true then k (.val (.bl true)) μ1 else Tb ρ μ1 k E | _ => False) E
def T_notV (Ta : TrE) : TrE := fun ρ μ k E => Ta ρ μ (fun x μ1 => match x with | .val (.bl b) => k (.val (.bl (!b))) μ1 | _ => False) E
def T_if (Tt : TrT) (Ta Tb : TrE) : TrE := fun ρ μ k E => Tt ρ μ (fun b μ1 => if b = true then Ta ρ μ1 k E else Tb ρ μ1 k E) E
section
variable {X : Cx} {cl : Nat → Addr} {W : WX} {a b c : Expr} {rest : List Expr} {Ta Tb Tc : TrE} {Ua Ub : TrT} {pos : Pos}
theorem dw_and1 (ha : DT X cl W a Ua) : DW X cl W (.BoolOp .And [a] pos) Ua := pw_and1 ha
theorem dw_or1 (ha : DT X cl W a Ua) : DW X cl W (.BoolOp .Or [a] pos) Ua := pw_or1 ha
theorem dw_and (ha : DT X cl W a Ua) (hb : DW X cl W (.BoolOp .And (b :: rest) pos) Ub) : DW X cl W (.BoolOp .And (a :: b :: rest) pos) (T_and Ua Ub) := by
  refine PW.of (pw_and ha hb) fun σ H Q h => ?_
  obtain ⟨I, α, ρ, μ, F, k, E, hf, en, t, hk, hx⟩ := h
  refine liftT_go hf en t (fun d I1 α1 H1 μ1 x1 hf1 t1 => ?_) hx
  cases d with
  | true => exact liftT_go hf1 (en.mono x1) t1 (hk.mono x1) (hx.mono x1)
  | false => exact hk _ I1 α1 H1 μ1 x1 hf1 t1
theorem dw_or (ha : DT X cl W a Ua) (hb : DW X cl W (.BoolOp .Or (b :: rest) pos) Ub) : DW X cl W (.BoolOp .Or (a :: b :: rest) pos) (T_or Ua Ub) := by
  refine PW.of (pw_or ha hb) fun σ H Q h => ?_
  obtain ⟨I, α, ρ, μ, F, k, E, hf, en, t, hk, hx⟩ := h
  refine liftT_go hf en t (fun d I1 α1 H1 μ1 x1 hf1 t1 => ?_) hx
  cases d with
  | false => exact liftT_go hf1 (en.mono x1) t1 (hk.mono x1) (hx.mono x1)
  | true => exact hk _ I1 α1 H1 μ1 x1 hf1 t1
theorem DW.pt {e : Expr} {T : TrT} (h : DW X cl W e T) : DT X cl W e T := PW.pt h
theorem dt_not (ha : DT X cl W a Ua) : DT X cl W (.UnaryOp .Not a pos) (T_not Ua) := by
  refine PT.of (pt_not ha) fun σ H Q h => ?_
  obtain ⟨I, α, ρ, μ, F, k, E, hf, en, t, hk, hx⟩ := h
  exact liftT_go hf en t (fun d I1 α1 H1 μ1 x1 hf1 t1 => hk _ I1 α1 H1 μ1 x1 hf1 t1) hx
theorem d_one {op} {T : TrE} (h : DE X cl W a T) : DE X cl W (.BoolOp op [a] pos) T := pe_one h
theorem d_and (ha : DE X cl W a Ta) (hb : DE X cl W (.BoolOp .And (b :: rest) pos) Tb) : DE X cl W (.BoolOp .And (a :: b :: rest) pos) (T_andV Ta Tb) := by
  refine PE.of (pe_and ha hb) fun σ H Q h => ?_
  obtain ⟨I, α, ρ, μ, F, k, E, hf, en, t, hk, hx⟩ := h
  refine lift_go hf en t (fun v d I1 α1 H1 μ1 x1 hf1 r1 t1 => ?_) hx
  cases r1 with
  | cell => exact t1.elim
  | val r =>
    cases r with
    | @bl b =>
      refine ⟨b, rfl, ?_⟩
      cases b with
      | true => exact lift_go hf1 (en.mono x1) t1 (hk.mono x1) (hx.mono x1)
      | false => exact hk _ _ I1 α1 H1 μ1 x1 hf1 (.val .bl) t1
    | _ => exact (show False from t1).elim
theorem d_or (ha : DE X cl W a Ta) (hb : DE X cl W (.BoolOp .Or (b :: rest) pos) Tb) : DE X cl W (.BoolOp .Or (a :: b :: rest) pos) (T_orV Ta Tb) := by
  refine PE.of (pe_or ha hb) fun σ H Q h => ?_
  obtain ⟨I, α, ρ, μ, F, k, E, hf, en, t, hk, hx⟩ := h
  refine lift_go hf en t (fun v d I1 α1 H1 μ1 x1 hf1 r1 t1 => ?_) hx
  cases r1 with
  | cell => exact t1.elim
  | val r =>
    cases r with
    | @bl b =>
      refine ⟨b, rfl, ?_⟩
      cases b with
      | false => exact lift_go hf1 (en.mono x1) t1 (hk.mono x1) (hx.mono x1)
      | true => exact hk _ _ I1 α1 H1 μ1 x1 hf1 (.val .bl) t1
    | _ => exact (show False from t1).elim
theorem d_not (ha : DE X cl W a Ta) : DE X cl W (.UnaryOp .Not a pos) (T_notV Ta) := by
  refine PE.of (pe_not ha) fun σ H Q h => ?_
  obtain ⟨I, α, ρ, μ, F, k, E, hf, en, t, hk, hx⟩ := h
  refine lift_go hf en t (fun v d I1 α1 H1 μ1 x1 hf1 r1 t1 => ?_) hx
  cases r1 with
  | cell => exact t1.elim
  | val r =>
    cases r with
    | @bl b => exact ⟨b, rfl, hk _ _ I1 α1 H1 μ1 x1 hf1 (.val .bl) t1⟩
    | _ => exact (show False from t1).elim
theorem d_if {c : Expr} (hc : DT X cl W c Ua) (ha : DE X cl W a Ta) (hb : DE X cl W b Tb) : DE X cl W (.IfExp c a b pos) (T_if Ua Ta Tb) := by
  refine PE.of (pe_ifExp hc ha hb) fun σ H Q h => ?_
  obtain ⟨I, α, ρ, μ, F, k, E, hf, en, t, hk, hx⟩ := h
  refine liftT_go hf en t (fun d I1 α1 H1 μ1 x1 hf1 t1 => ?_) hx
  cases d with
  | true => exact lift_go hf1 (en.mono x1) t1 (hk.mono x1) (hx.mono x1)
  | false => exact lift_go hf1 (en.mono x1) t1 (hk.mono x1) (hx.mono x1)
end
/-! ### statements -/
def T_next : TrS := fun N ρ μ => N.nx ρ μ
def T_seq (T U : TrS) : TrS := fun N ρ μ => T { N with nx := U N } ρ μ
def T_asg (T : TrE) (i : Nat) : TrS := fun N ρ μ => T ρ μ (fun d μ1 => N.nx (ρ.set i (some d)) μ1) (fun x μ1 => N.ex x ρ μ1)
def T_drop (T : TrE) : TrS := fun N ρ μ => T ρ μ (fun _ μ1 => N.nx ρ μ1) (fun x μ1 => N.ex x ρ μ1)
def T_ret (T : TrE) : TrS := fun N ρ μ => T ρ μ N.rt (fun x μ1 => N.ex x ρ μ1)
def T_ifS (Tt : TrT) (T U : TrS) : TrS := fun N ρ μ => Tt ρ μ (fun b μ1 => if b = true then T N ρ μ1 else U N ρ μ1) (fun x μ1 => N.ex x ρ μ1)
/-- a statement, then the rest, with a word between them -/
def T_cut (T U : TrS) : TrS := fun N ρ μ => ∃ M : Rho → Sto → Prop, T { N with nx := M } ρ μ ∧ ∀ ρ' μ', M ρ' μ' → U N ρ' μ'
section
variable {X : Cx} {cl : Nat → Addr} {W : WX} {st : Stmt} {rest : List Stmt} {T U : TrS} {e : Expr} {Te : TrE} {pos : Pos}
theorem dss_nil : DSs X cl W [] T_next := PSs.of pss_nil fun D σ H h => by
  obtain ⟨I, α, ρ, μ, F, N, hf, en, t, n1, n2, n3, n4, n5⟩ := h
  exact n1 σ ρ I α H μ (Ext.refl _ _) hf en t
theorem dss_cons (h1 : DS X cl W st T) (h2 : DSs X cl W rest U) : DSs X cl W (st :: rest) (T_seq T U) := by
  refine PSs.of (pss_cons h1 h2) fun D σ H h => ?_
  obtain ⟨I, α, ρ, μ, F, N, hf, en, t, n1, n2, n3, n4, n5⟩ := h
  exact ⟨I, α, ρ, μ, F, { N with nx := U N }, hf, en, t, fun σ' ρ' I' α' H' μ' x hf' en' t' => ⟨I', α', ρ', μ', F, N, hf', en', t', n1.mono x, n2.mono x, n3.mono x, n4.mono x, n5.mono x⟩, n2, n3, n4, n5⟩
theorem dss_cut (h1 : DS X cl W st T) (h2 : DSs X cl W rest U) : DSs X cl W (st :: rest) (T_cut T U) := by
  refine PSs.of (pss_cons h1 h2) fun D σ H h => ?_
  obtain ⟨I, α, ρ, μ, F, N, hf, en, ⟨M, t, tm⟩, n1, n2, n3, n4, n5⟩ := h
  exact ⟨I, α, ρ, μ, F, { N with nx := M }, hf, en, t, fun σ' ρ' I' α' H' μ' x hf' en' t' => ⟨I', α', ρ', μ', F, N, hf', en', tm ρ' μ' t', n1.mono x, n2.mono x, n3.mono x, n4.mono x, n5.mono x⟩, n2, n3, n4, n5⟩
theorem dss_one (h1 : DS X cl W st T) : DSs X cl W [st] T := pss_one h1
theorem ds_pass : DS X cl W (.Pass pos) T_next := PS.of ps_pass fun D σ H h => by
  obtain ⟨I, α, ρ, μ, F, N, hf, en, t, n1, n2, n3, n4, n5⟩ := h
  exact n1 σ ρ I α H μ (Ext.refl _ _) hf en t
theorem ds_set {i : Nat} {x : Str} {pos' : Pos} (hN : X.N.Nodup) (hi : X.N[i]? = some x) (hx : Loc X.env.scope x) (he : DE X cl W e Te) (hs : swapsWith e (some (.Name x pos')) pos.line X.env = pure false := by rfl) (hf : X.fn x = true ∨ X.env.scope.names.lookup x = some .local := by first | exact .inl rfl | exact .inr rfl | assumption) :
    DS X cl W (.Assign [.Name x pos'] e pos) (T_asg Te i) := by
  refine PS.of (ps_set hN hi hx he hs hf) fun D σ H h => ?_
  obtain ⟨I, α, ρ, μ, F, N, hf, en, t, n1, n2, n3, n4, n5⟩ := h
  refine lift_go hf en t (fun v d I1 α1 H1 μ1 x1 hf1 r1 t1 => ?_) (n5.at en)
  exact n1 _ _ I1 α1 H1 μ1 x1 hf1 ((en.mono x1).set r1) t1
theorem ds_expr (he : DE X cl W e Te) (hs : swapsWith e none pos.line X.env = pure false := by rfl) : DS X cl W (.Expr e pos) (T_drop Te) := by
  refine PS.of (ps_expr he hs) fun D σ H h => ?_
  obtain ⟨I, α, ρ, μ, F, N, hf, en, t, n1, n2, n3, n4, n5⟩ := h
  refine lift_go hf en t (fun v d I1 α1 H1 μ1 x1 hf1 r1 t1 => ?_) (n5.at en)
  exact n1 _ _ I1 α1 H1 μ1 x1 hf1 (en.mono x1) t1
theorem ds_ret (he : DE X cl W e Te) : DS X cl W (.Return (some e) pos) (T_ret Te) := by
  refine PS.of (ps_ret he) fun D σ H h => ?_
  obtain ⟨I, α, ρ, μ, F, N, hf, en, t, n1, n2, n3, n4, n5⟩ := h
  exact lift_go hf en t n4 (n5.at en)
theorem ds_if {c : Expr} {a b : List Stmt} {Tt : TrT} (hc : DT X cl W c Tt) (ha : DSs X cl W a T) (hb : DSs X cl W b U) : DS X cl W (.If c a b pos) (T_ifS Tt T U) := by
  refine PS.of (ps_if hc ha hb) fun D σ H h => ?_
  obtain ⟨I, α, ρ, μ, F, N, hf, en, t, n1, n2, n3, n4, n5⟩ := h
  refine liftT_go hf en t (fun d I1 α1 H1 μ1 x1 hf1 t1 => ?_) (n5.at en)
  cases d with
  | true => exact ⟨I1, α1, ρ, μ1, F, N, hf1, en.mono x1, t1, n1.mono x1, n2.mono x1, n3.mono x1, n4.mono x1, n5.mono x1⟩
  | false => exact ⟨I1, α1, ρ, μ1, F, N, hf1, en.mono x1, t1, n1.mono x1, n2.mono x1, n3.mono x1, n4.mono x1, n5.mono x1⟩
end
end Dv
/-! Dv3: operations, own calls, walks, comprehensions. -/
namespace Dv
open PySem PySem.Spec PyProof.Rows L2
/-! ### operations on ints, texts, bools -/
def oI (C : Int → Int → Prop) (f : Int → Int → D) : OD := fun x y μ k => match x, y with
  | .val (.int i), .val (.int j) => C i j ∧ k (.val (f i j)) μ
  | _, _ => False
def oI0 (f : Int → Int → D) : OD := fun x y μ k => match x, y with
  | .val (.int i), .val (.int j) => k (.val (f i j)) μ
  | _, _ => False
theorem snd_I {g : G} {C C' : Int → Int → Prop} {f : Int → Int → D} {v : Int → Int → V} (h : ∀ i j, C i j → C' i j) (r : ∀ I i j, Rp g I (v i j) (f i j)) : OSnd g (oI C f) (rI C' v) := by
  intro I α H μ F x y dx dy k Q hf rx ry o hk
  cases rx with
  | cell => exact o.elim
  | val rx =>
    cases rx with
    | @int i =>
      cases ry with
      | cell => exact o.elim
      | val ry =>
        cases ry with
        | @int j => exact ⟨i, j, rfl, rfl, h i j o.1, hk _ _ I α H μ (Ext.refl _ _) hf (.val (r I i j)) o.2⟩
        | _ => exact (show False from o).elim
    | _ => exact (show False from o).elim
theorem snd_I0 {g : G} {f : Int → Int → D} {v : Int → Int → V} (r : ∀ I i j, Rp g I (v i j) (f i j)) : OSnd g (oI0 f) (rI0 v) := by
  intro I α H μ F x y dx dy k Q hf rx ry o hk
  cases rx with
  | cell => exact o.elim
  | val rx =>
    cases rx with
    | @int i =>
      cases ry with
      | cell => exact o.elim
      | val ry =>
        cases ry with
        | @int j => exact ⟨i, j, rfl, rfl, hk _ _ I α H μ (Ext.refl _ _) hf (.val (r I i j)) o⟩
        | _ => exact (show False from o).elim
    | _ => exact (show False from o).elim
/-- what a product of ints asks -/
def MulOk (i j : Int) : Prop := CMulW i j ∨ CMul i j
theorem op_mulA {X : Cx} : OpR X (binaryOp .Mult) (rI MulOk fun i j => .int (i * j)) := by
  intro pins s σ H x y v u Q I rx ry h
  obtain ⟨i, j, e1, e2, c, q⟩ := h
  rcases c with c | c
  · exact op_mulW pins s σ H x y v u Q I rx ry ⟨i, j, e1, e2, c, q⟩
  · exact op_mul pins s σ H x y v u Q I rx ry ⟨i, j, e1, e2, c, q⟩
def DivOk (_ j : Int) : Prop := 0 < j ∧ j.natAbs.log2 < 9000
def oSub : OD := oI0 fun i j => .int (i - j)
def oMul : OD := oI MulOk fun i j => .int (i * j)
def oMod : OD := oI (fun _ j => 0 < j) fun i j => .int (i % j)
def oFdiv : OD := oI DivOk fun i j => .int (i / j)
def oPow : OD := oI CPow fun i j => .int (i ^ j.toNat)
def oLt : OD := oI0 fun i j => .bl (decide (i < j))
def oLe : OD := oI0 fun i j => .bl (decide (i ≤ j))
def oGt : OD := oI0 fun i j => .bl (decide (j < i))
def oGe : OD := oI0 fun i j => .bl (decide (j ≤ i))
/-- + of ints, of texts -/
def oAdd : OD := fun x y μ k => match x, y with
  | .val (.int i), .val (.int j) => k (.val (.int (i + j))) μ
  | .val (.str i), .val (.str j) => i.length + j.length ≤ sizeLine ∧ k (.val (.str (i ++ j))) μ
  | _, _ => False
def rAddA : R2 := fun x y H Q => rI0 (fun i j => .int (i + j)) x y H Q ∨ (∃ i j, x = .str i ∧ y = .str j ∧ i.length + j.length ≤ sizeLine ∧ Q (.str (i ++ j)) H)
theorem op_addA {X : Cx} : OpR X (binaryOp .Add) rAddA := OpR.or op_add op_add_str
section
variable {g : G}
theorem snd_sub : OSnd g oSub (rI0 fun i j => .int (i - j)) := snd_I0 fun _ _ _ => .int
theorem snd_mul : OSnd g oMul (rI MulOk fun i j => .int (i * j)) := snd_I (fun _ _ h => h) fun _ _ _ => .int
theorem snd_mod : OSnd g oMod (rI (fun _ j => 0 < j) fun i j => .int (i % j)) := snd_I (fun _ _ h => h) fun _ _ _ => .int
theorem snd_fdiv : OSnd g oFdiv (rI CDivW fun i j => .int (i / j)) := snd_I (fun _ _ h => h) fun _ _ _ => .int
theorem snd_pow : OSnd g oPow (rI CPow fun i j => .int (i ^ j.toNat)) := snd_I (fun _ _ h => h) fun _ _ _ => .int
theorem snd_lt : OSnd g oLt (rI0 fun i j => .bl (decide (i < j))) := snd_I0 fun _ _ _ => .bl
theorem snd_le : OSnd g oLe (rI0 fun i j => .bl (decide (i ≤ j))) := snd_I0 fun _ _ _ => .bl
theorem snd_gt : OSnd g oGt (rI0 fun i j => .bl (decide (j < i))) := snd_I0 fun _ _ _ => .bl
theorem snd_ge : OSnd g oGe (rI0 fun i j => .bl (decide (j ≤ i))) := snd_I0 fun _ _ _ => .bl
theorem snd_add : OSnd g oAdd rAddA := by
  intro I α H μ F x y dx dy k Q hf rx ry o hk
  cases rx with
  | cell => exact o.elim
  | val rx =>
    cases rx with
    | @int i =>
      cases ry with
      | cell => exact o.elim
      | val ry =>
        cases ry with
        | @int j => exact .inl ⟨i, j, rfl, rfl, hk _ _ I α H μ (Ext.refl _ _) hf (.val .int) o⟩
        | _ => exact (show False from o).elim
    | @str i =>
      cases ry with
      | cell => exact o.elim
      | val ry =>
        cases ry with
        | @str j => exact .inr ⟨i, j, rfl, rfl, o.1, hk _ _ I α H μ (Ext.refl _ _) hf (.val .str) o.2⟩
        | _ => exact (show False from o).elim
    | _ => exact (show False from o).elim
end
/-! ### plain data told as the library's own -/
mutual
def D.py : D → Option PyData
  | .non => some .none
  | .bl b => some (.bool b)
  | .int i => some (.int i)
  | .str x => some (.str x)
  | .lst xs => (D.pyL xs).map .list
  | .tup xs => (D.pyL xs).map .tuple
  | _ => none
def D.pyL : List D → Option (List PyData)
  | [] => some []
  | d :: r => match D.py d, D.pyL r with
    | some x, some y => some (x :: y)
    | _, _ => none
end
section
variable {g : G} {I H : Hp}
mutual
theorem Rp.dp (s : Same I H) : ∀ {v : V} {d : D} {p : PyData}, Rp g I v d → d.py = some p → Dp g.K H v p
  | _, _, p, .non, e => by cases e; exact .non
  | _, _, p, .bl, e => by cases e; exact .bl _
  | _, _, p, .int, e => by cases e; exact .int _
  | _, _, p, .str, e => by cases e; exact .str _
  | _, _, p, .ty, e => by cases e
  | _, _, p, .lst (ds := ds) h r, e => by
    have e' : (D.pyL ds).map PyData.list = some p := e
    cases q : D.pyL ds with
    | none => rw [q] at e'; cases e'
    | some ps =>
      rw [q] at e'
      cases e'
      exact .lst (s.seq h) (RpL.dp s r q)
  | _, _, p, .tup (ds := ds) h r, e => by
    have e' : (D.pyL ds).map PyData.tuple = some p := e
    cases q : D.pyL ds with
    | none => rw [q] at e'; cases e'
    | some ps =>
      rw [q] at e'
      cases e'
      exact .tup (sqT_same s h) (RpL.dp s r q)
  | _, _, p, .obj h, e => by cases e
  | _, _, p, .ins h r, e => by cases e
  | _, _, p, .cls, e => by cases e
  | _, _, p, .exn0, e => by cases e
  | _, _, p, .exn h r, e => by cases e
theorem RpL.dp (s : Same I H) : ∀ {vs : List V} {ds : List D} {ps : List PyData}, RpL g I vs ds → D.pyL ds = some ps → DpAll g.K H vs ps
  | _, _, ps, .nil, e => by cases e; exact .nil
  | _, _, ps, .cons (d := d) (ds := ds) r t, e => by
    have e' : (match D.py d, D.pyL ds with | some x, some y => some (x :: y) | _, _ => none) = some ps := e
    cases q1 : D.py d with
    | none => rw [q1] at e'; cases e'
    | some x =>
      cases q2 : D.pyL ds with
      | none => rw [q1, q2] at e'; cases e'
      | some y =>
        rw [q1, q2] at e'
        cases e'
        exact .cons (Rp.dp s r q1) (RpL.dp s t q2)
end
end
/-- the scalars -/
def D.v? : D → Option V
  | .non => some .non
  | .bl b => some (.bl b)
  | .int i => some (.int i)
  | .str x => some (.str x)
  | _ => none
/-- == of two plain values -/
def eqD (f : Bool → Bool) (x y : D) (k : Bool → Prop) : Prop := match x.v?, y.v? with
  | some a, some b => scal a b = true ∧ k (f (decide (a = b)))
  | _, _ => match x.py, y.py with
    | some p, some q => SeqAt.shaped p = true ∧ SeqAt.shaped q = true ∧ k (f (PyData.eqv p q))
    | _, _ => False
def valD? : Sl → Option D
  | .val d => some d
  | .cell _ => none
/-- a value or what a list of the store holds now -/
def nowD (μ : Sto) : Sl → Option D
  | .val d => some d
  | .cell j => match μ[j]? with
    | some (.lst xs) => (xs.mapM valD?).map D.lst
    | _ => none
def oEqF (f : Bool → Bool) : OD := fun x y μ k => match nowD μ x, nowD μ y with
  | some a, some b => eqD f a b fun r => k (.val (.bl r)) μ
  | _, _ => False
def oEq : OD := oEqF id
def oNe : OD := oEqF not
section
variable {g : G} {I H : Hp} {α : Al} {μ : Sto} {F : Hp}
theorem mapM_val : ∀ {xs : List Sl} {ds : List D}, xs.mapM valD? = some ds → xs = ds.map Sl.val
  | [], ds, h => by
    cases h
    rfl
  | s :: r, ds, h => by
    rw [List.mapM_cons] at h
    cases s with
    | cell j => cases h
    | val d =>
      cases q : r.mapM valD? with
      | none => rw [q] at h; cases h
      | some es =>
        rw [q] at h
        have e : d :: es = ds := Option.some.inj h
        subst e
        rw [mapM_val q]
        rfl
/-- the same value, told of the heap as it stands -/
theorem now_rp {v : V} {s : Sl} {d : D} (hf : Hf g I α H μ F) (r : RpS g I (ad α) v s) (e : nowD μ s = some d) : Rp g H v d := by
  cases r with
  | val r =>
    cases e
    exact r.mono hf.sub
  | @cell k a h =>
    have e' : (match μ[k]? with | some (.lst xs) => (xs.mapM valD?).map D.lst | _ => none) = some d := e
    cases q : μ[k]? with
    | none => rw [q] at e'; cases e'
    | some m =>
      rw [q] at e'
      cases m with
      | lst xs =>
        obtain ⟨fp, ha, _, vs, hv, hr⟩ := hf.cell h q
        cases z : xs.mapM valD? with
        | none => simp only [z] at e'; cases e'
        | some ds =>
          simp only [z] at e'
          cases e'
          have := mapM_val z
          subst this
          exact .lst (SqL.of hv) (hr.toL.mono hf.sub)
      | _ => cases e'
theorem v?_rp {v a : V} {d : D} (r : Rp g H v d) (h : d.v? = some a) : v = a := by
  cases r <;> cases h <;> rfl
theorem eqv_eqD {f : Bool → Bool} {a b : D} {k : Bool → Prop} (h : eqD f a b k) : (∃ p q, a.v? = some p ∧ b.v? = some q ∧ scal p q = true ∧ k (f (decide (p = q)))) ∨ ∃ p q, a.py = some p ∧ b.py = some q ∧ SeqAt.shaped p = true ∧ SeqAt.shaped q = true ∧ k (f (PyData.eqv p q)) := by
  unfold eqD at h
  split at h
  · rename_i p q e1 e2
    exact .inl ⟨p, q, e1, e2, h.1, h.2⟩
  · split at h
    · rename_i p q e1 e2
      exact .inr ⟨p, q, e1, e2, h.1, h.2.1, h.2.2⟩
    · exact h.elim
def rEqA (K : PySem.W.Frag) : R2 := fun x y H Q => rEq x y H Q ∨ rEqD K x y H Q
def rNeA (K : PySem.W.Frag) : R2 := fun x y H Q => rNe x y H Q ∨ rNeD K x y H Q
theorem op_eqA {X : Cx} (hu : X.A.units + 64 < cLine) : OpR X (compareOp .Eq) (rEqA X.K) := OpR.or op_eq (op_eqD hu)
theorem op_neA {X : Cx} (hu : X.A.units + 64 < cLine) : OpR X (compareOp .NotEq) (rNeA X.K) := OpR.or op_ne (op_neD hu)
theorem snd_eq : OSnd g oEq (rEqA g.K) := by
  intro I α H μ F x y dx dy k Q hf rx ry o hk
  unfold oEq oEqF at o
  cases e1 : nowD μ dx with
  | none => rw [e1] at o; exact o.elim
  | some a =>
    cases e2 : nowD μ dy with
    | none => rw [e1, e2] at o; exact o.elim
    | some b =>
      rw [e1, e2] at o
      rcases eqv_eqD o with ⟨p, q, h1, h2, h3, h4⟩ | ⟨p, q, h1, h2, h3, h4, h5⟩
      · have z1 := v?_rp (now_rp hf rx e1) h1
        have z2 := v?_rp (now_rp hf ry e2) h2
        subst z1
        subst z2
        exact .inl ⟨h3, hk _ _ I α H μ (Ext.refl _ _) hf (.val .bl) h4⟩
      · exact .inr ⟨p, q, (now_rp hf rx e1).dp (Same.refl _) h1, (now_rp hf ry e2).dp (Same.refl _) h2, h3, h4, hk _ _ I α H μ (Ext.refl _ _) hf (.val .bl) h5⟩
theorem snd_ne : OSnd g oNe (rNeA g.K) := by
  intro I α H μ F x y dx dy k Q hf rx ry o hk
  unfold oNe oEqF at o
  cases e1 : nowD μ dx with
  | none => rw [e1] at o; exact o.elim
  | some a =>
    cases e2 : nowD μ dy with
    | none => rw [e1, e2] at o; exact o.elim
    | some b =>
      rw [e1, e2] at o
      rcases eqv_eqD o with ⟨p, q, h1, h2, h3, h4⟩ | ⟨p, q, h1, h2, h3, h4, h5⟩
      · have z1 := v?_rp (now_rp hf rx e1) h1
        have z2 := v?_rp (now_rp hf ry e2) h2
        subst z1
        subst z2
        exact .inl ⟨h3, hk _ _ I α H μ (Ext.refl _ _) hf (.val .bl) h4⟩
      · exact .inr ⟨p, q, (now_rp hf rx e1).dp (Same.refl _) h1, (now_rp hf ry e2).dp (Same.refl _) h2, h3, h4, hk _ _ I α H μ (Ext.refl _ _) hf (.val .bl) h5⟩
end
/-! ### contracts -/
abbrev Ct := List Sl → Sto → KE → KX → Prop
def spOf (g : G) (c : Ct) : Sp := fun vs H Q E => ∃ I α μ F ds k e, Hf g I α H μ F ∧ RpSL g I (ad α) vs ds ∧ c ds μ k e ∧ okE g I α F k Q ∧ okX g I α F e E
/-- a def of plain data -/
abbrev CtP := List D → (D → Prop) → (Exn → Prop) → Prop
def ctP (c : CtP) : Ct := fun ds μ k e => μ = [] ∧ ∃ xs, ds = xs.map Sl.val ∧ c xs (fun d => ∀ ν, k (.val d) ν) (fun x => ∀ ν, e x ν)
/-- a def that changes one thing of the store, its cell 0 -/
abbrev CtS := List Sl → MO → (D → MO → Prop) → (Exn → MO → Prop) → Prop
def ctS (c : CtS) : Ct := fun ds μ k e => ∃ m, μ = [m] ∧ c ds m (fun d m' => ∀ ν, k (.val d) (m' :: ν)) (fun x m' => ∀ ν, e x (m' :: ν))
section
variable {P : Program} {w : World} {K : PySem.W.Frag} {mg : Str → Option Value} {base : Heap} {cl : Nat → Addr}
/-- THE RULE for a def: its body's reading over plain data -/
theorem fn_ok {x qual : Str} {st : Stmt} {f : Addr} {fd : FuncData} {N ps : List Str} {k : Nat} {c : Ct} {T : TrS} (F : Fun K x qual st f fd) (S : FnScope N ps (defScope st)) (len : ∀ ds μ k e, c ds μ k e → ds.length = ps.length)
    (hbody : ∀ (cdv : Value) (A : Around) (outer : List Env) (s : Shared) (H : Hp) (E : XK), Room k (A.deeper (envOfC qual (defScope st) s.heap.objs.size f cdv)) →
      Takes (cxOf (L2.CX P w) P w K mg base N qual (defScope st) f cdv A outer s H E) (fun cls d _ H => E cls d H) →
      DSs (cxOf (L2.CX P w) P w K mg base N qual (defScope st) f cdv A outer s H E) cl (fun cls d _ H => E cls d H) (defBody st) T)
    (hvc : ∀ ds μ k e, c ds μ k e → T ⟨fun _ μ' => k (.val .non) μ', k, fun _ _ => False, fun _ _ => False, fun x _ μ' => e x μ'⟩ (ds.map some ++ List.replicate (N.length - ds.length) none) μ) :
    FnOk P w K mg base (L2.CX P w) (k + 1) f fd ps (spOf ⟨K, cl⟩ c) := by
  refine F.okX S (fun vs H Q E h => ?_) (fun cdv A outer s H vs Q E hr h => ⟨_, hbody cdv A outer s H E hr (takes_of rfl rfl rfl rfl), ?_⟩)
  · obtain ⟨I, α, μ, F, ds, k, e, hf, r, hc, _, _⟩ := h
    rw [r.length]
    exact len ds μ k e hc
  · obtain ⟨I, α, μ, F, ds, k, e, hf, r, hc, hk, hx⟩ := h
    have en : En ⟨K, cl⟩ I (ad α) (L2.start N vs) (ds.map some ++ List.replicate (N.length - ds.length) none) := by
      unfold L2.start
      rw [r.length]
      exact En.start r
    exact ⟨I, α, _, μ, F, _, hf, en, hvc ds μ k e hc, fun σ' ρ' I' α' H' μ' x hf' _ q => hk _ _ I' α' H' μ' x hf' (.val .non) q, fun _ _ _ _ _ _ _ _ _ z => z.elim, fun _ _ _ _ _ _ _ _ _ z => z.elim, hk,
      fun x cls dx σ' ρ' I' α' H' μ' e' hf' _ er q => hx x cls dx I' α' H' μ' e' hf' er q⟩
end
/-! ### a def whose reading wants to know that no repr is under way -/
structure FnG (P : Program) (w : World) (K : PySem.W.Frag) (mg : Str → Option Value) (base : Heap) (k : Nat) (f : Addr) (fd : FuncData) (ps : List Str) (sp : Sp) : Prop where
  len : ∀ vs H Q E, sp vs H Q E → vs.length = ps.length
  run : ∀ (A : Around) (outer : List Env) (s : Shared) (H : Hp) (args : Args) (us : List Value) (vs : List V) (Q : VK) (E : XK), Room k A → A.guards = some [] → Env0 P w K mg base A outer s H → BindsTo s fd args (ps.zip us) → Vals vs us → sp vs H Q E →
    codeAny (model P w) A (.call (.ref f) args) (CR (L2.CX P w) outer P w H s Q E) s
section
variable {P : Program} {w : World} {K : PySem.W.Frag} {mg : Str → Option Value} {base : Heap} {cl : Nat → Addr}
theorem fnG_of {k : Nat} {f : Addr} {name qual : Str} {params : Arguments} {body : List Stmt} {scope : Scope} {dV kV doc pm cdv ct oc : Value} {an od : Option Addr}
    {osl : Array (Option Value)} {N ps : List Str} {sp : Sp} (lk : K.lookup f = some ⟨oc, od, .func (PySem.W.fnOf name qual params body scope dV kV doc pm an cdv ct), osl⟩) (hcd : PySem.W.codeIn K cdv qual = true) (S : FnScope N ps scope)
    (len : ∀ vs H Q E, sp vs H Q E → vs.length = ps.length)
    (hbody : ∀ (A : Around) (outer : List Env) (s : Shared) (H : Hp) (vs : List V) (Q : VK) (E : XK), Room k (A.deeper (envOfC qual scope s.heap.objs.size f cdv)) → A.guards = some [] → sp vs H Q E →
      ∃ t, PSs (cxOf (L2.CX P w) P w K mg base N qual scope f cdv A outer s H E) body t ∧ t { nx := fun _ H' => Q .non H', rt := Q } (L2.start N vs) H) :
    FnG P w K mg base (k + 1) f (PySem.W.fnOf name qual params body scope dV kV doc pm an cdv ct) ps sp := by
  refine ⟨len, fun A outer s H args us vs Q E hr hG e0 hb r hsp => ?_⟩
  have F : FnOk P w K mg base (L2.CX P w) (k + 1) f (PySem.W.fnOf name qual params body scope dV kV doc pm an cdv ct) ps (fun vs' H' Q' E' => sp vs' H' Q' E') → True := fun _ => trivial
  have hl := len _ _ _ _ hsp
  have KX : K.In s.heap := e0.mod.kin.keeps fun b o e => (e0.bs b o e).1
  have lim : s.heap.NoLimit := e0.mod.nolimit.keeps fun b o e => (e0.bs b o e).1
  have hkind : ∀ y ∈ ps.zip us, scope.names.lookup y.1 = some .local ∨ (scope.names.lookup y.1 = some .cell ∧ ((cellsFrom (s.heap.objs.size + 1) scope.names []).lookup y.1).isSome = true) := fun ⟨n, v⟩ hy => by
    rcases S.par n (List.of_mem_zip hy).1 with q | q
    · exact .inl q
    · exact .inr ⟨q, PySem.W.cellsFrom_some _ _ _ (.inl q)⟩
  refine codeAny_call_function hr.depth (KX _ _ lk) rfl S.co S.gen rfl (PySem.W.codeRec_of KX hcd) (hb _ _ _ _ ?_)
  refine wpAny_newFunctionEnv_cells S.kind hkind fun env he s1 x => ?_
  subst he
  refine ⟨lim.keeps x.toInCall.keep, codeAny_func ?_⟩
  obtain ⟨t, ht, hq⟩ := hbody A outer s H vs Q E (hr.deeper _) hG hsp
  have I : L2.Inv (cxOf (L2.CX P w) P w K mg base N qual scope f cdv A outer s H E) [] (L2.start N vs) H s1 := inv_start S hr.hd e0 hl r x
  refine wpAny_mono (ht.run [] s1 (L2.start N vs) H _ I hq) (fun fl s' hs => ?_) fun e s' hs => hs
  have fin : ∀ {σ' : L2.St} {H' : Hp} {v : V} {u : Value}, L2.Inv (cxOf (L2.CX P w) P w K mg base N qual scope f cdv A outer s H E) [] σ' H' s' → RelV v u → Q v H' → CE outer P w H s Q u s' :=
    fun {σ' H' v u} J rv q => ⟨v, H', J.os, J.bare, J.base, J.hok, rv, q⟩
  cases fl with
  | ret u =>
    obtain ⟨v, σ', H', J, rv, q⟩ := hs
    exact fin J rv q
  | next =>
    obtain ⟨σ', H', J, q⟩ := hs
    exact fin (v := V.non) (u := Value.none) J rfl q
  | brk =>
    obtain ⟨_, _, _, q⟩ := hs
    exact False.elim q
  | cont =>
    obtain ⟨_, _, _, q⟩ := hs
    exact False.elim q
/-- THE RULE for such a def -/
theorem fn_okG {x qual : Str} {st : Stmt} {f : Addr} {fd : FuncData} {N ps : List Str} {k : Nat} {c : Ct} {T : TrS} (F : Fun K x qual st f fd) (S : FnScope N ps (defScope st)) (len : ∀ ds μ k e, c ds μ k e → ds.length = ps.length)
    (hbody : ∀ (cdv : Value) (A : Around) (outer : List Env) (s : Shared) (H : Hp) (E : XK), Room k (A.deeper (envOfC qual (defScope st) s.heap.objs.size f cdv)) → A.guards = some [] →
      Takes (cxOf (L2.CX P w) P w K mg base N qual (defScope st) f cdv A outer s H E) (fun cls d _ H => E cls d H) →
      DSs (cxOf (L2.CX P w) P w K mg base N qual (defScope st) f cdv A outer s H E) cl (fun cls d _ H => E cls d H) (defBody st) T)
    (hvc : ∀ ds μ k e, c ds μ k e → T ⟨fun _ μ' => k (.val .non) μ', k, fun _ _ => False, fun _ _ => False, fun x _ μ' => e x μ'⟩ (ds.map some ++ List.replicate (N.length - ds.length) none) μ) :
    FnG P w K mg base (k + 1) f fd ps (spOf ⟨K, cl⟩ c) := by
  obtain ⟨oc, od, kV, doc, pm, an, cdv, ct, osl, rfl, lk, hcd⟩ := F.ex
  refine fnG_of lk hcd S (fun vs H Q E h => ?_) (fun A outer s H vs Q E hr hG h => ⟨_, hbody cdv A outer s H E hr hG (takes_of rfl rfl rfl rfl), ?_⟩)
  · obtain ⟨I, α, μ, F, ds, k, e, hf, r, hc, _, _⟩ := h
    rw [r.length]
    exact len ds μ k e hc
  · obtain ⟨I, α, μ, F, ds, k, e, hf, r, hc, hk, hx⟩ := h
    have en : En ⟨K, cl⟩ I (ad α) (L2.start N vs) (ds.map some ++ List.replicate (N.length - ds.length) none) := by
      unfold L2.start
      rw [r.length]
      exact En.start r
    exact ⟨I, α, _, μ, F, _, hf, en, hvc ds μ k e hc, fun σ' ρ' I' α' H' μ' x hf' _ q => hk _ _ I' α' H' μ' x hf' (.val .non) q, fun _ _ _ _ _ _ _ _ _ z => z.elim, fun _ _ _ _ _ _ _ _ _ z => z.elim, hk,
      fun x cls dx σ' ρ' I' α' H' μ' e' hf' _ er q => hx x cls dx I' α' H' μ' e' hf' er q⟩
end
/-- the callee runs here -/
structure Runs (X : Cx) (f : Addr) (fd : FuncData) (ps : List Str) (sp : Sp) : Prop where
  len : ∀ vs H Q E, sp vs H Q E → vs.length = ps.length
  run : ∀ (s : Shared) (H : Hp) (args : Args) (us : List Value) (vs : List V) (Q : VK) (E : XK), Env0 X.prog X.w X.K X.mg X.base X.A X.stack s H → BindsTo s fd args (ps.zip us) → Vals vs us → sp vs H Q E →
    codeAny (model X.prog X.w) X.A (.call (.ref f) args) (CR (L2.CX X.prog X.w) X.stack X.prog X.w H s Q E) s
theorem FnOk.runs {X : Cx} {k : Nat} {f : Addr} {fd : FuncData} {ps : List Str} {sp : Sp} (F : FnOk X.prog X.w X.K X.mg X.base (L2.CX X.prog X.w) k f fd ps sp) (hr : Room k X.A) : Runs X f fd ps sp :=
  ⟨F.len, fun s H args us vs Q E e0 hb r h => F.run X.A X.stack s H args us vs Q E hr e0 hb r h⟩
theorem FnG.runs {X : Cx} {k : Nat} {f : Addr} {fd : FuncData} {ps : List Str} {sp : Sp} (F : FnG X.prog X.w X.K X.mg X.base k f fd ps sp) (hr : Room k X.A) (hG : X.A.guards = some []) : Runs X f fd ps sp :=
  ⟨F.len, fun s H args us vs Q E e0 hb r h => F.run X.A X.stack s H args us vs Q E hr hG e0 hb r h⟩
/-! ### own calls -/
/-- how the arguments come: n by place, the names ks; gV puts both in the parameters' order -/
def tCallG (n m : Nat) (sp : Sp) (gV : List V → List V → List V) (E : L2.St → XK) (t tk : TA) : TE := fun σ H Q => t σ H fun vs H1 => tk σ H1 fun zs H2 => vs.length = n ∧ zs.length = m ∧ sp (gV vs zs) H2 Q (E σ)
section
variable {X : Cx} {n : Nat} {f : Addr} {fd : FuncData} {ps ks : List Str} {sp : Sp} {E : L2.St → XK} {x : Str} {p pos : Pos} {e : Expr} {es : List Expr} {kws : List Keyword} {t tk : TA} {gg : List Value → List Value → List Value} {gV : List V → List V → List V}
theorem run_g {pins : List (Addr × Obj)} {σ : L2.St} {H : Hp} {s : Shared} {Q : VK} {us ws : List Value} {vs zs : List V} {E : XK} (R : Runs X f fd ps sp) (hb : KBn X.K fd ps n ks gg gV) (hx : PassesAt (L2.CX X.prog X.w) X σ E)
    (I : Inv X pins σ H s) (r : Vals vs us) (rz : Vals zs ws) (l1 : vs.length = n) (l2 : zs.length = ks.length) (h : sp (gV vs zs) H Q E) : wpAny (model X.prog X.w) X.A (call (.ref f) us (ks.zip ws)) (EP X pins σ Q) X.xe s := by
  have r2 := hb.rel r rz
  refine wpAny_call (codeAny_mono (R.run s H ⟨us, ks.zip ws⟩ (gg us ws) (gV vs zs) Q E I.env0 (hb.to s us ws I.kIn (r.length.symm.trans l1) (rz.length.symm.trans l2)) r2 h) fun r s' hq => ?_)
  cases r with
  | error e => exact hx pins H s e s' I hq
  | ok fl =>
    cases fl with
    | ret u => exact I.after hq
    | next => exact False.elim hq
    | brk => exact False.elim hq
    | cont => exact False.elim hq
theorem pe_callG (R : Runs X f fd ps sp) (hg : Gl X x) (hm : X.mg x = some (.ref f)) (hk : PySem.W.keepIn X.K (.ref f) = true) (hb : KBn X.K fd ps n ks gg gV) (hx : ∀ σ, PassesAt (L2.CX X.prog X.w) X σ (E σ))
    (ha : PA X (e :: es) t) (hkw : PK X kws tk) (hall : (backToKw pos (keywordEach kws X.env)).all (·.1.isSome) = true := by rfl) (hks : (backToKw pos (keywordEach kws X.env)).filterMap (·.1) = ks := by rfl)
    (hdb : (x == ("__debug__" : Str)) = false := by decide) (he : starEach (e :: es) X.env = (false, eval e X.env) :: starEach es X.env := by rfl)
    (hpl : ((backTo pos (starEach (e :: es) X.env)).any (·.1) || (backToKw pos (keywordEach kws X.env)).any (·.1.isNone)) = false := by rfl) :
    PE X (.Call (.Name x p) (e :: es) kws pos) (tCallG n ks.length sp gV E t tk) := by
  refine ⟨fun pins s σ H Q I h => ?_⟩
  refine wpAny_Call_Name_kw (ld_glob I hg hm ?_ hdb)
  refine PySem.W.callWith_KW (h₀ := X.base) I.ok.mod.kin hk hall (thn (ha.run pos pins s σ H _ I h) fun us s1 ⟨vs, H1, I1, r, q⟩ => ?_) hpl he
  refine thn (hkw.run pos pins s1 σ H1 _ I1 q) fun ws s2 ⟨zs, H2, I2, rz, l1, l2, q2⟩ => ⟨I2.kIn, ?_⟩
  rw [hks]
  exact run_g R hb (hx σ) I2 r rz l1 l2 q2
theorem pe_callG0 (R : Runs X f fd ps sp) (hg : Gl X x) (hm : X.mg x = some (.ref f)) (hk : PySem.W.keepIn X.K (.ref f) = true) (hb : KBn X.K fd ps n ks gg gV) (hx : ∀ σ, PassesAt (L2.CX X.prog X.w) X σ (E σ))
    (hkw : PK X kws tk) (hall : (backToKw pos (keywordEach kws X.env)).all (·.1.isSome) = true := by rfl) (hks : (backToKw pos (keywordEach kws X.env)).filterMap (·.1) = ks := by rfl)
    (hdb : (x == ("__debug__" : Str)) = false := by decide)
    (hpl : ((backTo pos (starEach [] X.env)).any (·.1) || (backToKw pos (keywordEach kws X.env)).any (·.1.isNone)) = false := by rfl) :
    PE X (.Call (.Name x p) [] kws pos) (tCallG n ks.length sp gV E tNil tk) := by
  refine ⟨fun pins s σ H Q I h => ?_⟩
  refine wpAny_Call_Name_kw (ld_glob I hg hm ?_ hdb)
  refine PySem.W.callWith_KW0 (h₀ := X.base) I.ok.mod.kin hk hall (thn (hkw.run pos pins s σ H _ I h) fun ws s2 ⟨zs, H2, I2, rz, l1, l2, q2⟩ => ⟨I2.kIn, ?_⟩) hpl
  rw [hks]
  exact run_g R hb (hx σ) I2 .nil rz l1 l2 q2
end
theorem pass0At {X : Cx} (σ : L2.St) : PassesAt (L2.CX X.prog X.w) X σ (fun _ _ _ => False) := fun _ _ _ _ _ _ h => by
  obtain ⟨_, _, _, _, _, _, _, _, _, _, _, _, z⟩ := h
  exact z.elim
/-- keywords over plain data -/
abbrev DK (X : Cx) (cl : Nat → Addr) (W : WX) (kws : List Keyword) (T : TrA) : Prop := PK X kws (liftA ⟨X.K, cl⟩ W T)
section
variable {X : Cx} {cl : Nat → Addr} {W : WX}
theorem PK.of {kws : List Keyword} {t t' : TA} (h : PK X kws t) (w : ∀ σ H Q, t' σ H Q → t σ H Q) : PK X kws t' := ⟨fun pos pins s σ H Q I q => h.run pos pins s σ H Q I (w σ H Q q)⟩
theorem dk_nil : DK X cl W [] T_nil := by
  refine PK.of pk_nil fun σ H Q h => ?_
  obtain ⟨I, α, ρ, μ, F, k, E, hf, en, t, hk, hx⟩ := h
  exact hk [] [] I α H μ (Ext.refl _ _) hf .nil t
theorem dk_cons {nm : Option Str} {e : Expr} {kpos : Pos} {es : List Keyword} {Ta : TrE} {Tr : TrA} (ha : DE X cl W e Ta) (hr : DK X cl W es Tr) : DK X cl W (⟨nm, e, kpos⟩ :: es) (T_cons Ta Tr) := by
  refine PK.of (pk_cons ha hr) fun σ H Q h => ?_
  obtain ⟨I, α, ρ, μ, F, k, E, hf, en, t, hk, hx⟩ := h
  refine lift_go hf en t (fun v d I1 α1 H1 μ1 x1 hf1 r1 t1 => ?_) hx
  refine liftA_go hf1 (en.mono x1) t1 (fun vs ds I2 α2 H2 μ2 x2 hf2 r2 t2 => ?_) (hx.mono x1)
  exact hk (v :: vs) (d :: ds) I2 α2 H2 μ2 (x1.trans x2) hf2 (.cons (r1.mono x2) r2) t2
end
/-- a caller's things stand aside while plain data is worked on -/
def asideOf (α : Al) (H F : Hp) : Hp := fun a => if a ∈ owned α ∨ (F a).isSome = true then H a else none
section
variable {g : G} {I I' H H' : Hp} {α : Al} {μ : Sto} {F : Hp}
theorem Hf.leave (h : Hf g I α H μ F) : Hf g I [] H [] (asideOf α H F) :=
  ⟨h.sub, rfl, fun k p o e => by simp at e, by exact List.nodup_nil, fun b hb => (nomatch hb), fun b o e => by
    unfold asideOf at e
    by_cases c : b ∈ owned α ∨ (F b).isSome = true
    · rw [if_pos c] at e
      refine ⟨e, ?_, by simp [owned]⟩
      rcases c with c | c
      · exact (h.own b c).1
      · obtain ⟨u, hu⟩ := Option.isSome_iff_exists.mp c
        exact (h.frm b u hu).2.1
    · rw [if_neg c] at e
      cases e⟩
theorem Hf.back {β : Al} {ν : Sto} (h : Hf g I α H μ F) (h' : Hf g I' β H' ν (asideOf α H F)) (x : Same I I') : Hf g I' α H' μ F := by
  have st : ∀ b, b ∈ owned α → ∃ o, H b = some o ∧ H' b = some o ∧ I' b = none := fun b hb => by
    cases q : H b with
    | none => exact absurd q (h.own b hb).2
    | some o =>
      have z : asideOf α H F b = some o := by
        unfold asideOf
        rw [if_pos (.inl hb)]
        exact q
      obtain ⟨h1, h2, _⟩ := h'.frm b o z
      exact ⟨o, rfl, h1, h2⟩
  refine ⟨h'.sub, h.len, fun k p o e1 e2 => (h.sto k p o e1 e2).mono (Ext.of x _) fun b hb => ?_, h.nod, fun b hb => ?_, fun b o e => ?_⟩
  · obtain ⟨o, h1, h2, _⟩ := st b (mem_owned e1 hb)
    rw [h1, h2]
  · obtain ⟨o, h1, h2, h3⟩ := st b hb
    exact ⟨h3, by rw [h2]; exact fun z => by cases z⟩
  · obtain ⟨h1, h2, h3⟩ := h.frm b o e
    have z : asideOf α H F b = some o := by
      unfold asideOf
      rw [if_pos (.inr (by rw [e]; rfl))]
      exact h1
    obtain ⟨q1, q2, _⟩ := h'.frm b o z
    exact ⟨q1, q2, h3⟩
end
/-- the plain values among values -/
def vals? : List Sl → Option (List D)
  | [] => some []
  | .val d :: r => match vals? r with
    | some ds => some (d :: ds)
    | none => none
  | .cell _ :: _ => none
theorem vals?_eq : ∀ {ds : List Sl} {xs : List D}, vals? ds = some xs → ds = xs.map Sl.val
  | [], xs, h => by cases h; rfl
  | .val d :: r, xs, h => by
    unfold vals? at h
    cases q : vals? r with
    | none => rw [q] at h; cases h
    | some ds =>
      rw [q] at h
      cases h
      rw [vals?_eq q]
      rfl
  | .cell _ :: _, _, h => by cases h
/-- the arguments in the parameters' order -/
def pick {β : Type} (π : List Nat) (l : List β) : List β := π.filterMap fun i => l[i]?
theorem pick_rp {g : G} {I : Hp} {α : List Addr} {vs : List V} {ds : List Sl} (r : RpSL g I α vs ds) : ∀ π : List Nat, RpSL g I α (pick π vs) (pick π ds)
  | [] => .nil
  | i :: π => by
    unfold pick
    rw [List.filterMap_cons, List.filterMap_cons]
    cases e : vs[i]? with
    | none =>
      have e2 : ds[i]? = none := List.getElem?_eq_none (by rw [← r.length]; exact List.getElem?_eq_none_iff.mp e)
      rw [e2]
      exact pick_rp r π
    | some v =>
      obtain ⟨d, h1, h2⟩ := r.get e
      rw [h1]
      exact .cons h2 (pick_rp r π)
theorem pick_vals {vs : List V} {us : List Value} (r : Vals vs us) : ∀ π : List Nat, Vals (pick π vs) (pick π us)
  | [] => .nil
  | i :: π => by
    unfold pick
    rw [List.filterMap_cons, List.filterMap_cons]
    cases e : vs[i]? with
    | none =>
      have e2 : us[i]? = none := r.none_of e
      rw [e2]
      exact pick_vals r π
    | some v =>
      obtain ⟨d, h1, h2⟩ := r.get e
      rw [h1]
      exact .cons h2 (pick_vals r π)
/-- f(..): n by place, m by name -/
def T_call (c : CtP) (n m : Nat) (π : List Nat) (Ta Tk : TrA) : TrE := fun ρ μ k E => Ta ρ μ (fun ds μ1 => Tk ρ μ1 (fun es μ2 => ds.length = n ∧ es.length = m ∧ match vals? (pick π (ds ++ es)) with | some xs => c xs (fun d => k (.val d) μ2) (fun x => E x μ2) | none => False) E) E
abbrev KB (K : PySem.W.Frag) (fd : FuncData) (ps : List Str) (n : Nat) (ks : List Str) (π : List Nat) : Prop := KBn K fd ps n ks (fun us ws => pick π (us ++ ws)) (fun vs zs => pick π (vs ++ zs))
theorem kb_mk {K : PySem.W.Frag} {x qual : Str} {st : Stmt} {f : Addr} {fd : FuncData} {ps : List Str} {n : Nat} {ks : List Str} {π : List Nat} (F : Fun K x qual st f fd)
    (h : ∀ (kV doc pm : Value) (an : Option Addr) (cdv ct : Value) (us ws : List Value), us.length = n → ws.length = ks.length → bindArgs (PySem.W.fnOf x qual (defArgs st) (defBody st) (defScope st) .none kV doc pm an cdv ct) ⟨us, ks.zip ws⟩ = pure (ps.zip (pick π (us ++ ws)))) : KB K fd ps n ks π := by
  obtain ⟨oc, od, kV, doc, pm, an, cdv, ct, osl, rfl, lk, hcd⟩ := F.ex
  exact ⟨fun s us ws _ h1 h2 => .of_eq (h kV doc pm an cdv ct us ws h1 h2), fun r1 r2 => pick_vals (r1.append r2) π⟩
section
variable {X : Cx} {cl : Nat → Addr} {W : WX} {k n m : Nat} {f : Addr} {fd : FuncData} {ps ks : List Str} {x : Str} {p pos : Pos} {e : Expr} {es : List Expr} {kws : List Keyword} {π : List Nat} {c : CtP} {Ta Tk : TrA}
theorem lift_callP {g : G} {σ : L2.St} {H : Hp} {Q : VK}
    (h : lift g W (T_call c n m π Ta Tk) σ H Q) : tCallG n m (spOf g (ctP c)) (fun vs zs => pick π (vs ++ zs)) (fun σ cls d H => W cls d σ H) (liftA g W Ta) (liftA g W Tk) σ H Q := by
  obtain ⟨I, α, ρ, μ, F, k, E, hf, en, t, hk, hx⟩ := h
  refine liftA_go hf en t (fun vs ds I1 α1 H1 μ1 x1 hf1 r1 t1 => ?_) hx
  refine liftA_go hf1 (en.mono x1) t1 (fun zs es I2 α2 H2 μ2 x2 hf2 r2 t2 => ?_) (hx.mono x1)
  obtain ⟨l1, l2, t3⟩ := t2
  refine ⟨by rw [r1.length]; exact l1, by rw [r2.length]; exact l2, ?_⟩
  have r3 := pick_rp ((r1.mono x2).append r2) π
  cases q : vals? (pick π (ds ++ es)) with
  | none => rw [q] at t3; exact t3.elim
  | some xs =>
    rw [q] at t3
    rw [vals?_eq q] at r3
    refine ⟨I2, [], [], asideOf α2 H2 F, xs.map Sl.val, fun s _ => ∃ d, s = .val d ∧ k (.val d) μ2, fun x _ => E x μ2, hf2.leave, RpSL.ofL r3.toL, ⟨rfl, xs, rfl, ?_⟩, fun v d I' α' H' μ' x' hf' r' t' => ?_, fun x cls dx I' α' H' μ' x' hf' er t' => ?_⟩
    · have e1 : (fun d => ∀ ν : Sto, ∃ d', (Sl.val d) = Sl.val d' ∧ k (.val d') μ2) = fun d => k (.val d) μ2 := by
        funext d
        exact propext ⟨fun z => by obtain ⟨d', e, q⟩ := z []; cases e; exact q, fun z _ => ⟨d, rfl, z⟩⟩
      have e2 : (fun x => ∀ ν : Sto, E x μ2) = fun x => E x μ2 := by
        funext x
        exact propext ⟨fun z => z [], fun z _ => z⟩
      rw [e1, e2]
      exact t3
    · obtain ⟨d', e, q'⟩ := t'
      subst e
      have hb := hf2.back hf' x'.hp
      cases r' with
      | val r' => exact hk v _ I' α2 H' μ2 ((x1.trans x2).trans (Ext.of x'.hp _)) hb (.val r') q'
    · exact hx x cls dx I' α2 H' μ2 ((x1.trans x2).trans (Ext.of x'.hp _)) (hf2.back hf' x'.hp) er t'
theorem d_call (R : Runs X f fd ps (spOf ⟨X.K, cl⟩ (ctP c))) (hx : ∀ σ, PassesAt (L2.CX X.prog X.w) X σ (fun cls d H => W cls d σ H)) (hm : X.mg x = some (.ref f)) (hk : PySem.W.keepIn X.K (.ref f) = true) (hb : KB X.K fd ps n ks π)
    (ha : DA X cl W (e :: es) Ta) (hkw : DK X cl W kws Tk)
    (hg : Gl X x := by rfl) (hall : (backToKw pos (keywordEach kws X.env)).all (·.1.isSome) = true := by rfl) (hks : (backToKw pos (keywordEach kws X.env)).filterMap (·.1) = ks := by rfl)
    (hdb : (x == ("__debug__" : Str)) = false := by decide) (he : starEach (e :: es) X.env = (false, eval e X.env) :: starEach es X.env := by rfl)
    (hpl : ((backTo pos (starEach (e :: es) X.env)).any (·.1) || (backToKw pos (keywordEach kws X.env)).any (·.1.isNone)) = false := by rfl) :
    DE X cl W (.Call (.Name x p) (e :: es) kws pos) (T_call c n ks.length π Ta Tk) :=
  PE.of (pe_callG R hg hm hk hb hx ha hkw hall hks hdb he hpl) fun σ H Q h => lift_callP h
end
end Dv
/-! Dv4: calls that change one thing, walks, for, comprehensions. -/
namespace Dv
open PySem PySem.Spec PyProof.Rows L2
/-! ### a call that changes one thing of the store -/
def mFlat : MO → Bool
  | .draw _ => true
  | .dead => true
  | .lst xs => xs.all fun s => (valD? s).isSome
  | .ins _ fs => fs.all fun s => (valD? s.2).isSome
def cellOf? : List Sl → Option Nat
  | [] => none
  | .cell k :: _ => some k
  | .val _ :: r => cellOf? r
def ren (k : Nat) : List Sl → Option (List Sl)
  | [] => some []
  | .val d :: r => match ren k r with
    | some xs => some (.val d :: xs)
    | none => none
  | .cell j :: r => if j = k then match ren k r with
    | some xs => some (.cell 0 :: xs)
    | none => none else none
def T_callS (c : CtS) (n m : Nat) (π : List Nat) (Ta Tk : TrA) : TrE := fun ρ μ k E => Ta ρ μ (fun ds μ1 => Tk ρ μ1 (fun es μ2 => ds.length = n ∧ es.length = m ∧ match cellOf? (pick π (ds ++ es)) with
  | some j => match μ2[j]?, ren j (pick π (ds ++ es)) with
    | some m, some xs => mFlat m = true ∧ c xs m (fun d m' => mFlat m' = true ∧ k (.val d) (μ2.set j m')) (fun x m' => mFlat m' = true ∧ E x (μ2.set j m'))
    | _, _ => False
  | none => False) E) E
section
variable {g : G} {I I' H H' : Hp} {α : Al} {μ : Sto} {F : Hp}
theorem RpSL.flat {α β : List Addr} : ∀ {vs : List V} {xs : List Sl}, RpSL g I α vs xs → (xs.all fun s => (valD? s).isSome) = true → RpSL g I β vs xs
  | _, _, .nil, _ => .nil
  | _, _, .cons (.val r) t, h => .cons (.val r) (RpSL.flat t (by rw [List.all_cons] at h; exact (Bool.and_eq_true_iff.mp h).2))
  | _, _, .cons (.cell _) _, h => by rw [List.all_cons] at h; exact absurd (Bool.and_eq_true_iff.mp h).1 (by intro z; cases z)
theorem RpSF.flat {α β : List Addr} : ∀ {vs : List (Str × V)} {xs : List (Str × Sl)}, RpSF g I α vs xs → (xs.all fun s => (valD? s.2).isSome) = true → RpSF g I β vs xs
  | _, _, .nil, _ => .nil
  | _, _, .cons (.val r) t, h => .cons (.val r) (RpSF.flat t (by rw [List.all_cons] at h; exact (Bool.and_eq_true_iff.mp h).2))
  | _, _, .cons (.cell _) _, h => by rw [List.all_cons] at h; exact absurd (Bool.and_eq_true_iff.mp h).1 (by intro z; cases z)
theorem MRep.flat {α β : List Addr} {a : Addr} {fp : List Addr} {m : MO} (h : MRep g I α H a fp m) (f : mFlat m = true) : MRep g I β H a fp m := by
  cases m with
  | lst xs =>
    obtain ⟨e, vs, h1, h2⟩ := h
    exact ⟨e, vs, h1, h2.flat f⟩
  | ins c fs =>
    obtain ⟨e, dx, vs, h1, h2⟩ := h
    exact ⟨e, dx, vs, h1, h2.flat f⟩
  | draw n => exact h
  | dead => exact h
/-- all but the j-th thing stand aside -/
theorem owned_set {j : Nat} {p : Addr × List Addr} (hj : α[j]? = some p) (h : (owned α).Nodup) : ∀ b, b ∈ owned (α.set j (p.1, [])) ↔ b ∈ owned α ∧ b ∉ p.2 := by
  intro b
  have hjl := (List.getElem?_eq_some_iff.mp hj).1
  have nd : List.Pairwise (fun a b : Addr × List Addr => ∀ x ∈ a.2, ∀ y ∈ b.2, x ≠ y) α := by
    unfold owned at h
    unfold List.Nodup at h
    rw [List.pairwise_flatMap] at h
    exact h.2.imp fun hab x hx y hy => hab x hx y hy
  have pw := List.pairwise_iff_getElem.mp nd
  constructor
  · intro hb
    obtain ⟨q, hq, hbq⟩ := List.mem_flatMap.mp hb
    obtain ⟨i, hi⟩ := List.mem_iff_getElem?.mp hq
    by_cases hij : j = i
    · subst hij
      rw [List.getElem?_set_self hjl] at hi
      cases hi
      cases hbq
    · rw [List.getElem?_set_ne hij] at hi
      refine ⟨mem_owned hi hbq, fun hp => ?_⟩
      obtain ⟨hil, ei⟩ := List.getElem?_eq_some_iff.mp hi
      obtain ⟨_, ej⟩ := List.getElem?_eq_some_iff.mp hj
      rcases Nat.lt_or_gt_of_ne hij with hlt | hgt
      · exact pw j i hjl hil hlt b (by rw [ej]; exact hp) b (by rw [ei]; exact hbq) rfl
      · exact pw i j hil hjl hgt b (by rw [ei]; exact hbq) b (by rw [ej]; exact hp) rfl
  · rintro ⟨hb, hn⟩
    obtain ⟨q, hq, hbq⟩ := List.mem_flatMap.mp hb
    obtain ⟨i, hi⟩ := List.mem_iff_getElem?.mp hq
    by_cases hij : j = i
    · subst hij
      rw [hj] at hi
      cases hi
      exact absurd hbq hn
    · exact mem_owned (k := i) (p := q) (by rw [List.getElem?_set_ne hij]; exact hi) hbq
theorem Hf.leaveC {j : Nat} {a : Addr} {fp : List Addr} {m : MO} (h : Hf g I α H μ F) (hj : α[j]? = some (a, fp)) (hm : μ[j]? = some m) (fm : mFlat m = true) : Hf g I [(a, fp)] H [m] (asideOf (α.set j (a, [])) H F) := by
  have os := owned_set hj h.nod
  have eo : owned [(a, fp)] = fp := by unfold owned; simp
  have hr := h.sto j _ m hj hm
  refine ⟨h.sub, rfl, fun k p o e1 e2 => ?_, ?_, fun b hb => ?_, fun b o e => ?_⟩
  · cases k with
    | zero =>
      cases e1
      cases e2
      exact hr.flat fm
    | succ k => simp at e1
  · rw [eo]
    have nd := h.nod
    unfold owned List.Nodup at nd
    rw [List.pairwise_flatMap] at nd
    exact nd.1 _ (List.mem_of_getElem? hj)
  · rw [eo] at hb
    exact h.own b (mem_owned hj hb)
  · unfold asideOf at e
    by_cases c : b ∈ owned (α.set j (a, [])) ∨ (F b).isSome = true
    · rw [if_pos c] at e
      refine ⟨e, ?_, ?_⟩
      · rcases c with c | c
        · exact (h.own b ((os b).mp c).1).1
        · obtain ⟨u, hu⟩ := Option.isSome_iff_exists.mp c
          exact (h.frm b u hu).2.1
      · rw [eo]
        rcases c with c | c
        · exact ((os b).mp c).2
        · obtain ⟨u, hu⟩ := Option.isSome_iff_exists.mp c
          exact fun z => (h.frm b u hu).2.2 (mem_owned hj z)
    · rw [if_neg c] at e
      cases e
theorem Hf.backC {j : Nat} {a : Addr} {fp : List Addr} {β : Al} {ν : Sto} {m' : MO} (h : Hf g I α H μ F) (hj : α[j]? = some (a, fp)) (h' : Hf g I' β H' (m' :: ν) (asideOf (α.set j (a, [])) H F)) (x : Ext I [a] I' (ad β)) (fm : mFlat m' = true) :
    ∃ fp', Hf g I' (α.set j (a, fp')) H' (μ.set j m') F ∧ ad (α.set j (a, fp')) = ad α := by
  have os := owned_set hj h.nod
  have hjl := (List.getElem?_eq_some_iff.mp hj).1
  obtain ⟨fp', hB⟩ := ad_get.mp (x.ad 0 a rfl)
  have hr := h'.sto 0 (a, fp') m' hB rfl
  have ea : ad (α.set j (a, fp')) = ad α := by
    unfold ad
    rw [List.map_set]
    refine List.ext_getElem? fun i => ?_
    by_cases hi : j = i
    · subst hi
      rw [List.getElem?_set_self (by rw [List.length_map]; exact hjl), List.getElem?_map, hj]
      rfl
    · rw [List.getElem?_set_ne hi]
  have st : ∀ b, b ∈ owned (α.set j (a, [])) → ∃ o, H b = some o ∧ H' b = some o ∧ I' b = none ∧ b ∉ owned β := fun b hb => by
    cases q : H b with
    | none => exact absurd q (h.own b ((os b).mp hb).1).2
    | some o =>
      have z : asideOf (α.set j (a, [])) H F b = some o := by
        unfold asideOf
        rw [if_pos (.inl hb)]
        exact q
      obtain ⟨h1, h2, h3⟩ := h'.frm b o z
      exact ⟨o, rfl, h1, h2, h3⟩
  -- what the new state owns
  have ow : ∀ b, b ∈ owned (α.set j (a, fp')) → b ∈ owned (α.set j (a, [])) ∨ b ∈ fp' := fun b hb => by
    obtain ⟨q, hq, hbq⟩ := List.mem_flatMap.mp hb
    obtain ⟨i, hi⟩ := List.mem_iff_getElem?.mp hq
    by_cases hij : j = i
    · subst hij
      rw [List.getElem?_set_self hjl] at hi
      cases hi
      exact .inr hbq
    · rw [List.getElem?_set_ne hij] at hi
      exact .inl (mem_owned (k := i) (p := q) (by rw [List.getElem?_set_ne hij]; exact hi) hbq)
  refine ⟨fp', ⟨h'.sub, by rw [List.length_set, List.length_set]; exact h.len, fun i p o e1 e2 => ?_, ?_, fun b hb => ?_, fun b o e => ?_⟩, ea⟩
  · rw [ea]
    by_cases hi : j = i
    · subst hi
      rw [List.getElem?_set_self hjl] at e1
      rw [List.getElem?_set_self (by rw [← h.len]; exact hjl)] at e2
      cases e1
      cases e2
      exact hr.flat fm
    · rw [List.getElem?_set_ne hi] at e1 e2
      refine (h.sto i p o e1 e2).mono (Ext.of x.hp _) fun b hb => ?_
      obtain ⟨o', h1, h2, _⟩ := st b (mem_owned (k := i) (p := p) (by rw [List.getElem?_set_ne hi]; exact e1) hb)
      rw [h1, h2]
  · have nd := h.nod
    have nd' := h'.nod
    unfold owned List.Nodup at nd nd' ⊢
    rw [List.pairwise_flatMap] at nd nd' ⊢
    refine ⟨fun q hq => ?_, ?_⟩
    · obtain ⟨i, hi⟩ := List.mem_iff_getElem?.mp hq
      by_cases hij : j = i
      · subst hij
        rw [List.getElem?_set_self hjl] at hi
        cases hi
        exact nd'.1 _ (List.mem_of_getElem? hB)
      · rw [List.getElem?_set_ne hij] at hi
        exact nd.1 q (List.mem_of_getElem? hi)
    · rw [List.pairwise_iff_getElem]
      intro i1 i2 h1 h2 hlt u hu v hv
      rw [List.length_set] at h1 h2
      by_cases c1 : j = i1
      · subst c1
        rw [List.getElem_set_self] at hu
        rw [List.getElem_set_ne (by omega)] at hv
        have z := st v (mem_owned (k := i2) (p := α[i2]) (by rw [List.getElem?_set_ne (by omega)]; exact List.getElem?_eq_getElem h2) hv)
        obtain ⟨_, _, _, _, z⟩ := z
        exact fun e => z (by rw [← e]; exact mem_owned hB hu)
      · by_cases c2 : j = i2
        · subst c2
          rw [List.getElem_set_self] at hv
          rw [List.getElem_set_ne (by omega)] at hu
          have z := st u (mem_owned (k := i1) (p := α[i1]) (by rw [List.getElem?_set_ne (by omega)]; exact List.getElem?_eq_getElem h1) hu)
          obtain ⟨_, _, _, _, z⟩ := z
          exact fun e => z (by rw [e]; exact mem_owned hB hv)
        · rw [List.getElem_set_ne c1] at hu
          rw [List.getElem_set_ne c2] at hv
          exact (List.pairwise_iff_getElem.mp nd.2) i1 i2 h1 h2 hlt u hu v hv
  · rcases ow b hb with hb | hb'
    · obtain ⟨o, h1, h2, h3, _⟩ := st b hb
      exact ⟨h3, by rw [h2]; exact fun z => by cases z⟩
    · exact h'.own b (mem_owned hB hb')
  · obtain ⟨h1, h2, h3⟩ := h.frm b o e
    have z : asideOf (α.set j (a, [])) H F b = some o := by
      unfold asideOf
      rw [if_pos (.inr (by rw [e]; rfl))]
      exact h1
    obtain ⟨q1, q2, q3⟩ := h'.frm b o z
    refine ⟨q1, q2, fun hm => ?_⟩
    rcases ow b hm with hm | hm
    · exact h3 ((os b).mp hm).1
    · exact q3 (mem_owned hB hm)
theorem ren_rp {j : Nat} {a : Addr} (hj : (ad α)[j]? = some a) : ∀ {vs : List V} {ds xs : List Sl}, RpSL g I (ad α) vs ds → ren j ds = some xs → RpSL g I [a] vs xs
  | _, _, xs, .nil, e => by cases e; exact .nil
  | _, _, xs, .cons (.val (d := d) r) (ds := ds) t, e => by
    unfold ren at e
    cases q : ren j ds with
    | none => rw [q] at e; cases e
    | some ys =>
      rw [q] at e
      cases e
      exact .cons (.val r) (ren_rp hj t q)
  | _, _, xs, .cons (.cell (k := k) h) (ds := ds) t, e => by
    unfold ren at e
    by_cases c : k = j
    · subst c
      rw [if_pos rfl] at e
      cases q : ren k ds with
      | none => rw [q] at e; cases e
      | some ys =>
        rw [q] at e
        cases e
        rw [hj] at h
        cases h
        exact .cons (.cell rfl) (ren_rp hj t q)
    · rw [if_neg c] at e
      cases e
theorem cellOf_rp : ∀ {vs : List V} {ds : List Sl} {j : Nat}, RpSL g I (ad α) vs ds → cellOf? ds = some j → ∃ a, (ad α)[j]? = some a
  | _, _, j, .nil, e => by cases e
  | _, _, j, .cons (.val _) t, e => cellOf_rp (j := j) t e
  | _, _, j, .cons (.cell h) _, e => by cases e; exact ⟨_, h⟩
end
section
variable {X : Cx} {cl : Nat → Addr} {W : WX} {k n m : Nat} {f : Addr} {fd : FuncData} {ps ks : List Str} {x : Str} {p pos : Pos} {e : Expr} {es : List Expr} {kws : List Keyword} {π : List Nat} {c : CtS} {Ta Tk : TrA}
theorem lift_callS {g : G} {σ : L2.St} {H : Hp} {Q : VK}
    (h : lift g W (T_callS c n m π Ta Tk) σ H Q) : tCallG n m (spOf g (ctS c)) (fun vs zs => pick π (vs ++ zs)) (fun σ cls d H => W cls d σ H) (liftA g W Ta) (liftA g W Tk) σ H Q := by
  obtain ⟨I, α, ρ, μ, F, k, E, hf, en, t, hk, hx⟩ := h
  refine liftA_go hf en t (fun vs ds I1 α1 H1 μ1 x1 hf1 r1 t1 => ?_) hx
  refine liftA_go hf1 (en.mono x1) t1 (fun zs es I2 α2 H2 μ2 x2 hf2 r2 t2 => ?_) (hx.mono x1)
  obtain ⟨l1, l2, t3⟩ := t2
  refine ⟨by rw [r1.length]; exact l1, by rw [r2.length]; exact l2, ?_⟩
  have r3 := pick_rp ((r1.mono x2).append r2) π
  cases q : cellOf? (pick π (ds ++ es)) with
  | none => rw [q] at t3; exact t3.elim
  | some j =>
    simp only [q] at t3
    cases q1 : μ2[j]? with
    | none => simp only [q1] at t3
    | some mo =>
      cases q2 : ren j (pick π (ds ++ es)) with
      | none => simp only [q1, q2] at t3
      | some xs =>
        simp only [q1, q2] at t3
        obtain ⟨fm, t3⟩ := t3
        obtain ⟨a, ha⟩ := cellOf_rp r3 q
        obtain ⟨fp, haj⟩ := ad_get.mp ha
        refine ⟨I2, [(a, fp)], [mo], asideOf (α2.set j (a, [])) H2 F, xs, fun s ν => ∃ d m' ν', s = .val d ∧ ν = m' :: ν' ∧ mFlat m' = true ∧ k (.val d) (μ2.set j m'), fun x ν => ∃ m' ν', ν = m' :: ν' ∧ mFlat m' = true ∧ E x (μ2.set j m'), hf2.leaveC haj q1 fm, ren_rp ha r3 q2, ⟨mo, rfl, ?_⟩, fun v d I' α' H' μ' x' hf' r' t' => ?_, fun x cls dx I' α' H' μ' x' hf' er t' => ?_⟩
        · have e1 : (fun d m' => ∀ ν : Sto, ∃ d' m'' ν', (Sl.val d) = Sl.val d' ∧ m' :: ν = m'' :: ν' ∧ mFlat m'' = true ∧ k (.val d') (μ2.set j m'')) = fun d m' => mFlat m' = true ∧ k (.val d) (μ2.set j m') := by
            funext d m'
            exact propext ⟨fun z => by obtain ⟨d', m'', ν', e, e2, q⟩ := z []; cases e; cases e2; exact q, fun z ν => ⟨d, m', ν, rfl, rfl, z⟩⟩
          have e2 : (fun x m' => ∀ ν : Sto, ∃ m'' ν', m' :: ν = m'' :: ν' ∧ mFlat m'' = true ∧ E x (μ2.set j m'')) = fun x m' => mFlat m' = true ∧ E x (μ2.set j m') := by
            funext x m'
            exact propext ⟨fun z => by obtain ⟨m'', ν', e2, q⟩ := z []; cases e2; exact q, fun z ν => ⟨m', ν, rfl, z⟩⟩
          rw [e1, e2]
          exact t3
        · obtain ⟨d', m', ν', e, e2, fm', q'⟩ := t'
          subst e
          subst e2
          obtain ⟨fp', hb, ea⟩ := hf2.backC haj hf' x' fm'
          have xx : Ext I (ad α) I' (ad (α2.set j (a, fp'))) := by rw [ea]; exact (x1.trans x2).trans (Ext.of x'.hp _)
          cases r' with
          | val r' => exact hk v _ I' _ H' _ xx hb (.val r') q'
        · obtain ⟨m', ν', e2, fm', q'⟩ := t'
          subst e2
          obtain ⟨fp', hb, ea⟩ := hf2.backC haj hf' x' fm'
          have xx : Ext I (ad α) I' (ad (α2.set j (a, fp'))) := by rw [ea]; exact (x1.trans x2).trans (Ext.of x'.hp _)
          exact hx x cls dx I' _ H' _ xx hb er q'
theorem d_callS (R : Runs X f fd ps (spOf ⟨X.K, cl⟩ (ctS c))) (hx : ∀ σ, PassesAt (L2.CX X.prog X.w) X σ (fun cls d H => W cls d σ H)) (hm : X.mg x = some (.ref f)) (hk : PySem.W.keepIn X.K (.ref f) = true) (hb : KB X.K fd ps n ks π)
    (ha : DA X cl W (e :: es) Ta) (hkw : DK X cl W kws Tk)
    (hg : Gl X x := by rfl) (hall : (backToKw pos (keywordEach kws X.env)).all (·.1.isSome) = true := by rfl) (hks : (backToKw pos (keywordEach kws X.env)).filterMap (·.1) = ks := by rfl)
    (hdb : (x == ("__debug__" : Str)) = false := by decide) (he : starEach (e :: es) X.env = (false, eval e X.env) :: starEach es X.env := by rfl)
    (hpl : ((backTo pos (starEach (e :: es) X.env)).any (·.1) || (backToKw pos (keywordEach kws X.env)).any (·.1.isNone)) = false := by rfl) :
    DE X cl W (.Call (.Name x p) (e :: es) kws pos) (T_callS c n ks.length π Ta Tk) :=
  PE.of (pe_callG R hg hm hk hb hx ha hkw hall hks hdb he hpl) fun σ H Q h => lift_callS h
theorem d_call0 {c : CtP} (R : Runs X f fd ps (spOf ⟨X.K, cl⟩ (ctP c))) (hx : ∀ σ, PassesAt (L2.CX X.prog X.w) X σ (fun cls d H => W cls d σ H)) (hm : X.mg x = some (.ref f)) (hk : PySem.W.keepIn X.K (.ref f) = true) (hb : KB X.K fd ps 0 ks π)
    (hkw : DK X cl W kws Tk)
    (hg : Gl X x := by rfl) (hall : (backToKw pos (keywordEach kws X.env)).all (·.1.isSome) = true := by rfl) (hks : (backToKw pos (keywordEach kws X.env)).filterMap (·.1) = ks := by rfl)
    (hdb : (x == ("__debug__" : Str)) = false := by decide)
    (hpl : ((backTo pos (starEach [] X.env)).any (·.1) || (backToKw pos (keywordEach kws X.env)).any (·.1.isNone)) = false := by rfl) :
    DE X cl W (.Call (.Name x p) [] kws pos) (T_call c 0 ks.length π T_nil Tk) :=
  PE.of (pe_callG0 R hg hm hk hb hx hkw hall hks hdb hpl) fun σ H Q h => by
    have z := lift_callP (n := 0) (m := ks.length) h
    obtain ⟨I, α, ρ, μ, F, k', E, hf, en, t, hk', hx'⟩ := z
    exact hk' [] [] I α H μ (Ext.refl _ _) hf .nil t
end
end Dv
/-! Dv5: displays, subscripts, built-ins. -/
namespace Dv
open PySem PySem.Spec PyProof.Rows L2
/-! ### displays -/
def T_tup (Ta : TrA) : TrE := fun ρ μ k E => Ta ρ μ (fun ds μ1 => match vals? ds with | some xs => xs.length ≤ 1000 ∧ k (.val (.tup xs)) μ1 | none => False) E
def T_lst (Ta : TrA) : TrE := fun ρ μ k E => Ta ρ μ (fun ds μ1 => match vals? ds with | some xs => xs.length ≤ 1000 ∧ k (.val (.lst xs)) μ1 | none => False) E
/-- a list that is to change -/
def T_lstC (Ta : TrA) : TrE := fun ρ μ k E => Ta ρ μ (fun ds μ1 => ds.length ≤ 1000 ∧ k (.cell μ1.length) (μ1 ++ [.lst ds])) E
/-- {} -/
def T_dic0 : TrE := fun _ μ k _ => ∀ a, k (.val (.obj a (.dK []))) μ
theorem line1000 {n : Nat} (h : n ≤ 1000) : n ≤ sizeLine := Nat.le_trans h (by decide)
section
variable {X : Cx} {cl : Nat → Addr} {W : WX} {es : List Expr} {Ta : TrA} {pos : Pos}
theorem d_tup {x1} (h : DA X cl W es Ta) : DE X cl W (.Tuple es x1 pos) (T_tup Ta) := by
  refine PE.of (pe_tup h) fun σ H Q h => ?_
  obtain ⟨I, α, ρ, μ, F, k, E, hf, en, t, hk, hx⟩ := h
  refine liftA_go hf en t (fun vs ds I1 α1 H1 μ1 x1 hf1 r1 t1 => ?_) hx
  cases q : vals? ds with
  | none => rw [q] at t1; exact t1.elim
  | some xs =>
    rw [q] at t1
    rw [vals?_eq q] at r1
    refine ⟨by rw [r1.toL.length]; exact line1000 t1.1, fun p hp => ?_⟩
    obtain ⟨hf2, x2⟩ := hf1.new (o := .tup vs) hp
    exact hk _ _ _ α1 _ μ1 (x1.trans (Ext.of x2 _)) hf2 (.val (.tup (SqT.of upd_same) (r1.toL.mono x2))) t1.2
theorem d_lst (h : DA X cl W es Ta) : DE X cl W (.List es pos) (T_lst Ta) := by
  refine PE.of (pe_lst h) fun σ H Q h => ?_
  obtain ⟨I, α, ρ, μ, F, k, E, hf, en, t, hk, hx⟩ := h
  refine liftA_go hf en t (fun vs ds I1 α1 H1 μ1 x1 hf1 r1 t1 => ?_) hx
  cases q : vals? ds with
  | none => rw [q] at t1; exact t1.elim
  | some xs =>
    rw [q] at t1
    rw [vals?_eq q] at r1
    refine ⟨by rw [r1.toL.length]; exact line1000 t1.1, fun p hp => ?_⟩
    obtain ⟨hf2, x2⟩ := hf1.new (o := .lst vs) hp
    exact hk _ _ _ α1 _ μ1 (x1.trans (Ext.of x2 _)) hf2 (.val (.lst (SqL.of upd_same) (r1.toL.mono x2))) t1.2
theorem d_lstC (h : DA X cl W es Ta) : DE X cl W (.List es pos) (T_lstC Ta) := by
  refine PE.of (pe_lst h) fun σ H Q h => ?_
  obtain ⟨I, α, ρ, μ, F, k, E, hf, en, t, hk, hx⟩ := h
  refine liftA_go hf en t (fun vs ds I1 α1 H1 μ1 x1 hf1 r1 t1 => ?_) hx
  refine ⟨by rw [r1.length]; exact line1000 t1.1, fun p hp => ?_⟩
  obtain ⟨hf2, x2, hp2⟩ := hf1.newC (o := .lst vs) (m := .lst ds) hp fun H' e => ⟨rfl, vs, e, r1.mono ⟨Same.refl _, fun k a h => by
    rw [List.getElem?_append_left (by have := (List.getElem?_eq_some_iff.mp h).1; exact this)]
    exact h⟩⟩
  exact hk _ _ _ _ _ _ (x1.trans x2) hf2 (.cell hp2) t1.2
theorem d_dic0 : DE X cl W (.Dict [] [] pos) T_dic0 := by
  refine PE.of pe_dnewK fun σ H Q h => ?_
  obtain ⟨I, α, ρ, μ, F, k, E, hf, en, t, hk, hx⟩ := h
  intro p hp
  obtain ⟨hf2, x2⟩ := hf.new (o := .dK []) hp
  exact hk _ _ _ α _ μ (Ext.of x2 _) hf2 (.val (.obj upd_same)) (t p)
end
/-! ### subscripts -/
def oIx : OD := fun x y μ k => match y with
  | .val (.int i) => match x with
    | .val (.lst ds) => match atI ds i with | some d => k (.val d) μ | none => False
    | .val (.tup ds) => match atI ds i with | some d => k (.val d) μ | none => False
    | .val (.str z) => z.length ≤ sizeLine ∧ match atI z.cps.toList i with | some c => k (.val (.str ⟨#[c]⟩)) μ | none => False
    | .cell j => match μ[j]? with
      | some (.lst xs) => match atI xs i with | some s => k s μ | none => False
      | _ => False
    | _ => False
  | _ => False
theorem RpL.atI {g : G} {I : Hp} {vs : List V} {ds : List D} {i : Int} {d : D} (r : RpL g I vs ds) (h : L2.atI ds i = some d) : ∃ v, L2.atI vs i = some v ∧ Rp g I v d := by
  unfold L2.atI at h ⊢
  rw [r.length]
  cases q : ixN ds.length i with
  | none => rw [q] at h; cases h
  | some j =>
    rw [q] at h
    exact r.getD h
theorem RpSL.atI {g : G} {I : Hp} {α : List Addr} {vs : List V} {ds : List Sl} {i : Int} {d : Sl} (r : RpSL g I α vs ds) (h : L2.atI ds i = some d) : ∃ v, L2.atI vs i = some v ∧ RpS g I α v d := by
  unfold L2.atI at h ⊢
  rw [r.length]
  cases q : ixN ds.length i with
  | none => rw [q] at h; cases h
  | some j =>
    rw [q] at h
    exact r.getD h
theorem snd_ix {g : G} : OSnd g oIx (rIx g.K) := by
  intro I α H μ F x y dx dy k Q hf rx ry o hk
  cases ry with
  | cell => exact (show False from o).elim
  | val ry =>
    cases ry with
    | @int i =>
      cases rx with
      | @cell j a h =>
        have o' : (match μ[j]? with | some (.lst xs) => (match atI xs i with | some s => k s μ | none => False) | _ => False) := o
        cases q : μ[j]? with
        | none => rw [q] at o'; exact o'.elim
        | some m =>
          rw [q] at o'
          cases m with
          | lst xs =>
            obtain ⟨fp, ha, _, vs, hv, hr⟩ := hf.cell h q
            cases z : atI xs i with
            | none => simp only [z] at o'
            | some s =>
              simp only [z] at o'
              obtain ⟨v, hv2, rv⟩ := hr.atI z
              exact .inl ⟨a, vs, i, v, rfl, rfl, SqL.of hv, hv2, hk _ _ I α H μ (Ext.refl _ _) hf rv o'⟩
          | _ => exact (show False from o').elim
      | val rx =>
        cases rx with
        | @lst a vs ds h r =>
          have o' : (match atI ds i with | some d => k (.val d) μ | none => False) := o
          cases z : atI ds i with
          | none => rw [z] at o'; exact o'.elim
          | some d =>
            rw [z] at o'
            obtain ⟨v, hv2, rv⟩ := r.atI z
            exact .inl ⟨a, vs, i, v, rfl, rfl, hf.sub.seq h, hv2, hk _ _ I α H μ (Ext.refl _ _) hf (.val rv) o'⟩
        | @tup a vs ds h r =>
          have o' : (match atI ds i with | some d => k (.val d) μ | none => False) := o
          cases z : atI ds i with
          | none => rw [z] at o'; exact o'.elim
          | some d =>
            rw [z] at o'
            obtain ⟨v, hv2, rv⟩ := r.atI z
            exact .inr (.inl ⟨a, vs, i, v, rfl, rfl, sqT_same hf.sub h, hv2, hk _ _ I α H μ (Ext.refl _ _) hf (.val rv) o'⟩)
        | @str z =>
          have o' : z.length ≤ sizeLine ∧ (match atI z.cps.toList i with | some c => k (.val (.str ⟨#[c]⟩)) μ | none => False) := o
          obtain ⟨o1, o2⟩ := o'
          cases zz : atI z.cps.toList i with
          | none => rw [zz] at o2; exact o2.elim
          | some c =>
            rw [zz] at o2
            exact .inr (.inr ⟨z, i, c, rfl, rfl, o1, zz, hk _ _ I α H μ (Ext.refl _ _) hf (.val .str) o2⟩)
        | _ => exact (show False from o).elim
    | _ => exact (show False from o).elim
theorem d_ix {X : Cx} {cl : Nat → Addr} {W : WX} {a b : Expr} {Ta Tb : TrE} {pos : Pos} (ha : DE X cl W a Ta) (hb : DE X cl W b Tb) (hs : PlainIx b := by exact fun _ _ => rfl) : DE X cl W (.Subscript a b pos) (T_op oIx Ta Tb) :=
  PE.of (pe_ix ix_seq ha hb hs) fun σ H Q h => lift_op snd_ix h
/-! ### slices -/
abbrev TrO := Rho → Sto → (Option Int → Sto → Prop) → KX → Prop
def okO (g : G) (I : Hp) (α : Al) (F : Hp) (k : Option Int → Sto → Prop) (Q : Option Int → Hp → Prop) : Prop := ∀ o I' α' H' μ', Ext I (ad α) I' (ad α') → Hf g I' α' H' μ' F → k o μ' → Q o H'
def liftO (g : G) (W : WX) (T : TrO) : TO := fun σ H Q => ∃ I α ρ μ F k E, Hf g I α H μ F ∧ En g I (ad α) σ ρ ∧ T ρ μ k E ∧ okO g I α F k Q ∧ okX g I α F E (fun cls dx H => W cls dx σ H)
abbrev DO (X : Cx) (cl : Nat → Addr) (W : WX) (e : Option Expr) (T : TrO) : Prop := PO X e (liftO ⟨X.K, cl⟩ W T)
def T_no : TrO := fun _ μ k _ => k none μ
def T_part (Ta : TrE) : TrO := fun ρ μ k E => Ta ρ μ (fun s μ1 => match s with | .val (.int i) => k (some i) μ1 | _ => False) E
def cutL {β : Type} (xs : List β) (lo hi : Option Int) : List β := (xs.drop (HT.sIx xs.length 0 lo)).take (HT.sIx xs.length xs.length hi - HT.sIx xs.length 0 lo)
/-- x[lo:hi]: what comes -/
def oSl (x : Sl) (lo hi : Option Int) (μ : Sto) (k : KE) : Prop := match x with
  | .val (.lst ds) => k (.val (.lst (cutL ds lo hi))) μ
  | .val (.str z) => z.length ≤ sizeLine ∧ k (.val (.str (cutS z lo hi))) μ
  | _ => False
def T_sl (Ta : TrE) (Tl Th : TrO) : TrE := fun ρ μ k E => Ta ρ μ (fun x μ1 => Tl ρ μ1 (fun lo μ2 => Th ρ μ2 (fun hi μ3 => oSl x lo hi μ3 k) E) E) E
section
variable {X : Cx} {cl : Nat → Addr} {W : WX} {e : Expr} {Ta : TrE} {lo hi : Option Expr} {Tl Th : TrO} {pos p2 : Pos}
theorem PO.of {t t' : TO} {e : Option Expr} (h : PO X e t) (w : ∀ σ H Q, t' σ H Q → t σ H Q) : PO X e t' := ⟨fun pins s σ H Q I q => h.run pins s σ H Q I (w σ H Q q)⟩
theorem do_none : DO X cl W none T_no := PO.of po_none fun σ H Q h => by
  obtain ⟨I, α, ρ, μ, F, k, E, hf, en, t, hk, hx⟩ := h
  exact hk none I α H μ (Ext.refl _ _) hf t
theorem do_some (h : DE X cl W e Ta) : DO X cl W (some e) (T_part Ta) := PO.of (po_some h) fun σ H Q h => by
  obtain ⟨I, α, ρ, μ, F, k, E, hf, en, t, hk, hx⟩ := h
  refine lift_go hf en t (fun v d I1 α1 H1 μ1 x1 hf1 r1 t1 => ?_) hx
  cases r1 with
  | cell => exact (show False from t1).elim
  | val r =>
    cases r with
    | @int i => exact ⟨i, rfl, hk _ I1 α1 H1 μ1 x1 hf1 t1⟩
    | _ => exact (show False from t1).elim
def rSlA (K : PySem.W.Frag) : V → Option Int → Option Int → Hp → VK → Prop := fun x lo hi H Q => rSlL K x lo hi H Q ∨ rSlS x lo hi H Q
theorem d_sl (he : DE X cl W e Ta) (hl : DO X cl W lo Tl) (hu : DO X cl W hi Th) : DE X cl W (.Subscript e (.Slice lo hi none p2) pos) (T_sl Ta Tl Th) := by
  refine PE.of (pe_slice (r := rSlA X.K) (SlR.or sl_list sl_str) he hl hu) fun σ H Q h => ?_
  obtain ⟨I, α, ρ, μ, F, k, E, hf, en, t, hk, hx⟩ := h
  refine lift_go hf en t (fun v d I1 α1 H1 μ1 x1 hf1 r1 t1 => ?_) hx
  refine ⟨I1, α1, ρ, μ1, F, _, E, hf1, en.mono x1, t1, fun l I2 α2 H2 μ2 x2 hf2 t2 => ?_, hx.mono x1⟩
  refine ⟨I2, α2, ρ, μ2, F, _, E, hf2, en.mono (x1.trans x2), t2, fun u I3 α3 H3 μ3 x3 hf3 t3 => ?_, hx.mono (x1.trans x2)⟩
  have x13 := x1.trans (x2.trans x3)
  cases r1 with
  | cell => exact (show False from t3).elim
  | val r =>
    cases r with
    | @lst a vs ds h r =>
      refine .inl ⟨a, vs, rfl, hf3.sub.seq ((x2.trans x3).hp.seq h), fun p hp => ?_⟩
      obtain ⟨hf4, x4⟩ := hf3.new (o := .lst (cutV vs l u)) hp
      have rr : RpL ⟨X.K, cl⟩ I3 (cutV vs l u) (cutL ds l u) := by
        unfold cutV cutL
        have r' := r.mono (x2.trans x3).hp
        rw [r.length]
        exact (r'.drop _).take _
      exact hk _ _ _ α3 _ μ3 (x13.trans (Ext.of x4 _)) hf4 (.val (.lst (SqL.of upd_same) (rr.mono x4))) t3
    | @str z =>
      have t3' : z.length ≤ sizeLine ∧ k (.val (.str (cutS z l u))) μ3 := t3
      exact .inr ⟨z, rfl, t3'.1, hk _ _ _ α3 _ μ3 x13 hf3 (.val .str) t3'.2⟩
    | _ => exact (show False from t3).elim
end
/-! ### is, in -/
def oNotB : OD := fun x y μ k => match x, y with
  | .val (.bl a), .val (.bl b) => k (.val (.bl (!decide (a = b)))) μ
  | _, _ => False
def oIsB : OD := fun x y μ k => match x, y with
  | .val (.bl a), .val (.bl b) => k (.val (.bl (decide (a = b)))) μ
  | _, _ => False
theorem snd_notB {g : G} : OSnd g oNotB rNotB := by
  intro I α H μ F x y dx dy k Q hf rx ry o hk
  cases rx with
  | cell => exact (show False from o).elim
  | val rx =>
    cases ry with
    | cell => cases rx <;> exact (show False from o).elim
    | val ry =>
      cases rx with
      | @bl a =>
        cases ry with
        | @bl b => exact ⟨a, b, rfl, rfl, hk _ _ I α H μ (Ext.refl _ _) hf (.val .bl) o⟩
        | _ => exact (show False from o).elim
      | _ => exact (show False from o).elim
theorem snd_isB {g : G} : OSnd g oIsB rIsB := by
  intro I α H μ F x y dx dy k Q hf rx ry o hk
  cases rx with
  | cell => exact (show False from o).elim
  | val rx =>
    cases ry with
    | cell => cases rx <;> exact (show False from o).elim
    | val ry =>
      cases rx with
      | @bl a =>
        cases ry with
        | @bl b => exact ⟨a, b, rfl, rfl, hk _ _ I α H μ (Ext.refl _ _) hf (.val .bl) o⟩
        | _ => exact (show False from o).elim
      | _ => exact (show False from o).elim
/-- x in y: a sign in a text, a scalar among scalars -/
def oInF (f : Bool → Bool) : OD := fun x y μ k => match x, y with
  | .val (.str a), .val (.str z) => match a.cps.toList with
    | [c] => k (.val (.bl (f (decide (c ∈ z.cps.toList))))) μ
    | _ => False
  | .val d, .val (.tup ds) => match d.v?, ds.mapM D.v? with
    | some v, some vs => k (.val (.bl (f (inV v vs)))) μ
    | _, _ => False
  | .val d, .val (.lst ds) => match d.v?, ds.mapM D.v? with
    | some v, some vs => k (.val (.bl (f (inV v vs)))) μ
    | _, _ => False
  | _, _ => False
def oIn : OD := oInF id
def oNin : OD := oInF not
theorem v?_flat {d : D} {v : V} (h : d.v? = some v) : flatV v = true := by
  cases d <;> cases h <;> rfl
theorem mapM_v? {g : G} {I : Hp} : ∀ {us : List V} {ds : List D} {vs : List V}, RpL g I us ds → ds.mapM D.v? = some vs → us = vs ∧ vs.all flatV = true
  | _, _, vs, .nil, h => by cases h; exact ⟨rfl, rfl⟩
  | _, _, vs, .cons (d := d) (ds := ds) r t, h => by
    rw [List.mapM_cons] at h
    cases q : d.v? with
    | none => rw [q] at h; cases h
    | some w =>
      cases q2 : ds.mapM D.v? with
      | none => rw [q, q2] at h; cases h
      | some ws =>
        rw [q, q2] at h
        have e : w :: ws = vs := Option.some.inj h
        subst e
        obtain ⟨e1, e2⟩ := mapM_v? t q2
        rw [e1, v?_rp r q]
        exact ⟨rfl, by rw [List.all_cons, v?_flat q, e2]; rfl⟩
def rInA (K : PySem.W.Frag) (neg : Bool) : R2 := fun x y H Q => (∃ (c : Nat) (z : Str), x = .str ⟨#[c]⟩ ∧ y = .str z ∧ Q (.bl (if neg then !decide (c ∈ z.cps.toList) else decide (c ∈ z.cps.toList))) H) ∨ rIn K neg x y H Q
theorem op_inA {X : Cx} : OpR X (compareOp .In) (rInA X.K false) := OpR.or op_in_sign op_in_seq
theorem op_ninA {X : Cx} : OpR X (compareOp .NotIn) (rInA X.K true) := OpR.or op_notIn_sign op_notIn_seq
theorem snd_inF {g : G} {f : Bool → Bool} {neg : Bool} (hf' : ∀ b, f b = if neg then !b else b) : OSnd g (oInF f) (rInA g.K neg) := by
  intro I α H μ F x y dx dy k Q hf rx ry o hk
  cases rx with
  | cell => exact (show False from o).elim
  | @val _ d rx =>
    cases ry with
    | cell => cases rx <;> exact (show False from o).elim
    | val ry =>
      have seq : ∀ {p : Addr} {us : List V} {ds : List D}, (SqL g.K H p us ∨ SqT g.K H p us) → RpL g I us ds → (match d.v?, ds.mapM D.v? with | some v, some vs => k (.val (.bl (f (inV v vs)))) μ | _, _ => False) → rInA g.K neg x (.ref p) H Q := by
        intro p us ds h r o
        cases q : d.v? with
        | none => rw [q] at o; exact o.elim
        | some v =>
          cases q2 : ds.mapM D.v? with
          | none => rw [q, q2] at o; exact o.elim
          | some vs =>
            rw [q, q2] at o
            obtain ⟨e1, e2⟩ := mapM_v? r q2
            subst e1
            have e3 := v?_rp rx q
            subst e3
            have o' : k (.val (.bl (f (inV x us)))) μ := o
            rw [hf'] at o'
            exact .inr ⟨p, us, rfl, h, v?_flat q, e2, hk _ _ I α H μ (Ext.refl _ _) hf (.val .bl) o'⟩
      cases ry with
      | @str z =>
        cases rx with
        | @str a =>
          have o' : (match a.cps.toList with | [c] => k (.val (.bl (f (decide (c ∈ z.cps.toList))))) μ | _ => False) := o
          split at o'
          · rename_i c e
            have ea : a = ⟨#[c]⟩ := by
              cases a with
              | mk cps =>
                have e' : cps = #[c] := by
                  apply Array.ext'
                  exact e
                rw [e']
            subst ea
            rw [hf'] at o'
            exact .inl ⟨c, z, rfl, rfl, hk _ _ I α H μ (Ext.refl _ _) hf (.val .bl) o'⟩
          · exact o'.elim
        | _ => exact (show False from o).elim
      | @tup a us ds h r => exact seq (.inr (sqT_same hf.sub h)) r (by cases rx <;> exact o)
      | @lst a us ds h r => exact seq (.inl (hf.sub.seq h)) r (by cases rx <;> exact o)
      | _ => cases rx <;> exact (show False from o).elim
theorem snd_in {g : G} : OSnd g oIn (rInA g.K false) := snd_inF fun _ => rfl
theorem snd_nin {g : G} : OSnd g oNin (rInA g.K true) := snd_inF fun _ => rfl
end Dv
/-! Dv6: built-in calls, walks, for, comprehensions. -/
namespace Dv
open PySem PySem.Spec PyProof.Rows L2
/-! ### built-in calls -/
section
variable {X : Cx} {cl : Nat → Addr} {W : WX} {x : Str} {p pos : Pos} {e : Expr} {es : List Expr} {Ta : TrA} {id T : String} {r : List V → Hp → VK → Prop} {o : OC}
theorem lift_cb {g : G} (hs : CSnd g o r) {σ : L2.St} {H : Hp} {Q : VK} (h : lift g W (T_cb o Ta) σ H Q) : tCB r (liftA g W Ta) σ H Q := by
  obtain ⟨I, α, ρ, μ, F, k, E, hf, en, t, hk, hx⟩ := h
  refine liftA_go hf en t (fun v d I1 α1 H1 μ1 x1 hf1 r1 t1 => ?_) hx
  exact hs I1 α1 H1 μ1 F v d k Q hf1 r1 t1 (hk.mono x1)
theorem d_callB (hc : CallR X (.builtin id) r) (hs : CSnd ⟨X.K, cl⟩ o r) (hm : X.mg x = none) (hv : bootBuiltins x = some (.builtin id)) (ha : DA X cl W (e :: es) Ta) (hg : Gl X x := by rfl) (hn : x ≠ "__name__" := by decide) (hdb : (x == ("__debug__" : Str)) = false := by decide)
    (he : starEach (e :: es) X.env = (false, eval e X.env) :: starEach es X.env := by rfl) (hpl : (backTo pos (starEach es X.env)).any (·.1) = false := by rfl) : DE X cl W (.Call (.Name x p) (e :: es) [] pos) (T_cb o Ta) :=
  PE.of (pe_callB hc hg hm hv ha hn hdb he hpl) fun σ H Q h => lift_cb hs h
theorem d_callTy (hc : CallR X (.type T) r) (hs : CSnd ⟨X.K, cl⟩ o r) (hm : X.mg x = none) (hv : bootBuiltins x = some (.type T)) (ha : DA X cl W (e :: es) Ta) (hg : Gl X x := by rfl) (hn : x ≠ "__name__" := by decide) (hdb : (x == ("__debug__" : Str)) = false := by decide)
    (he : starEach (e :: es) X.env = (false, eval e X.env) :: starEach es X.env := by rfl) (hpl : (backTo pos (starEach es X.env)).any (·.1) = false := by rfl) : DE X cl W (.Call (.Name x p) (e :: es) [] pos) (T_cb o Ta) :=
  PE.of (pe_callTy hc hg hm hv ha hn hdb he hpl) fun σ H Q h => lift_cb hs h
end
/-- the kinds of plain values -/
def D.kind : D → Option String
  | .non => some "NoneType"
  | .bl _ => some "bool"
  | .int _ => some "int"
  | .str _ => some "str"
  | .lst _ => some "list"
  | .tup _ => some "tuple"
  | .obj _ (.dK _) => some "dict"
  | .obj _ (.dT _) => some "dict"
  | _ => none
def isa (t n : String) : Option Bool := if (["int", "bool", "str", "list", "tuple"].contains n && ["NoneType", "bool", "int", "str", "list", "tuple", "dict"].contains t) = true then some (t == n || (t == "bool" && n == "int")) else none
theorem isa_kit {t n : String} {b : Bool} (h : isa t n = some b) : kitB t n = some b := by
  unfold isa at h
  split at h
  · rename_i c
    rw [Bool.and_eq_true, List.contains_iff_mem, List.contains_iff_mem] at c
    obtain ⟨c1, c2⟩ := c
    cases h
    simp only [List.mem_cons, List.not_mem_nil, or_false] at c1 c2
    rcases c1 with rfl | rfl | rfl | rfl | rfl <;> rcases c2 with rfl | rfl | rfl | rfl | rfl | rfl | rfl <;> decide +kernel
  · cases h
theorem kind_ty {g : G} {I H : Hp} {v : V} {d : D} {t : String} (s : Same I H) (r : Rp g I v d) (h : d.kind = some t) : TyX g.K H v (.type t) := by
  cases r with
  | non => cases h; exact .base .non
  | bl => cases h; exact .base (.bl _)
  | int => cases h; exact .base (.int _)
  | str => cases h; exact .base (.str _)
  | ty => cases h
  | lst q _ =>
    cases h
    rcases s.seq q with (q | ⟨o, q⟩) | ⟨o, its, n, q, c, _⟩
    · exact .base (.lst q)
    · exact .base (.frz q)
    · exact .kList q c
  | tup q _ =>
    cases h
    rcases sqT_same s q with (q | ⟨o, q⟩) | ⟨o, its, n, q, c, _⟩
    · exact .base (.tup q)
    · exact .fTuple q
    · exact .kTuple q c
  | @obj a o q =>
    cases o <;> cases h
    · exact .base (.dK (s _ _ q))
    · exact .base (.dT (s _ _ q))
  | ins => cases h
  | cls => cases h
  | exn0 => cases h
  | exn => cases h
def isAny (t : String) : List D → Option Bool
  | [] => some false
  | .ty n :: r => match isa t n with
    | some true => match isAny t r with
      | some _ => some true
      | none => none
    | some false => isAny t r
    | none => none
  | _ => none
def oIsi : OC := fun ds μ k => match ds with
  | [.val d, .val (.ty n)] => match d.kind with
    | some t => match isa t n with
      | some b => k (.val (.bl b)) μ
      | none => False
    | none => False
  | [.val d, .val (.tup ts)] => match d.kind with
    | some t => match isAny t ts with
      | some b => k (.val (.bl b)) μ
      | none => False
    | none => False
  | _ => False
def rIsiA (K : PySem.W.Frag) : List V → Hp → VK → Prop := fun xs H Q => rIsi K xs H Q ∨
  ∃ (x : V) (tp : Addr) (cs : List V) (t : Value) (us : List Value) (b : Bool), xs = [x, .ref tp] ∧ SqT K H tp cs ∧ Paired ClsV cs us ∧ TyX K H x t ∧ PySem.W.kitAny K t us = some b ∧ Q (.bl b) H
theorem call_isiA {X : Cx} : CallR X (.builtin "isinstance") (rIsiA X.K) := by
  intro pins s σ H xs us Q I r h
  rcases h with h | h
  · exact call_isi pins s σ H xs us Q I r h
  · obtain ⟨x, tp, cs, t, ws, b, rfl, hT, k, ty, e, q⟩ := h
    obtain ⟨u1, u2, rfl, r1, r2⟩ := vals2 r
    cases (show u2 = Value.ref tp from r2)
    obtain ⟨P, Z, p, hx⟩ := kit_of I r1 ty
    obtain ⟨its, rv, ⟨o, h1, h2, n, h3⟩, _⟩ := I.tuple hT
    have e3 := ClsV.all k rv
    subst e3
    obtain ⟨oc, od, dt, sl⟩ := o
    simp only at h2 h3
    subst h2 h3
    exact PySem.W.kia_tup Z I.kIn p h1 e hx fun tk => ⟨.bl b, H, I.tok tk, rfl, q⟩
theorem isAny_ok {g : G} {I : Hp} {K : PySem.W.Frag} {t : String} : ∀ {vs : List V} {ts : List D} {b : Bool}, RpL g I vs ts → isAny t ts = some b → ∃ us, Paired ClsV vs us ∧ PySem.W.kitAny K (.type t) us = some b
  | _, _, b, .nil, h => by cases h; exact ⟨[], .nil, rfl⟩
  | _, _, b, .cons (d := d) (ds := ds) r q, h => by
    cases r with
    | @ty n =>
      unfold isAny at h
      cases e : isa t n with
      | none => rw [e] at h; cases h
      | some c =>
        rw [e] at h
        cases c with
        | true =>
          cases e2 : isAny t ds with
          | none => simp only [e2] at h; cases h
          | some c2 =>
            simp only [e2] at h
            cases h
            obtain ⟨us, h1, h2⟩ := isAny_ok (K := K) q e2
            exact ⟨.type n :: us, .cons (.ty n) h1, kitAny_cons (kit_ty (isa_kit e)) (fun z => by cases z) fun _ => rfl⟩
        | false =>
          have h' : isAny t ds = some b := h
          obtain ⟨us, h1, h2⟩ := isAny_ok (K := K) q h'
          exact ⟨.type n :: us, .cons (.ty n) h1, kitAny_cons (kit_ty (isa_kit e)) (fun _ => h2) fun z => by cases z⟩
    | _ => cases h
theorem snd_isi {g : G} : CSnd g oIsi (rIsiA g.K) := by
  intro I α H μ F xs ds k Q hf r o hk
  unfold oIsi at o
  split at o
  · rename_i d n
    cases r with
    | cons r1 r2 =>
      cases r2 with
      | cons r2 r3 =>
        cases r3
        cases r1 with
        | val r1 =>
          cases r2 with
          | val r2 =>
            cases r2
            cases e : d.kind with
            | none => rw [e] at o; exact o.elim
            | some t =>
              rw [e] at o
              cases e2 : isa t n with
              | none => simp only [e2] at o
              | some b =>
                simp only [e2] at o
                exact .inl ⟨_, _, .type t, .type n, b, rfl, .ty n, kind_ty hf.sub r1 e, kit_ty (isa_kit e2), hk _ _ I α H μ (Ext.refl _ _) hf (.val .bl) o⟩
  · rename_i d ts
    cases r with
    | cons r1 r2 =>
      cases r2 with
      | cons r2 r3 =>
        cases r3
        cases r1 with
        | val r1 =>
          cases r2 with
          | val r2 =>
            cases r2 with
            | @tup a vs _ hq rl =>
              cases e : d.kind with
              | none => rw [e] at o; exact o.elim
              | some t =>
                rw [e] at o
                cases e2 : isAny t ts with
                | none => simp only [e2] at o
                | some b =>
                  simp only [e2] at o
                  obtain ⟨us, h1, h2⟩ := isAny_ok (K := g.K) rl e2
                  exact .inr ⟨_, a, vs, .type t, us, b, rfl, sqT_same hf.sub hq, h1, kind_ty hf.sub r1 e, h2, hk _ _ I α H μ (Ext.refl _ _) hf (.val .bl) o⟩
  · exact o.elim
/-- how long -/
def oLen : OC := fun ds μ k => match ds with
  | [.val (.str z)] => z.length ≤ sizeLine ∧ k (.val (.int z.length)) μ
  | [.val (.lst xs)] => k (.val (.int xs.length)) μ
  | [.val (.tup xs)] => k (.val (.int xs.length)) μ
  | [.cell j] => match μ[j]? with
    | some (.lst xs) => k (.val (.int xs.length)) μ
    | _ => False
  | _ => False
theorem snd_len {g : G} : CSnd g oLen (fun xs H Q => ∃ x n, xs = [x] ∧ LenV g.K x H n ∧ Q (.int n) H) := by
  intro I α H μ F xs ds k Q hf r o hk
  unfold oLen at o
  split at o
  · cases r with
    | cons r1 r2 =>
      cases r2
      cases r1 with
      | val r1 =>
        cases r1
        exact ⟨_, _, rfl, ⟨o.1, rfl⟩, hk _ _ I α H μ (Ext.refl _ _) hf (.val .int) o.2⟩
  · cases r with
    | cons r1 r2 =>
      cases r2
      cases r1 with
      | val r1 =>
        cases r1 with
        | lst h rl => exact ⟨_, _, rfl, .inl ⟨_, hf.sub.seq h, rfl⟩, hk _ _ I α H μ (Ext.refl _ _) hf (.val .int) (by rw [rl.length]; exact o)⟩
  · cases r with
    | cons r1 r2 =>
      cases r2
      cases r1 with
      | val r1 =>
        cases r1 with
        | tup h rl => exact ⟨_, _, rfl, .inr ⟨_, sqT_same hf.sub h, rfl⟩, hk _ _ I α H μ (Ext.refl _ _) hf (.val .int) (by rw [rl.length]; exact o)⟩
  · rename_i j
    cases r with
    | cons r1 r2 =>
      cases r2
      cases r1 with
      | @cell _ a h =>
        cases q : μ[j]? with
        | none => rw [q] at o; exact o.elim
        | some m =>
          rw [q] at o
          cases m with
          | lst xs =>
            obtain ⟨fp, ha, _, vs, hv, hr⟩ := hf.cell h q
            exact ⟨_, _, rfl, .inl ⟨vs, SqL.of hv, rfl⟩, hk _ _ I α H μ (Ext.refl _ _) hf (.val .int) (by rw [hr.length]; exact o)⟩
          | _ => exact (show False from o).elim
  · exact o.elim
def oAbs : OC := fun ds μ k => match ds with
  | [.val (.int i)] => k (.val (.int (if i < 0 then -i else i))) μ
  | _ => False
def oInt : OC := fun ds μ k => match ds with
  | [.val (.int i)] => k (.val (.int i)) μ
  | _ => False
theorem snd_abs {g : G} : CSnd g oAbs (fun xs H Q => ∃ i, xs = [.int i] ∧ Q (.int (if i < 0 then -i else i)) H) := by
  intro I α H μ F xs ds k Q hf r o hk
  unfold oAbs at o
  split at o
  · cases r with
    | cons r1 r2 =>
      cases r2
      cases r1 with
      | val r1 =>
        cases r1
        exact ⟨_, rfl, hk _ _ I α H μ (Ext.refl _ _) hf (.val .int) o⟩
  · exact o.elim
theorem snd_int {g : G} : CSnd g oInt (fun xs H Q => (∃ i, xs = [.int i] ∧ Q (.int i) H) ∨ ∃ k, xs = [.bl k] ∧ Q (.int (if k then 1 else 0)) H) := by
  intro I α H μ F xs ds k Q hf r o hk
  unfold oInt at o
  split at o
  · cases r with
    | cons r1 r2 =>
      cases r2
      cases r1 with
      | val r1 =>
        cases r1
        exact .inl ⟨_, rfl, hk _ _ I α H μ (Ext.refl _ _) hf (.val .int) o⟩
  · exact o.elim
def bl? : D → Option Bool
  | .bl b => some b
  | _ => none
def int? : D → Option Int
  | .int b => some b
  | _ => none
theorem mapM_bl {g : G} {I : Hp} : ∀ {vs : List V} {ds : List D} {bs : List Bool}, RpL g I vs ds → ds.mapM bl? = some bs → vs = bs.map V.bl
  | _, _, bs, .nil, h => by cases h; rfl
  | _, _, bs, .cons (d := d) (ds := ds) r t, h => by
    rw [List.mapM_cons] at h
    cases q : bl? d with
    | none => rw [q] at h; cases h
    | some w =>
      cases q2 : ds.mapM bl? with
      | none => rw [q, q2] at h; cases h
      | some ws =>
        rw [q, q2] at h
        have e : w :: ws = bs := Option.some.inj h
        subst e
        cases d <;> cases q
        cases r
        rw [mapM_bl t q2]
        rfl
def oAllF (f : List Bool → Bool) : OC := fun ds μ k => match ds with
  | [.val (.lst xs)] => match xs.mapM bl? with
    | some bs => k (.val (.bl (f bs))) μ
    | none => False
  | _ => False
def oAll : OC := oAllF fun bs => bs.all id
def oAny : OC := oAllF fun bs => bs.any id
theorem snd_allF {g : G} {f : List Bool → Bool} : CSnd g (oAllF f) (fun vs H Q => ∃ (a : Addr) (bs : List Bool), vs = [V.ref a] ∧ SqL g.K H a (bs.map V.bl) ∧ Q (.bl (f bs)) H) := by
  intro I α H μ F xs ds k Q hf r o hk
  unfold oAllF at o
  split at o
  · rename_i ys
    cases r with
    | cons r1 r2 =>
      cases r2
      cases r1 with
      | val r1 =>
        cases r1 with
        | @lst a vs _ h rl =>
          cases q : ys.mapM bl? with
          | none => rw [q] at o; exact o.elim
          | some bs =>
            rw [q] at o
            have e := mapM_bl rl q
            subst e
            exact ⟨a, bs, rfl, hf.sub.seq h, hk _ _ I α H μ (Ext.refl _ _) hf (.val .bl) o⟩
  · exact o.elim
theorem snd_all {g : G} : CSnd g oAll (rAll g.K) := snd_allF
theorem snd_any {g : G} : CSnd g oAny (rAny g.K) := snd_allF
/-- list(x) -/
def oList : OC := fun ds μ k => match ds with
  | [.val (.lst xs)] => k (.val (.lst xs)) μ
  | [.val (.tup xs)] => k (.val (.lst xs)) μ
  | _ => False
theorem snd_list {g : G} : CSnd g oList (fun xs H Q => ∃ p ys, xs = [.ref p] ∧ (SqL g.K H p ys ∨ SqT g.K H p ys) ∧ ∀ l, H l = none → Q (.ref l) (upd H l (.lst ys))) := by
  intro I α H μ F xs ds k Q hf r o hk
  unfold oList at o
  split at o
  · cases r with
    | cons r1 r2 =>
      cases r2
      cases r1 with
      | val r1 =>
        cases r1 with
        | lst h rl =>
          refine ⟨_, _, rfl, .inl (hf.sub.seq h), fun p hp => ?_⟩
          obtain ⟨hf2, x2⟩ := hf.new (o := .lst _) hp
          exact hk _ _ _ α _ μ (Ext.of x2 _) hf2 (.val (.lst (SqL.of upd_same) (rl.mono x2))) o
  · cases r with
    | cons r1 r2 =>
      cases r2
      cases r1 with
      | val r1 =>
        cases r1 with
        | tup h rl =>
          refine ⟨_, _, rfl, .inr (sqT_same hf.sub h), fun p hp => ?_⟩
          obtain ⟨hf2, x2⟩ := hf.new (o := .lst _) hp
          exact hk _ _ _ α _ μ (Ext.of x2 _) hf2 (.val (.lst (SqL.of upd_same) (rl.mono x2))) o
  · exact o.elim
/-- repr of plain data -/
def oRepr : OC := fun ds μ k => match ds with
  | [.val d] => match d.py with
    | some p => p.showable = true ∧ p.hasDict = false ∧ p.depth ≤ 60 ∧ p.shown.length ≤ sizeLine ∧ k (.val (.str p.shown)) μ
    | none => False
  | _ => False
def rRepr (K : PySem.W.Frag) : List V → Hp → VK → Prop := fun xs H Q => ∃ x p, xs = [x] ∧ Dp K H x p ∧ p.showable = true ∧ p.hasDict = false ∧ p.depth ≤ 60 ∧ p.shown.length ≤ sizeLine ∧ Q (.str p.shown) H
theorem shown_bool (b : Bool) : (PyData.bool b).shown = (if b then "True" else "False" : Str) := by cases b <;> simp [PyData.shown]
theorem call_reprA {X : Cx} (hG : X.A.guards = some []) (hu : X.A.units + 64 < cLine) : CallR X (.builtin "repr") (rRepr X.K) := by
  intro pins s σ H xs us Q I r h
  obtain ⟨x, p, rfl, d, h1, h2, h3, h4, q⟩ := h
  obtain ⟨u, rfl, rx⟩ := vals1 r
  cases d with
  | non =>
    cases rx
    exact PySem.P.repr_of_none ⟨.str _, H, I.tok _, ⟨_, rfl⟩, by simpa [PyData.shown] using q⟩
  | bl b =>
    cases rx
    exact PySem.P.repr_of_bool ⟨.str _, H, I.tok _, ⟨_, rfl⟩, by rw [shown_bool] at q; exact q⟩
  | int i =>
    obtain ⟨t, rfl⟩ := rx
    exact PySem.P.repr_of_int (by simpa [PyData.showable] using h1) ⟨.str _, H, I.tok _, ⟨_, rfl⟩, by simpa [PyData.shown] using q⟩
  | str z =>
    obtain ⟨t, rfl⟩ := rx
    exact PySem.P.repr_of_str ⟨.str _, H, I.tok _, ⟨_, rfl⟩, by simpa [PyData.shown] using q⟩ (by simpa [PyData.shown] using h4)
  | @lst a ys ds hs ha =>
    cases rx
    obtain ⟨as, rr⟩ := Dp.reads I _ _ (Value.ref a) (Dp.lst hs ha) rfl
    exact repr_of_reads' rr h1 (fun z => by rw [h2] at z; cases z) hG (by omega) (fun b o e => e) (fun h' u tk hk => ⟨.str _, H, I.kept hk, ⟨u, rfl⟩, q⟩) h4
  | @tup a ys ds hs ha =>
    cases rx
    obtain ⟨as, rr⟩ := Dp.reads I _ _ (Value.ref a) (Dp.tup hs ha) rfl
    exact repr_of_reads' rr h1 (fun z => by rw [h2] at z; cases z) hG (by omega) (fun b o e => e) (fun h' u tk hk => ⟨.str _, H, I.kept hk, ⟨u, rfl⟩, q⟩) h4
theorem snd_repr {g : G} : CSnd g oRepr (rRepr g.K) := by
  intro I α H μ F xs ds k Q hf r o hk
  unfold oRepr at o
  split at o
  · rename_i d
    cases r with
    | cons r1 r2 =>
      cases r2
      cases r1 with
      | val r1 =>
        cases e : d.py with
        | none => rw [e] at o; exact o.elim
        | some p =>
          rw [e] at o
          obtain ⟨o1, o2, o3, o4, o5⟩ := o
          exact ⟨_, p, rfl, Rp.dp hf.sub r1 e, o1, o2, o3, o4, hk _ _ I α H μ (Ext.refl _ _) hf (.val .str) o5⟩
  · exact o.elim
/-! ### methods of texts -/
def T_m0 (o : OU) (Ta : TrE) : TrE := T_un o Ta
def oUpper : OU := fun x μ k => match x with
  | .val (.str z) => z.length ≤ 5592405 ∧ k (.val (.str (Txt.upper z))) μ
  | _ => False
theorem d_upper {X : Cx} {cl : Nat → Addr} {W : WX} {o : Expr} {To : TrE} {apos pos : Pos} (ho : DE X cl W o To) (hbase : attributeBase o "upper" X.env (eval o X.env) = eval o X.env := by rfl) (hline : (apos.endLine == pos.line) = true := by rfl) :
    DE X cl W (.Call (.Attribute o "upper" apos) [] [] pos) (T_m0 oUpper To) := by
  refine PE.of (pe_upper ho hbase hline) fun σ H Q h => ?_
  obtain ⟨I, α, ρ, μ, F, k, E, hf, en, t, hk, hx⟩ := h
  refine lift_go hf en t (fun v d I1 α1 H1 μ1 x1 hf1 r1 t1 => ?_) hx
  cases r1 with
  | cell => exact (show False from t1).elim
  | val r =>
    cases r with
    | @str z =>
      have t2 : z.length ≤ 5592405 ∧ k (.val (.str (Txt.upper z))) μ1 := t1
      exact ⟨⟨z, rfl⟩, z, rfl, rfl, t2.1, hk _ _ I1 α1 H1 μ1 x1 hf1 (.val .str) t2.2⟩
    | _ => exact (show False from t1).elim
/-! ### walks -/
structure WalkD (g : G) (J : It) (xs : List D) (Gh : Hp → Hp → Prop) : Prop where
  goes : ∀ i I H, i < xs.length → Gh I H → J.go i H
  stops : ∀ I H, Gh I H → J.stop xs.length H
  yields : ∀ i I H x H' d, xs[i]? = some d → Gh I H → J.yld i H x H' → (H' = H ∧ Rp g I x d) ∨ ∃ p o, H p = none ∧ H' = upd H p o ∧ (I p = none → Rp g (upd I p o) x d)
abbrev TrI := Rho → Sto → (List D → (Sto → Prop) → Sto → Prop) → KX → Prop
def okI (g : G) (I : Hp) (α : Al) (F : Hp) (k : List D → (Sto → Prop) → Sto → Prop) (R : It → Hp → Prop) : Prop :=
  ∀ J xs Gd Gh I' α' H' μ', Ext I (ad α) I' (ad α') → Hf g I' α' H' μ' F → WalkD g J xs Gh → (∀ I2 α2 H2 μ2 F2, Ext I' (ad α') I2 (ad α2) → Hf g I2 α2 H2 μ2 F2 → Gd μ2 → Gh I2 H2) → k xs Gd μ' → R J H'
def liftI (g : G) (W : WX) (S : TrI) : TI := fun σ H R => ∃ I α ρ μ F k E, Hf g I α H μ F ∧ En g I (ad α) σ ρ ∧ S ρ μ k E ∧ okI g I α F k R ∧ okX g I α F E (fun cls dx H => W cls dx σ H)
theorem PI.of {X : Cx} {tg iter : Expr} {t t' : TI} (h : PI X tg iter t) (w : ∀ σ H R, t' σ H R → t σ H R) : PI X tg iter t' := ⟨fun pins s σ H R I q => h.run pins s σ H R I (w σ H R q)⟩
abbrev DI (X : Cx) (cl : Nat → Addr) (W : WX) (tg iter : Expr) (S : TrI) : Prop := PI X tg iter (liftI ⟨X.K, cl⟩ W S)
/-- over a list, a tuple, a text -/
def iAny (K : PySem.W.Frag) (tl : TE) : TI := fun σ H R => tl σ H fun x H1 => (∃ a, x = .ref a ∧ (∃ xs, SqL K H1 a xs) ∧ R (Itl K a) H1) ∨ (∃ a, x = .ref a ∧ (∃ xs, SqT K H1 a xs) ∧ R (Itt K a) H1) ∨ ∃ z, x = .str z ∧ R (Its z) H1
theorem pi_any {X : Cx} {tg l : Expr} {tl : TE} (hl : PE X l tl) : PI X tg l (iAny X.K tl) := by
  refine ⟨fun pins s σ H R I h => ?_⟩
  refine thn (hl.run pins s σ H _ I h) fun v s1 ⟨x, H1, I1, r1, q1⟩ => ?_
  rcases q1 with ⟨a, e, ⟨xs, hq⟩, q⟩ | ⟨a, e, ⟨xs, hq⟩, q⟩ | ⟨z, e, q⟩
  · subst e
    cases r1
    obtain ⟨its, rv, p, hz⟩ := I1.list hq
    refine wpAny_pyIter_list p.isList ?_
    exact pi_one (tk := s1.toks) I1 _ (turn_list a _) ⟨_, Heap.get?_push_size _ rfl, rfl, rfl⟩ q
  · subst e
    cases r1
    obtain ⟨its, rv, p, hz⟩ := I1.tuple hq
    refine wpAny_pyIter_tuple (show s1.heap.IsTuple a its.toArray from p) ?_
    exact pi_one (tk := s1.toks) I1 _ (turn_tuple a _) ⟨_, Heap.get?_push_size _ rfl, rfl, rfl⟩ q
  · subst e
    obtain ⟨t, rfl⟩ := r1
    cases ha : z.cps.all (· < 128)
    · exact wpAny_pyIter_wide ha (pi_one (tk := s1.toks) I1 _ (turn_str _ z t "str_iterator" (.inr rfl)) ⟨_, Heap.get?_push_size _ rfl, rfl, rfl⟩ q)
    · exact wpAny_pyIter_ascii ha (pi_one (tk := s1.toks) I1 _ (turn_str _ z t "str_ascii_iterator" (.inl rfl)) ⟨_, Heap.get?_push_size _ rfl, rfl, rfl⟩ q)
def S_seq (Te : TrE) : TrI := fun ρ μ k E => Te ρ μ (fun s μ1 => match s with
  | .val (.lst ds) => k ds (fun _ => True) μ1
  | .val (.tup ds) => k ds (fun _ => True) μ1
  | .val (.str z) => k (z.cps.toList.map fun c => D.str ⟨#[c]⟩) (fun _ => True) μ1
  | .cell j => match μ1[j]? with
    | some (.lst xs) => match xs.mapM valD? with
      | some ds => k ds (fun μ' => μ'[j]? = some (.lst xs)) μ1
      | none => False
    | _ => False
  | _ => False) E
theorem walk_seqL {g : G} {a : Addr} {ds : List D} : WalkD g (Itl g.K a) ds (fun I H => ∃ vs, SqL g.K H a vs ∧ RpL g I vs ds) := by
  refine ⟨fun i I H hi ⟨vs, q, r⟩ => ?_, fun I H ⟨vs, q, r⟩ => ⟨vs, q, by rw [r.length]; exact Nat.le_refl _⟩, fun i I H x H' d hd ⟨vs, q, r⟩ y => ?_⟩
  · have hi' : i < vs.length := by rw [r.length]; exact hi
    exact ⟨vs, vs[i], q, List.getElem?_eq_getElem hi'⟩
  · obtain ⟨e, y⟩ := y
    obtain ⟨v, h1, h2⟩ := r.getD hd
    have := y vs q
    rw [h1] at this
    cases this
    exact .inl ⟨e, h2⟩
theorem walk_seqT {g : G} {a : Addr} {ds : List D} : WalkD g (Itt g.K a) ds (fun I H => ∃ vs, SqT g.K H a vs ∧ RpL g I vs ds) := by
  refine ⟨fun i I H hi ⟨vs, q, r⟩ => ?_, fun I H ⟨vs, q, r⟩ => ⟨vs, q, by rw [r.length]; exact Nat.le_refl _⟩, fun i I H x H' d hd ⟨vs, q, r⟩ y => ?_⟩
  · have hi' : i < vs.length := by rw [r.length]; exact hi
    exact ⟨vs, vs[i], q, List.getElem?_eq_getElem hi'⟩
  · obtain ⟨e, y⟩ := y
    obtain ⟨v, h1, h2⟩ := r.getD hd
    have := y vs q
    rw [h1] at this
    cases this
    exact .inl ⟨e, h2⟩
theorem walk_text {g : G} {z : Str} : WalkD g (Its z) (z.cps.toList.map fun c => D.str ⟨#[c]⟩) (fun _ _ => True) := by
  refine ⟨fun i I H hi _ => ?_, fun I H _ => ?_, fun i I H x H' d hd _ y => ?_⟩
  · show i < z.cps.size
    simpa using hi
  · show z.cps.size ≤ _
    simp
  · obtain ⟨e, c, hc, rfl⟩ := y
    rw [List.getElem?_map] at hd
    have : z.cps.toList[i]? = some c := by simpa using hc
    rw [this] at hd
    cases hd
    exact .inl ⟨e, .str⟩
theorem RpSL.toL' {g : G} {I : Hp} {α : List Addr} : ∀ {vs : List V} {ds : List D}, RpSL g I α vs (ds.map Sl.val) → RpL g I vs ds := RpSL.toL
theorem di_seq {X : Cx} {cl : Nat → Addr} {W : WX} {tg l : Expr} {Te : TrE} (hl : DE X cl W l Te) : DI X cl W tg l (S_seq Te) := by
  refine PI.of (pi_any hl) fun σ H R h => ?_
  obtain ⟨I, α, ρ, μ, F, k, E, hf, en, t, hk, hx⟩ := h
  refine lift_go hf en t (fun v d I1 α1 H1 μ1 x1 hf1 r1 t1 => ?_) hx
  cases r1 with
  | @cell j a h =>
    have t2 : (match μ1[j]? with | some (.lst xs) => (match xs.mapM valD? with | some ds => k ds (fun μ' => μ'[j]? = some (.lst xs)) μ1 | none => False) | _ => False) := t1
    cases q : μ1[j]? with
    | none => rw [q] at t2; exact t2.elim
    | some m =>
      rw [q] at t2
      cases m with
      | lst xs =>
        obtain ⟨fp, ha, _, vs, hv, hr⟩ := hf1.cell h q
        cases z : xs.mapM valD? with
        | none => simp only [z] at t2
        | some ds =>
          simp only [z] at t2
          have e := mapM_val z
          subst e
          refine .inl ⟨a, rfl, ⟨vs, SqL.of hv⟩, hk _ ds _ _ I1 α1 H1 μ1 x1 hf1 walk_seqL (fun I2 α2 H2 μ2 F2 x2 hf2 gd => ?_) t2⟩
          obtain ⟨fp2, ha2, _, ws, hw, hr2⟩ := hf2.cell (x2.ad _ _ h) gd
          exact ⟨ws, SqL.of hw, hr2.toL⟩
      | _ => exact (show False from t2).elim
  | val r =>
    cases r with
    | @lst a vs ds h r => exact .inl ⟨a, rfl, ⟨vs, hf1.sub.seq h⟩, hk _ ds _ _ I1 α1 H1 μ1 x1 hf1 walk_seqL (fun I2 α2 H2 μ2 F2 x2 hf2 _ => ⟨vs, hf2.sub.seq (x2.hp.seq h), r.mono x2.hp⟩) t1⟩
    | @tup a vs ds h r => exact .inr (.inl ⟨a, rfl, ⟨vs, sqT_same hf1.sub h⟩, hk _ ds _ _ I1 α1 H1 μ1 x1 hf1 walk_seqT (fun I2 α2 H2 μ2 F2 x2 hf2 _ => ⟨vs, sqT_same hf2.sub (sqT_same x2.hp h), r.mono x2.hp⟩) t1⟩)
    | @str z => exact .inr (.inr ⟨z, rfl, hk _ _ _ _ I1 α1 H1 μ1 x1 hf1 walk_text (fun _ _ _ _ _ _ _ _ => trivial) t1⟩)
    | _ => exact (show False from t1).elim
/-- range(n), range(a, b) -/
def rangeD (lo : Int) (n : Nat) : List D := (List.range n).map fun (i : Nat) => D.int (lo + (i : Int))
def S_range1 (Ta : TrA) : TrI := fun ρ μ k E => Ta ρ μ (fun ds μ1 => match ds with
  | [.val (.int n)] => (-(2 ^ 62) ≤ n ∧ n < 2 ^ 62) ∧ k (rangeD 0 n.toNat) (fun _ => True) μ1
  | _ => False) E
def S_range2 (Ta : TrA) : TrI := fun ρ μ k E => Ta ρ μ (fun ds μ1 => match ds with
  | [.val (.int a), .val (.int n)] => (-(2 ^ 62) ≤ a ∧ a < 2 ^ 62 ∧ -(2 ^ 62) ≤ n ∧ n < 2 ^ 62) ∧ k (rangeD a (n - a).toNat) (fun _ => True) μ1
  | _ => False) E
theorem walk_rng {g : G} {lo : Int} {n : Nat} : WalkD g (Itr lo n) (rangeD lo n) (fun _ _ => True) := by
  have hl : (rangeD lo n).length = n := by simp [rangeD]
  refine ⟨fun i I H hi _ => ?_, fun I H _ => ?_, fun i I H x H' d hd _ y => ?_⟩
  · rw [hl] at hi
    exact hi
  · rw [hl]
    exact Nat.le_refl _
  · obtain ⟨e, rfl⟩ := y
    have hi : i < n := by rw [← hl]; exact (List.getElem?_eq_some_iff.mp hd).1
    unfold rangeD at hd
    rw [List.getElem?_map, List.getElem?_range hi] at hd
    cases hd
    exact .inl ⟨e, .int⟩
theorem di_range1 {X : Cx} {cl : Nat → Addr} {W : WX} {tg a : Expr} {p pos : Pos} {Ta : TrA} (hm : X.mg "range" = none) (ha : DA X cl W [a] Ta) (hg : Gl X "range" := by rfl) (hs : starEach [a] X.env = [(false, eval a X.env)] := by rfl) : DI X cl W tg (.Call (.Name "range" p) [a] [] pos) (S_range1 Ta) := by
  refine PI.of (pi_range1 hg hm ha hs) fun σ H R h => ?_
  obtain ⟨I, α, ρ, μ, F, k, E, hf, en, t, hk, hx⟩ := h
  refine liftA_go hf en t (fun vs ds I1 α1 H1 μ1 x1 hf1 r1 t1 => ?_) hx
  split at t1
  · cases r1 with
    | cons r1 r2 =>
      cases r2
      cases r1 with
      | val r1 =>
        cases r1
        exact ⟨_, rfl, t1.1.1, t1.1.2, hk _ _ _ _ I1 α1 H1 μ1 x1 hf1 walk_rng (fun _ _ _ _ _ _ _ _ => trivial) t1.2⟩
  · exact t1.elim
theorem di_range2 {X : Cx} {cl : Nat → Addr} {W : WX} {tg a b : Expr} {p pos : Pos} {Ta : TrA} (hm : X.mg "range" = none) (ha : DA X cl W [a, b] Ta) (hg : Gl X "range" := by rfl) (hs : starEach [a, b] X.env = [(false, eval a X.env), (false, eval b X.env)] := by rfl) (hs2 : starEach [b] X.env = [(false, eval b X.env)] := by rfl) :
    DI X cl W tg (.Call (.Name "range" p) [a, b] [] pos) (S_range2 Ta) := by
  refine PI.of (pi_range2 hg hm ha hs hs2) fun σ H R h => ?_
  obtain ⟨I, α, ρ, μ, F, k, E, hf, en, t, hk, hx⟩ := h
  refine liftA_go hf en t (fun vs ds I1 α1 H1 μ1 x1 hf1 r1 t1 => ?_) hx
  split at t1
  · cases r1 with
    | cons r1 r2 =>
      cases r2 with
      | cons r2 r3 =>
        cases r3
        cases r1 with
        | val r1 =>
          cases r2 with
          | val r2 =>
            cases r1
            cases r2
            exact ⟨_, _, rfl, t1.1, hk _ _ _ _ I1 α1 H1 μ1 x1 hf1 walk_rng (fun _ _ _ _ _ _ _ _ => trivial) t1.2⟩
  · exact t1.elim
/-! ### targets -/
inductive Tgt where
  | name (i : Nat) | names (js : List Nat)
def gNs : List Nat → TGs
  | [] => gNil
  | i :: r => gCons (gName i) (gNs r)
def gOf (K : PySem.W.Frag) : Tgt → TG
  | .name i => gName i
  | .names js => gTup K js.length (gNs js)
def setAll : List Nat → List D → Rho → Option Rho
  | [], [], ρ => some ρ
  | j :: js, d :: ds, ρ => setAll js ds (ρ.set j (some (.val d)))
  | _, _, _ => none
def setT : Tgt → D → Rho → Option Rho
  | .name i, d, ρ => some (ρ.set i (some (.val d)))
  | .names js, .tup ds, ρ => setAll js ds ρ
  | _, _, _ => none
def tgIn : Tgt → List Nat
  | .name i => [i]
  | .names js => js
theorem wipe_in {σ : L2.St} {v : Option V} : ∀ {vs : List Nat} {j : Nat}, j ∈ vs → wipe (σ.set j v) vs = wipe σ vs := by
  intro vs
  induction vs with
  | nil => intro j h; cases h
  | cons u us ih =>
    intro j h
    by_cases hj : j ∈ us
    · show (wipe (σ.set j v) us).set u none = (wipe σ us).set u none
      rw [ih hj]
    · have e : j = u := by
        rcases List.mem_cons.mp h with h | h
        · exact h
        · exact absurd h hj
      subst e
      have key : ∀ (us : List Nat) (τ : L2.St), j ∉ us → wipe (τ.set j v) us = (wipe τ us).set j v := by
        intro us
        induction us with
        | nil => intro τ _; rfl
        | cons w ws ih2 =>
          intro τ hn
          show (wipe (τ.set j v) ws).set w none = ((wipe τ ws).set w none).set j v
          rw [ih2 τ (fun z => hn (List.mem_cons_of_mem _ z)), List.set_comm _ _ (fun z => hn (by rw [z]; exact List.mem_cons_self ..))]
      show (wipe (σ.set j v) us).set j none = (wipe σ us).set j none
      rw [key us σ hj, List.set_set]
theorem wipe_wipe {σ : L2.St} : ∀ vs : List Nat, wipe (wipe σ vs) vs = wipe σ vs := by
  have key : ∀ (us vs : List Nat), (∀ j ∈ us, j ∈ vs) → ∀ σ : L2.St, wipe (wipe σ us) vs = wipe σ vs := by
    intro us
    induction us with
    | nil => intro vs _ σ; rfl
    | cons u us ih =>
      intro vs h σ
      show wipe ((wipe σ us).set u none) vs = wipe σ vs
      rw [wipe_in (h u (List.mem_cons_self ..))]
      exact ih vs (fun j hj => h j (List.mem_cons_of_mem _ hj)) σ
  exact fun vs => key vs vs (fun _ h => h) σ
section
variable {g : G} {I : Hp} {α : List Addr}
theorem gNs_go {H : Hp} {Q : L2.St → Hp → Prop} : ∀ {js : List Nat} {vs : List V} {ds : List D} {σ : L2.St} {ρ ρ' : Rho} {own : List Nat}, RpL g I vs ds → En g I α σ ρ → setAll js ds ρ = some ρ' → (∀ j ∈ js, j ∈ own ∨ own = []) →
    (∀ σ', En g I α σ' ρ' → wipe σ' own = wipe σ own ∨ own = [] → Q σ' H) → gNs js vs σ H Q
  | [], _, _, σ, ρ, ρ', own, .nil, en, e, _, k => by
    cases e
    exact ⟨rfl, k σ en (.inl rfl)⟩
  | j :: js, _, _, σ, ρ, ρ', own, .cons (v := v) (vs := vs) r t, en, e, hj, k => by
    refine ⟨v, vs, rfl, ?_⟩
    show gNs js vs (σ.set j (some v)) H Q
    refine gNs_go (own := own) t (en.set (.val r)) e (fun i hi => hj i (List.mem_cons_of_mem _ hi)) fun σ' en' hw => k σ' en' ?_
    rcases hw with hw | hw
    · rcases hj j (List.mem_cons_self ..) with h | h
      · exact .inl (hw.trans (wipe_in h))
      · exact .inr h
    · exact .inr hw
  | [], _, _, _, _, _, _, .cons _ _, _, e, _, _ => by cases e
  | _ :: _, _, _, _, _, _, _, .nil, _, e, _, _ => by cases e
/-- a value goes to a target -/
theorem gOf_go {H : Hp} {Q : L2.St → Hp → Prop} {tg : Tgt} {v : V} {d : D} {σ : L2.St} {ρ ρ' : Rho} (own : List Nat) (s : Same I H) (r : Rp g I v d) (en : En g I α σ ρ) (e : setT tg d ρ = some ρ') (hj : ∀ j ∈ tgIn tg, j ∈ own ∨ own = [])
    (k : ∀ σ', En g I α σ' ρ' → wipe σ' own = wipe σ own ∨ own = [] → Q σ' H) : gOf g.K tg v σ H Q := by
  cases tg with
  | name i =>
    cases e
    refine k _ (en.set (.val r)) ?_
    rcases hj i (List.mem_singleton.mpr rfl) with h | h
    · exact .inl (wipe_in h)
    · exact .inr h
  | names js =>
    cases r with
    | @tup a vs ds h rl =>
      have e' : setAll js ds ρ = some ρ' := e
      have hl : ∀ (js : List Nat) (ds : List D) (ρ ρ' : Rho), setAll js ds ρ = some ρ' → ds.length = js.length := by
        intro js
        induction js with
        | nil =>
          intro ds ρ ρ' e
          cases ds with
          | nil => rfl
          | cons _ _ => cases e
        | cons j js ih =>
          intro ds ρ ρ' e
          cases ds with
          | nil => cases e
          | cons d ds => exact congrArg Nat.succ (ih ds _ _ e)
      exact ⟨a, vs, rfl, sqT_same s h, by rw [rl.length]; exact hl js ds ρ ρ' e', gNs_go (own := own) rl en e' hj k⟩
    | _ => cases e
end
/-! ### for -/
def T_for (S : TrI) (tg : Tgt) (Tb : TrS) : TrS := fun N ρ μ => S ρ μ (fun xs Gd μ1 => ∃ Inv : Nat → Rho → Sto → Prop, Inv 0 ρ μ1 ∧ (∀ i ρ' μ', i ≤ xs.length → Inv i ρ' μ' → Gd μ') ∧
  (∀ i x ρ' μ', xs[i]? = some x → Inv i ρ' μ' → match setT tg x ρ' with
    | some ρ2 => Tb { N with nx := Inv (i + 1), ct := Inv (i + 1), bk := N.nx } ρ2 μ'
    | none => False) ∧ ∀ ρ' μ', Inv xs.length ρ' μ' → N.nx ρ' μ') (fun x μ1 => N.ex x ρ μ1)
theorem ds_for {X : Cx} {cl : Nat → Addr} {W : WX} {tgE iter : Expr} {body : List Stmt} {S : TrI} {tg : Tgt} {Tb : TrS} {pos : Pos} (hp : PassesOwn (model X.prog X.w) X.A X.env X.xe) (hc : X.calm = true) (hi : DI X cl W tgE iter S) (hg : PG X tgE (gOf X.K tg)) (hb : DSs X cl W body Tb)
    (hs : ∀ x, foldedSetIterable iter X.env x = pure x := by intro _; rfl) : DS X cl W (.For tgE iter body [] pos) (T_for S tg Tb) := by
  refine PS.of (ps_for hp hc hi hg hb hs) fun D σ H h => ?_
  obtain ⟨I, α, ρ, μ, F, N, hf, en, t, n1, n2, n3, n4, n5⟩ := h
  refine ⟨I, α, ρ, μ, F, _, _, hf, en, t, fun J xs Gd Gh I1 α1 H1 μ1 x1 hf1 wk gd t1 => ?_, n5.at en⟩
  obtain ⟨Inv, h0, hG, hs', hd⟩ := t1
  refine ⟨fun i m σ' H' => m = xs.length - i ∧ i ≤ xs.length ∧ ∃ I' α' ρ' μ', Ext I1 (ad α1) I' (ad α') ∧ Hf ⟨X.K, cl⟩ I' α' H' μ' F ∧ En ⟨X.K, cl⟩ I' (ad α') σ' ρ' ∧ Inv i ρ' μ', ⟨xs.length, by simp, Nat.zero_le _, I1, α1, ρ, μ1, Ext.refl _ _, hf1, en.mono x1, h0⟩, ?_⟩
  rintro i m σ' H' ⟨rfl, hi', I', α', ρ', μ', x', hf', en', inv⟩
  have G' := gd I' α' H' μ' F x' hf' (hG i ρ' μ' hi' inv)
  by_cases hlt : i < xs.length
  · refine .inr ⟨wk.goes i I' H' hlt G', fun σ2 H2 => ∃ I2 α2 ρ2 μ2, Ext I1 (ad α1) I2 (ad α2) ∧ Hf ⟨X.K, cl⟩ I2 α2 H2 μ2 F ∧ En ⟨X.K, cl⟩ I2 (ad α2) σ2 ρ2 ∧ Inv (i + 1) ρ2 μ2, fun σ2 H2 p => ⟨xs.length - (i + 1), by omega, rfl, hlt, p⟩, fun x H2 y => ?_⟩
    have hx := List.getElem?_eq_getElem hlt
    have turn := hs' i _ ρ' μ' hx inv
    -- the item at a heap that may have grown by it
    have fin : ∀ {Ia : Hp}, Same I' Ia → Hf ⟨X.K, cl⟩ Ia α' H2 μ' F → Rp ⟨X.K, cl⟩ Ia x xs[i] → gOf X.K tg x σ' H2 fun σ2 H3 => liftS ⟨X.K, cl⟩ W Tb { D with nx := fun σ2 H2 => ∃ I2 α2 ρ2 μ2, Ext I1 (ad α1) I2 (ad α2) ∧ Hf ⟨X.K, cl⟩ I2 α2 H2 μ2 F ∧ En ⟨X.K, cl⟩ I2 (ad α2) σ2 ρ2 ∧ Inv (i + 1) ρ2 μ2, ct := fun σ2 H2 => ∃ I2 α2 ρ2 μ2, Ext I1 (ad α1) I2 (ad α2) ∧ Hf ⟨X.K, cl⟩ I2 α2 H2 μ2 F ∧ En ⟨X.K, cl⟩ I2 (ad α2) σ2 ρ2 ∧ Inv (i + 1) ρ2 μ2, bk := D.nx } σ2 H3 := by
      intro Ia sa hfa ra
      cases q : setT tg xs[i] ρ' with
      | none => rw [q] at turn; exact turn.elim
      | some ρ2 =>
        rw [q] at turn
        have xa : Ext I1 (ad α1) Ia (ad α') := x'.trans (Ext.of sa _)
        refine gOf_go (g := ⟨X.K, cl⟩) [] hfa.sub ra (en'.mono (Ext.of sa _)) q (fun _ _ => .inr rfl) fun σ3 en3 _ => ?_
        refine ⟨Ia, α', ρ2, μ', F, _, hfa, en3, turn, fun σ4 ρ4 I4 α4 H4 μ4 x4 hf4 en4 q4 => ⟨I4, α4, ρ4, μ4, xa.trans x4, hf4, en4, q4⟩, n1.mono (x1.trans xa), fun σ4 ρ4 I4 α4 H4 μ4 x4 hf4 en4 q4 => ⟨I4, α4, ρ4, μ4, xa.trans x4, hf4, en4, q4⟩, n4.mono (x1.trans xa), n5.mono (x1.trans xa)⟩
    rcases wk.yields i I' H' x H2 xs[i] hx G' y with ⟨e, rx⟩ | ⟨p, o, hp', e, rx⟩
    · subst e
      exact fin (Same.refl _) hf' rx
    · subst e
      obtain ⟨hf2, x2⟩ := hf'.new (o := o) hp'
      exact fin x2 hf2 (rx (hf'.sub.free hp'))
  · have e : i = xs.length := by omega
    subst e
    exact .inl ⟨wk.stops I' H' G', n1 σ' ρ' I' α' H' μ' (x1.trans x') hf' en' (hd ρ' μ' inv)⟩
/-! ### comprehensions -/
def W0 : WX := fun _ _ _ _ => False
def T_yes : TrT := fun _ μ k _ => k true μ
def T_lc (S : TrI) (tg : Tgt) (Tt : TrT) (Te : TrE) (own : List Nat) : TrE := fun ρ μ k E => S ρ μ (fun xs Gd μ1 => ∃ Inv : Nat → List D → Sto → Prop, Inv 0 [] μ1 ∧ (∀ i acc μ', i ≤ xs.length → Inv i acc μ' → Gd μ' ∧ acc.length ≤ i) ∧ xs.length < sizeLine ∧
  (∀ i x acc μ', xs[i]? = some x → Inv i acc μ' → match setT tg x (wipeD ρ own) with
    | some ρ2 => Tt ρ2 μ' (fun b μ2 => if b = true then Te ρ2 μ2 (fun y μ3 => match y with | .val d => Inv (i + 1) (acc ++ [d]) μ3 | .cell _ => False) (fun _ _ => False) else Inv (i + 1) acc μ2) (fun _ _ => False)
    | none => False) ∧ ∀ acc μ', Inv xs.length acc μ' → k (.val (.lst acc)) μ') E
theorem lift_lc {X : Cx} {cl : Nat → Addr} {W : WX} {S : TrI} {tg : Tgt} {Tt : TrT} {Te : TrE} {own : List Nat} (ho : ∀ j ∈ tgIn tg, j ∈ own) (hown : own ≠ []) {σ : L2.St} {H : Hp} {Q : VK} (h : lift ⟨X.K, cl⟩ W (T_lc S tg Tt Te own) σ H Q) :
    tLc (liftI ⟨X.K, cl⟩ W S) (gOf X.K tg) (liftT ⟨X.K, cl⟩ W0 Tt) (lift ⟨X.K, cl⟩ W0 Te) own σ H Q := by
  obtain ⟨I, α, ρ, μ, F, k, E, hf, en, t, hk, hx⟩ := h
  refine ⟨I, α, ρ, μ, F, _, E, hf, en, t, fun J xs Gd Gh I1 α1 H1 μ1 x1 hf1 wk gd t1 => ?_, hx⟩
  obtain ⟨Inv, h0, hG, hz, hs', hd⟩ := t1
  intro D hD
  have FD : F D = none := by
    cases q : F D with
    | none => rfl
    | some o =>
      have := (hf1.frm D o q).1
      rw [hD] at this
      cases this
  refine ⟨fun i m H' => m = xs.length - i ∧ i ≤ xs.length ∧ ∃ I' α' μ' vs acc, Ext I1 (ad α1) I' (ad α') ∧ Hf ⟨X.K, cl⟩ I' α' H' μ' (upd F D (.lst vs)) ∧ RpL ⟨X.K, cl⟩ I' vs acc ∧ Inv i acc μ', ⟨xs.length, by simp, Nat.zero_le _, I1, α1, μ1, [], [], Ext.refl _ _, hf1.aside hD, .nil, h0⟩, ?_⟩
  rintro i m H' ⟨rfl, hi', I', α', μ', vs, acc, x', hf', ra, inv⟩
  obtain ⟨gd', hlen⟩ := hG i acc μ' hi' inv
  have G' := gd I' α' H' μ' _ x' hf' gd'
  have lessF : Same F (upd F D (.lst vs)) := fun b o e => by rw [upd_ne (ne_of_none e FD)]; exact e
  by_cases hlt : i < xs.length
  · refine .inr ⟨wk.goes i I' H' hlt G', fun H2 => ∃ I2 α2 μ2 vs2 acc2, Ext I1 (ad α1) I2 (ad α2) ∧ Hf ⟨X.K, cl⟩ I2 α2 H2 μ2 (upd F D (.lst vs2)) ∧ RpL ⟨X.K, cl⟩ I2 vs2 acc2 ∧ Inv (i + 1) acc2 μ2, fun H2 p => ⟨xs.length - (i + 1), by omega, rfl, hlt, p⟩, fun x H2 y => ?_⟩
    have hx := List.getElem?_eq_getElem hlt
    have turn := hs' i _ acc μ' hx inv
    have fin : ∀ {Ia : Hp}, Same I' Ia → Hf ⟨X.K, cl⟩ Ia α' H2 μ' (upd F D (.lst vs)) → Rp ⟨X.K, cl⟩ Ia x xs[i] → gOf X.K tg x (wipe σ own) H2 fun σ2 H3 => wipe σ2 own = wipe σ own ∧ liftT ⟨X.K, cl⟩ W0 Tt σ2 H3 fun b H3 =>
        if b = true then lift ⟨X.K, cl⟩ W0 Te σ2 H3 fun y H4 => ∃ ac, H4 D = some (.lst ac) ∧ ac.length < sizeLine ∧ (fun H2 => ∃ I2 α2 μ2 vs2 acc2, Ext I1 (ad α1) I2 (ad α2) ∧ Hf ⟨X.K, cl⟩ I2 α2 H2 μ2 (upd F D (.lst vs2)) ∧ RpL ⟨X.K, cl⟩ I2 vs2 acc2 ∧ Inv (i + 1) acc2 μ2) (upd H4 D (.lst (ac ++ [y]))) else (fun H2 => ∃ I2 α2 μ2 vs2 acc2, Ext I1 (ad α1) I2 (ad α2) ∧ Hf ⟨X.K, cl⟩ I2 α2 H2 μ2 (upd F D (.lst vs2)) ∧ RpL ⟨X.K, cl⟩ I2 vs2 acc2 ∧ Inv (i + 1) acc2 μ2) H3 := by
      intro Ia sa hfa rxa
      cases q : setT tg xs[i] (wipeD ρ own) with
      | none => rw [q] at turn; exact turn.elim
      | some ρ2 =>
        rw [q] at turn
        have xa : Ext I1 (ad α1) Ia (ad α') := x'.trans (Ext.of sa _)
        have ew : En ⟨X.K, cl⟩ Ia (ad α') (wipe σ own) (wipeD ρ own) := (en.mono (x1.trans xa)).wipe own
        refine gOf_go (g := ⟨X.K, cl⟩) own hfa.sub rxa ew q (fun j hj => .inl (ho j hj)) fun σ3 en3 hw => ?_
        have hw' : wipe σ3 own = wipe σ own := by
          rcases hw with hw | hw
          · rw [hw, wipe_wipe]
          · exact absurd hw hown
        refine ⟨hw', liftT_go hfa en3 turn (fun b Ib αb Hb μb xb hfb tb => ?_) (fun _ _ _ _ _ _ _ _ _ _ z => z.elim)⟩
        cases b with
        | false => exact ⟨Ib, αb, μb, vs, acc, xa.trans xb, hfb, (ra.mono sa).mono xb.hp, tb⟩
        | true =>
          refine lift_go hfb (en3.mono xb) tb (fun yv yd Ic αc Hc μc xc hfc rc tc => ?_) (fun _ _ _ _ _ _ _ _ _ _ z => z.elim)
          cases rc with
          | cell => exact (show False from tc).elim
          | @val _ d rc =>
            obtain ⟨hD1, hD2, hD3⟩ := hfc.frm D (.lst vs) upd_same
            refine ⟨vs, hD1, by rw [ra.length]; omega, Ic, αc, μc, vs ++ [yv], acc ++ [d], xa.trans (xb.trans xc), ?_, (((ra.mono sa).mono xb.hp).mono xc.hp).append (.cons rc .nil), tc⟩
            have z := hfc.reput (o' := .lst (vs ++ [yv])) (show upd F D (.lst vs) D = some (.lst vs) from upd_same)
            rw [upd_upd] at z
            exact z
    rcases wk.yields i I' H' x H2 xs[i] hx G' y with ⟨e, rx⟩ | ⟨p, o, hp', e, rx⟩
    · subst e
      exact fin (Same.refl _) hf' rx
    · subst e
      obtain ⟨hf2, x2⟩ := hf'.new (o := o) hp'
      exact fin x2 hf2 (rx (hf'.sub.free hp'))
  · have e : i = xs.length := by omega
    subst e
    refine .inl ⟨wk.stops I' H' G', ?_⟩
    obtain ⟨hf2, x2⟩ := hf'.settle (a := D) (o := .lst vs) upd_same
    have hf3 := hf2.less (F' := F) fun b o e => by
      have hb : b ≠ D := ne_of_none e FD
      show (if b = D then none else upd F D (.lst vs) b) = some o
      rw [if_neg hb, upd_ne hb]
      exact e
    exact hk _ _ _ α' H' μ' ((x1.trans x').trans (Ext.of x2 _)) hf3 (.val (.lst (SqL.of upd_same) (ra.mono x2))) (hd acc μ' inv)
section
variable {X : Cx} {cl : Nat → Addr} {W : WX} {S : TrI} {tg : Tgt} {Tt : TrT} {Te : TrE} {own : List (Str × Nat)} {elt tgE iter : Expr} {ifs : List Expr} {scope : Scope} {pos : Pos}
abbrev DTs (X : Cx) (cl : Nat → Addr) (W : WX) (e : List Expr) (T : TrT) : Prop := PTs X e (liftT ⟨X.K, cl⟩ W T)
theorem dts_nil : DTs X cl W [] T_yes := ⟨fun pins s σ H Q I h => by
  refine pts_nil.run pins s σ H Q I ?_
  obtain ⟨I, α, ρ, μ, F, k, E, hf, en, t, hk, hx⟩ := h
  exact hk true I α H μ (Ext.refl _ _) hf t⟩
theorem dts_one {c : Expr} (h : DT X cl W c Tt) : DTs X cl W [c] Tt := pts_one h
theorem d_lc (hc : X.calm = true) (hN : X.N.Nodup) (hi : DI X cl W tgE iter S) (ok : BlkOk X.N X.env.scope scope own) (ho : ∀ j ∈ tgIn tg, j ∈ own.map (·.2)) (hown : own.map (·.2) ≠ [])
    (hg : ∀ (s : Shared) (H : Hp) (C : Addr) (cls : List (Str × Addr)) (fp : List Addr), PG (X.blk s H scope (compEnvC scope cls C X.env) fp) tgE (gOf X.K tg))
    (ht : ∀ (s : Shared) (H : Hp) (C : Addr) (cls : List (Str × Addr)) (fp : List Addr), DTs (X.blk s H scope (compEnvC scope cls C X.env) fp) cl W0 ifs Tt)
    (he : ∀ (s : Shared) (H : Hp) (C : Addr) (cls : List (Str × Addr)) (fp : List Addr), DE (X.blk s H scope (compEnvC scope cls C X.env) fp) cl W0 elt Te) (hs : ∀ x, foldedSetIterable iter X.env x = pure x := by intro _; rfl) :
    DE X cl W (.ListComp elt [⟨tgE, iter, ifs, 0⟩] scope pos) (T_lc S tg Tt Te (own.map (·.2))) :=
  PE.of (pe_lc hc hN hi ok hg ht he hs) fun σ H Q h => lift_lc ho hown h
/-- name = [..] on one line -/
theorem ds_setLc {i : Nat} {y : Str} {py spos : Pos} (hc : X.calm = true) (hN : X.N.Nodup) (hy : X.N[i]? = some y) (hyl : X.env.scope.names.lookup y = some .local)
    (hsw : swapsWith (.ListComp elt [⟨tgE, iter, ifs, 0⟩] scope pos) (some (.Name y py)) spos.line X.env = pure true) (hi : DI X cl W tgE iter S) (ok : BlkOk X.N X.env.scope scope own) (ho : ∀ j ∈ tgIn tg, j ∈ own.map (·.2)) (hown : own.map (·.2) ≠ [])
    (hg : ∀ (s : Shared) (H : Hp) (C : Addr) (cls : List (Str × Addr)) (fp : List Addr), PG (X.blk s H scope (compEnvC scope cls C X.env) fp) tgE (gOf X.K tg))
    (ht : ∀ (s : Shared) (H : Hp) (C : Addr) (cls : List (Str × Addr)) (fp : List Addr), DTs (X.blk s H scope (compEnvC scope cls C X.env) fp) cl W0 ifs Tt)
    (he : ∀ (s : Shared) (H : Hp) (C : Addr) (cls : List (Str × Addr)) (fp : List Addr), DE (X.blk s H scope (compEnvC scope cls C X.env) fp) cl W0 elt Te) (hs : ∀ x, foldedSetIterable iter X.env x = pure x := by intro _; rfl) :
    DS X cl W (.Assign [.Name y py] (.ListComp elt [⟨tgE, iter, ifs, 0⟩] scope pos) spos) (T_asg (T_lc S tg Tt Te (own.map (·.2))) i) := by
  refine PS.of (ps_setLc (tt := liftT ⟨X.K, cl⟩ W0 Tt) (te := lift ⟨X.K, cl⟩ W0 Te) hc hN hy hyl hsw hi ok hg ht he hs) fun D σ H h => ?_
  obtain ⟨I, α, ρ, μ, F, N, hf, en, t, n1, n2, n3, n4, n5⟩ := h
  refine lift_lc (cl := cl) ho hown (lift_go hf en t (fun v d I1 α1 H1 μ1 x1 hf1 r1 t1 => ?_) (n5.at en))
  exact n1 _ _ I1 α1 H1 μ1 x1 hf1 ((en.mono x1).set r1) t1
/-- a tuple's parts to names -/
theorem ds_asgT {e : Expr} {Te : TrE} {tgE : Expr} (he : DE X cl W e Te) (hg : PG X tgE (gOf X.K tg)) (hs : swapsWithSole [tgE] e pos.line X.env = pure false := by rfl) (hw : swappedStores [tgE] e X.env = pure none := by rfl)
    (h1 : (assignEach [tgE] X.env).map (·.2) = [assign tgE X.env] := by rfl) : DS X cl W (.Assign [tgE] e pos) (fun N ρ μ => Te ρ μ (fun s μ1 => match s with | .val d => (match setT tg d ρ with | some ρ2 => N.nx ρ2 μ1 | none => False) | .cell _ => False) (fun x μ1 => N.ex x ρ μ1)) := by
  refine PS.of (ps_asg he hg hs hw h1) fun D σ H h => ?_
  obtain ⟨I, α, ρ, μ, F, N, hf, en, t, n1, n2, n3, n4, n5⟩ := h
  refine lift_go hf en t (fun v d I1 α1 H1 μ1 x1 hf1 r1 t1 => ?_) (n5.at en)
  cases r1 with
  | cell => exact (show False from t1).elim
  | @val _ d r1 =>
    have t2 : (match setT tg d ρ with | some ρ2 => N.nx ρ2 μ1 | none => False) := t1
    cases q : setT tg d ρ with
    | none => rw [q] at t2; exact t2.elim
    | some ρ2 =>
      rw [q] at t2
      exact gOf_go (g := ⟨X.K, cl⟩) [] hf1.sub r1 (en.mono x1) q (fun _ _ => .inr rfl) fun σ3 en3 _ => n1 _ _ I1 α1 H1 μ1 x1 hf1 en3 t2
end
end Dv
/-! Dv7: while, stores by place, new lists that are to change, + of lists, sums, the drawing state. -/
namespace Dv
open PySem PySem.Spec PyProof.Rows L2
/-! ### while -/
def T_while (Tt : TrT) (Tb : TrS) : TrS := fun N ρ μ => ∃ Inv : Nat → Rho → Sto → Prop, (∃ m, Inv m ρ μ) ∧ ∀ m ρ' μ', Inv m ρ' μ' →
  Tt ρ' μ' (fun b μ2 => if b = true then Tb { N with nx := fun ρ3 μ3 => ∃ m', m' < m ∧ Inv m' ρ3 μ3, ct := fun ρ3 μ3 => ∃ m', m' < m ∧ Inv m' ρ3 μ3, bk := N.nx } ρ' μ2 else N.nx ρ' μ2) (fun x μ2 => N.ex x ρ' μ2)
theorem ds_while {X : Cx} {cl : Nat → Addr} {W : WX} {c : Expr} {body : List Stmt} {Tt : TrT} {Tb : TrS} {pos : Pos} (hp : PassesOwn (model X.prog X.w) X.A X.env X.xe) (hc : DT X cl W c Tt) (hb : DSs X cl W body Tb) : DS X cl W (.While c body [] pos) (T_while Tt Tb) := by
  refine PS.of (ps_while hp hc hb) fun D σ H h => ?_
  obtain ⟨I, α, ρ, μ, F, N, hf, en, ⟨Inv, ⟨m0, h0⟩, turn⟩, n1, n2, n3, n4, n5⟩ := h
  refine ⟨fun m σ' H' => ∃ I' α' ρ' μ', Ext I (ad α) I' (ad α') ∧ Hf ⟨X.K, cl⟩ I' α' H' μ' F ∧ En ⟨X.K, cl⟩ I' (ad α') σ' ρ' ∧ Inv m ρ' μ', ⟨m0, I, α, ρ, μ, Ext.refl _ _, hf, en, h0⟩, ?_⟩
  rintro m σ' H' ⟨I', α', ρ', μ', x', hf', en', inv⟩
  refine liftT_go hf' en' (turn m ρ' μ' inv) (fun b I1 α1 H1 μ1 x1 hf1 t1 => ?_) ((n5.mono x').at en')
  cases b with
  | false => exact n1 _ _ _ _ _ _ (x'.trans x1) hf1 (en'.mono x1) t1
  | true =>
    refine ⟨fun σ3 H3 => ∃ m', m' < m ∧ ∃ I3 α3 ρ3 μ3, Ext I (ad α) I3 (ad α3) ∧ Hf ⟨X.K, cl⟩ I3 α3 H3 μ3 F ∧ En ⟨X.K, cl⟩ I3 (ad α3) σ3 ρ3 ∧ Inv m' ρ3 μ3, fun σ3 H3 p => p, ?_⟩
    have x2 := x'.trans x1
    exact ⟨I1, α1, ρ', μ1, F, _, hf1, en'.mono x1, t1, fun σ4 ρ4 I4 α4 H4 μ4 x4 hf4 en4 ⟨m', hm, q4⟩ => ⟨m', hm, I4, α4, ρ4, μ4, x2.trans x4, hf4, en4, q4⟩, n1.mono x2, fun σ4 ρ4 I4 α4 H4 μ4 x4 hf4 en4 ⟨m', hm, q4⟩ => ⟨m', hm, I4, α4, ρ4, μ4, x2.trans x4, hf4, en4, q4⟩, n4.mono x2, n5.mono x2⟩
/-! ### o[i] = e, o a list of the store -/
def T_setIx (Te To Ti : TrE) : TrS := fun N ρ μ => Te ρ μ (fun v μ1 => To ρ μ1 (fun o μ2 => Ti ρ μ2 (fun i μ3 => match o, i with
  | .cell j, .val (.int k) => match μ3[j]? with
    | some (.lst xs) => match ixN xs.length k with
      | some n => N.nx ρ (μ3.set j (.lst (xs.set n v)))
      | none => False
    | _ => False
  | _, _ => False) (fun x μ3 => N.ex x ρ μ3)) (fun x μ2 => N.ex x ρ μ2)) (fun x μ1 => N.ex x ρ μ1)
theorem ds_setIx {X : Cx} {cl : Nat → Addr} {W : WX} {o i e : Expr} {Te To Ti : TrE} {pos pos' : Pos} (he : DE X cl W e Te) (ho : DE X cl W o To) (hi : DE X cl W i Ti)
    (ha : ∀ v, assign (.Subscript o i pos) X.env v = (do
      let ov ← holding [v] (eval o X.env)
      let iv ← holding [v, ov] (eval i X.env)
      standAt pos
      holding [v, ov, iv] (setItem ov iv v)
      release [v, ov, iv] []) := by intro _; rfl)
    (hs : swapsWithSole [.Subscript o i pos] e pos'.line X.env = pure false := by rfl) (hw : swappedStores [.Subscript o i pos] e X.env = pure none := by rfl)
    (h1 : (assignEach [.Subscript o i pos] X.env).map (·.2) = [assign (.Subscript o i pos) X.env] := by rfl) : DS X cl W (.Assign [.Subscript o i pos] e pos') (T_setIx Te To Ti) := by
  refine PS.of (ps_asg he (pg_sub ho hi set_list ha) hs hw h1) fun D σ H h => ?_
  obtain ⟨I, α, ρ, μ, F, N, hf, en, t, n1, n2, n3, n4, n5⟩ := h
  refine lift_go hf en t (fun v d I1 α1 H1 μ1 x1 hf1 r1 t1 => ?_) (n5.at en)
  refine lift_go hf1 (en.mono x1) t1 (fun ov od I2 α2 H2 μ2 x2 hf2 r2 t2 => ?_) ((n5.mono x1).at (en.mono x1))
  have x12 := x1.trans x2
  refine lift_go hf2 (en.mono x12) t2 (fun iv id I3 α3 H3 μ3 x3 hf3 r3 t3 => ?_) ((n5.mono x12).at (en.mono x12))
  cases r2 with
  | val => exact (show False from t3).elim
  | @cell j a hj =>
    cases r3 with
    | cell => exact (show False from t3).elim
    | val r3 =>
      cases r3 with
      | @int k =>
        have t4 : (match μ3[j]? with | some (.lst xs) => (match ixN xs.length k with | some n => N.nx ρ (μ3.set j (.lst (xs.set n d))) | none => False) | _ => False) := t3
        cases q : μ3[j]? with
        | none => rw [q] at t4; exact t4.elim
        | some m =>
          rw [q] at t4
          cases m with
          | lst xs =>
            obtain ⟨fp, ha', hfp, vs, hv, hr⟩ := hf3.cell (x3.ad _ _ hj) q
            subst hfp
            cases z : ixN xs.length k with
            | none => simp only [z] at t4
            | some n =>
              simp only [z] at t4
              refine ⟨a, vs, k, n, rfl, rfl, hv, by rw [hr.length]; exact z, ?_⟩
              have hf4 := hf3.put (o := .lst (vs.set n v)) (m := .lst (xs.set n d)) ha' fun H' e => ⟨rfl, _, e, hr.set n (r1.mono (x2.trans x3))⟩
              have x13 := x12.trans x3
              exact n1 _ _ _ _ _ _ x13 hf4 (en.mono x13) t4
          | _ => exact (show False from t4).elim
      | _ => exact (show False from t3).elim
/-! ### new lists that are to change -/
def T_slC (Ta : TrE) (Tl Th : TrO) : TrE := fun ρ μ k E => Ta ρ μ (fun x μ1 => Tl ρ μ1 (fun lo μ2 => Th ρ μ2 (fun hi μ3 => match x with
  | .val (.lst ds) => k (.cell μ3.length) (μ3 ++ [.lst ((cutL ds lo hi).map Sl.val)])
  | .cell j => match μ3[j]? with
    | some (.lst xs) => k (.cell μ3.length) (μ3 ++ [.lst (cutL xs lo hi)])
    | _ => False
  | _ => False) E) E) E
theorem RpSL.take {g : G} {I : Hp} {α : List Addr} : ∀ {vs : List V} {ds : List Sl} (n : Nat), RpSL g I α vs ds → RpSL g I α (vs.take n) (ds.take n)
  | _, _, 0, _ => .nil
  | _, _, _ + 1, .nil => .nil
  | _, _, n + 1, .cons r t => .cons r (RpSL.take n t)
theorem RpSL.drop {g : G} {I : Hp} {α : List Addr} : ∀ {vs : List V} {ds : List Sl} (n : Nat), RpSL g I α vs ds → RpSL g I α (vs.drop n) (ds.drop n)
  | _, _, 0, r => r
  | _, _, _ + 1, .nil => .nil
  | _, _, n + 1, .cons _ t => RpSL.drop n t
theorem ext_snoc {I : Hp} {α : List Addr} {p : Addr} : Ext I α I (α ++ [p]) := ⟨Same.refl _, fun k a h => by
  rw [List.getElem?_append_left (List.getElem?_eq_some_iff.mp h).1]
  exact h⟩
theorem d_slC {X : Cx} {cl : Nat → Addr} {W : WX} {e : Expr} {Ta : TrE} {lo hi : Option Expr} {Tl Th : TrO} {pos p2 : Pos} (he : DE X cl W e Ta) (hl : DO X cl W lo Tl) (hu : DO X cl W hi Th) : DE X cl W (.Subscript e (.Slice lo hi none p2) pos) (T_slC Ta Tl Th) := by
  refine PE.of (pe_slice sl_list he hl hu) fun σ H Q h => ?_
  obtain ⟨I, α, ρ, μ, F, k, E, hf, en, t, hk, hx⟩ := h
  refine lift_go hf en t (fun v d I1 α1 H1 μ1 x1 hf1 r1 t1 => ?_) hx
  refine ⟨I1, α1, ρ, μ1, F, _, E, hf1, en.mono x1, t1, fun l I2 α2 H2 μ2 x2 hf2 t2 => ?_, hx.mono x1⟩
  refine ⟨I2, α2, ρ, μ2, F, _, E, hf2, en.mono (x1.trans x2), t2, fun u I3 α3 H3 μ3 x3 hf3 t3 => ?_, hx.mono (x1.trans x2)⟩
  have x13 := x1.trans (x2.trans x3)
  cases r1 with
  | @cell j a hj =>
    have t4 : (match μ3[j]? with | some (.lst xs) => k (.cell μ3.length) (μ3 ++ [.lst (cutL xs l u)]) | _ => False) := t3
    cases q : μ3[j]? with
    | none => rw [q] at t4; exact t4.elim
    | some m =>
      rw [q] at t4
      cases m with
      | lst xs =>
        obtain ⟨fp, ha', hfp, vs, hv, hr⟩ := hf3.cell ((x2.trans x3).ad _ _ hj) q
        refine ⟨a, vs, rfl, SqL.of hv, fun p hp => ?_⟩
        have rr : RpSL ⟨X.K, cl⟩ I3 (ad α3) (cutV vs l u) (cutL xs l u) := by
          unfold cutV cutL
          rw [hr.length]
          exact (hr.drop _).take _
        obtain ⟨hf4, x4, hp4⟩ := hf3.newC (o := .lst (cutV vs l u)) (m := .lst (cutL xs l u)) hp fun H' e => ⟨rfl, _, e, rr.mono ext_snoc⟩
        exact hk _ _ _ _ _ _ (x13.trans x4) hf4 (.cell hp4) t4
      | _ => exact (show False from t4).elim
  | val r =>
    cases r with
    | @lst a vs ds h r =>
      refine ⟨a, vs, rfl, hf3.sub.seq ((x2.trans x3).hp.seq h), fun p hp => ?_⟩
      have rr : RpL ⟨X.K, cl⟩ I3 (cutV vs l u) (cutL ds l u) := by
        unfold cutV cutL
        have r' := r.mono (x2.trans x3).hp
        rw [r.length]
        exact (r'.drop _).take _
      obtain ⟨hf4, x4, hp4⟩ := hf3.newC (o := .lst (cutV vs l u)) (m := .lst ((cutL ds l u).map Sl.val)) hp fun H' e => ⟨rfl, _, e, (RpSL.ofL rr).mono ext_snoc⟩
      exact hk _ _ _ _ _ _ (x13.trans x4) hf4 (.cell hp4) t3
    | _ => exact (show False from t3).elim
/-- what stood aside comes into the store -/
theorem Hf.adopt {g : G} {I : Hp} {α : Al} {H : Hp} {μ : List MO} {F : Hp} {p : Addr} {o : HO} {m : MO} (h : Hf g I α H μ F) (hF : F p = some o)
    (hm : ∀ H' : Hp, H' p = some o → MRep g I (ad α ++ [p]) H' p [p] m) :
    Hf g I (α ++ [(p, [p])]) H (μ ++ [m]) (fun b => if b = p then none else F b) ∧ Ext I (ad α) I (ad (α ++ [(p, [p])])) ∧ (ad (α ++ [(p, [p])]))[μ.length]? = some p := by
  obtain ⟨h1, h2, h3⟩ := h.frm p o hF
  have ea : ad (α ++ [(p, [p])]) = ad α ++ [p] := by unfold ad; rw [List.map_append]; rfl
  have x : Ext I (ad α) I (ad (α ++ [(p, [p])])) := by rw [ea]; exact ext_snoc
  have eo : owned (α ++ [(p, [p])]) = owned α ++ [p] := by rw [owned_append]; rfl
  refine ⟨⟨h.sub, by rw [List.length_append, List.length_append, h.len]; rfl, fun k q m' e1 e2 => ?_, ?_, fun b hb => ?_, fun b u e => ?_⟩, x, ?_⟩
  · by_cases hk : k < α.length
    · rw [List.getElem?_append_left hk] at e1
      rw [List.getElem?_append_left (by rw [← h.len]; exact hk)] at e2
      exact (h.sto k q m' e1 e2).mono x fun b hb => rfl
    · have hk' : k = α.length := by
        have := (List.getElem?_eq_some_iff.mp e1).1
        rw [List.length_append] at this
        have : k < α.length + 1 := this
        omega
      subst hk'
      rw [List.getElem?_append_right (Nat.le_refl _), Nat.sub_self] at e1
      rw [List.getElem?_append_right (by rw [h.len]; exact Nat.le_refl _), h.len, Nat.sub_self] at e2
      cases e1
      cases e2
      rw [ea]
      exact hm _ h1
  · rw [eo]
    refine List.nodup_append.mpr ⟨h.nod, by simp, fun a ha b hb e => ?_⟩
    rw [List.mem_singleton] at hb
    subst hb
    exact h3 (by rw [← e]; exact ha)
  · rw [eo] at hb
    rcases List.mem_append.mp hb with hb | hb
    · exact h.own b hb
    · rw [List.mem_singleton] at hb
      subst hb
      exact ⟨h2, by rw [h1]; exact fun z => by cases z⟩
  · by_cases hb : b = p
    · rw [if_pos hb] at e
      cases e
    · rw [if_neg hb] at e
      obtain ⟨q1, q2, q3⟩ := h.frm b u e
      refine ⟨q1, q2, fun hm => ?_⟩
      rw [eo] at hm
      rcases List.mem_append.mp hm with hm | hm
      · exact q3 hm
      · exact hb (List.mem_singleton.mp hm)
  · rw [ea, List.getElem?_append_right (by unfold ad; rw [List.length_map, h.len]; exact Nat.le_refl _)]
    unfold ad
    rw [List.length_map, h.len, Nat.sub_self]
    rfl
/-! ### a comprehension whose list is to change -/
def T_lcC (S : TrI) (tg : Tgt) (Tt : TrT) (Te : TrE) (own : List Nat) : TrE := fun ρ μ k E => S ρ μ (fun xs Gd μ1 => ∃ Inv : Nat → List D → Sto → Prop, Inv 0 [] μ1 ∧ (∀ i acc μ', i ≤ xs.length → Inv i acc μ' → Gd μ' ∧ acc.length ≤ i) ∧ xs.length < sizeLine ∧
  (∀ i x acc μ', xs[i]? = some x → Inv i acc μ' → match setT tg x (wipeD ρ own) with
    | some ρ2 => Tt ρ2 μ' (fun b μ2 => if b = true then Te ρ2 μ2 (fun y μ3 => match y with | .val d => Inv (i + 1) (acc ++ [d]) μ3 | .cell _ => False) (fun _ _ => False) else Inv (i + 1) acc μ2) (fun _ _ => False)
    | none => False) ∧ ∀ acc μ', Inv xs.length acc μ' → k (.cell μ'.length) (μ' ++ [.lst (acc.map Sl.val)])) E
theorem lift_lcC {X : Cx} {cl : Nat → Addr} {W : WX} {S : TrI} {tg : Tgt} {Tt : TrT} {Te : TrE} {own : List Nat} (ho : ∀ j ∈ tgIn tg, j ∈ own) (hown : own ≠ []) {σ : L2.St} {H : Hp} {Q : VK} (h : lift ⟨X.K, cl⟩ W (T_lcC S tg Tt Te own) σ H Q) :
    tLc (liftI ⟨X.K, cl⟩ W S) (gOf X.K tg) (liftT ⟨X.K, cl⟩ W0 Tt) (lift ⟨X.K, cl⟩ W0 Te) own σ H Q := by
  obtain ⟨I, α, ρ, μ, F, k, E, hf, en, t, hk, hx⟩ := h
  refine ⟨I, α, ρ, μ, F, _, E, hf, en, t, fun J xs Gd Gh I1 α1 H1 μ1 x1 hf1 wk gd t1 => ?_, hx⟩
  obtain ⟨Inv, h0, hG, hz, hs', hd⟩ := t1
  intro D hD
  have FD : F D = none := by
    cases q : F D with
    | none => rfl
    | some o =>
      have := (hf1.frm D o q).1
      rw [hD] at this
      cases this
  refine ⟨fun i m H' => m = xs.length - i ∧ i ≤ xs.length ∧ ∃ I' α' μ' vs acc, Ext I1 (ad α1) I' (ad α') ∧ Hf ⟨X.K, cl⟩ I' α' H' μ' (upd F D (.lst vs)) ∧ RpL ⟨X.K, cl⟩ I' vs acc ∧ Inv i acc μ', ⟨xs.length, by simp, Nat.zero_le _, I1, α1, μ1, [], [], Ext.refl _ _, hf1.aside hD, .nil, h0⟩, ?_⟩
  rintro i m H' ⟨rfl, hi', I', α', μ', vs, acc, x', hf', ra, inv⟩
  obtain ⟨gd', hlen⟩ := hG i acc μ' hi' inv
  have G' := gd I' α' H' μ' _ x' hf' gd'
  have lessF : Same F (upd F D (.lst vs)) := fun b o e => by rw [upd_ne (ne_of_none e FD)]; exact e
  by_cases hlt : i < xs.length
  · refine .inr ⟨wk.goes i I' H' hlt G', fun H2 => ∃ I2 α2 μ2 vs2 acc2, Ext I1 (ad α1) I2 (ad α2) ∧ Hf ⟨X.K, cl⟩ I2 α2 H2 μ2 (upd F D (.lst vs2)) ∧ RpL ⟨X.K, cl⟩ I2 vs2 acc2 ∧ Inv (i + 1) acc2 μ2, fun H2 p => ⟨xs.length - (i + 1), by omega, rfl, hlt, p⟩, fun x H2 y => ?_⟩
    have hx := List.getElem?_eq_getElem hlt
    have turn := hs' i _ acc μ' hx inv
    have fin : ∀ {Ia : Hp}, Same I' Ia → Hf ⟨X.K, cl⟩ Ia α' H2 μ' (upd F D (.lst vs)) → Rp ⟨X.K, cl⟩ Ia x xs[i] → gOf X.K tg x (wipe σ own) H2 fun σ2 H3 => wipe σ2 own = wipe σ own ∧ liftT ⟨X.K, cl⟩ W0 Tt σ2 H3 fun b H3 =>
        if b = true then lift ⟨X.K, cl⟩ W0 Te σ2 H3 fun y H4 => ∃ ac, H4 D = some (.lst ac) ∧ ac.length < sizeLine ∧ (fun H2 => ∃ I2 α2 μ2 vs2 acc2, Ext I1 (ad α1) I2 (ad α2) ∧ Hf ⟨X.K, cl⟩ I2 α2 H2 μ2 (upd F D (.lst vs2)) ∧ RpL ⟨X.K, cl⟩ I2 vs2 acc2 ∧ Inv (i + 1) acc2 μ2) (upd H4 D (.lst (ac ++ [y]))) else (fun H2 => ∃ I2 α2 μ2 vs2 acc2, Ext I1 (ad α1) I2 (ad α2) ∧ Hf ⟨X.K, cl⟩ I2 α2 H2 μ2 (upd F D (.lst vs2)) ∧ RpL ⟨X.K, cl⟩ I2 vs2 acc2 ∧ Inv (i + 1) acc2 μ2) H3 := by
      intro Ia sa hfa rxa
      cases q : setT tg xs[i] (wipeD ρ own) with
      | none => rw [q] at turn; exact turn.elim
      | some ρ2 =>
        rw [q] at turn
        have xa : Ext I1 (ad α1) Ia (ad α') := x'.trans (Ext.of sa _)
        have ew : En ⟨X.K, cl⟩ Ia (ad α') (wipe σ own) (wipeD ρ own) := (en.mono (x1.trans xa)).wipe own
        refine gOf_go (g := ⟨X.K, cl⟩) own hfa.sub rxa ew q (fun j hj => .inl (ho j hj)) fun σ3 en3 hw => ?_
        have hw' : wipe σ3 own = wipe σ own := by
          rcases hw with hw | hw
          · rw [hw, wipe_wipe]
          · exact absurd hw hown
        refine ⟨hw', liftT_go hfa en3 turn (fun b Ib αb Hb μb xb hfb tb => ?_) (fun _ _ _ _ _ _ _ _ _ _ z => z.elim)⟩
        cases b with
        | false => exact ⟨Ib, αb, μb, vs, acc, xa.trans xb, hfb, (ra.mono sa).mono xb.hp, tb⟩
        | true =>
          refine lift_go hfb (en3.mono xb) tb (fun yv yd Ic αc Hc μc xc hfc rc tc => ?_) (fun _ _ _ _ _ _ _ _ _ _ z => z.elim)
          cases rc with
          | cell => exact (show False from tc).elim
          | @val _ d rc =>
            obtain ⟨hD1, hD2, hD3⟩ := hfc.frm D (.lst vs) upd_same
            refine ⟨vs, hD1, by rw [ra.length]; omega, Ic, αc, μc, vs ++ [yv], acc ++ [d], xa.trans (xb.trans xc), ?_, (((ra.mono sa).mono xb.hp).mono xc.hp).append (.cons rc .nil), tc⟩
            have z := hfc.reput (o' := .lst (vs ++ [yv])) (show upd F D (.lst vs) D = some (.lst vs) from upd_same)
            rw [upd_upd] at z
            exact z
    rcases wk.yields i I' H' x H2 xs[i] hx G' y with ⟨e, rx⟩ | ⟨p, o, hp', e, rx⟩
    · subst e
      exact fin (Same.refl _) hf' rx
    · subst e
      obtain ⟨hf2, x2⟩ := hf'.new (o := o) hp'
      exact fin x2 hf2 (rx (hf'.sub.free hp'))
  · have e : i = xs.length := by omega
    subst e
    refine .inl ⟨wk.stops I' H' G', ?_⟩
    obtain ⟨hf2, x2, hp2⟩ := hf'.adopt (p := D) (o := .lst vs) (m := .lst (acc.map Sl.val)) upd_same fun H2 e => ⟨rfl, vs, e, (RpSL.ofL ra)⟩
    have hf3 := hf2.less (F' := F) fun b o e => by
      have hb : b ≠ D := ne_of_none e FD
      show (if b = D then none else upd F D (.lst vs) b) = some o
      rw [if_neg hb, upd_ne hb]
      exact e
    exact hk _ _ _ _ H' _ ((x1.trans x').trans x2) hf3 (.cell hp2) (hd acc μ' inv)
section
variable {X : Cx} {cl : Nat → Addr} {W : WX} {S : TrI} {tg : Tgt} {Tt : TrT} {Te : TrE} {own : List (Str × Nat)} {elt tgE iter : Expr} {ifs : List Expr} {scope : Scope} {pos : Pos}
theorem d_lcC (hc : X.calm = true) (hN : X.N.Nodup) (hi : DI X cl W tgE iter S) (ok : BlkOk X.N X.env.scope scope own) (ho : ∀ j ∈ tgIn tg, j ∈ own.map (·.2)) (hown : own.map (·.2) ≠ [])
    (hg : ∀ (s : Shared) (H : Hp) (C : Addr) (cls : List (Str × Addr)) (fp : List Addr), PG (X.blk s H scope (compEnvC scope cls C X.env) fp) tgE (gOf X.K tg))
    (ht : ∀ (s : Shared) (H : Hp) (C : Addr) (cls : List (Str × Addr)) (fp : List Addr), DTs (X.blk s H scope (compEnvC scope cls C X.env) fp) cl W0 ifs Tt)
    (he : ∀ (s : Shared) (H : Hp) (C : Addr) (cls : List (Str × Addr)) (fp : List Addr), DE (X.blk s H scope (compEnvC scope cls C X.env) fp) cl W0 elt Te) (hs : ∀ x, foldedSetIterable iter X.env x = pure x := by intro _; rfl) :
    DE X cl W (.ListComp elt [⟨tgE, iter, ifs, 0⟩] scope pos) (T_lcC S tg Tt Te (own.map (·.2))) :=
  PE.of (pe_lc hc hN hi ok hg ht he hs) fun σ H Q h => lift_lcC ho hown h
end
/-! ### + of lists, sums -/
def rCatA (K : PySem.W.Frag) : R2 := fun x y H Q => ∃ l b xs zs, x = .ref l ∧ y = .ref b ∧ SqL K H l xs ∧ SqL K H b zs ∧ xs.length + zs.length ≤ sizeLine ∧ ∀ p, H p = none → Q (.ref p) (upd H p (.lst (xs ++ zs)))
theorem op_catA {X : Cx} : OpR X (binaryOp .Add) (rCatA X.K) := by
  intro pins s σ H x y v u Q I rx ry h
  obtain ⟨l, b, xs, zs, rfl, rfl, hH, hB, hz, q⟩ := h
  cases rx
  cases ry
  obtain ⟨its, r, ⟨⟨cls, dd, data, sl⟩, n, ho, hc, hdd, hd⟩, hl⟩ := I.list hH
  obtain ⟨its2, r2, ⟨⟨cls2, dd2, data2, sl2⟩, n2, ho2, hc2, hdd2, hd2⟩, hl2⟩ := I.list hB
  simp only at hc hd hc2 hd2 hdd hdd2
  subst hc hd hc2 hd2 hdd hdd2
  have e : its.toArray ++ its2.toArray = (its ++ its2).toArray := by simp
  have l1 := r.length
  have l2 := r2.length
  refine concat_meets ⟨_, ho, rfl⟩ ⟨_, ho2, rfl⟩ noFill_list_add seq_list_add PySem.F.slot_list_add PySem.F.entry_list_add (PySem.F.args_list_add_2 _ _) (list_addW l b its.toArray its2.toArray n n2 none none sl sl2 (by simp only [List.size_toArray]; omega)) ⟨ho, ho2, ?_⟩
  rw [e]
  exact ⟨.ref _, _, I.lnew (t' := s.toks) (r.append r2) (by rw [List.length_append]; omega), rfl, q _ I.fresh⟩
/-- + of ints, texts, lists -/
def oAddL : OD := fun x y μ k => match x, y with
  | .val (.lst xs), .val (.lst ys) => xs.length + ys.length ≤ sizeLine ∧ k (.val (.lst (xs ++ ys))) μ
  | x, y => oAdd x y μ k
def rAddL (K : PySem.W.Frag) : R2 := fun x y H Q => rAddA x y H Q ∨ rCatA K x y H Q
theorem op_addL {X : Cx} : OpR X (binaryOp .Add) (rAddL X.K) := OpR.or op_addA op_catA
theorem snd_addL {g : G} : OSnd g oAddL (rAddL g.K) := by
  intro I α H μ F x y dx dy k Q hf rx ry o hk
  unfold oAddL at o
  split at o
  · cases rx with
    | val rx =>
      cases ry with
      | val ry =>
        cases rx with
        | lst h1 r1 =>
          cases ry with
          | lst h2 r2 =>
            refine .inr ⟨_, _, _, _, rfl, rfl, hf.sub.seq h1, hf.sub.seq h2, by rw [r1.length, r2.length]; exact o.1, fun p hp => ?_⟩
            obtain ⟨hf2, x2⟩ := hf.new (o := .lst _) hp
            exact hk _ _ _ α _ μ (Ext.of x2 _) hf2 (.val (.lst (SqL.of upd_same) ((r1.append r2).mono x2))) o.2
  · exact .inl (snd_add I α H μ F x y dx dy k Q hf rx ry o hk)
def oSum : OC := fun ds μ k => match ds with
  | [.val (.lst xs)] => match xs.mapM int? with
    | some ns => k (.val (.int ns.sum)) μ
    | none => False
  | _ => False
theorem mapM_int {g : G} {I : Hp} : ∀ {vs : List V} {ds : List D} {bs : List Int}, RpL g I vs ds → ds.mapM int? = some bs → vs = bs.map V.int
  | _, _, bs, .nil, h => by cases h; rfl
  | _, _, bs, .cons (d := d) (ds := ds) r t, h => by
    rw [List.mapM_cons] at h
    cases q : int? d with
    | none => rw [q] at h; cases h
    | some w =>
      cases q2 : ds.mapM int? with
      | none => rw [q, q2] at h; cases h
      | some ws =>
        rw [q, q2] at h
        have e : w :: ws = bs := Option.some.inj h
        subst e
        cases d <;> cases q
        cases r
        rw [mapM_int t q2]
        rfl
theorem snd_sum {g : G} : CSnd g oSum (rSum g.K) := by
  intro I α H μ F xs ds k Q hf r o hk
  unfold oSum at o
  split at o
  · rename_i ys
    cases r with
    | cons r1 r2 =>
      cases r2
      cases r1 with
      | val r1 =>
        cases r1 with
        | @lst a vs _ h rl =>
          cases q : ys.mapM int? with
          | none => rw [q] at o; exact o.elim
          | some ns =>
            rw [q] at o
            have e := mapM_int rl q
            subst e
            exact ⟨a, ns, rfl, hf.sub.seq h, hk _ _ I α H μ (Ext.refl _ _) hf (.val .int) o⟩
  · exact o.elim
/-! ### the drawing state, as one thing and as two lists -/
section
variable {g : G} {I H : Hp} {F : Hp} {a b : Addr}
theorem Hf.unpack {n : Nat} {fp : List Addr} (h : Hf g I [(a, fp)] H [.draw n] F) : ∃ b cs gs m, fp = [a, b] ∧ cs ≠ [] ∧ 0 ≤ m ∧ m ≤ (n : Int) ∧
    Hf g I [(a, [a]), (b, [b])] H [.lst [.cell 1, .val (.lst ((cs : List Int).map D.int)), .val (.int m)], .lst ((gs : List Int).map fun i => .val (.int i))] F := by
  obtain ⟨b, c, gs, cs, m, e, h1, h2, h3, h4, h5, h6⟩ := h.sto 0 (a, fp) (.draw n) rfl rfl
  have e : fp = [a, b] := e
  subst e
  refine ⟨b, cs, gs, m, rfl, h4, h5, h6, ?_⟩
  have nd := h.nod
  have eo : owned [(a, [a, b])] = [a, b] := by simp [owned]
  have eo2 : owned [(a, [a]), (b, [b])] = [a, b] := by simp [owned]
  refine ⟨h.sub, rfl, fun k p o e1 e2 => ?_, by rw [eo2]; rw [eo] at nd; exact nd, fun x hx => h.own x (by rw [eo]; rw [eo2] at hx; exact hx), fun x o e => ?_⟩
  · match k, e1, e2 with
    | 0, e1, e2 =>
      cases e1
      cases e2
      exact ⟨rfl, _, h1, .cons (.cell rfl) (.cons (.val (.lst h3 (RpL.ints cs))) (.cons (.val .int) .nil))⟩
    | 1, e1, e2 =>
      cases e1
      cases e2
      refine ⟨rfl, _, h2, ?_⟩
      have z := RpSL.ofL (g := g) (I := I) (α := ad [(a, [a]), (b, [b])]) (RpL.ints gs)
      rw [List.map_map] at z
      exact z
    | k + 2, e1, e2 => simp at e1
  · obtain ⟨q1, q2, q3⟩ := h.frm x o e
    exact ⟨q1, q2, by rw [eo2]; rw [eo] at q3; exact q3⟩
theorem ints_of {α : List Addr} : ∀ {vs : List V} {gs : List Int}, RpSL g I α vs (gs.map fun i => Sl.val (D.int i)) → vs = gs.map V.int
  | _, [], .nil => rfl
  | _, _ :: r, .cons (.val h) t => by
    cases h
    rw [ints_of (gs := r) t]
    rfl
/-- back: cell 0 holds the j-th, the plain cells, the count -/
theorem Hf.pack {α : Al} {μ : Sto} {j : Nat} {cs gs : List Int} {m : Int} {n : Nat} {fa : List Addr} (h : Hf g I α H μ F) (h0 : α[0]? = some (a, fa)) (m0 : μ[0]? = some (.lst [.cell j, .val (.lst (cs.map D.int)), .val (.int m)])) (hj : j ≠ 0) (mj : μ[j]? = some (.lst (gs.map fun i => .val (.int i))))
    (hc : cs ≠ []) (hm : 0 ≤ m) (hn : m ≤ (n : Int)) : ∃ b, Hf g I [(a, [a, b])] H [.draw n] F := by
  obtain ⟨e0, vs, hv, hr⟩ := h.sto 0 _ _ h0 m0
  have e0 : fa = [a] := e0
  subst e0
  cases hr with
  | cons r1 r2 =>
    cases r2 with
    | cons r2 r3 =>
      cases r3 with
      | cons r3 r4 =>
        cases r4
        cases r1 with
        | @cell _ b hb =>
          obtain ⟨fb, hbj⟩ := ad_get.mp hb
          obtain ⟨eb, ws, hw, hrw⟩ := h.sto j _ _ hbj mj
          have eb : fb = [b] := eb
          subst eb
          cases r2 with
          | val r2 =>
            cases r2 with
            | @lst c us _ hs hl =>
              cases r3 with
              | val r3 =>
                cases r3
                have e1 := hl.ints_inv
                subst e1
                have e2 := ints_of hrw
                subst e2
                have ma : a ∈ owned α := mem_owned h0 (List.mem_singleton.mpr rfl)
                have mb : b ∈ owned α := mem_owned hbj (List.mem_singleton.mpr rfl)
                have nab : a ≠ b := fun e => h.other h0 hbj hj (List.mem_singleton.mpr rfl) (by rw [e]; exact List.mem_singleton.mpr rfl)
                have eo : owned [(a, [a, b])] = [a, b] := by simp [owned]
                refine ⟨b, ⟨h.sub, rfl, fun k p o e1 e2 => ?_, by rw [eo]; simp [nab], fun x hx => ?_, fun x o e => ?_⟩⟩
                · match k, e1, e2 with
                  | 0, e1, e2 =>
                    cases e1
                    cases e2
                    exact ⟨b, c, gs, cs, m, rfl, hv, hw, hs, hc, hm, hn⟩
                  | k + 1, e1, e2 => simp at e1
                · rw [eo] at hx
                  simp only [List.mem_cons, List.not_mem_nil, or_false] at hx
                  rcases hx with rfl | rfl
                  · exact h.own _ ma
                  · exact h.own _ mb
                · obtain ⟨q1, q2, q3⟩ := h.frm x o e
                  refine ⟨q1, q2, fun hx => ?_⟩
                  rw [eo] at hx
                  simp only [List.mem_cons, List.not_mem_nil, or_false] at hx
                  rcases hx with rfl | rfl
                  · exact q3 ma
                  · exact q3 mb
end
/-- one draw: some number below the size -/
def cDraw : CtS := fun ds m Q _ => ∃ (size : Int) (n : Nat), ds = [.cell 0, .val (.int size)] ∧ m = .draw n ∧ 0 < size ∧ size.natAbs.log2 < 9000 ∧ n < 1099511627776 ∧ ∀ r : Int, 0 ≤ r → r < size → Q (.int r) (.draw (n + 1))
def intSls (gs : List Int) : List Sl := gs.map fun i => .val (.int i)
/-- the same, the state as two lists -/
def ctDraw2 : Ct := fun ds μ k _ => ∃ (size : Int) (cs gs : List Int) (m : Int), ds = [.cell 0, .val (.int size)] ∧ μ = [.lst [.cell 1, .val (.lst (cs.map D.int)), .val (.int m)], .lst (intSls gs)] ∧ 0 < size ∧ size.natAbs.log2 < 9000 ∧ cs ≠ [] ∧ 0 ≤ m ∧ m < 1099511627776 ∧
  ∀ (r : Int) (j : Nat) (gs' : List Int) (μ' : Sto), 0 ≤ r → r < size → j ≠ 0 → μ'[0]? = some (.lst [.cell j, .val (.lst (cs.map D.int)), .val (.int (m + 1))]) → μ'[j]? = some (.lst (intSls gs')) → k (.val (.int r)) μ'
theorem draw_imp {g : G} (vs : List V) (H : Hp) (Q : VK) (E : XK) (h : spOf g (ctS cDraw) vs H Q E) : spOf g ctDraw2 vs H Q E := by
  obtain ⟨I, α, μ, F, ds, k, e, hf, r, ⟨mo, hm, size, n, hds, hmo, h1, h2, h3, h4⟩, hk, hx⟩ := h
  subst hm
  subst hmo
  subst hds
  obtain ⟨p, rfl⟩ : ∃ p, α = [p] := by
    have := hf.len
    match α, this with
    | [p], _ => exact ⟨p, rfl⟩
  obtain ⟨a, fp⟩ := p
  obtain ⟨b, cs, gs, m, e1, q1, q2, q3, hf2⟩ := hf.unpack
  subst e1
  refine ⟨I, [(a, [a]), (b, [b])], _, F, [.cell 0, .val (.int size)], fun s μ' => ∃ (r : Int) (j : Nat) (gs' : List Int), s = .val (.int r) ∧ 0 ≤ r ∧ r < size ∧ j ≠ 0 ∧ μ'[0]? = some (.lst [.cell j, .val (.lst (cs.map D.int)), .val (.int (m + 1))]) ∧ μ'[j]? = some (.lst (intSls gs')), fun _ _ => False, hf2, ?_, ⟨size, cs, gs, m, rfl, rfl, h1, h2, q1, q2, by omega, fun r j gs' μ' a1 a2 a3 a4 a5 => ⟨r, j, gs', rfl, a1, a2, a3, a4, a5⟩⟩, fun v d I' α' H' μ' x' hf' r' t' => ?_, fun _ _ _ _ _ _ _ _ _ _ z => z.elim⟩
  · cases r with
    | cons r1 r2 =>
      cases r2 with
      | cons r2 r3 =>
        cases r3
        cases r1 with
        | cell h0 =>
          cases r2 with
          | val r2 => exact .cons (.cell h0) (.cons (.val r2) .nil)
  · obtain ⟨rr, j, gs', e, a1, a2, a3, a4, a5⟩ := t'
    subst e
    obtain ⟨fa, h0⟩ := ad_get.mp (x'.ad 0 a rfl)
    obtain ⟨b', hp⟩ := hf'.pack (n := n + 1) h0 a4 a3 a5 q1 (by omega) (by omega)
    cases r' with
    | val r' => exact hk v _ I' [(a, [a, b'])] H' [.draw (n + 1)] ⟨x'.hp, fun k c hc => by exact hc⟩ hp (.val r') (h4 rr a1 a2 [])
/-- the drawing state made -/
def ctStart : Ct := fun ds μ k _ => μ = [] ∧ ∃ ns : List Int, ds = [.val (.lst (ns.map D.int))] ∧ ns.length ≤ 63 ∧ ∀ (j i : Nat) (μ' : Sto) (gs cs : List Int), μ'[j]? = some (.lst [.cell i, .val (.lst (cs.map D.int)), .val (.int 0)]) → i ≠ j → μ'[i]? = some (.lst (intSls gs)) → cs ≠ [] → k (.cell j) μ'
def T_start (Ta : TrA) : TrE := fun ρ μ k E => Ta ρ μ (fun ds μ1 => match ds with
  | [.val (.lst xs)] => (∃ ns : List Int, xs = ns.map D.int ∧ ns.length ≤ 63) ∧ k (.cell μ1.length) (μ1 ++ [.draw 0])
  | _ => False) E
theorem d_start {X : Cx} {cl : Nat → Addr} {W : WX} {f : Addr} {fd : FuncData} {ps : List Str} {x : Str} {p pos : Pos} {e : Expr} {Ta : TrA} {gg : List Value → List Value → List Value} {gV : List V → List V → List V}
    (R : Runs X f fd ps (spOf ⟨X.K, cl⟩ ctStart)) (hx : ∀ σ, PassesAt (L2.CX X.prog X.w) X σ (fun cls d H => W cls d σ H)) (hm : X.mg x = some (.ref f)) (hk : PySem.W.keepIn X.K (.ref f) = true) (hb : KBn X.K fd ps 1 [] gg gV)
    (hgV : ∀ v, gV [v] [] = [v]) (ha : DA X cl W [e] Ta) (hg : Gl X x := by rfl)
    (hdb : (x == ("__debug__" : Str)) = false := by decide) (he : starEach [e] X.env = (false, eval e X.env) :: starEach [] X.env := by rfl)
    (hpl : ((backTo pos (starEach [e] X.env)).any (·.1) || (backToKw pos (keywordEach [] X.env)).any (·.1.isNone)) = false := by rfl) :
    DE X cl W (.Call (.Name x p) [e] [] pos) (T_start Ta) := by
  refine PE.of (pe_callG R hg hm hk hb hx ha pk_nil rfl rfl hdb he hpl) fun σ H Q h => ?_
  obtain ⟨I, α, ρ, μ, F, k, E, hf, en, t, hk', hx'⟩ := h
  refine liftA_go hf en t (fun vs ds I1 α1 H1 μ1 x1 hf1 r1 t1 => ?_) hx'
  show vs.length = 1 ∧ ([] : List V).length = 0 ∧ spOf ⟨X.K, cl⟩ ctStart (gV vs []) H1 Q _
  split at t1
  · rename_i xs
    obtain ⟨⟨ns, e1, hl⟩, t1⟩ := t1
    subst e1
    cases r1 with
    | cons r1 r2 =>
      cases r2
      rename_i v
      refine ⟨rfl, rfl, ?_⟩
      rw [hgV]
      refine ⟨I1, [], [], asideOf α1 H1 F, [.val (.lst (ns.map D.int))], fun s μ' => ∃ (j i : Nat) (gs cs : List Int), s = .cell j ∧ μ'[j]? = some (.lst [.cell i, .val (.lst (cs.map D.int)), .val (.int 0)]) ∧ i ≠ j ∧ μ'[i]? = some (.lst (intSls gs)) ∧ cs ≠ [], fun _ _ => False, hf1.leave, ?_, ⟨rfl, ns, rfl, hl, fun j i μ' gs cs a1 a2 a3 a4 => ⟨j, i, gs, cs, rfl, a1, a2, a3, a4⟩⟩, fun v' d I' α' H' μ' x' hf' r' t' => ?_, fun _ _ _ _ _ _ _ _ _ _ z => z.elim⟩
      · cases r1 with
        | val r1 => exact .cons (.val r1) .nil
      · obtain ⟨j, i, gs, cs, e, a1, a2, a3, a4⟩ := t'
        subst e
        cases r' with
        | @cell _ a hj =>
          obtain ⟨fa, haj⟩ := ad_get.mp hj
          obtain ⟨e0, us, hu, hr⟩ := hf'.sto j _ _ haj a1
          have e0 : fa = [a] := e0
          subst e0
          cases hr with
          | cons q1 q2 =>
            cases q2 with
            | cons q2 q3 =>
              cases q3 with
              | cons q3 q4 =>
                cases q4
                cases q1 with
                | @cell _ b hbi =>
                  obtain ⟨fb, hb2⟩ := ad_get.mp hbi
                  obtain ⟨eb, ws, hw, hrw⟩ := hf'.sto i _ _ hb2 a3
                  have eb : fb = [b] := eb
                  subst eb
                  cases q2 with
                  | val q2 =>
                    cases q2 with
                    | @lst c us2 _ hs hl2 =>
                      cases q3 with
                      | val q3 =>
                        cases q3
                        have z1 := hl2.ints_inv
                        subst z1
                        have z2 := ints_of hrw
                        subst z2
                        have ma : a ∈ owned α' := mem_owned haj (List.mem_singleton.mpr rfl)
                        have mb : b ∈ owned α' := mem_owned hb2 (List.mem_singleton.mpr rfl)
                        have nab : a ≠ b := fun e => hf'.other haj hb2 a2 (List.mem_singleton.mpr rfl) (by rw [e]; exact List.mem_singleton.mpr rfl)
                        have hbk := hf1.back hf' x'.hp
                        have out : ∀ x, x ∈ owned α' → x ∉ owned α1 := fun x hx hx1 => by
                          cases q : H1 x with
                          | none => exact (hf1.own x hx1).2 q
                          | some o =>
                            have z : asideOf α1 H1 F x = some o := by
                              unfold asideOf
                              rw [if_pos (.inl hx1)]
                              exact q
                            exact (hf'.frm x o z).2.2 hx
                        have outF : ∀ x, x ∈ owned α' → F x = none := fun x hx => by
                          cases q : F x with
                          | none => rfl
                          | some o =>
                            have z : asideOf α1 H1 F x = some o := by
                              unfold asideOf
                              rw [if_pos (.inr (by rw [q]; rfl))]
                              exact (hf1.frm x o q).1
                            exact absurd hx (hf'.frm x o z).2.2
                        have ea : ad (α1 ++ [(a, [a, b])]) = ad α1 ++ [a] := by unfold ad; rw [List.map_append]; rfl
                        have eo : owned (α1 ++ [(a, [a, b])]) = owned α1 ++ [a, b] := by rw [owned_append]; simp [owned]
                        have xx : Ext I1 (ad α1) I' (ad (α1 ++ [(a, [a, b])])) := by rw [ea]; exact (Ext.of x'.hp _).trans ext_snoc
                        have nw : Hf ⟨X.K, cl⟩ I' (α1 ++ [(a, [a, b])]) H' (μ1 ++ [.draw 0]) F := by
                          refine ⟨hf'.sub, by rw [List.length_append, List.length_append, hf1.len]; rfl, fun k p o e1 e2 => ?_, ?_, fun x hx => ?_, fun x o e => ?_⟩
                          · by_cases hk : k < α1.length
                            · rw [List.getElem?_append_left hk] at e1
                              rw [List.getElem?_append_left (by rw [← hf1.len]; exact hk)] at e2
                              exact (hbk.sto k p o e1 e2).mono (by rw [ea]; exact ext_snoc) fun _ _ => rfl
                            · have hk' : k = α1.length := by
                                have := (List.getElem?_eq_some_iff.mp e1).1
                                rw [List.length_append] at this
                                have : k < α1.length + 1 := this
                                omega
                              subst hk'
                              rw [List.getElem?_append_right (Nat.le_refl _), Nat.sub_self] at e1
                              rw [List.getElem?_append_right (by rw [hf1.len]; exact Nat.le_refl _), hf1.len, Nat.sub_self] at e2
                              cases e1
                              cases e2
                              exact ⟨b, c, gs, cs, 0, rfl, hu, hw, hs, a4, Int.le_refl _, Int.le_refl _⟩
                          · rw [eo]
                            refine List.nodup_append.mpr ⟨hf1.nod, by simp [nab], fun x hx y hy e => ?_⟩
                            subst e
                            simp only [List.mem_cons, List.not_mem_nil, or_false] at hy
                            rcases hy with rfl | rfl
                            · exact out _ ma hx
                            · exact out _ mb hx
                          · rw [eo] at hx
                            rcases List.mem_append.mp hx with hx | hx
                            · exact hbk.own x hx
                            · simp only [List.mem_cons, List.not_mem_nil, or_false] at hx
                              rcases hx with rfl | rfl
                              · exact hf'.own _ ma
                              · exact hf'.own _ mb
                          · obtain ⟨p1, p2, p3⟩ := hbk.frm x o e
                            refine ⟨p1, p2, fun hx => ?_⟩
                            rw [eo] at hx
                            rcases List.mem_append.mp hx with hx | hx
                            · exact p3 hx
                            · simp only [List.mem_cons, List.not_mem_nil, or_false] at hx
                              rcases hx with rfl | rfl
                              · rw [outF _ ma] at e; cases e
                              · rw [outF _ mb] at e; cases e
                        refine hk' _ _ I' _ H' _ (x1.trans xx) nw (.cell ?_) t1
                        rw [ea, List.getElem?_append_right (by unfold ad; rw [List.length_map, hf1.len]; exact Nat.le_refl _)]
                        unfold ad
                        rw [List.length_map, hf1.len, Nat.sub_self]
                        rfl
  · exact t1.elim
end Dv
/-! Dv8: the end of a law. -/
namespace Dv
open PySem PySem.Spec PyProof.Rows L2
theorem FnG.ofOk {P : Program} {w : World} {K : PySem.W.Frag} {mg : Str → Option Value} {base : Heap} {k : Nat} {f : Addr} {fd : FuncData} {ps : List Str} {sp : Sp} (F : FnOk P w K mg base (L2.CX P w) k f fd ps sp) : FnG P w K mg base k f fd ps sp :=
  ⟨F.len, fun A outer s H args us vs Q E hr _ e0 hb r h => F.run A outer s H args us vs Q E hr e0 hb r h⟩
/-- the law's own def: a list of at most 63 ints comes, True is given -/
def cLaw : CtP := fun xs Q _ => ∃ ns : List Int, xs = [.lst (ns.map D.int)] ∧ ns.length ≤ 63 ∧ Q (.bl true)
theorem sp_law {g : G} {H : Hp} {a : Addr} {ns : List Int} (h : SqL g.K H a (ns.map V.int)) (hl : ns.length ≤ 63) : spOf g (ctP cLaw) [.ref a] H (fun v _ => v = .bl true) (fun _ _ _ => False) := by
  refine ⟨H, [], [], fun _ => none, [.val (.lst (ns.map D.int))], fun s _ => s = .val (.bl true), fun _ _ => False, ⟨Same.refl _, rfl, fun k p o e => by simp at e, List.nodup_nil, fun b hb => (nomatch hb), fun b o e => by cases e⟩, .cons (.val (.lst h (RpL.ints ns))) .nil, ⟨rfl, [.lst (ns.map D.int)], rfl, ns, rfl, hl, fun _ => rfl⟩, fun v d I' α' H' μ' _ _ r q => ?_, fun _ _ _ _ _ _ _ _ _ _ z => z.elim⟩
  subst q
  cases r with
  | val r => cases r; rfl
/-- the call of the law by who asks it -/
theorem law_callG {P : Program} {w : World} {K : PySem.W.Frag} {mg mb : Str → Option Value} {k : Nat} {fa a : Addr} {fd : FuncData} {x : Str} {s₁ : Shared} {vs : List Value} {ns : List Int} {cl : Nat → Addr}
    (KX : K.In s₁.heap) (hns : s₁.heap.Ns mainGlobals mg) (hb : s₁.heap.Ns builtinsNs mb) (hbb : ∀ x : Str, x ≠ "__name__" → mb x = bootBuiltins x) (hlim : s₁.heap.NoLimit) (hg : s₁.gens = #[])
    (ha : s₁.heap.get? a = some { cls := .type "list", data := .seq vs.toArray }) (hi : IntsAre vs ns) (hl : ns.length ≤ 63) (hr : Room k callerA)
    (F : ∀ base : Heap, K.In base → base.Ns mainGlobals mg → FnG P w K mg base k fa fd [x] (spOf ⟨K, cl⟩ (ctP cLaw))) (hbind : ∀ (s : Shared) (u : Value), BindsTo s fd ⟨[u], []⟩ [(x, u)]) :
    codeAny (model P w) callerA (.call (.ref fa) ⟨[.ref a], []⟩) (fun r s' => r = .ok (.ret (.bool true)) ∧ OldK s₁.heap s'.heap ∧ s'.os = s₁.os ∧ AllBare s'.gens) s₁ := by
  have rv := vals_ints hi
  have lenV := hi.length
  have hz : ns.length ≤ sizeLine := Nat.le_trans hl (by decide)
  have core : ∀ H : Hp, Only H → SqL K H a (ns.map V.int) → HOk P w H s₁.heap → (∀ b, H b ≠ none → b = a) → (H a ≠ none → K.lookup a = none) →
      codeAny (model P w) callerA (.call (.ref fa) ⟨[.ref a], []⟩) (fun r s' => r = .ok (.ret (.bool true)) ∧ OldK s₁.heap s'.heap ∧ s'.os = s₁.os ∧ AllBare s'.gens) s₁ := by
    intro H hO hS hok hA hK
    have old : ∀ {b : Addr} {o : Obj}, s₁.heap.get? b = some o → H b = none → (hidT s₁.heap H).get? b = some o := hidT_get
    have at_a : ∀ {b : Addr} {u : HO}, H b = some u → b = a := fun q => hA _ (by rw [q]; exact fun z => nomatch z)
    have noA : ∀ {b : Addr} {o : Obj} {es : Array DictEntry} {ep : Nat}, s₁.heap.get? b = some o → o.data = .dict es ep → H b = none := by
      intro b o es ep e d
      cases q : H b with
      | none => rfl
      | some u =>
        have e2 := at_a q
        subst e2
        rw [ha] at e
        cases e
        exact absurd (show Data.seq vs.toArray _ = Data.dict es ep from d) (fun z => nomatch z)
    have nsK : ∀ {b : Addr} {m : Str → Option Value}, s₁.heap.Ns b m → (hidT s₁.heap H).Ns b m := by
      rintro b m ⟨o, es, ep, e, d, r⟩
      exact ⟨o, es, ep, old e (noA e d), d, r⟩
    have hKb : K.In (hidT s₁.heap H) := by
      intro b o e
      refine old (KX b o e) ?_
      cases q : H b with
      | none => rfl
      | some u =>
        have e2 := at_a q
        subst e2
        rw [hK (by rw [q]; exact fun z => nomatch z)] at e
        cases e
    obtain ⟨mc, lim1, lim2⟩ := hlim
    have hM : Mod K mg (hidT s₁.heap H) := ⟨hKb, nsK hns, ⟨mb, nsK hb, hbb⟩, mc, nsK lim1, lim2⟩
    have e0 : Env0 P w K mg (hidT s₁.heap H) callerA [] s₁ H := ⟨rfl, hM, fun b o e => of_hidT e, Nat.le_of_eq (hidT_size _ _), trivial, fun b hb => absurd (show b ∈ ([] : List Addr) from hb) (by simp), hok, .of_eq hg⟩
    have go := (F _ hKb (nsK hns)).run callerA [] s₁ H ⟨[.ref a], []⟩ [.ref a] [.ref a] _ _ hr rfl e0 (hbind s₁ (.ref a)) (.cons rfl .nil) (sp_law hS hl)
    refine codeAny_mono go fun r s' h => ?_
    cases r with
    | error e =>
      obtain ⟨_, _, _, _, _, _, _, _, _, _, _, _, z⟩ := h
      exact z.elim
    | ok fl =>
      cases fl with
      | ret u =>
        obtain ⟨v, H', os, bare, un, hok', r', q⟩ := h
        cases (show v = .bl true from q)
        obtain rfl : u = Value.bool true := r'
        refine ⟨rfl, OldK.of_keep fun b o e => ?_, os, bare⟩
        cases q : H b with
        | none => exact un.keep b o e q (fun z => nomatch z) (by simp)
        | some u =>
          rcases hO b with z | ⟨ob, xs, z⟩
          · rw [q] at z
            cases z
          · have z2 := un.frzs b ob _ z
            obtain ⟨e1, _⟩ := hok b _ z
            obtain ⟨e2, _⟩ := hok' b _ z2
            rw [e] at e1
            cases e1
            exact e2
      | next => exact False.elim h
      | brk => exact False.elim h
      | cont => exact False.elim h
  cases hk : K.lookup a with
  | some o =>
    have e := KX a o hk
    rw [ha] at e
    cases e
    refine core (fun _ => none) (fun _ => .inl rfl) (.inr ⟨_, vs.toArray, _, hk, rfl, rfl, rfl, by rw [List.size_toArray, lenV]; exact hz, by simpa using rv⟩) (fun b u z => (nomatch (show (none : Option HO) = some u from z))) (fun b z => absurd rfl z) fun z => absurd rfl z
  | none =>
    have only : ∀ b (u : HO), (if b = a then some (HO.frz { cls := .type "list", data := .seq vs.toArray } (.lst (ns.map V.int))) else none) = some u → b = a ∧ u = .frz { cls := .type "list", data := .seq vs.toArray } (.lst (ns.map V.int)) := by
      intro b u z
      by_cases hb : b = a
      · rw [if_pos hb] at z
        cases z
        exact ⟨hb, rfl⟩
      · rw [if_neg hb] at z
        cases z
    refine core (fun b => if b = a then some (.frz { cls := .type "list", data := .seq vs.toArray } (.lst (ns.map V.int))) else none) (fun b => ?_) (.inl (.inr ⟨{ cls := .type "list", data := .seq vs.toArray }, if_pos rfl⟩)) (fun b u z => ?_) (fun b z => ?_) fun _ => hk
    · by_cases hb : b = a
      · exact .inr ⟨_, _, if_pos hb⟩
      · exact .inl (if_neg hb)
    · obtain ⟨e1, e2⟩ := only b u z
      subst e1
      subst e2
      exact ⟨ha, by rw [List.length_map]; exact hz, vs, _, rv, ha⟩
    · by_cases hb : b = a
      · exact hb
      · exact absurd (if_neg hb) z
/-- what k_head leaves, from the law's def -/
theorem walk_law {l : PySem.W.OpenLaw} {k : Nat} {q : Program} {loose : List Str} {XP : (Str → Option Value) → Heap → Prop} {YP : World → Heap → Prop} {d : DefRec} {K : Params → PySem.W.Frag} {x : Str}
    (hn : l.most = some 63) (hdf : d.params.defaults = []) (hr : Room k callerA) (hY : ∀ (w : World) (h : Heap), YP w h → (K w.params).In h)
    (F : ∀ (w : World) (mg : Str → Option Value) (fa : Addr) (h : Heap), (K w.params).In h → h.Ns mainGlobals mg → mg d.name = some (.ref fa) →
      ∃ (fd : FuncData) (cl : Nat → Addr), (∀ (s : Shared) (u : Value), BindsTo s fd ⟨[u], []⟩ [(x, u)]) ∧
        ∀ base : Heap, (K w.params).In base → base.Ns mainGlobals mg → FnG l.prog w (K w.params) mg base k fa fd [x] (spOf ⟨K w.params, cl⟩ (ctP cLaw))) :
    PySem.W.WalkO q loose XP YP l.row.toRowW d [] (fun f vs => PySem.call f vs) := by
  refine Att.attach_call hn hdf fun w s₀ s₁ mg mb fa o pm cd doc a vs ns G Y ho hd hcd hmg hobj hints hlen hg => ?_
  obtain ⟨fd, cl, hb, hF⟩ := F w mg fa _ (hY w _ Y) G.T.g hmg
  exact law_callG (hY w _ Y) G.T.g G.T.b G.T.builtins G.T.nolimit hg hobj hints hlen hr hF hb
/-- the arguments of plain data in the slots -/
theorem vcP {c : CtP} {T : TrS} {n : Nat} (h : ∀ xs k (e : KX), c xs (fun d => ∀ ν, k (.val d) ν) (fun x => ∀ ν, e x ν) → T ⟨fun _ μ' => k (.val .non) μ', k, fun _ _ => False, fun _ _ => False, fun x _ μ' => e x μ'⟩ (xs.map (fun d => some (.val d)) ++ List.replicate (n - xs.length) none) []) :
    ∀ ds μ k e, ctP c ds μ k e → T ⟨fun _ μ' => k (.val .non) μ', k, fun _ _ => False, fun _ _ => False, fun x _ μ' => e x μ'⟩ (ds.map some ++ List.replicate (n - ds.length) none) μ := by
  rintro ds μ k e ⟨rfl, xs, rfl, hc⟩
  have z := h xs k e hc
  rw [List.map_map, List.length_map]
  exact z
theorem pick_nil {β : Type} (l : List β) : pick [] l = [] := rfl
theorem pick_cons {β : Type} (i : Nat) (π : List Nat) (l : List β) : pick (i :: π) l = match l[i]? with | some x => x :: pick π l | none => pick π l := by
  unfold pick
  rw [List.filterMap_cons]
  cases l[i]? <;> rfl
end Dv
/-! Dv9: constants of the module, more operators, helps for the plain part. -/
namespace Dv
open PySem PySem.Spec PyProof.Rows L2
/-! ### constants of the module -/
def GC (K : PySem.W.Frag) (mg : Str → Option Value) (x : Str) (d : D) : Prop := ∃ u v, mg x = some u ∧ RelV v u ∧ ∀ (cl : Nat → Addr) (I : Hp), Rp ⟨K, cl⟩ I v d
theorem d_gc {X : Cx} {cl : Nat → Addr} {W : WX} {x : Str} {d : D} {pos : Pos} (h : GC X.K X.mg x d) (hg : Gl X x := by rfl) (hd : (x == ("__debug__" : Str)) = false := by decide) : DE X cl W (.Name x pos) (T_c d) := by
  obtain ⟨u, v, h1, h2, h3⟩ := h
  exact d_glob hg h1 h2 (h3 cl) hd
section
variable {K : PySem.W.Frag} {mg : Str → Option Value} {x : Str}
theorem gc_str {z : Str} {t : Nat} (h : mg x = some (.str z t)) : GC K mg x (.str z) := ⟨_, .str z, h, ⟨t, rfl⟩, fun _ _ => .str⟩
theorem gc_int {z : Int} {t : Nat} (h : mg x = some (.int z t)) : GC K mg x (.int z) := ⟨_, .int z, h, ⟨t, rfl⟩, fun _ _ => .int⟩
theorem gc_tup {a : Addr} {o : Obj} {its : Array Value} {n : Nat} {vs : List V} {ds : List D} (h : mg x = some (.ref a)) (l : K.lookup a = some o) (hc : o.cls = .type "tuple") (hd : o.data = .seq its n) (hz : its.size ≤ sizeLine) (r : Vals vs its.toList)
    (q : ∀ (cl : Nat → Addr) (I : Hp), RpL ⟨K, cl⟩ I vs ds) : GC K mg x (.tup ds) :=
  ⟨_, .ref a, h, rfl, fun cl I => .tup (.inr ⟨o, its, n, l, hc, hd, hz, r⟩) (q cl I)⟩
end
def T_asgT (Te : TrE) (tg : Tgt) : TrS := fun N ρ μ => Te ρ μ (fun s μ1 => match s with | .val d => (match setT tg d ρ with | some ρ2 => N.nx ρ2 μ1 | none => False) | .cell _ => False) (fun x μ1 => N.ex x ρ μ1)
def oNeg : OU := fun x μ k => match x with
  | .val (.int i) => k (.val (.int (-i))) μ
  | _ => False
theorem snd_neg {g : G} : USnd g oNeg (fun x H Q => ∃ i, x = .int i ∧ Q (.int (-i)) H) := by
  intro I α H μ F x dx k Q hf r o hk
  cases r with
  | cell => exact (show False from o).elim
  | val r =>
    cases r with
    | @int i => exact ⟨i, rfl, hk _ _ I α H μ (Ext.refl _ _) hf (.val .int) o⟩
    | _ => exact (show False from o).elim
/-! ### helps for the plain part -/
theorem isa_str {d : D} {t : String} (h : d.kind = some t) : isa t "str" = some (match d with | .str _ => true | _ => false) := by
  cases d with
  | obj a o => cases o <;> cases h <;> rfl
  | ty => cases h
  | ins => cases h
  | exn => cases h
  | cls => cases h
  | _ => cases h; rfl
theorem isa_int {d : D} {t : String} (h : d.kind = some t) : isa t "int" = some (match d with | .int _ => true | .bl _ => true | _ => false) := by
  cases d with
  | obj a o => cases o <;> cases h <;> rfl
  | ty => cases h
  | ins => cases h
  | exn => cases h
  | cls => cases h
  | _ => cases h; rfl
theorem isa_bool {d : D} {t : String} (h : d.kind = some t) : isa t "bool" = some (match d with | .bl _ => true | _ => false) := by
  cases d with
  | obj a o => cases o <;> cases h <;> rfl
  | ty => cases h
  | ins => cases h
  | exn => cases h
  | cls => cases h
  | _ => cases h; rfl
/-- a comprehension that maps, the store as it is -/
def IvMap (f : D → D) (xs : List D) (μ : Sto) : Nat → List D → Sto → Prop := fun i acc μ' => μ' = μ ∧ acc = (xs.take i).map f
section
variable {f : D → D} {xs acc : List D} {μ μ' : Sto} {i : Nat} {x : D}
theorem IvMap.zero : IvMap f xs μ 0 [] μ := ⟨rfl, rfl⟩
theorem IvMap.le (h : IvMap f xs μ i acc μ') : acc.length ≤ i := by
  rw [h.2, List.length_map, List.length_take]
  exact Nat.min_le_left _ _
theorem IvMap.step (hx : xs[i]? = some x) (h : IvMap f xs μ i acc μ') : IvMap f xs μ (i + 1) (acc ++ [f x]) μ' := by
  refine ⟨h.1, ?_⟩
  rw [h.2, List.take_add_one, hx, List.map_append]
  rfl
theorem IvMap.done (h : IvMap f xs μ xs.length acc μ') : acc = xs.map f := by
  rw [h.2, List.take_length]
end
/-- .. that keeps some -/
def IvFil (p : D → Bool) (f : D → D) (xs : List D) (μ : Sto) : Nat → List D → Sto → Prop := fun i acc μ' => μ' = μ ∧ acc = ((xs.take i).filter p).map f
section
variable {p : D → Bool} {f : D → D} {xs acc : List D} {μ μ' : Sto} {i : Nat} {x : D}
theorem IvFil.zero : IvFil p f xs μ 0 [] μ := ⟨rfl, rfl⟩
theorem IvFil.le (h : IvFil p f xs μ i acc μ') : acc.length ≤ i := by
  rw [h.2, List.length_map]
  refine Nat.le_trans (List.length_filter_le _ _) ?_
  rw [List.length_take]
  exact Nat.min_le_left _ _
theorem IvFil.yes (hx : xs[i]? = some x) (hp : p x = true) (h : IvFil p f xs μ i acc μ') : IvFil p f xs μ (i + 1) (acc ++ [f x]) μ' := by
  refine ⟨h.1, ?_⟩
  rw [h.2, List.take_add_one, hx, List.filter_append, List.map_append]
  show _ = _ ++ (List.filter p [x]).map f
  rw [List.filter_cons_of_pos hp]
  rfl
theorem IvFil.no (hx : xs[i]? = some x) (hp : p x = false) (h : IvFil p f xs μ i acc μ') : IvFil p f xs μ (i + 1) acc μ' := by
  refine ⟨h.1, ?_⟩
  rw [h.2, List.take_add_one, hx, List.filter_append]
  show _ = (_ ++ List.filter p [x]).map f
  rw [List.filter_cons_of_neg (by rw [hp]; decide)]
  simp
theorem IvFil.done (h : IvFil p f xs μ xs.length acc μ') : acc = (xs.filter p).map f := by
  rw [h.2, List.take_length]
end
theorem mapM_bl_map {β : Type} (f : β → Bool) : ∀ xs : List β, (xs.map fun x => D.bl (f x)).mapM bl? = some (xs.map f)
  | [] => rfl
  | x :: r => by
    rw [List.map_cons, List.mapM_cons, mapM_bl_map f r]
    rfl
theorem mapM_int_map : ∀ ns : List Int, (ns.map D.int).mapM int? = some ns
  | [] => rfl
  | x :: r => by
    rw [List.map_cons, List.mapM_cons, mapM_int_map r]
    rfl
theorem cutL_map {β γ : Type} (f : β → γ) (xs : List β) (lo hi : Option Int) : cutL (xs.map f) lo hi = (cutL xs lo hi).map f := by
  unfold cutL
  rw [List.length_map, List.map_take, List.map_drop]
theorem pyL_ints : ∀ ns : List Int, D.pyL (ns.map D.int) = some (ns.map PyData.int)
  | [] => rfl
  | x :: r => by
    show (match D.py (.int x), D.pyL (r.map D.int) with | some a, some b => some (a :: b) | _, _ => none) = _
    rw [pyL_ints r]
    rfl
theorem py_ints (ns : List Int) : (D.lst (ns.map D.int)).py = some (.list (ns.map PyData.int)) := by
  show (D.pyL (ns.map D.int)).map PyData.list = _
  rw [pyL_ints]
  rfl
theorem shaped_int : ∀ ns : List Int, SeqAt.shaped (.list (ns.map PyData.int)) = true := by
  have h1 : ∀ ns : List Int, PyData.canLayAll0 (ns.map PyData.int) = true := fun ns => by
    induction ns with
    | nil => rfl
    | cons n r ih => exact ih
  have h2 : ∀ ns : List Int, PyData.depthAll (ns.map PyData.int) = 0 := fun ns => by
    induction ns with
    | nil => rfl
    | cons n r ih =>
      show max 0 (PyData.depthAll (r.map PyData.int)) = 0
      rw [ih]
      rfl
  intro ns
  show (PyData.canLayAll0 (ns.map PyData.int) && decide (PyData.depthAll (ns.map PyData.int) + 1 ≤ 64)) = true
  rw [h1, h2]
  rfl
theorem eqD_nil (f : Bool → Bool) (ns : List Int) (k : Bool → Prop) : eqD f (.lst (ns.map D.int)) (.lst []) k = k (f ns.isEmpty) := by
  show (match (D.lst (ns.map D.int)).py, (D.lst []).py with | some p, some q => SeqAt.shaped p = true ∧ SeqAt.shaped q = true ∧ k (f (PyData.eqv p q)) | _, _ => False) = _
  rw [py_ints]
  show (SeqAt.shaped (.list (ns.map PyData.int)) = true ∧ SeqAt.shaped (.list []) = true ∧ k (f (PyData.eqvAll (ns.map PyData.int) []))) = _
  have e : PyData.eqvAll (ns.map PyData.int) [] = ns.isEmpty := by cases ns <;> rfl
  rw [e]
  exact propext ⟨fun z => z.2.2, fun z => ⟨shaped_int ns, rfl, z⟩⟩
theorem eqD_nn (f : Bool → Bool) (k : Bool → Prop) : eqD f (.lst []) (.lst []) k = k (f true) := eqD_nil f [] k
theorem eqD_cn (f : Bool → Bool) (g : Int) (r : List Int) (k : Bool → Prop) : eqD f (.lst (.int g :: r.map D.int)) (.lst []) k = k (f false) := eqD_nil f (g :: r) k
theorem eqD_int (f : Bool → Bool) (a b : Int) (k : Bool → Prop) : eqD f (.int a) (.int b) k = k (f (decide (a = b))) := by
  show (scal (.int a) (.int b) = true ∧ k (f (decide (V.int a = V.int b)))) = _
  have e : decide (V.int a = V.int b) = decide (a = b) := by
    by_cases h : a = b
    · rw [decide_eq_true h, decide_eq_true (by rw [h])]
    · rw [decide_eq_false h, decide_eq_false (fun z => h (by cases z; rfl))]
  rw [e]
  exact propext ⟨fun z => z.2, fun z => ⟨rfl, z⟩⟩
theorem eqD_str (f : Bool → Bool) (a b : Str) (k : Bool → Prop) : eqD f (.str a) (.str b) k = k (f (decide (a = b))) := by
  show (scal (.str a) (.str b) = true ∧ k (f (decide (V.str a = V.str b)))) = _
  have e : decide (V.str a = V.str b) = decide (a = b) := by
    by_cases h : a = b
    · rw [decide_eq_true h, decide_eq_true (by rw [h])]
    · rw [decide_eq_false h, decide_eq_false (fun z => h (by cases z; rfl))]
  rw [e]
  exact propext ⟨fun z => z.2, fun z => ⟨rfl, z⟩⟩
theorem mapM_sls : ∀ gs : List Int, (intSls gs).mapM valD? = some (gs.map D.int)
  | [] => rfl
  | x :: r => by
    show (List.cons (Sl.val (.int x)) (intSls r)).mapM valD? = _
    rw [List.mapM_cons, mapM_sls r]
    rfl
theorem now_sls {μ : Sto} {j : Nat} {gs : List Int} (h : μ[j]? = some (.lst (intSls gs))) : nowD μ (.cell j) = some (.lst (gs.map D.int)) := by
  show (match μ[j]? with | some (.lst xs) => (xs.mapM valD?).map D.lst | _ => none) = _
  rw [h]
  show ((intSls gs).mapM valD?).map D.lst = _
  rw [mapM_sls]
  rfl
theorem now_val (μ : Sto) (d : D) : nowD μ (.val d) = some d := rfl
theorem atI_hd {β : Type} (a : β) (r : List β) : atI (a :: r) 0 = some a := by
  unfold atI
  have e : ixN (a :: r).length 0 = some 0 := by
    unfold ixN
    rw [if_pos (Int.le_refl 0), if_pos (by simp)]
    rfl
  rw [e]
  rfl
theorem atI_pos {β : Type} {xs : List β} {i : Int} (h0 : 0 ≤ i) (h1 : i < xs.length) : ∃ x, xs[i.toNat]? = some x ∧ atI xs i = some x := by
  have hl : i.toNat < xs.length := by omega
  refine ⟨xs[i.toNat], List.getElem?_eq_getElem hl, ?_⟩
  unfold atI
  have e : ixN xs.length i = some i.toNat := by
    unfold ixN
    rw [if_pos h0, if_pos h1]
  rw [e]
  exact List.getElem?_eq_getElem hl
theorem str_app (a b : Str) : (a ++ b).cps.toList = a.cps.toList ++ b.cps.toList := by
  show (a.cps ++ b.cps).toList = _
  exact Array.toList_append
theorem str_len (a b : Str) : (a ++ b).length = a.length + b.length := by
  show (a.cps ++ b.cps).size = _
  exact Array.size_append
theorem cps_len (z : Str) : z.cps.toList.length = z.length := Array.length_toList
theorem cutS_len (z : Str) (lo hi : Option Int) : (cutS z lo hi).length ≤ z.length := by
  rw [← cps_len, ← cps_len]
  show (((z.cps.toList.drop _).take _).toArray).toList.length ≤ _
  rw [List.length_take, List.length_drop]
  omega
/-- some item of a list of data -/
theorem ix_some {xs : List D} {i : Int} (P : D → Prop) (h : ∀ x ∈ xs, P x) (h0 : 0 ≤ i) (h1 : i < xs.length) : ∃ x, atI xs i = some x ∧ P x := by
  obtain ⟨x, e1, e2⟩ := atI_pos h0 h1
  exact ⟨x, e2, h x (List.mem_of_getElem? e1)⟩
theorem range_at {lo : Int} {n i : Nat} {x : D} (h : (rangeD lo n)[i]? = some x) : x = .int (lo + i) ∧ i < n := by
  unfold rangeD at h
  rw [List.getElem?_map] at h
  cases e : (List.range n)[i]? with
  | none => rw [e] at h; cases h
  | some j =>
    rw [e] at h
    cases h
    obtain ⟨h1, h2⟩ := List.getElem?_eq_some_iff.mp e
    rw [List.length_range] at h1
    rw [List.getElem_range] at h2
    exact ⟨by rw [h2], h1⟩
theorem range_len (lo : Int) (n : Nat) : (rangeD lo n).length = n := by simp [rangeD]
/-- what repr asks of plain data -/
def okR (d : D) (s : Str) : Prop := ∃ p, d.py = some p ∧ p.showable = true ∧ p.hasDict = false ∧ p.depth ≤ 60 ∧ p.shown.length ≤ sizeLine ∧ s = p.shown
theorem oRepr_go {d : D} {s : Str} {μ : Sto} {k : KE} (h : okR d s) (q : k (.val (.str s)) μ) : oRepr [.val d] μ k := by
  obtain ⟨p, h1, h2, h3, h4, h5, rfl⟩ := h
  show (match d.py with | some p => p.showable = true ∧ p.hasDict = false ∧ p.depth ≤ 60 ∧ p.shown.length ≤ sizeLine ∧ k (.val (.str p.shown)) μ | none => False)
  rw [h1]
  exact ⟨h2, h3, h4, h5, q⟩
theorem okR_b2 (a b : Bool) : okR (.lst [.bl a, .bl b]) (PyData.list [.bool a, .bool b]).shown := by
  refine ⟨_, rfl, ?_, ?_, ?_, ?_, rfl⟩
  all_goals cases a <;> cases b <;> decide +kernel
theorem lg9 {s : Int} (h0 : 0 ≤ s) (h1 : s < 9223372036854775808) : s.natAbs.log2 < 9000 := by
  have h : s.natAbs < 2 ^ 63 := by omega
  by_cases hz : s.natAbs = 0
  · rw [hz]
    decide
  · exact Nat.lt_trans ((Nat.log2_lt hz).mpr h) (by decide)
theorem sIx_one {β : Type} (x : β) (r : List β) (d : Nat) : HT.sIx (x :: r).length d (some 1) = 1 := by
  have z := HT.sIx_nat (x :: r).length d 1
  rw [Nat.min_eq_left (by simp)] at z
  exact z
theorem cutL_head {β : Type} (xs : List β) : cutL xs none (some 1) = xs.take 1 := by
  cases xs with
  | nil => rfl
  | cons x r =>
    unfold cutL
    rw [sIx_one, HT.sIx_none]
    rfl
theorem cutL_tail {β : Type} (x : β) (r : List β) : cutL (x :: r) (some 1) none = r := by
  unfold cutL
  rw [sIx_one, HT.sIx_none, List.length_cons, Nat.add_sub_cancel]
  exact List.take_length ..
end Dv
/-! Dv10: instances: fields, methods, making; calls with defaults. -/
namespace Dv
open PySem PySem.Spec PyProof.Rows L2
/-! ### fields -/
/-- the class with the number c, and a name that it leaves to its instances -/
structure CF (K : PySem.W.Frag) (C : Addr) (f : Str) : Prop where
  cls : Cls K C
  no : NoAttr K C f
def T_fld (c : Nat) (f : Str) (Ta : TrE) : TrE := fun ρ μ k E => Ta ρ μ (fun s μ1 => match s with
  | .val (.ins _ c' fs) => c' = c ∧ match fs.lookup f with | some d => k (.val d) μ1 | none => False
  | .cell j => match μ1[j]? with
    | some (.ins c' fs) => c' = c ∧ match fs.lookup f with | some d => k d μ1 | none => False
    | _ => False
  | _ => False) E
theorem RpSF.lookup {g : G} {I : Hp} {α : List Addr} : ∀ {vs : List (Str × V)} {ds : List (Str × Sl)} {f : Str} {d : Sl}, RpSF g I α vs ds → ds.lookup f = some d → ∃ v, vs.lookup f = some v ∧ RpS g I α v d
  | _, _, f, d, .nil, h => by cases h
  | _, _, f, d, .cons (f := f') r t, h => by
    by_cases e : f = f'
    · subst e
      rw [List.lookup_cons_self] at h
      cases h
      exact ⟨_, List.lookup_cons_self, r⟩
    · have q : (f == f') = false := by simpa using e
      rw [List.lookup_cons, q] at h
      obtain ⟨v, h1, h2⟩ := RpSF.lookup (f := f) t h
      exact ⟨v, by rw [List.lookup_cons, q]; exact h1, h2⟩
theorem RpSF.length {g : G} {I : Hp} {α : List Addr} : ∀ {vs : List (Str × V)} {ds : List (Str × Sl)}, RpSF g I α vs ds → vs.length = ds.length
  | _, _, .nil => rfl
  | _, _, .cons _ t => congrArg Nat.succ (RpSF.length t)
def putS (f : Str) (v : Sl) : List (Str × Sl) → List (Str × Sl)
  | [] => [(f, v)]
  | (g, x) :: r => if g = f then (g, v) :: r else (g, x) :: putS f v r
theorem RpSF.put {g : G} {I : Hp} {α : List Addr} {f : Str} {v : V} {d : Sl} (r : RpS g I α v d) : ∀ {vs : List (Str × V)} {ds : List (Str × Sl)}, RpSF g I α vs ds → RpSF g I α (putF f v vs) (putS f d ds)
  | _, _, .nil => .cons r .nil
  | _, _, .cons (f := f') (v := w) (d := e) (vs := vs) (fs := ds) q t => by
    show RpSF g I α (if f' = f then (f', v) :: vs else (f', w) :: putF f v vs) (if f' = f then (f', d) :: ds else (f', e) :: putS f d ds)
    by_cases h : f' = f
    · rw [if_pos h, if_pos h]
      exact .cons r t
    · rw [if_neg h, if_neg h]
      exact .cons q (RpSF.put r t)
section
variable {X : Cx} {cl : Nat → Addr} {W : WX} {e o value : Expr} {Te To : TrE} {f : Str} {c : Nat} {pos pos' : Pos}
theorem d_fld (hc : CF X.K (cl c) f) (he : DE X cl W e Te) (hb : attributeBase e f X.env (eval e X.env) = eval e X.env := by rfl) : DE X cl W (.Attribute e f pos) (T_fld c f Te) := by
  refine PE.of (pe_fld he hb) fun σ H Q h => ?_
  obtain ⟨I, α, ρ, μ, F, k, E, hf, en, t, hk, hx⟩ := h
  refine lift_go hf en t (fun v d I1 α1 H1 μ1 x1 hf1 r1 t1 => ?_) hx
  cases r1 with
  | @cell j a h =>
    have t2 : (match μ1[j]? with | some (.ins c' fs) => c' = c ∧ (match fs.lookup f with | some d => k d μ1 | none => False) | _ => False) := t1
    cases q : μ1[j]? with
    | none => rw [q] at t2; exact t2.elim
    | some m =>
      rw [q] at t2
      cases m with
      | ins c' fs =>
        obtain ⟨ec, t3⟩ := t2
        subst ec
        obtain ⟨fp, ha, _, dx, vs, hv, hr⟩ := hf1.cell h q
        cases z : fs.lookup f with
        | none => rw [z] at t3; exact t3.elim
        | some d =>
          rw [z] at t3
          obtain ⟨w, h1, h2⟩ := hr.lookup z
          exact ⟨a, cl c', dx, vs, w, rfl, hv, hc.cls, hc.no, h1, hk _ _ I1 α1 H1 μ1 x1 hf1 h2 t3⟩
      | _ => exact (show False from t2).elim
  | val r =>
    cases r with
    | @ins a c' dx vs fs hi rf =>
      obtain ⟨ec, t3⟩ := t1
      subst ec
      cases z : fs.lookup f with
      | none => rw [z] at t3; exact t3.elim
      | some d =>
        rw [z] at t3
        obtain ⟨w, h1, h2⟩ := rf.lookup z
        exact ⟨a, cl c', dx, vs, w, rfl, hf1.sub _ _ hi, hc.cls, hc.no, h1, hk _ _ I1 α1 H1 μ1 x1 hf1 (.val h2) t3⟩
    | _ => exact (show False from t1).elim
def T_setF (c : Nat) (f : Str) (Te To : TrE) : TrS := fun N ρ μ => Te ρ μ (fun y μ1 => To ρ μ1 (fun s μ2 => match s with
  | .cell j => match μ2[j]? with
    | some (.ins c' fs) => c' = c ∧ fs.length < 900 ∧ N.nx ρ (μ2.set j (.ins c' (putS f y fs)))
    | _ => False
  | _ => False) (fun x μ2 => N.ex x ρ μ2)) (fun x μ1 => N.ex x ρ μ1)
theorem ds_fld (hc : CF X.K (cl c) f) (he : DE X cl W value Te) (ho : DE X cl W o To) (hs : swapsWith value (some (.Attribute o f pos')) pos.line X.env = pure false := by rfl) : DS X cl W (.Assign [.Attribute o f pos'] value pos) (T_setF c f Te To) := by
  refine PS.of (ps_fld ho he hs) fun D σ H h => ?_
  obtain ⟨I, α, ρ, μ, F, N, hf, en, t, n1, n2, n3, n4, n5⟩ := h
  refine lift_go hf en t (fun v d I1 α1 H1 μ1 x1 hf1 r1 t1 => ?_) (n5.at en)
  refine lift_go hf1 (en.mono x1) t1 (fun ov od I2 α2 H2 μ2 x2 hf2 r2 t2 => ?_) ((n5.mono x1).at (en.mono x1))
  cases r2 with
  | val r => cases r <;> exact (show False from t2).elim
  | @cell j a h =>
    have t3 : (match μ2[j]? with | some (.ins c' fs) => c' = c ∧ fs.length < 900 ∧ N.nx ρ (μ2.set j (.ins c' (putS f d fs))) | _ => False) := t2
    cases q : μ2[j]? with
    | none => rw [q] at t3; exact t3.elim
    | some m =>
      rw [q] at t3
      cases m with
      | ins c' fs =>
        obtain ⟨ec, hl, t4⟩ := t3
        subst ec
        obtain ⟨fp, ha, hfp, dx, vs, hv, hr⟩ := hf2.cell h q
        subst hfp
        have hf3 := hf2.put (o := .ins (cl c') dx (putF f v vs)) (m := .ins c' (putS f d fs)) ha fun H' e => ⟨rfl, dx, _, e, hr.put (r1.mono x2)⟩
        exact ⟨a, cl c', dx, vs, rfl, hv, hc.cls, hc.no, by rw [hr.length]; omega, n1 _ _ _ _ _ _ (x1.trans x2) hf3 (en.mono (x1.trans x2)) t4⟩
      | _ => exact (show False from t3).elim
end
/-! ### calls of defs of plain data, the arguments put in order, with what is filled up -/
theorem spP_go {g : G} {I : Hp} {α : Al} {H : Hp} {μ : Sto} {F : Hp} {c : CtP} {vs : List V} {ds : List Sl} {xs : List D} {k : KE} {E : KX} {Q : VK} {W : XK} (hf : Hf g I α H μ F) (r : RpSL g I (ad α) vs ds) (q : vals? ds = some xs)
    (hc : c xs (fun d => k (.val d) μ) (fun x => E x μ)) (hk : okE g I α F k Q) (hx : okX g I α F E W) : spOf g (ctP c) vs H Q W := by
  rw [vals?_eq q] at r
  refine ⟨I, [], [], asideOf α H F, xs.map Sl.val, fun s _ => ∃ d, s = .val d ∧ k (.val d) μ, fun x _ => E x μ, hf.leave, RpSL.ofL r.toL, ⟨rfl, xs, rfl, ?_⟩, fun v d I' α' H' μ' x' hf' r' t' => ?_, fun x cls dx I' α' H' μ' x' hf' er t' => ?_⟩
  · have e1 : (fun d => ∀ ν : Sto, ∃ d', (Sl.val d) = Sl.val d' ∧ k (.val d') μ) = fun d => k (.val d) μ := by
      funext d
      exact propext ⟨fun z => by obtain ⟨d', e, q⟩ := z []; cases e; exact q, fun z _ => ⟨d, rfl, z⟩⟩
    have e2 : (fun x => ∀ ν : Sto, E x μ) = fun x => E x μ := by
      funext x
      exact propext ⟨fun z => z [], fun z _ => z⟩
    show c xs (fun d => ∀ ν : Sto, ∃ d', (Sl.val d) = Sl.val d' ∧ k (.val d') μ) (fun x => ∀ ν : Sto, E x μ)
    rw [e1, e2]
    exact hc
  · obtain ⟨d', e, q'⟩ := t'
    subst e
    cases r' with
    | val r' => exact hk v _ I' α H' μ (Ext.of x'.hp _) (hf.back hf' x'.hp) (.val r') q'
  · exact hx x cls dx I' α H' μ (Ext.of x'.hp _) (hf.back hf' x'.hp) er t'
/-- what defaults fill up -/
structure Dfl (K : PySem.W.Frag) (ud : List Value) (vd : List V) (dd : List D) : Prop where
  vals : Vals vd ud
  rp : ∀ (cl : Nat → Addr) (I : Hp), RpL ⟨K, cl⟩ I vd dd
theorem Dfl.nil {K : PySem.W.Frag} : Dfl K [] [] [] := ⟨.nil, fun _ _ => .nil⟩
/-- how a def's arguments are bound, defaults among them -/
structure KD (K : PySem.W.Frag) (fd : FuncData) (ps : List Str) (n : Nat) (ks : List Str) (π : List Nat) (dd : List D) : Prop where
  ex : ∃ ud vd, Dfl K ud vd dd ∧ KBn K fd ps n ks (fun us ws => pick π (us ++ ws ++ ud)) (fun vs zs => pick π (vs ++ zs ++ vd))
theorem KD.of {K : PySem.W.Frag} {fd : FuncData} {ps : List Str} {n : Nat} {ks : List Str} {π : List Nat} (h : KB K fd ps n ks π) : KD K fd ps n ks π [] := by
  refine ⟨[], [], .nil, ?_⟩
  have e1 : (fun (us ws : List Value) => pick π (us ++ ws ++ [])) = fun us ws => pick π (us ++ ws) := by funext us ws; rw [List.append_nil]
  have e2 : (fun (us ws : List V) => pick π (us ++ ws ++ [])) = fun us ws => pick π (us ++ ws) := by funext us ws; rw [List.append_nil]
  rw [e1, e2]
  exact h
theorem kd_mk {K : PySem.W.Frag} {x qual : Str} {params : Arguments} {body : List Stmt} {scope : Scope} {f T : Addr} {fd : FuncData} {ps : List Str} {n : Nat} {ks : List Str} {π : List Nat} {kV doc pm cdv ct : Value} {an : Option Addr} {o : Obj} {ud : List Value} {m : Nat} {vd : List V} {dd : List D}
    (e : fd = PySem.W.fnOf x qual params body scope (.ref T) kV doc pm an cdv ct) (lT : K.lookup T = some o) (hd : o.data = .seq ud.toArray m) (D : Dfl K ud vd dd)
    (k : List Value → List Value → Option (Array Value) → Sem (List (Str × Value)))
    (h1 : ∀ us ws : List Value, us.length = n → ws.length = ks.length → bindArgs (PySem.W.fnOf x qual params body scope (.ref T) kV doc pm an cdv ct) ⟨us, ks.zip ws⟩ = seqItems? (.ref T) >>= k us ws)
    (h2 : ∀ us ws : List Value, us.length = n → ws.length = ks.length → k us ws (some ud.toArray) = pure (ps.zip (pick π (us ++ ws ++ ud)))) : KD K fd ps n ks π dd :=
  ⟨ud, vd, D, ⟨fun s us ws kin l1 l2 => by
    subst e
    exact PySem.W.binds_K kin rfl lT hd (h1 us ws l1 l2) (h2 us ws l1 l2), fun r1 r2 => pick_vals ((r1.append r2).append D.vals) π⟩⟩
/-- the arguments as they come: by place, by name, filled up -/
def argsOf (n m : Nat) (π : List Nat) (dd : List D) (ds es : List Sl) (go : List D → Prop) : Prop := ds.length = n ∧ es.length = m ∧ match vals? (pick π (ds ++ es ++ dd.map Sl.val)) with | some xs => go xs | none => False
def T_callD (c : CtP) (n m : Nat) (π : List Nat) (dd : List D) (Ta Tk : TrA) : TrE := fun ρ μ k E => Ta ρ μ (fun ds μ1 => Tk ρ μ1 (fun es μ2 => argsOf n m π dd ds es fun xs => c xs (fun d => k (.val d) μ2) (fun x => E x μ2)) E) E
section
variable {X : Cx} {cl : Nat → Addr} {W : WX} {n : Nat} {f : Addr} {fd : FuncData} {ps ks : List Str} {x : Str} {p pos apos : Pos} {e o : Expr} {es : List Expr} {kws : List Keyword} {π : List Nat} {dd : List D} {c : CtP} {Ta Tk : TrA} {To : TrE}
theorem args_rp {K : PySem.W.Frag} {cl : Nat → Addr} {I : Hp} {α : List Addr} {vs zs vd : List V} {ud : List Value} {ds es : List Sl} (D : Dfl K ud vd dd) (r1 : RpSL ⟨K, cl⟩ I α vs ds) (r2 : RpSL ⟨K, cl⟩ I α zs es) : RpSL ⟨K, cl⟩ I α (pick π (vs ++ zs ++ vd)) (pick π (ds ++ es ++ dd.map Sl.val)) :=
  pick_rp ((r1.append r2).append (RpSL.ofL (D.rp cl I))) π
theorem d_callD (R : Runs X f fd ps (spOf ⟨X.K, cl⟩ (ctP c))) (hx : ∀ σ, PassesAt (L2.CX X.prog X.w) X σ (fun cls d H => W cls d σ H)) (hm : X.mg x = some (.ref f)) (hk : PySem.W.keepIn X.K (.ref f) = true) (hb : KD X.K fd ps n ks π dd)
    (ha : DA X cl W (e :: es) Ta) (hkw : DK X cl W kws Tk)
    (hg : Gl X x := by rfl) (hall : (backToKw pos (keywordEach kws X.env)).all (·.1.isSome) = true := by rfl) (hks : (backToKw pos (keywordEach kws X.env)).filterMap (·.1) = ks := by rfl)
    (hdb : (x == ("__debug__" : Str)) = false := by decide) (he : starEach (e :: es) X.env = (false, eval e X.env) :: starEach es X.env := by rfl)
    (hpl : ((backTo pos (starEach (e :: es) X.env)).any (·.1) || (backToKw pos (keywordEach kws X.env)).any (·.1.isNone)) = false := by rfl) :
    DE X cl W (.Call (.Name x p) (e :: es) kws pos) (T_callD c n ks.length π dd Ta Tk) := by
  obtain ⟨ud, vd, D, hb⟩ := hb.ex
  refine PE.of (pe_callG R hg hm hk hb hx ha hkw hall hks hdb he hpl) fun σ H Q h => ?_
  obtain ⟨I, α, ρ, μ, F, k, E, hf, en, t, hk, hx⟩ := h
  refine liftA_go hf en t (fun vs ds I1 α1 H1 μ1 x1 hf1 r1 t1 => ?_) hx
  refine liftA_go hf1 (en.mono x1) t1 (fun zs es I2 α2 H2 μ2 x2 hf2 r2 t2 => ?_) (hx.mono x1)
  obtain ⟨l1, l2, t3⟩ := t2
  refine ⟨by rw [r1.length]; exact l1, by rw [r2.length]; exact l2, ?_⟩
  cases q : vals? (pick π (ds ++ es ++ dd.map Sl.val)) with
  | none => rw [q] at t3; exact t3.elim
  | some xs =>
    rw [q] at t3
    exact spP_go hf2 (args_rp D (r1.mono x2) r2) q t3 (hk.mono (x1.trans x2)) (hx.mono (x1.trans x2))
end
/-! ### methods -/
/-- o.m(..), o an instance: it comes first -/
def tMethG (C : Addr) (m : Str) (n mk : Nat) (sp : Sp) (gV : List V → List V → List V) (E : L2.St → XK) (ta : TE) (t tk : TA) : TE := fun σ H Q => ta σ H fun x H1 => ∃ a dx fs, x = .ref a ∧ H1 a = some (.ins C dx fs) ∧ fs.lookup m = none ∧
  t σ H1 fun vs H2 => tk σ H2 fun zs H3 => vs.length = n ∧ zs.length = mk ∧ sp (gV (x :: vs) zs) H3 Q (E σ)
section
variable {X : Cx} {n : Nat} {C f : Addr} {fd : FuncData} {ps ks : List Str} {sp : Sp} {E : L2.St → XK} {m : Str} {apos pos : Pos} {o e : Expr} {es : List Expr} {kws : List Keyword} {ta : TE} {t tk : TA} {gg : List Value → List Value → List Value} {gV : List V → List V → List V}
theorem pe_methG {pl : Sem Bool} (he : PE X o ta) (c : Cls X.K C) (hm : Meth X.K C m f) (R : Runs X f fd ps sp) (hb : KBn X.K fd ps (n + 1) ks gg gV) (hx : ∀ σ, PassesAt (L2.CX X.prog X.w) X σ (E σ))
    (ha : PA X (e :: es) t) (hkw : PK X kws tk) (hall : (backToKw pos (keywordEach kws X.env)).all (·.1.isSome) = true := by rfl) (hks : (backToKw pos (keywordEach kws X.env)).filterMap (·.1) = ks := by rfl)
    (hst : starEach (e :: es) X.env = (false, eval e X.env) :: starEach es X.env := by rfl)
    (hpl : ((backTo pos (starEach (e :: es) X.env)).any (·.1) || (backToKw pos (keywordEach kws X.env)).any (·.1.isNone)) = false := by rfl)
    (ht : eval (.Call (.Attribute o m apos) (e :: es) kws pos) X.env = (do
      let ov ← eval o X.env
      standAt apos.atName
      let (f, first) ← holding [ov] (getMethod ov m pl)
      callWith pos f first (backTo pos (starEach (e :: es) X.env)) (backToKw pos (keywordEach kws X.env))) := by rfl) :
    PE X (.Call (.Attribute o m apos) (e :: es) kws pos) (tMethG C m n ks.length sp gV E ta t tk) := by
  refine ⟨fun pins s σ H Q I h => ?_⟩
  refine PySem.W.methodCall_KW (pl := pl) (thn (he.run pins s σ H _ I h) fun u s1 ⟨x, H1, I1, rx, a, dx, fs, ex, ea, l, q⟩ => ?_) ht
  subst ex
  obtain rfl : u = Value.ref a := rx
  refine getmeth_ok I1 ea c hm l ?_
  refine PySem.W.callWith_KW (first := [.ref a]) (h₀ := X.base) I.ok.mod.kin hm.kp hall (thn (ha.run pos pins s1 σ H1 _ I1 q) fun us s2 ⟨vs, H2, I2, r, q2⟩ => ?_) hpl hst
  refine thn (hkw.run pos pins s2 σ H2 _ I2 q2) fun ws s3 ⟨zs, H3, I3, rz, l1, l2, q3⟩ => ⟨I3.kIn, ?_⟩
  rw [hks]
  exact run_g (vs := .ref a :: vs) (us := .ref a :: us) R hb (hx σ) I3 (.cons rfl r) rz (congrArg Nat.succ l1) l2 q3
theorem pe_methG0 {pl : Sem Bool} (he : PE X o ta) (c : Cls X.K C) (hm : Meth X.K C m f) (R : Runs X f fd ps sp) (hb : KBn X.K fd ps 1 ks gg gV) (hx : ∀ σ, PassesAt (L2.CX X.prog X.w) X σ (E σ))
    (hkw : PK X kws tk) (hall : (backToKw pos (keywordEach kws X.env)).all (·.1.isSome) = true := by rfl) (hks : (backToKw pos (keywordEach kws X.env)).filterMap (·.1) = ks := by rfl)
    (hpl : ((backTo pos (starEach [] X.env)).any (·.1) || (backToKw pos (keywordEach kws X.env)).any (·.1.isNone)) = false := by rfl)
    (ht : eval (.Call (.Attribute o m apos) [] kws pos) X.env = (do
      let ov ← eval o X.env
      standAt apos.atName
      let (f, first) ← holding [ov] (getMethod ov m pl)
      callWith pos f first (backTo pos (starEach [] X.env)) (backToKw pos (keywordEach kws X.env))) := by rfl) :
    PE X (.Call (.Attribute o m apos) [] kws pos) (tMethG C m 0 ks.length sp gV E ta tNil tk) := by
  refine ⟨fun pins s σ H Q I h => ?_⟩
  refine PySem.W.methodCall_KW (pl := pl) (thn (he.run pins s σ H _ I h) fun u s1 ⟨x, H1, I1, rx, a, dx, fs, ex, ea, l, q⟩ => ?_) ht
  subst ex
  obtain rfl : u = Value.ref a := rx
  refine getmeth_ok I1 ea c hm l ?_
  refine PySem.W.callWith_KW0 (first := [.ref a]) (h₀ := X.base) I.ok.mod.kin hm.kp hall (thn (hkw.run pos pins s1 σ H1 _ I1 q) fun ws s3 ⟨zs, H3, I3, rz, l1, l2, q3⟩ => ⟨I3.kIn, ?_⟩) hpl
  rw [hks]
  exact run_g (vs := [.ref a]) (us := [.ref a]) R hb (hx σ) I3 (.cons rfl .nil) rz rfl l2 q3
end
def T_meth (cn : Nat) (m : Str) (c : CtP) (n mk : Nat) (π : List Nat) (dd : List D) (To : TrE) (Ta Tk : TrA) : TrE := fun ρ μ k E => To ρ μ (fun s μ0 => match s with
  | .val (.ins a c' fs) => c' = cn ∧ fs.lookup m = none ∧ Ta ρ μ0 (fun ds μ1 => Tk ρ μ1 (fun es μ2 => ds.length = n ∧ es.length = mk ∧ match vals? (pick π (.val (.ins a c' fs) :: (ds ++ es ++ dd.map Sl.val))) with
    | some xs => c xs (fun d => k (.val d) μ2) (fun x => E x μ2)
    | none => False) E) E
  | _ => False) E
section
variable {X : Cx} {cl : Nat → Addr} {W : WX} {n cn : Nat} {f : Addr} {fd : FuncData} {ps ks : List Str} {m : Str} {p pos apos : Pos} {e o : Expr} {es : List Expr} {kws : List Keyword} {π : List Nat} {dd : List D} {c : CtP} {Ta Tk : TrA} {To : TrE}
theorem lift_meth {σ : L2.St} {H : Hp} {Q : VK} {ud : List Value} {vd : List V} {nk : Nat} (D : Dfl X.K ud vd dd) (h : lift ⟨X.K, cl⟩ W (T_meth cn m c n nk π dd To Ta Tk) σ H Q) :
    tMethG (cl cn) m n nk (spOf ⟨X.K, cl⟩ (ctP c)) (fun vs zs => pick π (vs ++ zs ++ vd)) (fun σ cls d H => W cls d σ H) (lift ⟨X.K, cl⟩ W To) (liftA ⟨X.K, cl⟩ W Ta) (liftA ⟨X.K, cl⟩ W Tk) σ H Q := by
  obtain ⟨I, α, ρ, μ, F, k, E, hf, en, t, hk, hx⟩ := h
  refine lift_go hf en t (fun ov od I0 α0 H0 μ0 x0 hf0 r0 t0 => ?_) hx
  cases r0 with
  | cell => exact (show False from t0).elim
  | val r0 =>
    cases r0 with
    | @ins a c' dx vs fs hi rf =>
      obtain ⟨ec, hl, t1⟩ := t0
      subst ec
      refine ⟨a, dx, vs, rfl, hf0.sub _ _ hi, rf.lookup_none hl, ?_⟩
      refine liftA_go hf0 (en.mono x0) t1 (fun ws ds I1 α1 H1 μ1 x1 hf1 r1 t2 => ?_) (hx.mono x0)
      have x01 := x0.trans x1
      refine liftA_go hf1 (en.mono x01) t2 (fun zs es I2 α2 H2 μ2 x2 hf2 r2 t3 => ?_) (hx.mono x01)
      have x02 := x01.trans x2
      obtain ⟨l1, l2, t4⟩ := t3
      refine ⟨by rw [r1.length]; exact l1, by rw [r2.length]; exact l2, ?_⟩
      cases q : vals? (pick π (Sl.val (.ins a c' fs) :: (ds ++ es ++ dd.map Sl.val))) with
      | none => rw [q] at t4; exact t4.elim
      | some xs =>
        rw [q] at t4
        have ro : RpS ⟨X.K, cl⟩ I2 (ad α2) (.ref a) (.val (.ins a c' fs)) := .val (.ins ((x1.trans x2).hp _ _ hi) (rf.mono (x1.trans x2).hp))
        have rr : RpSL ⟨X.K, cl⟩ I2 (ad α2) (pick π (.ref a :: ws ++ zs ++ vd)) (pick π (.val (.ins a c' fs) :: (ds ++ es ++ dd.map Sl.val))) := pick_rp (.cons ro (((r1.mono x2).append r2).append (RpSL.ofL (D.rp cl I2)))) π
        exact spP_go hf2 rr q t4 (hk.mono x02) (hx.mono x02)
    | _ => exact (show False from t0).elim
theorem d_meth {pl : Sem Bool} (cls : Cls X.K (cl cn)) (hm : Meth X.K (cl cn) m f) (R : Runs X f fd ps (spOf ⟨X.K, cl⟩ (ctP c))) (hx : ∀ σ, PassesAt (L2.CX X.prog X.w) X σ (fun cls d H => W cls d σ H)) (hb : KD X.K fd ps (n + 1) ks π dd)
    (ho : DE X cl W o To) (ha : DA X cl W (e :: es) Ta) (hkw : DK X cl W kws Tk)
    (hall : (backToKw pos (keywordEach kws X.env)).all (·.1.isSome) = true := by rfl) (hks : (backToKw pos (keywordEach kws X.env)).filterMap (·.1) = ks := by rfl)
    (hst : starEach (e :: es) X.env = (false, eval e X.env) :: starEach es X.env := by rfl)
    (hpl : ((backTo pos (starEach (e :: es) X.env)).any (·.1) || (backToKw pos (keywordEach kws X.env)).any (·.1.isNone)) = false := by rfl)
    (ht : eval (.Call (.Attribute o m apos) (e :: es) kws pos) X.env = (do
      let ov ← eval o X.env
      standAt apos.atName
      let (f, first) ← holding [ov] (getMethod ov m pl)
      callWith pos f first (backTo pos (starEach (e :: es) X.env)) (backToKw pos (keywordEach kws X.env))) := by rfl) :
    DE X cl W (.Call (.Attribute o m apos) (e :: es) kws pos) (T_meth cn m c n ks.length π dd To Ta Tk) := by
  obtain ⟨ud, vd, D, hb⟩ := hb.ex
  exact PE.of (pe_methG ho cls hm R hb hx ha hkw hall hks hst hpl ht) fun σ H Q h => lift_meth D h
theorem d_meth0 {pl : Sem Bool} (cls : Cls X.K (cl cn)) (hm : Meth X.K (cl cn) m f) (R : Runs X f fd ps (spOf ⟨X.K, cl⟩ (ctP c))) (hx : ∀ σ, PassesAt (L2.CX X.prog X.w) X σ (fun cls d H => W cls d σ H)) (hb : KD X.K fd ps 1 ks π dd)
    (ho : DE X cl W o To) (hkw : DK X cl W kws Tk)
    (hall : (backToKw pos (keywordEach kws X.env)).all (·.1.isSome) = true := by rfl) (hks : (backToKw pos (keywordEach kws X.env)).filterMap (·.1) = ks := by rfl)
    (hpl : ((backTo pos (starEach [] X.env)).any (·.1) || (backToKw pos (keywordEach kws X.env)).any (·.1.isNone)) = false := by rfl)
    (ht : eval (.Call (.Attribute o m apos) [] kws pos) X.env = (do
      let ov ← eval o X.env
      standAt apos.atName
      let (f, first) ← holding [ov] (getMethod ov m pl)
      callWith pos f first (backTo pos (starEach [] X.env)) (backToKw pos (keywordEach kws X.env))) := by rfl) :
    DE X cl W (.Call (.Attribute o m apos) [] kws pos) (T_meth cn m c 0 ks.length π dd To T_nil Tk) := by
  obtain ⟨ud, vd, D, hb⟩ := hb.ex
  refine PE.of (pe_methG0 ho cls hm R hb hx hkw hall hks hpl ht) fun σ H Q h => ?_
  have z := lift_meth D h
  obtain ⟨I, α, ρ, μ, F, k, E, hf, en, t, hk, hx⟩ := z
  refine ⟨I, α, ρ, μ, F, k, E, hf, en, t, fun v d I1 α1 H1 μ1 x1 hf1 r1 t1 => ?_, hx⟩
  obtain ⟨a, dx, fs, e1, e2, e3, e4⟩ := hk v d I1 α1 H1 μ1 x1 hf1 r1 t1
  refine ⟨a, dx, fs, e1, e2, e3, ?_⟩
  obtain ⟨I, α, ρ, μ, F, k, E, hf, en, t, hk, hx⟩ := e4
  exact hk [] [] I α H1 μ (Ext.refl _ _) hf .nil t
end
/-! ### a new instance -/
abbrev CtI := List D → (List (Str × D) → Prop) → (Exn → Prop) → Prop
def valF (fs : List (Str × D)) : List (Str × Sl) := fs.map fun p => (p.1, .val p.2)
theorem valF_inj : ∀ {a b : List (Str × D)}, valF a = valF b → a = b
  | [], [], _ => rfl
  | [], _ :: _, h => by cases h
  | _ :: _, [], h => by cases h
  | (f, d) :: a, (f', d') :: b, h => by
    have h' : (f, Sl.val d) :: valF a = (f', Sl.val d') :: valF b := h
    injection h' with h1 h2
    injection h1 with h3 h4
    injection h4 with h5
    rw [valF_inj h2, h3, h5]
/-- what an __init__ keeps: its cell 0 is the new instance of the class cn -/
def ctI (cn : Nat) (c : CtI) : Ct := fun ds μ k e => ∃ xs, ds = .cell 0 :: xs.map Sl.val ∧ μ = [.ins cn []] ∧ c xs (fun fs => ∀ ν, k (.val .non) (.ins cn (valF fs) :: ν)) (fun x => ∀ ν, e x ν)
theorem RpSF.toF {g : G} {I : Hp} {α : List Addr} : ∀ {vs : List (Str × V)} {fs : List (Str × D)}, RpSF g I α vs (valF fs) → RpF g I vs fs
  | _, [], .nil => .nil
  | _, _ :: _, .cons (.val r) t => .cons r (RpSF.toF t)
section
variable {g : G} {I : Hp} {α : Al} {H : Hp} {μ : Sto} {F : Hp}
/-- something that nobody speaks of -/
theorem Hf.junk {p : Addr} {o : HO} (h : Hf g I α H μ F) (hp : H p = none) : Hf g I α (upd H p o) μ F := by
  have no : ∀ b ∈ owned α, b ≠ p := fun b hb e => by
    subst e
    exact (h.own b hb).2 hp
  refine ⟨fun b u e => ?_, h.len, fun k q m e1 e2 => ?_, h.nod, fun b hb => ?_, fun b u e => ?_⟩
  · rw [upd_ne (ne_of_none (h.sub b u e) hp)]
    exact h.sub b u e
  · exact (h.sto k q m e1 e2).mono (Ext.refl _ _) fun b hb => upd_ne (no b (mem_owned e1 hb))
  · rw [upd_ne (no b hb)]
    exact h.own b hb
  · obtain ⟨h1, h2, h3⟩ := h.frm b u e
    exact ⟨by rw [upd_ne (ne_of_none h1 hp)]; exact h1, h2, h3⟩
/-- a thing of the store becomes plain -/
theorem Hf.freezeO {k : Nat} {a : Addr} {o : HO} (h : Hf g I α H μ F) (hk : α[k]? = some (a, [a])) (ha : H a = some o) :
    Hf g (upd I a o) (α.set k (a, [])) H (μ.set k .dead) F ∧ Ext I (ad α) (upd I a o) (ad (α.set k (a, []))) := by
  have hm : a ∈ owned α := mem_owned hk (List.mem_singleton.mpr rfl)
  obtain ⟨hI, hH⟩ := h.own a hm
  have hkl := (List.getElem?_eq_some_iff.mp hk).1
  have x : Same I (upd I a o) := fun b u e => by rw [upd_ne (ne_of_none e hI)]; exact e
  have os := owned_set hk h.nod
  have ea : ad (α.set k (a, [])) = ad α := by
    unfold ad
    rw [List.map_set]
    refine List.ext_getElem? fun i => ?_
    by_cases hi : k = i
    · subst hi
      rw [List.getElem?_set_self (by rw [List.length_map]; exact hkl), List.getElem?_map, hk]
      rfl
    · rw [List.getElem?_set_ne hi]
  have xx : Ext I (ad α) (upd I a o) (ad (α.set k (a, []))) := by
    rw [ea]
    exact Ext.of x _
  refine ⟨⟨fun b u e => ?_, by rw [List.length_set, List.length_set]; exact h.len, fun j q m e1 e2 => ?_, ?_, fun b hb => ?_, fun b u e => ?_⟩, xx⟩
  · by_cases hb : b = a
    · subst hb
      rw [upd_same] at e
      cases e
      exact ha
    · rw [upd_ne hb] at e
      exact h.sub b u e
  · by_cases hj : k = j
    · subst hj
      rw [List.getElem?_set_self hkl] at e1
      rw [List.getElem?_set_self (by rw [← h.len]; exact hkl)] at e2
      cases e1
      cases e2
      exact rfl
    · rw [List.getElem?_set_ne hj] at e1 e2
      exact (h.sto j q m e1 e2).mono xx fun b _ => rfl
  · have nd := h.nod
    unfold owned List.Nodup at nd ⊢
    rw [List.pairwise_flatMap] at nd ⊢
    refine ⟨fun q hq => ?_, ?_⟩
    · obtain ⟨i, hi⟩ := List.mem_iff_getElem?.mp hq
      by_cases hij : k = i
      · subst hij
        rw [List.getElem?_set_self hkl] at hi
        cases hi
        exact List.Pairwise.nil
      · rw [List.getElem?_set_ne hij] at hi
        exact nd.1 q (List.mem_of_getElem? hi)
    · rw [List.pairwise_iff_getElem]
      intro i1 i2 h1 h2 hlt u hu v hv
      rw [List.length_set] at h1 h2
      by_cases c1 : k = i1
      · subst c1
        rw [List.getElem_set_self] at hu
        cases hu
      · by_cases c2 : k = i2
        · subst c2
          rw [List.getElem_set_self] at hv
          cases hv
        · rw [List.getElem_set_ne c1] at hu
          rw [List.getElem_set_ne c2] at hv
          exact (List.pairwise_iff_getElem.mp nd.2) i1 i2 h1 h2 hlt u hu v hv
  · obtain ⟨hb1, hb2⟩ := (os b).mp hb
    obtain ⟨q1, q2⟩ := h.own b hb1
    exact ⟨by rw [upd_ne (fun z => hb2 (by rw [z]; exact List.mem_singleton.mpr rfl))]; exact q1, q2⟩
  · obtain ⟨q1, q2, q3⟩ := h.frm b u e
    refine ⟨q1, ?_, fun hb => q3 ((os b).mp hb).1⟩
    rw [upd_ne (fun z => q3 (by rw [z]; exact hm))]
    exact q2
end
/-- C(..) -/
def tMakeG (C : Addr) (n m : Nat) (sp : Sp) (gV : List V → List V → List V) (E : L2.St → XK) (t tk : TA) : TE := fun σ H Q => t σ H fun vs H1 => tk σ H1 fun zs H2 => vs.length = n ∧ zs.length = m ∧ ∀ x dx, H2 x = none → H2 dx = none → dx ≠ x →
  sp (gV (.ref x :: vs) zs) (upd (upd H2 dx (.own x)) x (.ins C dx [])) (fun v H3 => v = .non ∧ Q (.ref x) H3) (E σ)
/-- the __init__ runs at any place that has room for it -/
abbrev RunsI (X : Cx) (C f : Addr) (fd : FuncData) (ps : List Str) (sp : Sp) : Prop := ∃ k, FnOk X.prog X.w X.K X.mg X.base (L2.CX X.prog X.w) k f fd ps sp ∧ Room (k + 1) X.A
section
variable {X : Cx} {n : Nat} {C f : Addr} {fd : FuncData} {ps ks : List Str} {sp : Sp} {E : L2.St → XK} {x : Str} {p pos : Pos} {e : Expr} {es : List Expr} {kws : List Keyword} {t tk : TA} {gg : List Value → List Value → List Value} {gV : List V → List V → List V}
theorem run_makeG {pins : List (Addr × Obj)} {σ : L2.St} {H : Hp} {s : Shared} {Q : VK} {us ws : List Value} {vs zs : List V} {E : XK} (M : Mk X.K C f) (R : RunsI X C f fd ps sp) (hb : KBn X.K fd ps (n + 1) ks gg gV) (hx : PassesAt (L2.CX X.prog X.w) X σ E)
    (I : Inv X pins σ H s) (r : Vals vs us) (rz : Vals zs ws) (l1 : vs.length = n) (l2 : zs.length = ks.length)
    (h : ∀ x dx, H x = none → H dx = none → dx ≠ x → sp (gV (.ref x :: vs) zs) (upd (upd H dx (.own x)) x (.ins C dx [])) (fun v H2 => v = .non ∧ Q (.ref x) H2) E) :
    wpAny (model X.prog X.w) X.A (call (.ref C) us (ks.zip ws)) (EP X pins σ Q) X.xe s := by
  obtain ⟨k, F, hr⟩ := R
  have hq := h (s.heap.objs.size + 1) s.heap.objs.size (I.hok.fresh (Nat.le_succ _)) (I.hok.fresh (Nat.le_refl _)) (Nat.ne_of_lt (Nat.lt_succ_self _))
  have J := Inv.made (C := C) I
  have ra : Vals (V.ref (s.heap.objs.size + 1) :: vs) (Value.ref (s.heap.objs.size + 1) :: us) := .cons rfl r
  have na : (Value.ref (s.heap.objs.size + 1) :: us).length = n + 1 := congrArg Nat.succ (r.length.symm.trans l1)
  have run := F.run _ X.stack _ _ ⟨Value.ref (s.heap.objs.size + 1) :: us, ks.zip ws⟩ (gg (Value.ref (s.heap.objs.size + 1) :: us) ws) _ _ E (hr.make C us (ks.zip ws))
    (J.env0.make C us (ks.zip ws)) (hb.to _ _ ws J.kIn na (rz.length.symm.trans l2)) (hb.rel ra rz) hq
  refine wpAny_call (make_map (f := f) I.kIn M.makes M.init (beq_iff_eq.mp M.fn) (codeAny_mono run fun r s' hq' => ?_))
  cases r with
  | ok fl =>
    cases fl with
    | ret u =>
      obtain ⟨v, H', K, rv, ev, q3⟩ := J.after hq'
      subst ev
      exact ⟨rv, ⟨V.ref (s.heap.objs.size + 1), H', K, rfl, q3⟩⟩
    | next => exact False.elim hq'
    | brk => exact False.elim hq'
    | cont => exact False.elim hq'
  | error er => exact hx pins _ _ er s' J hq'
theorem pe_makeG (M : Mk X.K C f) (R : RunsI X C f fd ps sp) (hg : Gl X x) (hm : X.mg x = some (.ref C)) (hb : KBn X.K fd ps (n + 1) ks gg gV) (hx : ∀ σ, PassesAt (L2.CX X.prog X.w) X σ (E σ)) (ha : PA X (e :: es) t) (hkw : PK X kws tk)
    (hall : (backToKw pos (keywordEach kws X.env)).all (·.1.isSome) = true := by rfl) (hks : (backToKw pos (keywordEach kws X.env)).filterMap (·.1) = ks := by rfl) (hdb : (x == ("__debug__" : Str)) = false := by decide)
    (he : starEach (e :: es) X.env = (false, eval e X.env) :: starEach es X.env := by rfl) (hpl : ((backTo pos (starEach (e :: es) X.env)).any (·.1) || (backToKw pos (keywordEach kws X.env)).any (·.1.isNone)) = false := by rfl) :
    PE X (.Call (.Name x p) (e :: es) kws pos) (tMakeG C n ks.length sp gV E t tk) := by
  refine ⟨fun pins s σ H Q I h => ?_⟩
  refine wpAny_Call_Name_kw (ld_glob I hg hm ?_ hdb)
  refine PySem.W.callWith_KW (h₀ := X.base) I.ok.mod.kin M.kp hall (thn (ha.run pos pins s σ H _ I h) fun us s1 ⟨vs, H1, I1, r, q⟩ => ?_) hpl he
  refine thn (hkw.run pos pins s1 σ H1 _ I1 q) fun ws s2 ⟨zs, H2, I2, rz, l1, l2, q2⟩ => ⟨I2.kIn, ?_⟩
  rw [hks]
  exact run_makeG M R hb (hx σ) I2 r rz l1 l2 q2
theorem pe_makeG0 (M : Mk X.K C f) (R : RunsI X C f fd ps sp) (hg : Gl X x) (hm : X.mg x = some (.ref C)) (hb : KBn X.K fd ps 1 ks gg gV) (hx : ∀ σ, PassesAt (L2.CX X.prog X.w) X σ (E σ)) (hkw : PK X kws tk)
    (hall : (backToKw pos (keywordEach kws X.env)).all (·.1.isSome) = true := by rfl) (hks : (backToKw pos (keywordEach kws X.env)).filterMap (·.1) = ks := by rfl) (hdb : (x == ("__debug__" : Str)) = false := by decide)
    (hpl : ((backTo pos (starEach [] X.env)).any (·.1) || (backToKw pos (keywordEach kws X.env)).any (·.1.isNone)) = false := by rfl) :
    PE X (.Call (.Name x p) [] kws pos) (tMakeG C 0 ks.length sp gV E tNil tk) := by
  refine ⟨fun pins s σ H Q I h => ?_⟩
  refine wpAny_Call_Name_kw (ld_glob I hg hm ?_ hdb)
  refine PySem.W.callWith_KW0 (h₀ := X.base) I.ok.mod.kin M.kp hall ?_ hpl
  refine thn (hkw.run pos pins s σ H _ I h) fun ws s2 ⟨zs, H2, I2, rz, l1, l2, q2⟩ => ⟨I2.kIn, ?_⟩
  rw [hks]
  exact run_makeG (us := []) (vs := []) M R hb (hx σ) I2 .nil rz rfl l2 q2
end
/-- C(..): a new instance, plain from now on. π puts what stands behind self in order -/
def T_make (cn : Nat) (c : CtI) (n m : Nat) (π : List Nat) (dd : List D) (Ta Tk : TrA) : TrE := fun ρ μ k E => Ta ρ μ (fun ds μ1 => Tk ρ μ1 (fun es μ2 => argsOf n m π dd ds es fun xs => c xs (fun fs => ∀ a, k (.val (.ins a cn fs)) μ2) (fun x => E x μ2)) E) E
def up1 (π : List Nat) : List Nat := 0 :: π.map (· + 1)
theorem pick_up {β : Type} (a : β) (l : List β) (π : List Nat) : pick (up1 π) (a :: l) = a :: pick π l := by
  unfold up1
  show List.filterMap (fun i => (a :: l)[i]?) (0 :: π.map (· + 1)) = _
  rw [List.filterMap_cons]
  show a :: List.filterMap (fun i => (a :: l)[i]?) (π.map (· + 1)) = _
  rw [List.filterMap_map]
  rfl
section
variable {X : Cx} {cl : Nat → Addr} {W : WX} {n cn : Nat} {f : Addr} {fd : FuncData} {ps ks : List Str} {x : Str} {p pos : Pos} {e : Expr} {es : List Expr} {kws : List Keyword} {π : List Nat} {dd : List D} {c : CtI} {Ta Tk : TrA}
theorem lift_make {σ : L2.St} {H : Hp} {Q : VK} {ud : List Value} {vd : List V} {nk : Nat} (D : Dfl X.K ud vd dd) (h : lift ⟨X.K, cl⟩ W (T_make cn c n nk π dd Ta Tk) σ H Q) :
    tMakeG (cl cn) n nk (spOf ⟨X.K, cl⟩ (ctI cn c)) (fun vs zs => pick (up1 π) (vs ++ zs ++ vd)) (fun σ cls d H => W cls d σ H) (liftA ⟨X.K, cl⟩ W Ta) (liftA ⟨X.K, cl⟩ W Tk) σ H Q := by
  obtain ⟨I, α, ρ, μ, F, k, E, hf, en, t, hk, hx⟩ := h
  refine liftA_go hf en t (fun vs ds I1 α1 H1 μ1 x1 hf1 r1 t1 => ?_) hx
  refine liftA_go hf1 (en.mono x1) t1 (fun zs es I2 α2 H2 μ2 x2 hf2 r2 t2 => ?_) (hx.mono x1)
  obtain ⟨l1, l2, t3⟩ := t2
  refine ⟨by rw [r1.length]; exact l1, by rw [r2.length]; exact l2, fun a dx na nd ne => ?_⟩
  have x12 := x1.trans x2
  cases q : vals? (pick π (ds ++ es ++ dd.map Sl.val)) with
  | none => rw [q] at t3; exact t3.elim
  | some xs =>
    rw [q] at t3
    have rr := args_rp (π := π) D (r1.mono x2) r2
    rw [vals?_eq q] at rr
    have e0 : pick (up1 π) (V.ref a :: vs ++ zs ++ vd) = V.ref a :: pick π (vs ++ zs ++ vd) := pick_up (V.ref a) (vs ++ zs ++ vd) π
    show spOf ⟨X.K, cl⟩ (ctI cn c) (pick (up1 π) (V.ref a :: vs ++ zs ++ vd)) _ _ _
    rw [e0]
    have hj := (hf2.leave).junk (o := .own a) nd
    have na' : upd H2 dx (.own a) a = none := by rw [upd_ne (Ne.symm ne)]; exact na
    obtain ⟨hn, _, h0⟩ := hj.newC (o := .ins (cl cn) dx []) (m := .ins cn []) na' fun H' e => ⟨rfl, dx, [], e, .nil⟩
    refine ⟨I2, [(a, [a])], [.ins cn []], asideOf α2 H2 F, .cell 0 :: xs.map Sl.val, fun s ν => s = .val .non ∧ ∃ fs ν', ν = .ins cn (valF fs) :: ν' ∧ ∀ b, k (.val (.ins b cn fs)) μ2, fun x _ => E x μ2, hn, .cons (.cell h0) (RpSL.ofL rr.toL), ⟨xs, rfl, rfl, ?_⟩, fun v d I' α' H' μ' x' hf' r' t' => ?_, fun x cls dx' I' α' H' μ' x' hf' er t' => ?_⟩
    · have e1 : (fun fs => ∀ ν : Sto, (Sl.val Dv.D.non = Sl.val .non ∧ ∃ fs' ν', MO.ins cn (valF fs) :: ν = .ins cn (valF fs') :: ν' ∧ ∀ b, k (.val (.ins b cn fs')) μ2)) = fun fs => ∀ b, k (.val (.ins b cn fs)) μ2 := by
        funext fs
        refine propext ⟨fun z => ?_, fun z ν => ⟨rfl, fs, ν, rfl, z⟩⟩
        obtain ⟨_, fs', ν', e1, e2⟩ := z []
        have e3 : valF fs = valF fs' := by injection e1 with e1 _; injection e1
        rw [valF_inj e3]
        exact e2
      have e2 : (fun x => ∀ ν : Sto, E x μ2) = fun x => E x μ2 := by
        funext x
        exact propext ⟨fun z => z [], fun z _ => z⟩
      show c xs (fun fs => ∀ ν : Sto, (Sl.val Dv.D.non = Sl.val .non ∧ ∃ fs' ν', MO.ins cn (valF fs) :: ν = .ins cn (valF fs') :: ν' ∧ ∀ b, k (.val (.ins b cn fs')) μ2)) (fun x => ∀ ν : Sto, E x μ2)
      rw [e1, e2]
      exact t3
    · obtain ⟨e1, fs, ν', e2, e3⟩ := t'
      subst e1
      subst e2
      obtain ⟨fp, h0'⟩ := ad_get.mp (x'.ad 0 a rfl)
      obtain ⟨ef, dx', ws, hv, hr⟩ := hf'.sto 0 _ _ h0' rfl
      have ef : fp = [a] := ef
      subst ef
      obtain ⟨hz, xz⟩ := hf'.freezeO (o := .ins (cl cn) dx' ws) h0' hv
      have hb := hf2.back hz (x'.hp.trans xz.hp)
      cases r' with
      | val r' =>
        cases r'
        exact ⟨rfl, hk _ _ _ α2 H' μ2 (x12.trans (Ext.of (x'.hp.trans xz.hp) _)) hb (.val (.ins upd_same (hr.toF.mono xz.hp))) (e3 a)⟩
    · exact hx x cls dx' I' α2 H' μ2 (x12.trans (Ext.of x'.hp _)) (hf2.back hf' x'.hp) er t'
theorem d_make (M : Mk X.K (cl cn) f) (R : RunsI X (cl cn) f fd ps (spOf ⟨X.K, cl⟩ (ctI cn c))) (hx : ∀ σ, PassesAt (L2.CX X.prog X.w) X σ (fun cls d H => W cls d σ H)) (hm : X.mg x = some (.ref (cl cn))) (hb : KD X.K fd ps (n + 1) ks (up1 π) dd)
    (ha : DA X cl W (e :: es) Ta) (hkw : DK X cl W kws Tk) (hg : Gl X x := by rfl)
    (hall : (backToKw pos (keywordEach kws X.env)).all (·.1.isSome) = true := by rfl) (hks : (backToKw pos (keywordEach kws X.env)).filterMap (·.1) = ks := by rfl) (hdb : (x == ("__debug__" : Str)) = false := by decide)
    (he : starEach (e :: es) X.env = (false, eval e X.env) :: starEach es X.env := by rfl) (hpl : ((backTo pos (starEach (e :: es) X.env)).any (·.1) || (backToKw pos (keywordEach kws X.env)).any (·.1.isNone)) = false := by rfl) :
    DE X cl W (.Call (.Name x p) (e :: es) kws pos) (T_make cn c n ks.length π dd Ta Tk) := by
  obtain ⟨ud, vd, D, hb⟩ := hb.ex
  exact PE.of (pe_makeG M R hg hm hb hx ha hkw hall hks hdb he hpl) fun σ H Q h => lift_make D h
theorem d_make0 (M : Mk X.K (cl cn) f) (R : RunsI X (cl cn) f fd ps (spOf ⟨X.K, cl⟩ (ctI cn c))) (hx : ∀ σ, PassesAt (L2.CX X.prog X.w) X σ (fun cls d H => W cls d σ H)) (hm : X.mg x = some (.ref (cl cn))) (hb : KD X.K fd ps 1 ks (up1 π) dd)
    (hkw : DK X cl W kws Tk) (hg : Gl X x := by rfl)
    (hall : (backToKw pos (keywordEach kws X.env)).all (·.1.isSome) = true := by rfl) (hks : (backToKw pos (keywordEach kws X.env)).filterMap (·.1) = ks := by rfl) (hdb : (x == ("__debug__" : Str)) = false := by decide)
    (hpl : ((backTo pos (starEach [] X.env)).any (·.1) || (backToKw pos (keywordEach kws X.env)).any (·.1.isNone)) = false := by rfl) :
    DE X cl W (.Call (.Name x p) [] kws pos) (T_make cn c 0 ks.length π dd T_nil Tk) := by
  obtain ⟨ud, vd, D, hb⟩ := hb.ex
  refine PE.of (pe_makeG0 M R hg hm hb hx hkw hall hks hdb hpl) fun σ H Q h => ?_
  have z := lift_make (n := 0) D h
  obtain ⟨I, α, ρ, μ, F, k, E, hf, en, t, hk, hx⟩ := z
  exact hk [] [] I α H μ (Ext.refl _ _) hf .nil t
end
end Dv
/-! Dv11: own operators. -/
namespace Dv
open PySem PySem.Spec PyProof.Rows L2
/-! ### own + - * with an int on the right -/
section
open PySem.W
variable {prog : Program} {w : World} {A : Around} {E : Value → Shared → Prop} {s : Shared} {K : Frag} {x C L f : Addr} {h₀ : Heap} {m : Str → Option Value} {ox : Obj} {od : Option Obj}
theorem slot_own {nm : String} {M : Model} {h : Heap} (X : K.In h) (hs : findIn K (.ref C) (PySem.dunder nm) = some (some (.ref f))) (hn : findIn K (.ref C) (dunderR nm) = some none) : Looks M h (numberSlotInPython (.ref C) nm) true := by
  intro A Q E s k q
  unfold numberSlotInPython
  refine wpAny_bind (looks_findIn X hs A _ E s k ?_)
  refine wpAny_bind (wpAny_pure ?_)
  refine wpAny_bind (looks_findIn X hn A _ E s k ?_)
  refine wpAny_bind (wpAny_pure ?_)
  exact wpAny_pure q
theorem binop1_int {nm : String} {i : Int} {t : Nat} {r : Option Value} {Q : Value → Shared → Prop} (F : Fr h₀ L s.heap m) (X₀ : K.In h₀) (I : InstAt s.heap x ox C od) (hc : selfFirst K C = true)
    (hs : findIn K (.ref C) (PySem.dunder nm) = some (some (.ref f))) (hf : isFn K (.ref f) = true) (hn : findIn K (.ref C) (dunderR nm) = some none) (hsub : subIn K (.type "int") (.ref C) = some false)
    (hfill : fillsNumberSlot (.type "int") nm = pure true) (hr : typeLookup (.type "int") (dunderR nm) = pure r)
    (h : wpAny (model prog w) A (call (.ref f) [.ref x, .int i t]) (PySem.W.CmpBack Q) E s) : wpAny (model prog w) A (binaryOp1 nm (.ref x) (.int i t)) (fun r s' => ∃ v, r = some v ∧ Q v s') E s := by
  have X := X₀.keeps F.keep
  obtain ⟨cd, hcd, hm⟩ := any_some hc
  obtain ⟨rest, hm⟩ : ∃ rest, cd.mro = .ref C :: rest := by
    cases q : cd.mro with
    | nil => rw [q] at hm; cases hm
    | cons a r => rw [q] at hm; exact ⟨r, by rw [List.head?_cons] at hm; cases (beq_iff_eq.mp hm); rfl⟩
  have hti : typeOf (.int i t) = pure (.type "int") := rfl
  have nb : ((Value.ref C) == (Value.type "int")) = false := rfl
  unfold binaryOp1
  refine wpAny_bind (I.type.here (wpAny_bind ((Looks.of_pure hti).here (wpAny_bind ((fills_K X hcd hm hs).here ?_)))))
  rw [nb]
  simp only [Bool.false_eq_true, if_false]
  refine wpAny_bind ((Looks.of_pure hfill).here ?_)
  simp only [Bool.and_true, if_true]
  refine wpAny_bind ((looks_subIn X hsub).here ?_)
  simp only [Bool.false_eq_true, if_false]
  simp only [Bool.not_false, Bool.and_true, if_true]
  refine wpAny_bind ((slot_own X hs hn).here ?_)
  simp only [if_true]
  have hnp : numberSlotInPython (.type "int") nm = pure false := rfl
  refine wpAny_bind ((Looks.of_pure hnp).here ?_)
  simp only [Bool.not_false, if_true]
  refine wpAny_bind ((Looks.of_pure hr).here ?_)
  refine wpAny_bind (m := tryMethod (.ref x) _ _) ?_
  unfold tryMethod
  refine wpAny_bind (special_fn X I hs (beq_iff_eq.mp hf) (wpAny_mono h (fun v s' hv => ?_) fun _ _ e => e))
  cases v <;> first | exact hv.elim | exact wpAny_pure (wpAny_pure ⟨_, rfl, hv⟩)
theorem binop_int {op : Operator} {i : Int} {t : Nat} {r : Option Value} {Q : Value → Shared → Prop} (F : Fr h₀ L s.heap m) (X₀ : K.In h₀) (I : InstAt s.heap x ox C od) (hc : selfFirst K C = true)
    (hs : findIn K (.ref C) (PySem.dunder op.info.2) = some (some (.ref f))) (hf : isFn K (.ref f) = true) (hn : findIn K (.ref C) (dunderR op.info.2) = some none) (hsub : subIn K (.type "int") (.ref C) = some false)
    (hfill : fillsNumberSlot (.type "int") op.info.2 = pure true) (hr : typeLookup (.type "int") (dunderR op.info.2) = pure r)
    (h : wpAny (model prog w) A (call (.ref f) [.ref x, .int i t]) (PySem.W.CmpBack Q) E s) : wpAny (model prog w) A (binaryOp op (.ref x) (.int i t)) Q E s := by
  unfold binaryOp
  refine wpAny_holding (wpAny_bind (wpAny_mono (binop1_int F X₀ I hc hs hf hn hsub hfill hr h) (fun r s' hq => ?_) fun _ _ e => e))
  obtain ⟨v, rfl, q⟩ := hq
  exact wpAny_pure q
/-! ### - of an own instance -/
theorem neg_own {Q : Value → Shared → Prop} (F : Fr h₀ L s.heap m) (X₀ : K.In h₀) (I : InstAt s.heap x ox C od) (hs : findIn K (.ref C) "__neg__" = some (some (.ref f))) (hf : isFn K (.ref f) = true)
    (h : wpAny (model prog w) A (call (.ref f) [.ref x]) Q E s) : wpAny (model prog w) A (unaryOp .USub (.ref x)) Q E s := by
  have X := X₀.keeps F.keep
  unfold unaryOp
  refine wpAny_holding (wpAny_bind ?_)
  exact special_fn X I hs (beq_iff_eq.mp hf) (wpAny_mono h (fun v s' hv => wpAny_pure hv) fun _ _ e => e)
/-! ### == the other way round: the left side does not know the right one -/
theorem cmp_turned {b : Value} {ta : Value} {Q : Value → Shared → Prop} (hu : A.units < cLine) (F : Fr h₀ L s.heap m) (X₀ : K.In h₀) (I : InstAt s.heap x ox C od) (ht : Looks (model prog w) s.heap (typeOf b) ta) (hne : (ta != .ref C) = true) (hn : subIn K (.ref C) ta = some false)
    (hone : oneThing? .Eq b (.ref x) = none) (hs : findIn K (.ref C) "__eq__" = some (some (.ref f))) (hf : isFn K (.ref f) = true)
    (hb : wpAny (model prog w) A (tryCompare b "__eq__" (.ref x)) (fun r s' => r = none ∧ wpAny (model prog w) A (call (.ref f) [.ref x, b]) (PySem.W.CmpBack Q) E s' ∧ K.In s'.heap ∧ InstAt s'.heap x ox C od) E s) : wpAny (model prog w) A (richCompare .Eq b (.ref x)) Q E s := by
  have X := X₀.keeps F.keep
  unfold richCompare
  simp only [hone]
  refine wpAny_holding (wpAny_bind (wpAny_cRoomFor hu ?_))
  refine wpAny_bind (ht.here (wpAny_bind (I.type.here ?_)))
  have hne2 : (Value.ref C != ta) = true := by
    rw [bne_iff_ne] at hne ⊢
    exact fun z => hne z.symm
  rw [if_pos hne]
  refine wpAny_bind ((looks_subIn X hn).here ?_)
  simp only [Bool.false_eq_true, if_false]
  refine wpAny_bind (wpAny_mono hb (fun r s' hq => ?_) fun _ _ e => e)
  obtain ⟨rfl, h, X', I'⟩ := hq
  simp only [Bool.not_false, if_true]
  have one : wpAny (model prog w) A (tryCompare (.ref x) "__eq__" b) (fun r s' => ∃ v, r = some v ∧ Q v s') E s' := by
    unfold tryCompare
    refine wpAny_bind (ifBound_K X' I' hs hf (wpAny_mono h (fun v s' hv => ?_) fun _ _ e => e))
    cases v <;> first | exact hv.elim | exact wpAny_pure ⟨_, rfl, hv⟩
  refine wpAny_bind (wpAny_mono one (fun r s' z => ?_) fun _ _ e => e)
  obtain ⟨v, rfl, hq⟩ := z
  exact wpAny_pure hq
end
theorem int_eq_gives {C dx x : Addr} {i : Int} {t : Nat} : PySem.GivesAt (fun s => s.heap.get? x = some (PySem.W.instObj C dx)) (Builtin.«int.__eq__» ⟨[.int i t, .ref x], []⟩) (.val (Value.notImplemented)) := by
  intro prog w A R s hs h
  obtain ⟨hp, g, d, tk, os⟩ := s
  wp_walk
  exact h
section
open PySem.W
variable {prog : Program} {w : World} {A : Around} {E : Value → Shared → Prop} {s : Shared} {K : Frag} {x C L f dx : Addr} {h₀ : Heap} {m : Str → Option Value} {ox : Obj} {od : Option Obj}
theorem int_turned {i : Int} {t : Nat} {Q : Value → Shared → Prop} (hu : A.units < cLine) (F : Fr h₀ L s.heap m) (X₀ : K.In h₀) (I : InstAt s.heap x ox C od) (hx : s.heap.get? x = some (instObj C dx)) (hn : subIn K (.ref C) (.type "int") = some false)
    (hs : findIn K (.ref C) "__eq__" = some (some (.ref f))) (hf : isFn K (.ref f) = true)
    (h : wpAny (model prog w) A (call (.ref f) [.ref x, .int i t]) (PySem.W.CmpBack Q) E s) : wpAny (model prog w) A (richCompare .Eq (.int i t) (.ref x)) Q E s := by
  refine cmp_turned (ta := .type "int") hu F X₀ I (Looks.of_pure rfl) rfl hn rfl hs hf ?_
  refine wpAny_tryCompare_declines (typeIs_int _ i t) PySem.F.slot_int_eq ?_
  exact call_givesAt PySem.F.slot_int_eq (typeIs_int _ i t) PySem.F.entry_int_eq (PySem.F.args_int_eq_2 _ _) int_eq_gives hx ⟨rfl, rfl, h, X₀.keeps F.keep, I⟩
/-! ### != by an own == -/
theorem objNe_any {b : Value} {Q : Fin → Shared → Prop} (hu : A.units < cLine) (X : K.In s.heap) (I : InstAt s.heap x ox C od) (hs : findIn K (.ref C) "__eq__" = some (some (.ref f))) (hf : isFn K (.ref f) = true)
    (h : wpAny (model prog w) A (call (.ref f) [.ref x, b]) (fun v s' => ∃ c, v = .bool c ∧ Q (.done (.ret (.bool (!c)))) s') E s) : wpAny (model prog w) A (Builtin.«object.__ne__» ⟨[.ref x, b], []⟩) Q E s := by
  unfold Builtin.«object.__ne__»
  repeat (first
    | with_reducible refine wpAny_cRoomFor hu ?_
    | (refine wpAny_bind (m := callSpecialIfBound? (.ref x) (Str.ofString "__eq__") [b])
        (ifBound_K X I hs hf (wpAny_mono h (fun r s' hr => by
          obtain ⟨b, rfl, hq⟩ := hr
          repeat (first | exact hq | exact wpAny_pure hq | exact wpAny_truthy_bool hq | (refine wpAny_bind (m := truthy (.bool _)) (wpAny_truthy_bool ?_)) | wp_step)) fun _ _ e => e)))
    | wp_step)
theorem ne_bound {args : List Value} {Q : Option Value → Shared → Prop} (X : K.In s.heap) (I : InstAt s.heap x ox C od) (hn : findIn K (.ref C) "__ne__" = some (some (.builtin "object.__ne__")))
    (h : wpAny (model prog w) A (call (.builtin "object.__ne__") (.ref x :: args)) (fun v => Q (some v)) E s) : wpAny (model prog w) A (callSpecialIfBound? (.ref x) "__ne__" args) Q E s := by
  have S := PySem.F.cmp_object.ne
  simp only [callSpecialIfBound?, bindSpecialIfBound?]
  refine wpAny_holding (wpAny_bind (wpAny_bind (wpAny_bind (I.type.here ((looks_findIn X hn).here ?_)))))
  simp only [S.bind]
  refine wpAny_bind (wpAny_askSetting (wpAny_ite ?_))
  have fin : wpAny (model prog w) A (call (.builtin "object.__ne__") ([.ref x] ++ args) >>= fun v => pure (some v)) Q E s := wpAny_bind (wpAny_mono h (fun v s' h' => wpAny_pure h') fun _ _ h' => h')
  split
  · exact wpAny_bind (wpAny_pure (wpAny_pure fin))
  · exact wpAny_tryCatch (wpAny_bind (wpAny_pure (wpAny_pure fin)))
theorem ne_own {b tb : Value} {Q : Value → Shared → Prop} (hu : A.units + 1 < cLine) (F : Fr h₀ L s.heap m) (X₀ : K.In h₀) (I : InstAt s.heap x ox C od) (hb : Looks (model prog w) s.heap (typeOf b) tb) (hn : notFirst K C tb = true)
    (he : findIn K (.ref C) "__eq__" = some (some (.ref f))) (hf : isFn K (.ref f) = true) (hne : findIn K (.ref C) "__ne__" = some (some (.builtin "object.__ne__"))) (hmo : mroIn K C (.type "object") = some true)
    (h : wpAny (model prog w) A.in1 (call (.ref f) [.ref x, b]) (fun v s' => ∃ c, v = .bool c ∧ Q (.bool (!c)) s') E s) : wpAny (model prog w) A (richCompare .NotEq (.ref x) b) Q E s := by
  have X := X₀.keeps F.keep
  have one : wpAny (model prog w) A (tryCompare (.ref x) "__ne__" b) (fun r s' => ∃ v, r = some v ∧ Q v s') E s := by
    unfold tryCompare
    refine wpAny_bind (ne_bound X I hne ?_)
    have S := PySem.F.cmp_object.ne
    have sub : Looks (model prog w) s.heap (isInstance (.ref x) (.type "object")) true := I.type.andThen (looks_mroIn X hmo)
    refine wpAny_call (codeAny_call_builtin S.plain PySem.F.cmpEntry_ne (@check_slot (model prog w) _ _ s "object.__ne__" "object" "__ne__" (.ref x) [b] [] _ PySem.F.cmpKind_ne PySem.F.cmpSplit_ne sub (PySem.F.cmpArgs_ne _ _) ?_))
    refine objNe_any (A := A.in1) (Nat.lt_of_succ_lt_succ (by exact Nat.succ_lt_succ hu)) X I he hf (wpAny_mono h (fun v s' hv => ?_) fun _ _ e => e)
    obtain ⟨c, rfl, hq⟩ := hv
    exact ⟨c, rfl, wpAny_pure ⟨_, rfl, hq⟩⟩
  unfold richCompare
  simp only [oneThing_ref]
  refine wpAny_holding (wpAny_bind (wpAny_cRoomFor (Nat.lt_of_succ_lt hu) ?_))
  refine wpAny_bind (I.type.here (wpAny_bind (hb.here ?_)))
  split
  · rename_i q
    have e : subIn K tb (.ref C) = some false := by
      rcases Bool.or_eq_true_iff.mp hn with e | e
      · rw [beq_iff_eq.mp e] at q; simp at q
      · exact beq_iff_eq.mp e
    refine wpAny_bind ((looks_subIn X e).here ?_)
    simp only [Bool.false_eq_true, if_false]
    refine wpAny_bind (wpAny_mono one (fun r s' z => ?_) fun _ _ e => e)
    obtain ⟨v, rfl, hq⟩ := z
    exact wpAny_pure hq
  · refine wpAny_bind (wpAny_pure ?_)
    simp only [Bool.false_eq_true, if_false]
    refine wpAny_bind (wpAny_mono one (fun r s' z => ?_) fun _ _ e => e)
    obtain ⟨v, rfl, hq⟩ := z
    exact wpAny_pure hq
end
end Dv
/-! Dv12: own operators over plain data; isinstance of own classes. -/
namespace Dv
open PySem PySem.Spec PyProof.Rows L2
theorem cb_of {P : Value → Shared → Prop} {z : V} {v : Value} {s' : Shared} (r : RelV z v) (h : P v s') : PySem.W.CmpBack P v s' := by
  cases z with
  | non => cases (show v = Value.none from r); exact h
  | bl b => cases (show v = Value.bool b from r); exact h
  | int i => obtain ⟨t, rfl⟩ := (show ∃ t, v = Value.int i t from r); exact h
  | str i => obtain ⟨t, rfl⟩ := (show ∃ t, v = Value.str i t from r); exact h
  | byt i => obtain ⟨t, rfl⟩ := (show ∃ t, v = Value.bytes i t from r); exact h
  | flt i => obtain ⟨t, rfl⟩ := (show ∃ t, v = Value.float i t from r); exact h
  | ref a => cases (show v = Value.ref a from r); exact h
  | ty n => cases (show v = Value.type n from r); exact h
/-- the callee runs one step further in -/
structure RunsIn (X : Cx) (f : Addr) (fd : FuncData) (ps : List Str) (sp : Sp) : Prop where
  run : ∀ (s : Shared) (H : Hp) (args : Args) (us : List Value) (vs : List V) (Q : VK) (E : XK), Env0 X.prog X.w X.K X.mg X.base X.A X.stack s H → BindsTo s fd args (ps.zip us) → Vals vs us → sp vs H Q E →
    codeAny (model X.prog X.w) X.A.in1 (.call (.ref f) args) (CR (L2.CX X.prog X.w) X.stack X.prog X.w H s Q E) s
theorem FnOk.runsIn {X : Cx} {k : Nat} {f : Addr} {fd : FuncData} {ps : List Str} {sp : Sp} (F : FnOk X.prog X.w X.K X.mg X.base (L2.CX X.prog X.w) k f fd ps sp) (hr : Room (k + 1) X.A) : RunsIn X f fd ps sp :=
  ⟨fun s H args us vs Q E e0 hb r h => F.run X.A.in1 X.stack s H args us vs Q E hr.in1 ⟨e0.frames, e0.mod, e0.bs, e0.bsz, e0.funs, e0.frf, e0.hok, e0.bare⟩ hb r h⟩
section
variable {X : Cx} {n : Nat} {f : Addr} {fd : FuncData} {ps : List Str} {sp : Sp} {gg : List Value → List Value → List Value} {gV : List V → List V → List V}
theorem run_cb {pins : List (Addr × Obj)} {σ : L2.St} {H : Hp} {s : Shared} {Q : VK} {us : List Value} {vs : List V} (R : Runs X f fd ps sp) (hb : KBn X.K fd ps n [] gg gV) (I : Inv X pins σ H s) (r : Vals vs us) (l : vs.length = n)
    (h : sp (gV vs []) H Q (fun _ _ _ => False)) : wpAny (model X.prog X.w) X.A (call (.ref f) us) (PySem.W.CmpBack (EP X pins σ Q)) X.xe s :=
  wpAny_mono (run_g (ks := []) (zs := []) (ws := []) R hb (pass0At σ) I r .nil l rfl h) (fun u s' hq => by
    obtain ⟨v, H', I', rv, q⟩ := hq
    exact cb_of rv ⟨v, H', I', rv, q⟩) fun _ _ e => e
theorem run_in {pins : List (Addr × Obj)} {σ : L2.St} {H : Hp} {s : Shared} {Q : VK} {us : List Value} {vs : List V} (R : RunsIn X f fd ps sp) (hb : KBn X.K fd ps n [] gg gV) (I : Inv X pins σ H s) (r : Vals vs us) (l : vs.length = n)
    (h : sp (gV vs []) H Q (fun _ _ _ => False)) : wpAny (model X.prog X.w) X.A.in1 (call (.ref f) us) (EP X pins σ Q) X.xe s := by
  refine wpAny_call (codeAny_mono (R.run s H ⟨us, [].zip []⟩ (gg us []) (gV vs []) Q (fun _ _ _ => False) I.env0 (hb.to s us [] I.kIn (r.length.symm.trans l) rfl) (hb.rel r .nil) h) fun r s' hq => ?_)
  cases r with
  | error e =>
    obtain ⟨_, _, _, _, _, _, _, _, _, _, _, _, z⟩ := hq
    exact z.elim
  | ok fl =>
    cases fl with
    | ret u => exact I.after hq
    | next => exact False.elim hq
    | brk => exact False.elim hq
    | cont => exact False.elim hq
end
/-- what stands in the text of a class with own operators -/
structure OB (K : PySem.W.Frag) (C f : Addr) (nm : String) : Prop where
  first : PySem.W.selfFirst K C = true
  at_ : PySem.W.findIn K (.ref C) (PySem.dunder nm) = some (some (.ref f))
  fn : PySem.W.isFn K (.ref f) = true
  nor : PySem.W.findIn K (.ref C) (dunderR nm) = some none
  sub : PySem.W.subIn K (.type "int") (.ref C) = some false
structure OE (K : PySem.W.Frag) (C f : Addr) : Prop where
  at_ : PySem.W.findIn K (.ref C) "__eq__" = some (some (.ref f))
  fn : PySem.W.isFn K (.ref f) = true
  ne : PySem.W.findIn K (.ref C) "__ne__" = some (some (.builtin "object.__ne__"))
  mo : PySem.W.mroIn K C (.type "object") = some true
  nf : ∀ t ∈ ["NoneType", "bool", "int", "str", "list", "tuple", "dict"], PySem.W.notFirst K C (.type t) = true
  ni : PySem.W.subIn K (.ref C) (.type "int") = some false
/-- the int's own side of an operator -/
structure IntSide (nm : String) : Prop where
  fill : fillsNumberSlot (.type "int") nm = pure true
  back : ∃ r, typeLookup (.type "int") (dunderR nm) = pure r
theorem int_add : IntSide "add" := ⟨PySem.F.fills_int_add, ⟨some (.builtin "int.__radd__"), by rw [typeLookup_type, builtinLookup_eq_fast]; kernel_rfl⟩⟩
theorem int_sub : IntSide "sub" := ⟨PySem.F.fills_int_sub, ⟨some (.builtin "int.__rsub__"), by rw [typeLookup_type, builtinLookup_eq_fast]; kernel_rfl⟩⟩
theorem int_mul : IntSide "mul" := ⟨PySem.F.fills_int_mul, ⟨some (.builtin "int.__rmul__"), by rw [typeLookup_type, builtinLookup_eq_fast]; kernel_rfl⟩⟩
def IsIns (H : Hp) (C : Addr) (y : V) : Prop := ∃ b dy gs, y = .ref b ∧ H b = some (.ins C dy gs)
def rOwnB (C : Addr) (sp : Sp) : R2 := fun x y H Q => IsIns H C x ∧ (IsIns H C y ∨ ∃ i, y = .int i) ∧ sp [x, y] H Q (fun _ _ _ => False)
def rOwnE (K : PySem.W.Frag) (C : Addr) (sp : Sp) : R2 := fun x y H Q => IsIns H C x ∧ (IsIns H C y ∨ ∃ t ∈ ["NoneType", "bool", "int", "str", "list", "tuple", "dict"], TyX K H y (.type t)) ∧ sp [x, y] H Q (fun _ _ _ => False)
def rOwnT (C : Addr) (sp : Sp) : R2 := fun x y H Q => (∃ i, x = .int i) ∧ IsIns H C y ∧ sp [y, x] H Q (fun _ _ _ => False)
def rOwnN (K : PySem.W.Frag) (C : Addr) (sp : Sp) : R2 := fun x y H Q => IsIns H C x ∧ (IsIns H C y ∨ ∃ t ∈ ["NoneType", "bool", "int", "str", "list", "tuple", "dict"], TyX K H y (.type t)) ∧ sp [x, y] H (fun v H' => ∃ b, v = .bl b ∧ Q (.bl (!b)) H') (fun _ _ _ => False)
abbrev kb2 (K : PySem.W.Frag) (fd : FuncData) (ps : List Str) : Prop := KB K fd ps 2 [] [0, 1]
section
variable {X : Cx} {C f : Addr} {fd : FuncData} {ps : List Str} {sp : Sp}
theorem own_look {pins : List (Addr × Obj)} {σ : L2.St} {H : Hp} {s : Shared} {y : V} {u : Value} (I : Inv X pins σ H s) (r : RelV y u) (h : IsIns H C y ∨ ∃ t ∈ ["NoneType", "bool", "int", "str", "list", "tuple", "dict"], TyX X.K H y (.type t)) (e : OE X.K C f) :
    ∃ tb, PySem.W.Looks (model X.prog X.w) s.heap (typeOf u) tb ∧ PySem.W.notFirst X.K C tb = true := by
  rcases h with ⟨b, dy, gs, rfl, hb⟩ | ⟨t, ht, ty⟩
  · cases r
    obtain ⟨mB, J, _⟩ := ins_get I.hok hb
    obtain ⟨od, J, _⟩ := J.look
    exact ⟨.ref C, J.type, by simp [PySem.W.notFirst]⟩
  · obtain ⟨P, Z, p, _⟩ := kit_of I r ty
    exact ⟨.type t, Z.ty _ _ I.kIn p, e.nf t ht⟩
theorem op_ownB {op : Operator} (o : OB X.K C f op.info.2) (i : IntSide op.info.2) (R : Runs X f fd ps sp) (hb : kb2 X.K fd ps) : OpR X (binaryOp op) (rOwnB C sp) := by
  intro pins s σ H x y v u Q I rx ry h
  obtain ⟨⟨a, dx, fs, rfl, ha⟩, hy, hsp⟩ := h
  cases rx
  obtain ⟨mA, J, _⟩ := ins_get I.hok ha
  obtain ⟨od, J, _⟩ := J.look
  obtain ⟨m, hF⟩ := I.fr
  rcases hy with ⟨b, dy, gs, rfl, hb'⟩ | ⟨j, rfl⟩
  · cases ry
    obtain ⟨mB, J', _⟩ := ins_get I.hok hb'
    obtain ⟨od', J', _⟩ := J'.look
    exact PySem.W.binop_K hF I.ok.mod.kin J J'.type o.first o.at_ o.fn (run_cb (vs := [.ref a, .ref b]) (us := [.ref a, .ref b]) R hb I (.cons rfl (.cons rfl .nil)) rfl hsp)
  · obtain ⟨t, rfl⟩ := ry
    obtain ⟨r, hr⟩ := i.back
    exact binop_int hF I.ok.mod.kin J o.first o.at_ o.fn o.nor o.sub i.fill hr (run_cb (vs := [.ref a, .int j]) (us := [.ref a, .int j t]) R hb I (.cons rfl (.cons ⟨t, rfl⟩ .nil)) rfl hsp)
theorem op_ownE (e : OE X.K C f) (R : Runs X f fd ps sp) (hb : kb2 X.K fd ps) (hu : X.A.units < cLine) : OpR X (compareOp .Eq) (rOwnE X.K C sp) := by
  intro pins s σ H x y v u Q I rx ry h
  obtain ⟨⟨a, dx, fs, rfl, ha⟩, hy, hsp⟩ := h
  cases rx
  obtain ⟨mA, J, _⟩ := ins_get I.hok ha
  obtain ⟨od, J, _⟩ := J.look
  obtain ⟨m, hF⟩ := I.fr
  obtain ⟨tb, hl, hn⟩ := own_look I ry hy e
  exact PySem.W.cmp_K (op := .Eq) hu hF I.ok.mod.kin J hl hn e.at_ e.fn (run_cb (vs := [.ref a, y]) (us := [.ref a, u]) R hb I (.cons rfl (.cons ry .nil)) rfl hsp)
theorem op_ownT (e : OE X.K C f) (R : Runs X f fd ps sp) (hb : kb2 X.K fd ps) (hu : X.A.units < cLine) : OpR X (compareOp .Eq) (rOwnT C sp) := by
  intro pins s σ H x y v u Q I rx ry h
  obtain ⟨⟨i, rfl⟩, ⟨a, dx, fs, rfl, ha⟩, hsp⟩ := h
  cases ry
  obtain ⟨t, rfl⟩ := rx
  have hat := (show ObjOk X.prog X.w H s.heap a (.ins C dx fs) from I.hok a _ ha)
  obtain ⟨_, _, _, hobj, _⟩ := hat
  obtain ⟨mA, J, _⟩ := ins_get I.hok ha
  obtain ⟨od, J, _⟩ := J.look
  obtain ⟨m, hF⟩ := I.fr
  exact int_turned hu hF I.ok.mod.kin J hobj e.ni e.at_ e.fn (run_cb (vs := [.ref a, .int i]) (us := [.ref a, .int i t]) R hb I (.cons rfl (.cons ⟨t, rfl⟩ .nil)) rfl hsp)
theorem op_ownN (e : OE X.K C f) (R : RunsIn X f fd ps sp) (hb : kb2 X.K fd ps) (hu : X.A.units + 1 < cLine) : OpR X (compareOp .NotEq) (rOwnN X.K C sp) := by
  intro pins s σ H x y v u Q I rx ry h
  obtain ⟨⟨a, dx, fs, rfl, ha⟩, hy, hsp⟩ := h
  cases rx
  obtain ⟨mA, J, _⟩ := ins_get I.hok ha
  obtain ⟨od, J, _⟩ := J.look
  obtain ⟨m, hF⟩ := I.fr
  obtain ⟨tb, hl, hn⟩ := own_look I ry hy e
  refine ne_own hu hF I.ok.mod.kin J hl hn e.at_ e.fn e.ne e.mo (wpAny_mono (run_in (vs := [.ref a, y]) (us := [.ref a, u]) R hb I (.cons rfl (.cons ry .nil)) rfl hsp) (fun w s' hq => ?_) fun _ _ e => e)
  obtain ⟨z, H', I', rz, b, ez, q⟩ := hq
  subst ez
  cases (show w = Value.bool b from rz)
  exact ⟨b, rfl, .bl (!b), H', I', rfl, q⟩
theorem un_ownG (hs : PySem.W.findIn X.K (.ref C) "__neg__" = some (some (.ref f))) (hf : PySem.W.isFn X.K (.ref f) = true) (R : Runs X f fd ps sp) (hb : KB X.K fd ps 1 [] [0]) : UnR X (unaryOp .USub) (fun x H Q => IsIns H C x ∧ sp [x] H Q (fun _ _ _ => False)) := by
  intro pins s σ H x v Q I rx h
  obtain ⟨⟨a, dx, fs, rfl, ha⟩, hsp⟩ := h
  cases rx
  obtain ⟨mA, J, _⟩ := ins_get I.hok ha
  obtain ⟨od, J, _⟩ := J.look
  obtain ⟨m, hF⟩ := I.fr
  exact neg_own hF I.ok.mod.kin J hs hf (run_g (ks := []) (zs := []) (ws := []) (vs := [.ref a]) (us := [.ref a]) R hb (pass0At σ) I (.cons rfl .nil) .nil rfl rfl hsp)
end
theorem UnR.or {X : Cx} {f : Value → Sem Value} {r r' : V → Hp → VK → Prop} (h : UnR X f r) (h' : UnR X f r') : UnR X f (fun x H Q => r x H Q ∨ r' x H Q) := fun pins s σ H x v Q I rx q => q.elim (h pins s σ H x v Q I rx) (h' pins s σ H x v Q I rx)
/-! ### over plain data -/
def D.insOf : D → Option Nat
  | .ins _ c _ => some c
  | _ => none
def oOwnB (o0 : OD) (cn : Nat) (c : CtP) : OD := fun x y μ k => match x, y with
  | .val (.ins a c' fs), .val d => c' = cn ∧ (d.insOf = some cn ∨ ∃ i, d = .int i) ∧ c [.ins a c' fs, d] (fun r => k (.val r) μ) (fun _ => False)
  | x, y => o0 x y μ k
def oOwnE (o0 : OD) (cn : Nat) (c : CtP) : OD := fun x y μ k => match x, y with
  | .val (.ins a c' fs), .val d => c' = cn ∧ (d.insOf = some cn ∨ ∃ t, d.kind = some t) ∧ c [.ins a c' fs, d] (fun r => k (.val r) μ) (fun _ => False)
  | .val (.int i), .val (.ins a c' fs) => c' = cn ∧ c [.ins a c' fs, .int i] (fun r => k (.val r) μ) (fun _ => False)
  | x, y => o0 x y μ k
def oOwnN (o0 : OD) (cn : Nat) (c : CtP) : OD := fun x y μ k => match x, y with
  | .val (.ins a c' fs), .val d => c' = cn ∧ (d.insOf = some cn ∨ ∃ t, d.kind = some t) ∧ c [.ins a c' fs, d] (fun r => ∃ b, r = .bl b ∧ k (.val (.bl (!b))) μ) (fun _ => False)
  | x, y => o0 x y μ k
def oOwnG (o0 : OU) (cn : Nat) (c : CtP) : OU := fun x μ k => match x with
  | .val (.ins a c' fs) => c' = cn ∧ c [.ins a c' fs] (fun r => k (.val r) μ) (fun _ => False)
  | x => o0 x μ k
theorem kind_mem {d : D} {t : String} (h : d.kind = some t) : t ∈ ["NoneType", "bool", "int", "str", "list", "tuple", "dict"] := by
  cases d with
  | obj a o => cases o <;> cases h <;> decide
  | ty => cases h
  | ins => cases h
  | exn => cases h
  | _ => cases h <;> decide
section
variable {g : G} {cn : Nat} {c : CtP}
theorem no_exn {I : Hp} {α : Al} {F : Hp} : okX g I α F (fun _ _ => False) (fun _ _ _ => False) := fun _ _ _ _ _ _ _ _ _ _ z => z
theorem ins_is {I H : Hp} {x : V} {d : D} (s : Same I H) (r : Rp g I x d) (h : d.insOf = some cn) : IsIns H (g.cls cn) x := by
  cases r with
  | @ins a c' dx vs fs hi rf =>
    cases h
    exact ⟨a, dx, vs, rfl, s _ _ hi⟩
  | _ => cases h
theorem snd_ownB {o0 : OD} {r0 : R2} (h0 : OSnd g o0 r0) : OSnd g (oOwnB o0 cn c) (fun x y H Q => rOwnB (g.cls cn) (spOf g (ctP c)) x y H Q ∨ r0 x y H Q) := by
  intro I α H μ F x y dx dy k Q hf rx ry o hk
  unfold oOwnB at o
  split at o
  · rename_i a c' fs d
    obtain ⟨rfl, hd, o⟩ := o
    cases rx with
    | val rx =>
      cases ry with
      | val ry =>
        refine .inl ⟨ins_is hf.sub rx rfl, ?_, spP_go hf (.cons (.val rx) (.cons (.val ry) .nil)) (rfl : vals? [.val _, .val d] = some [_, d]) o hk no_exn⟩
        rcases hd with hd | ⟨i, rfl⟩
        · exact .inl (ins_is hf.sub ry hd)
        · cases ry
          exact .inr ⟨i, rfl⟩
  · exact .inr (h0 I α H μ F x y dx dy k Q hf rx ry o hk)
theorem snd_ownE {o0 : OD} {r0 : R2} (h0 : OSnd g o0 r0) : OSnd g (oOwnE o0 cn c) (fun x y H Q => rOwnE g.K (g.cls cn) (spOf g (ctP c)) x y H Q ∨ rOwnT (g.cls cn) (spOf g (ctP c)) x y H Q ∨ r0 x y H Q) := by
  intro I α H μ F x y dx dy k Q hf rx ry o hk
  unfold oOwnE at o
  split at o
  · rename_i a c' fs d
    obtain ⟨rfl, hd, o⟩ := o
    cases rx with
    | val rx =>
      cases ry with
      | val ry =>
        refine .inl ⟨ins_is hf.sub rx rfl, ?_, spP_go hf (.cons (.val rx) (.cons (.val ry) .nil)) (rfl : vals? [.val _, .val d] = some [_, d]) o hk no_exn⟩
        rcases hd with hd | ⟨t, ht⟩
        · exact .inl (ins_is hf.sub ry hd)
        · exact .inr ⟨t, kind_mem ht, kind_ty hf.sub ry ht⟩
  · rename_i i a c' fs
    obtain ⟨rfl, o⟩ := o
    cases rx with
    | val rx =>
      cases ry with
      | val ry =>
        refine .inr (.inl ⟨?_, ins_is hf.sub ry rfl, spP_go hf (.cons (.val ry) (.cons (.val rx) .nil)) (rfl : vals? [.val _, .val (.int i)] = some [_, .int i]) o hk no_exn⟩)
        cases rx
        exact ⟨i, rfl⟩
  · exact .inr (.inr (h0 I α H μ F x y dx dy k Q hf rx ry o hk))
theorem snd_ownN {o0 : OD} {r0 : R2} (h0 : OSnd g o0 r0) : OSnd g (oOwnN o0 cn c) (fun x y H Q => rOwnN g.K (g.cls cn) (spOf g (ctP c)) x y H Q ∨ r0 x y H Q) := by
  intro I α H μ F x y dx dy k Q hf rx ry o hk
  unfold oOwnN at o
  split at o
  · rename_i a c' fs d
    obtain ⟨rfl, hd, o⟩ := o
    cases rx with
    | val rx =>
      cases ry with
      | val ry =>
        refine .inl ⟨ins_is hf.sub rx rfl, ?_, spP_go (k := fun r μ' => ∃ b, r = .val (.bl b) ∧ k (.val (.bl (!b))) μ') hf (.cons (.val rx) (.cons (.val ry) .nil)) (rfl : vals? [.val _, .val d] = some [_, d]) ?_ (fun v dd I' α' H' μ' x' hf' r' q' => ?_) no_exn⟩
        · rcases hd with hd | ⟨t, ht⟩
          · exact .inl (ins_is hf.sub ry hd)
          · exact .inr ⟨t, kind_mem ht, kind_ty hf.sub ry ht⟩
        · have e : (fun r => ∃ b, Sl.val r = .val (.bl b) ∧ k (.val (.bl (!b))) μ) = fun r => ∃ b, r = .bl b ∧ k (.val (.bl (!b))) μ := by
            funext r
            exact propext ⟨fun ⟨b, e, q⟩ => ⟨b, by cases e; rfl, q⟩, fun ⟨b, e, q⟩ => ⟨b, by rw [e], q⟩⟩
          show c _ (fun r => ∃ b, Sl.val r = .val (.bl b) ∧ k (.val (.bl (!b))) μ) _
          rw [e]
          exact o
        · obtain ⟨b, e, q⟩ := q'
          subst e
          cases r' with
          | val r' =>
            cases r'
            exact ⟨b, rfl, hk _ _ I' α' H' μ' x' hf' (.val .bl) q⟩
  · exact .inr (h0 I α H μ F x y dx dy k Q hf rx ry o hk)
theorem snd_ownG {o0 : OU} {r0 : V → Hp → VK → Prop} (h0 : USnd g o0 r0) : USnd g (oOwnG o0 cn c) (fun x H Q => (IsIns H (g.cls cn) x ∧ spOf g (ctP c) [x] H Q (fun _ _ _ => False)) ∨ r0 x H Q) := by
  intro I α H μ F x dx k Q hf rx o hk
  unfold oOwnG at o
  split at o
  · rename_i a c' fs
    obtain ⟨rfl, o⟩ := o
    cases rx with
    | val rx => exact .inl ⟨ins_is hf.sub rx rfl, spP_go hf (.cons (.val rx) .nil) (rfl : vals? [.val _] = some [_]) o hk no_exn⟩
  · exact .inr (h0 I α H μ F x dx k Q hf rx o hk)
end
/-! ### isinstance of own classes -/
/-- what must stand in the text for the class of instances -/
structure InsT (K : PySem.W.Frag) (C : Addr) : Prop where
  cls : Cls K C
  ha : PySem.W.findIn K (.ref C) "__class__" = some (some (.builtin "object.__class__"))
  hn : PySem.W.specialIn K (.builtin "object.__class__") "__get__" = some (some (.builtin "getset_descriptor.__get__"))
  tk : PySem.W.takesIn K (.builtin "object.__class__") = some true
  mo : PySem.W.mroIn K C (.type "object") = some true
structure IsiC (K : PySem.W.Frag) (cl : Nat → Addr) (C : Addr) (sub : Nat → Option Bool) : Prop where
  base : ∀ t ∈ ["NoneType", "bool", "int", "str", "list", "tuple", "dict"], PySem.W.kitOne K (.type t) (.ref C) = some false
  own : ∀ c b, sub c = some b → InsT K (cl c) ∧ PySem.W.kitOne K (.ref (cl c)) (.ref C) = some b
def T_isi (sub : Nat → Option Bool) (Ta : TrE) : TrE := fun ρ μ k E => Ta ρ μ (fun s μ1 => match s with
  | .val d => match d.insOf with
    | some c => match sub c with | some b => k (.val (.bl b)) μ1 | none => False
    | none => (∃ t, d.kind = some t) ∧ k (.val (.bl false)) μ1
  | .cell _ => False) E
theorem d_isi {X : Cx} {cl : Nat → Addr} {W : WX} {a : Expr} {Ta : TrE} {C : Addr} {y : Str} {p p2 pos : Pos} {sub : Nat → Option Bool} (S : IsiC X.K cl C sub) (hm : X.mg "isinstance" = none) (hC : X.mg y = some (.ref C)) (ha : DE X cl W a Ta)
    (hg : Gl X "isinstance" := by rfl) (hgy : Gl X y := by rfl) (hdy : (y == ("__debug__" : Str)) = false := by decide)
    (he : starEach [a, .Name y p2] X.env = (false, eval a X.env) :: starEach [.Name y p2] X.env := by rfl) (hpl : (backTo pos (starEach [.Name y p2] X.env)).any (·.1) = false := by rfl) :
    DE X cl W (.Call (.Name "isinstance" p) [a, .Name y p2] [] pos) (T_isi sub Ta) := by
  refine PE.of (pe_callB call_isi hg hm (by decide +kernel) (pa_cons ha (pa_cons (pe_glob (v := .ref C) hgy hC rfl hdy) pa_nil) he) (by decide) (by decide) he hpl) fun σ H Q h => ?_
  obtain ⟨I, α, ρ, μ, F, k, E, hf, en, t, hk, hx⟩ := h
  refine lift_go hf en t (fun v d I1 α1 H1 μ1 x1 hf1 r1 t1 => ?_) hx
  cases r1 with
  | cell => exact (show False from t1).elim
  | @val _ d r =>
    have t2 : (match d.insOf with | some c => (match sub c with | some b => k (.val (.bl b)) μ1 | none => False) | none => (∃ t, d.kind = some t) ∧ k (.val (.bl false)) μ1) := t1
    cases e : d.insOf with
    | none =>
      rw [e] at t2
      obtain ⟨⟨ty, ht⟩, q⟩ := t2
      exact ⟨_, _, .type ty, .ref C, false, rfl, .own C, kind_ty hf1.sub r ht, S.base ty (kind_mem ht), hk _ _ I1 α1 H1 μ1 x1 hf1 (.val .bl) q⟩
    | some c =>
      rw [e] at t2
      cases e2 : sub c with
      | none => simp only [e2] at t2
      | some b =>
        simp only [e2] at t2
        obtain ⟨T, hkit⟩ := S.own c b e2
        obtain ⟨a', dx, fs, rfl, hi⟩ := ins_is hf1.sub r e
        exact ⟨_, _, .ref (cl c), .ref C, b, rfl, .own C, .base (.ins hi T.cls T.ha T.hn T.tk T.mo), hkit, hk _ _ I1 α1 H1 μ1 x1 hf1 (.val .bl) t2⟩
end Dv
/-! Dv13: raise, try, several targets at once. -/
namespace Dv
open PySem PySem.Spec PyProof.Rows L2
/-! ### raise -/
section
variable {X : Cx} {C : Addr} {bmB : List Value} {B newId initId : String} {x : Str} {p pos pos' : Pos}
/-- X() -/
theorem pmk_own0 (F : ExcBaseFacts B newId initId bmB) (q : PySem.W.excIn X.K C bmB newId = true) (gC : X.mg x = some (.ref C)) (kC : PySem.W.keepIn X.K (.ref C) = true) (r : Raises X (.ref C)) (hg : Gl X x)
    (hdb : (x == ("__debug__" : Str)) = false := by decide) : PMk X (.Call (.Name x p) [] [] pos) (fun _ H Q => Q (.ref C) none H) := by
  intro pins s σ H Q I h
  refine wpAny_Call_Name_kw (ld_glob I hg gC ?_ hdb)
  refine PySem.W.callWith_K0 I.kIn kC ?_
  show wpAny _ _ (call (.ref C) []) _ _ _
  obtain ⟨bm, N, nm, qn, bs, hdct, sn, sub, ab, col, dd, k0, k1, k2, k3, k5, mN, hC, hN, hni, T⟩ := exc_obj I.kIn q
  refine wpAny_call_exc_subT F T hC hN hni (fun h' e hm => ?_) (Nat.zero_le _)
  exact mk_of I hm r h (I.hok.gone hm.new)
/-- what stands in the text for an exception class without own __init__ -/
structure Ex0 (K : PySem.W.Frag) (C : Addr) : Prop where
  exc : PySem.W.excIn K C [.type "ValueError", .type "Exception", .type "BaseException", .type "object"] "ValueError.__new__" = true
  kp : PySem.W.keepIn K (.ref C) = true
  base : PySem.W.subIn K (.ref C) (.type "BaseException") = some true
  ty : PySem.W.typeIn K (.ref C) = some (.type "type")
end
def T_raise0 (c : Nat) : TrS := fun N ρ μ => N.ex ⟨c, []⟩ ρ μ
theorem ds_raise0 {X : Cx} {cl : Nat → Addr} {W : WX} {c : Nat} {x : Str} {p pos pos' : Pos} (E : Ex0 X.K (cl c)) (tk : Takes X W) (hm : X.mg x = some (.ref (cl c))) (hc : X.calm = true := by rfl) (hg : Gl X x := by rfl) (hdb : (x == ("__debug__" : Str)) = false := by decide) :
    DS X cl W (.Raise (some (.Call (.Name x p) [] [] pos)) none pos') (T_raise0 c) := by
  refine PS.of (ps_raise hc tk (pmk_own0 PySem.F.excBase_ValueError E.exc hm E.kp (raises_own E.base E.ty) hg hdb)) fun D σ H h => ?_
  obtain ⟨I, α, ρ, μ, F, N, hf, en, t, n1, n2, n3, n4, n5⟩ := h
  exact n5 ⟨c, []⟩ (.ref (cl c)) none σ ρ I α H μ (Ext.refl _ _) hf en ⟨rfl, .inl ⟨rfl, rfl⟩⟩ t
/-- a statement that is not reached -/
def T_never : TrS := fun _ _ _ => False
theorem ds_never {X : Cx} {cl : Nat → Addr} {W : WX} {st : Stmt} : DS X cl W st T_never := ⟨fun pins s σ H D I h => by
  obtain ⟨_, _, _, _, _, _, _, _, t, _⟩ := h
  exact (show False from t).elim⟩
/-! ### try -/
def T_try (m : Nat → Option Bool) (Tb Ts : TrS) : TrS := fun N ρ μ => Tb { N with ex := fun x ρ' μ' => match m x.c with
  | some true => Ts { N with ex := fun _ _ _ => False } ρ' μ'
  | some false => N.ex x ρ' μ'
  | none => False } ρ μ
def T_tryAs (m : Nat → Option Bool) (c0 i : Nat) (Tb : TrS) (Ts : Addr → Addr → TrS) : TrS := fun N ρ μ => Tb { N with ex := fun x ρ' μ' => match m x.c with
  | some true => x.c = c0 ∧ x.fs ≠ [] ∧ ∀ a d, Ts a d { nx := fun ρ μ => N.nx (ρ.set i none) μ, rt := N.rt, bk := fun ρ μ => N.bk (ρ.set i none) μ, ct := fun ρ μ => N.ct (ρ.set i none) μ, ex := fun _ _ _ => False } (ρ'.set i (some (.val (.exn a d x.c x.fs)))) μ'
  | some false => N.ex x ρ' μ'
  | none => False } ρ μ
/-- which own exceptions a clause takes -/
def Exm (K : PySem.W.Frag) (cl : Nat → Addr) (C : Value) (m : Nat → Option Bool) : Prop := ∀ c b, m c = some b → PySem.W.exmOne K (.ref (cl c)) C = some b
theorem okY0 {g : G} {I : Hp} {α : Al} {F : Hp} {W : WX} : okY g I α F (fun _ _ _ => False) W := fun _ _ _ _ _ _ _ _ _ _ _ _ _ z => z.elim
theorem PSs.given {X : Cx} {ss : List Stmt} {t : TS} {p : Prop} (h : p → PSs X ss t) : PSs X ss (fun D σ H => p ∧ t D σ H) := ⟨fun pins s σ H D I q => (h q.1).run pins s σ H D I q.2⟩
section
variable {X : Cx} {cl : Nat → Addr} {W : WX} {x n : Str} {C : Value} {m : Nat → Option Bool} {c0 i : Nat} {body suite : List Stmt} {b₀ : Stmt} {np pos pos' : Pos} {Tb Ts : TrS} {Tw : Addr → Addr → TrS}
theorem ds_try (hc : Names X x C) (tk : Takes X W) (hM : Exm X.K cl C m)
    (hb : ∀ (W' : WX) (pn : List (Addr × Obj)) (xe : Value → Shared → Prop), Takes (X.tr pn xe) W' → PassesOwn (model X.prog X.w) X.A X.env xe → DSs (X.tr pn xe) cl W' body Tb)
    (hsu : ∀ (a : Addr) (oe : Obj) (pn : List (Addr × Obj)), DSs (X.suite a ((a, oe) :: pn)) cl W0 (b₀ :: suite) Ts) (hs : X.stack = X.env :: X.outer := by rfl) (hf : X.env.frame = some X.env.locals := by rfl) :
    DS X cl W (.Try body [.ExceptHandler (some (.Name x np)) none (b₀ :: suite) pos'] [] [] pos) (T_try m Tb Ts) := by
  refine PS.of (ps_try_only (tb := fun W => liftS ⟨X.K, cl⟩ W Tb) (ts := fun _ _ _ => liftS ⟨X.K, cl⟩ W0 Ts) hs hf hc tk hb fun a oe cls d pn _ _ => hsu a oe pn) fun D σ H h => ?_
  obtain ⟨I, α, ρ, μ, F, N, hf, en, t, n1, n2, n3, n4, n5⟩ := h
  refine ⟨I, α, ρ, μ, F, _, hf, en, t, n1, n2, n3, n4, fun x cls dx σ' ρ' I' α' H' μ' e hf' en' er q => ?_⟩
  have q' : (match m x.c with | some true => Ts { N with ex := fun _ _ _ => False } ρ' μ' | some false => N.ex x ρ' μ' | none => False) := q
  cases hm : m x.c with
  | none => rw [hm] at q'; exact q'.elim
  | some b =>
    rw [hm] at q'
    have hx := hM x.c b hm
    rw [← er.1] at hx
    cases b with
    | true => exact ⟨true, hx, fun _ a ha => ⟨I', α', ρ', μ', F, _, hf', en', q', n1.mono e, n2.mono e, n3.mono e, n4.mono e, okY0⟩, fun z => nomatch z⟩
    | false => exact ⟨false, hx, (fun z => nomatch z), fun _ => n5 x cls dx σ' ρ' I' α' H' μ' e hf' en' er q'⟩
theorem ds_tryAs (hN : X.N.Nodup) (hi : X.N[i]? = some n) (hln : X.env.kindOf n = some .local) (hc : Names X x C) (tk : Takes X W) (hM : Exm X.K cl C m)
    (hb : ∀ (W' : WX) (pn : List (Addr × Obj)) (xe : Value → Shared → Prop), Takes (X.tr pn xe) W' → PassesOwn (model X.prog X.w) X.A X.env xe → DSs (X.tr pn xe) cl W' body Tb)
    (hsu : ∀ (a dd : Addr) (oe : Obj) (pn : List (Addr × Obj)), Zc (.ref (cl c0)) (some dd) oe → (∃ vs, oe.data = .fields vs) → DSs (X.suite a ((a, oe) :: pn)) cl W0 (b₀ :: suite) (Tw a dd)) (hs : X.stack = X.env :: X.outer := by rfl) (hf : X.env.frame = some X.env.locals := by rfl) :
    DS X cl W (.Try body [.ExceptHandler (some (.Name x np)) (some n) (b₀ :: suite) pos'] [] [] pos) (T_tryAs m c0 i Tb Tw) := by
  refine PS.of (ps_try_as (tb := fun W => liftS ⟨X.K, cl⟩ W Tb) (ts := fun a cls d => fun D σ H => (cls = .ref (cl c0) ∧ ∃ dd, d = some dd) ∧ liftS ⟨X.K, cl⟩ W0 (Tw a (d.getD 0)) D σ H) hs hf hN hi hln hc tk hb fun a oe cls d pn hz hfl => PSs.given fun hp => ?_) fun D σ H h => ?_
  · obtain ⟨rfl, dd, rfl⟩ := hp
    exact hsu a dd oe pn hz hfl
  obtain ⟨I, α, ρ, μ, F, N, hf, en, t, n1, n2, n3, n4, n5⟩ := h
  refine ⟨I, α, ρ, μ, F, _, hf, en, t, n1, n2, n3, n4, fun x cls dx σ' ρ' I' α' H' μ' e hf' en' er q => ?_⟩
  have q' : (match m x.c with
    | some true => x.c = c0 ∧ x.fs ≠ [] ∧ ∀ a d, Tw a d { nx := fun ρ μ => N.nx (ρ.set i none) μ, rt := N.rt, bk := fun ρ μ => N.bk (ρ.set i none) μ, ct := fun ρ μ => N.ct (ρ.set i none) μ, ex := fun _ _ _ => False } (ρ'.set i (some (.val (.exn a d x.c x.fs)))) μ'
    | some false => N.ex x ρ' μ'
    | none => False) := q
  cases hm : m x.c with
  | none => rw [hm] at q'; exact q'.elim
  | some b =>
    rw [hm] at q'
    have hx := hM x.c b hm
    rw [← er.1] at hx
    cases b with
    | true =>
      obtain ⟨hc0, hne, q2⟩ := q'
      obtain ⟨ecls, ⟨z, _⟩ | ⟨dd, vs, edx, hdd, rf⟩⟩ := er
      · exact absurd z hne
      · subst edx
        refine ⟨true, hx, fun _ a ha => ⟨⟨by rw [ecls, hc0], dd, rfl⟩, ?_⟩, fun z => nomatch z⟩
        refine ⟨I', α', _, μ', F, _, hf', en'.set (.val (.exn hdd rf)), q2 a dd, fun σ2 ρ2 I2 α2 H2 μ2 x2 hf2 en2 q3 => n1 _ _ I2 α2 H2 μ2 (e.trans x2) hf2 en2.unset q3, fun σ2 ρ2 I2 α2 H2 μ2 x2 hf2 en2 q3 => n2 _ _ I2 α2 H2 μ2 (e.trans x2) hf2 en2.unset q3, fun σ2 ρ2 I2 α2 H2 μ2 x2 hf2 en2 q3 => n3 _ _ I2 α2 H2 μ2 (e.trans x2) hf2 en2.unset q3, n4.mono e, okY0⟩
    | false => exact ⟨false, hx, (fun z => nomatch z), fun _ => n5 x cls dx σ' ρ' I' α' H' μ' e hf' en' er q'⟩
/-- e.f in such a suite -/
def T_exf (a d : Addr) (f : Str) (Te : TrE) : TrE := fun ρ μ k E => Te ρ μ (fun s μ1 => match s with
  | .val (.exn a' d' _ fs) => a' = a ∧ d' = d ∧ match fs.lookup f with | some v => k (.val v) μ1 | none => False
  | _ => False) E
theorem d_exf {a dd : Addr} {oe : Obj} {pn : List (Addr × Obj)} {e : Expr} {f : Str} {Te : TrE} (T : XfC X.K (cl c0)) (hno : PySem.W.findIn X.K (.ref (cl c0)) f = some none) (hz : Zc (.ref (cl c0)) (some dd) oe) (hfl : ∃ vs, oe.data = .fields vs)
    (he : DE (X.suite a ((a, oe) :: pn)) cl W e Te) (hb : attributeBase e f X.env (eval e X.env) = eval e X.env := by rfl) : DE (X.suite a ((a, oe) :: pn)) cl W (.Attribute e f pos) (T_exf a dd f Te) := by
  refine PE.of (pe_xf T hno hz hfl he hb) fun σ H Q h => ?_
  obtain ⟨I, α, ρ, μ, F, k, E, hf, en, t, hk, hx⟩ := h
  refine lift_go hf en t (fun v d I1 α1 H1 μ1 x1 hf1 r1 t1 => ?_) hx
  cases r1 with
  | cell => exact (show False from t1).elim
  | val r =>
    cases r with
    | exn0 => exact (show False from t1.2.2).elim
    | @exn a' d' c vs fs hd rf =>
      obtain ⟨ea, ed, t2⟩ := t1
      subst ea
      subst ed
      cases q : fs.lookup f with
      | none => rw [q] at t2; exact t2.elim
      | some v =>
        rw [q] at t2
        obtain ⟨w, h1, h2⟩ := rf.lookup q
        exact ⟨rfl, rfl, d', vs, w, rfl, hf1.sub _ _ hd, h1, hk _ _ I1 α1 H1 μ1 x1 hf1 (.val h2) t2⟩
    | _ => exact (show False from t1).elim
end
/-! ### a, b = x, y -/
def T_par (i j : Nat) (Ta : TrA) : TrS := fun N ρ μ => Ta ρ μ (fun ds μ1 => match ds with | [x, y] => N.nx ((ρ.set i (some x)).set j (some y)) μ1 | _ => False) (fun x μ1 => N.ex x ρ μ1)
def T_par3 (i j l : Nat) (Ta : TrA) : TrS := fun N ρ μ => Ta ρ μ (fun ds μ1 => match ds with | [x, y, z] => N.nx (((ρ.set i (some x)).set j (some y)).set l (some z)) μ1 | _ => False) (fun x μ1 => N.ex x ρ μ1)
section
variable {X : Cx} {cl : Nat → Addr} {W : WX} {i j l : Nat} {x y z : Str} {a b c : Expr} {Ta : TrA} {px py pz pt pos : Pos} {kt k2 pt2}
theorem ds_par (hc : X.calm = true) (hN : X.N.Nodup) (hi : X.N[i]? = some x) (hj : X.N[j]? = some y) (hij : i ≠ j) (hx : X.env.scope.names.lookup x = some .local) (hy : X.env.scope.names.lookup y = some .local) (ha : DA X cl W [a, b] Ta)
    (hw : swappedStores [.Tuple [.Name x px, .Name y py] kt pt] (.Tuple [a, b] k2 pt2) X.env = pure (some [x, y]))
    (hs : swapsWithSole [.Tuple [.Name x px, .Name y py] kt pt] (.Tuple [a, b] k2 pt2) pos.line X.env = pure false := by rfl) :
    DS X cl W (.Assign [.Tuple [.Name x px, .Name y py] kt pt] (.Tuple [a, b] k2 pt2) pos) (T_par i j Ta) := by
  refine PS.of (ps_par hc hN hi hj hij hx hy ha hw hs) fun D σ H h => ?_
  obtain ⟨I, α, ρ, μ, F, N, hf, en, t, n1, n2, n3, n4, n5⟩ := h
  refine liftA_go hf en t (fun vs ds I1 α1 H1 μ1 x1 hf1 r1 t1 => ?_) (n5.at en)
  split at t1
  · cases r1 with
    | cons r1 r2 =>
      cases r2 with
      | cons r2 r3 =>
        cases r3
        exact ⟨_, _, rfl, n1 _ _ I1 α1 H1 μ1 x1 hf1 (((en.mono x1).set r1).set r2) t1⟩
  · exact t1.elim
theorem ds_par3 (hc : X.calm = true) (hN : X.N.Nodup) (hi : X.N[i]? = some x) (hj : X.N[j]? = some y) (hl : X.N[l]? = some z) (hij : i ≠ j) (hil : i ≠ l) (hjl : j ≠ l)
    (hx : X.env.scope.names.lookup x = some .local) (hy : X.env.scope.names.lookup y = some .local) (hz : X.env.scope.names.lookup z = some .local) (ha : DA X cl W [a, b, c] Ta)
    (hw : swappedStores [.Tuple [.Name x px, .Name y py, .Name z pz] kt pt] (.Tuple [a, b, c] k2 pt2) X.env = pure (some [x, y, z]))
    (hs : swapsWithSole [.Tuple [.Name x px, .Name y py, .Name z pz] kt pt] (.Tuple [a, b, c] k2 pt2) pos.line X.env = pure false := by rfl) :
    DS X cl W (.Assign [.Tuple [.Name x px, .Name y py, .Name z pz] kt pt] (.Tuple [a, b, c] k2 pt2) pos) (T_par3 i j l Ta) := by
  refine PS.of (ps_par3 hc hN hi hj hl hij hil hjl hx hy hz ha hw hs) fun D σ H h => ?_
  obtain ⟨I, α, ρ, μ, F, N, hf, en, t, n1, n2, n3, n4, n5⟩ := h
  refine liftA_go hf en t (fun vs ds I1 α1 H1 μ1 x1 hf1 r1 t1 => ?_) (n5.at en)
  split at t1
  · cases r1 with
    | cons r1 r2 =>
      cases r2 with
      | cons r2 r3 =>
        cases r3 with
        | cons r3 r4 =>
          cases r4
          exact ⟨_, _, _, rfl, n1 _ _ I1 α1 H1 μ1 x1 hf1 ((((en.mono x1).set r1).set r2).set r3) t1⟩
  · exact t1.elim
end
/-! ### targets within targets -/
inductive TgN where
  | nm (i : Nat) | tp (l : List TgN)
mutual
def gTg (K : PySem.W.Frag) : TgN → TG
  | .nm i => gName i
  | .tp l => gTup K l.length (gTgs K l)
def gTgs (K : PySem.W.Frag) : List TgN → TGs
  | [] => gNil
  | t :: r => gCons (gTg K t) (gTgs K r)
end
mutual
def setN : TgN → D → Rho → Option Rho
  | .nm i, d, ρ => some (ρ.set i (some (.val d)))
  | .tp l, .tup ds, ρ => setNs l ds ρ
  | .tp _, _, _ => none
def setNs : List TgN → List D → Rho → Option Rho
  | [], [], ρ => some ρ
  | t :: r, d :: ds, ρ => match setN t d ρ with
    | some ρ' => setNs r ds ρ'
    | none => none
  | _, _, _ => none
end
section
variable {g : G} {I : Hp} {α : List Addr}
theorem setNs_len : ∀ {l : List TgN} {ds : List D} {ρ ρ' : Rho}, setNs l ds ρ = some ρ' → ds.length = l.length
  | [], [], _, _, _ => rfl
  | [], _ :: _, _, _, h => by cases h
  | _ :: _, [], _, _, h => by cases h
  | t :: r, d :: ds, ρ, ρ', h => by
    unfold setNs at h
    cases q : setN t d ρ with
    | none => rw [q] at h; cases h
    | some ρ1 =>
      rw [q] at h
      exact congrArg Nat.succ (setNs_len h)
mutual
theorem gTg_go {H : Hp} {Q : L2.St → Hp → Prop} (s : Same I H) : ∀ {tg : TgN} {v : V} {d : D} {σ : L2.St} {ρ ρ' : Rho}, Rp g I v d → En g I α σ ρ → setN tg d ρ = some ρ' → (∀ σ', En g I α σ' ρ' → Q σ' H) → gTg g.K tg v σ H Q
  | .nm i, v, d, σ, ρ, ρ', r, en, e, k => by
    cases e
    exact k _ (en.set (.val r))
  | .tp l, v, d, σ, ρ, ρ', r, en, e, k => by
    cases r with
    | @tup a vs ds h rl =>
      have e' : setNs l ds ρ = some ρ' := e
      exact ⟨a, vs, rfl, sqT_same s h, by rw [rl.length]; exact setNs_len e', gTgs_go s rl en e' k⟩
    | _ => cases e
theorem gTgs_go {H : Hp} {Q : L2.St → Hp → Prop} (s : Same I H) : ∀ {l : List TgN} {vs : List V} {ds : List D} {σ : L2.St} {ρ ρ' : Rho}, RpL g I vs ds → En g I α σ ρ → setNs l ds ρ = some ρ' → (∀ σ', En g I α σ' ρ' → Q σ' H) → gTgs g.K l vs σ H Q
  | [], _, _, σ, ρ, ρ', .nil, en, e, k => by
    cases e
    exact ⟨rfl, k σ en⟩
  | [], _, _, _, _, _, .cons _ _, _, e, _ => by cases e
  | _ :: _, _, _, _, _, _, .nil, _, e, _ => by cases e
  | t :: r, _, _, σ, ρ, ρ', .cons (v := v) (d := d) (vs := vs) (ds := ds) rv rl, en, e, k => by
    unfold setNs at e
    cases q : setN t d ρ with
    | none => rw [q] at e; cases e
    | some ρ1 =>
      rw [q] at e
      exact ⟨v, vs, rfl, gTg_go s rv en q fun σ1 en1 => gTgs_go s rl en1 e k⟩
end
end
def T_asgN (Te : TrE) (tg : TgN) : TrS := fun N ρ μ => Te ρ μ (fun s μ1 => match s with | .val d => (match setN tg d ρ with | some ρ2 => N.nx ρ2 μ1 | none => False) | .cell _ => False) (fun x μ1 => N.ex x ρ μ1)
theorem ds_asgN {X : Cx} {cl : Nat → Addr} {W : WX} {e tgE : Expr} {Te : TrE} {tg : TgN} {pos : Pos} (he : DE X cl W e Te) (hg : PG X tgE (gTg X.K tg)) (hs : swapsWithSole [tgE] e pos.line X.env = pure false := by rfl) (hw : swappedStores [tgE] e X.env = pure none := by rfl)
    (h1 : (assignEach [tgE] X.env).map (·.2) = [assign tgE X.env] := by rfl) : DS X cl W (.Assign [tgE] e pos) (T_asgN Te tg) := by
  refine PS.of (ps_asg he hg hs hw h1) fun D σ H h => ?_
  obtain ⟨I, α, ρ, μ, F, N, hf, en, t, n1, n2, n3, n4, n5⟩ := h
  refine lift_go hf en t (fun v d I1 α1 H1 μ1 x1 hf1 r1 t1 => ?_) (n5.at en)
  cases r1 with
  | cell => exact (show False from t1).elim
  | @val _ d r1 =>
    have t2 : (match setN tg d ρ with | some ρ2 => N.nx ρ2 μ1 | none => False) := t1
    cases q : setN tg d ρ with
    | none => rw [q] at t2; exact t2.elim
    | some ρ2 =>
      rw [q] at t2
      exact gTg_go (g := ⟨X.K, cl⟩) hf1.sub r1 (en.mono x1) q fun σ3 en3 => n1 _ _ I1 α1 H1 μ1 x1 hf1 en3 t2
/-! ### None -/
def oIsN : OD := fun x y μ k => match x, y with
  | .val .non, .val .non => k (.val (.bl true)) μ
  | .val _, .val .non => k (.val (.bl false)) μ
  | .cell _, .val .non => k (.val (.bl false)) μ
  | _, _ => False
def oNotN : OD := fun x y μ k => match x, y with
  | .val .non, .val .non => k (.val (.bl false)) μ
  | .val _, .val .non => k (.val (.bl true)) μ
  | .cell _, .val .non => k (.val (.bl true)) μ
  | _, _ => False
end Dv
/-! Dv14: exception classes whose __init__ says super().__init__(x); self.f = x. -/
namespace Dv
open PySem PySem.Spec PyProof.Rows L2
open PySem.W (kxs_mw ks_superObj)
open NdefX (nscB nscope_by CellsAt NF ncx inv_startN startF)
section
variable {prog : Program} {w : World} {A : Around} {E : Value → Shared → Prop} {h : Heap} {g : Array GenState} {d : Drawn} {t : Nat} {os : OsState}
variable {nm q : Str} {C N : Addr} {bs bm : List Value} {hdct : Bool} {sn : List Str} {sub : List Value} {ab : Bool} {col : Option Bool} {dd : Option Addr} {k0 k1 k2 k3 k5 : Option Value}
/-- the bound ValueError.__init__ called -/
theorem call_mw {u e t0 : Addr} {rest : List Value} {Q : Value → Shared → Prop}
    (hC : h.get? C = some (excClassObj nm q C N bs bm hdct sn sub ab col dd k0 k1 k2 k3 k5 "ValueError.__new__")) (he : h.get? e = some (HandSPX.excO C t0)) (hu : h.get? u = some (kxs_mw "ValueError.__init__" e)) (hrest : rest.length ≤ sizeLine)
    (hq : ∀ h' t1, (∀ b o, b ≠ e → h.get? b = some o → h'.get? b = some o) → h'.get? e = some (HandSPX.excO C t1) → Q .none ⟨h', g, d, t, os⟩) :
    wpAny (model prog w) A (call (.ref u) rest) Q E ⟨h, g, d, t, os⟩ := by
  have FB := PySem.F.excBase_ValueError
  refine wpAny_call (codeAny_of_tree ?_)
  show wpAny _ A.in1 (callAny (.ref u) ⟨rest, []⟩) _ _ _
  simp only [callAny]
  refine wpAny_bind (wpAny_load hu ?_)
  simp only [kxs_mw, show (Value.type "method-wrapper" == Value.type "method" || Value.type "method-wrapper" == Value.type "builtin_function_or_method" || Value.type "method-wrapper" == Value.type "method-wrapper") = true by decide, if_true]
  refine W.KFB.if_so (by decide) ?_
  refine wpAny_bind (ESX.check_bound FB hC he rfl ?_)
  refine wpAny_bind (wpAny_pure (wpAny_pure ?_))
  refine ⟨Code.quiet_builtin _ (by decide +kernel), codeAny_builtin FB.initEntry ?_⟩
  rw [Around.under_plainId FB.init.plain _]
  wp_walk
  refine hq _ h.objs.size (fun b o hb ho => ?_) ?_
  · rw [Heap.get?_update_other _ _ (Ne.symm hb)]
    exact Heap.get?_push_of_some _ ho
  · rw [Heap.get?_update_self _ (Heap.get?_push_of_some _ he) rfl]
    rfl
end
/-- what stands in the text for such a class -/
structure SI (P : Program) (K : PySem.W.Frag) (C fI : Addr) (fd : FuncData) (attr : Str) (st : Stmt) : Prop where
  oex : OexC K C
  iC : PySem.W.findIn K (.ref C) "__init__" = some (some (.ref fI))
  tI : PySem.W.typeIn K (.ref fI) = some (.type "function")
  ex : ∃ (qual : Str) (oc : Value) (od : Option Addr) (kV doc pm : Value) (an : Option Addr) (cda : Addr) (ct : Value) (cc : Addr) (osl : Array (Option Value)) (ccl : Value) (cdd : Option Addr) (vs : Array Value) (ccs : Array (Option Value)) (file : Str) (tf : Nat) (cl : Value) (cld : Option Addr) (csl : Array (Option Value)),
    fd = PySem.W.ksFn "__init__" qual (defArgs st) (defBody st) (defScope st) .none kV doc pm an (.ref cda) ct cc ∧ K.lookup fI = some ⟨oc, od, .func fd, osl⟩ ∧ PySem.W.codeIn K (.ref cda) qual = true ∧
    K.lookup cda = some ⟨ccl, cdd, .fields vs, ccs⟩ ∧ vs[2]? = some (.str file tf) ∧ ((P.main.file : Str) == file) = true ∧ K.lookup cc = some ⟨cl, cld, .cell (some (.ref C)), csl⟩
  cls : ∃ cd, PySem.W.clsIn K C = some cd
  mro : PySem.W.mroIn K C (.ref C) = some true
  sup : PySem.W.ks_superIn K C C "__init__" = some (some (.builtin "ValueError.__init__"))
  subV : PySem.W.subIn K (.ref C) (.type "ValueError") = some true
  opq : PySem.W.nsIn K cStatics "thirdparty.any" = some none
  noF : PySem.W.findIn K (.ref C) attr = some none
/-- its promise: the exception under the hand gets a dict with its one attribute -/
def spSI (C : Addr) (f : Str) : Sp := fun vs H Q _ => ∃ a y, vs = [.ref a, y] ∧ H a = some (exo a C none) ∧ ∀ dx, H dx = none → dx ≠ a → Q .non (upd (upd H dx (exd dx [(f, y)])) a (exo a C (some dx)))
section
variable {P : Program} {w : World} {K : PySem.W.Frag} {mg : Str → Option Value} {base : Heap} {C fI : Addr} {fd : FuncData} {pn attr : Str} {st : Stmt} {k : Nat} {p0 p1 p2 p3 p4 p5 p6 p7 p8 p9 : Pos}
theorem sinit_ok (S : SI P K C fI fd attr st) (hb : defBody st = [.Expr (.Call (.Attribute (.Call (.Name "super" p0) [] [] p1) "__init__" p2) [.Name pn p3] [] p4) p5, .Assign [.Attribute (.Name "self" p6) attr p7] (.Name pn p8) p9])
    (hsc : nscB ["self", pn, "__class__"] ["self", pn] ["__class__"] (defScope st) = true) (hks : (defScope st).names.lookup ("super" : Str) = some .globalImplicit) (hkc : (defScope st).names.lookup ("__class__" : Str) = some .free)
    (hself : (defScope st).names.lookup ("self" : Str) = some .local) (hpn : (defScope st).names.lookup pn = some .local) (hp : ∃ ar, ((defArgs st).posonlyargs ++ (defArgs st).args).head? = some ar ∧ ar.arg = "self")
    (pl : Env → Sem Bool) (hE : ∀ env, eval (.Call (.Attribute (.Call (.Name "super" p0) [] [] p1) "__init__" p2) [.Name pn p3] [] p4) env = (do
      let ov ← attributeBase (.Call (.Name "super" p0) [] [] p1) "__init__" env (eval (.Call (.Name "super" p0) [] [] p1) env)
      standAt p2.atName
      let (f, first) ← holding [ov] (getMethod ov "__init__" (pl env))
      callWith p4 f first (backTo p4 (starEach [.Name pn p3] env)) []))
    (htop : (P.main.scope.names.lookup ("super" : Str)).isSome = false) (hm : mg "super" = none) (hpd : (pn == ("__debug__" : Str)) = false) (hpc : (pn == ("__classdict__" : Str)) = false) :
    FnOk P w K mg base (L2.CX P w) (k + 1) fI fd ["self", pn] (spSI C attr) := by
  obtain ⟨qual, oc, od, kV, doc, pm, an, cda, ct, cc, osl, ccl, cdd, vs0, ccs, file, tf, cl, cld, csl, rfl, lk, hcd, lcd, hvs, hfile, lcc⟩ := S.ex
  obtain ⟨ar, har, hara⟩ := hp
  obtain ⟨cdD, hD⟩ := S.cls
  have NS := nscope_by hsc
  refine ⟨fun vs H Q E h => ?_, fun A outer s H args us vs Q E hr e0 hbi r hsp => ?_⟩
  · obtain ⟨a, y, rfl, _⟩ := h
    rfl
  obtain ⟨a, y, rfl, ha, hk⟩ := hsp
  obtain ⟨u0, u, rfl, ra, ry⟩ : ∃ u0 u, us = [u0, u] ∧ RelV (.ref a) u0 ∧ RelV y u := by
    cases r with
    | cons ra r =>
      cases r with
      | cons ry r =>
        cases r
        exact ⟨_, _, rfl, ra, ry⟩
  obtain rfl : u0 = Value.ref a := ra
  have KX : K.In s.heap := e0.mod.kin.keeps fun b o e => (e0.bs b o e).1
  have lim : s.heap.NoLimit := e0.mod.nolimit.keeps fun b o e => (e0.bs b o e).1
  refine ks_codeAny_call_defAt (fd := PySem.W.ksFn "__init__" qual (defArgs st) (defBody st) (defScope st) .none kV doc pm an (.ref cda) ct cc) (body := defBody st) (binds := [("self", .ref a), (pn, u)]) hr.depth (KX _ _ lk) rfl lim (PySem.W.codeRec_of KX hcd) rfl hbi NS.nocell (fun y hy => ?_) (fun h₁ hns kp => ?_) NS.co NS.gen NS.kind
  · simp only [List.mem_cons, List.not_mem_nil, or_false] at hy
    rcases hy with rfl | rfl
    · exact hself
    · exact hpn
  have CA : CellsAt [("__class__", cc)] ["__class__"] [none] s.heap H := by
    have hcell : s.heap.IsCell cc (some (.ref C)) := ⟨_, KX _ _ lcc, rfl⟩
    have hn : H cc = none := (e0.bs cc _ (e0.mod.kin _ _ lcc)).2
    have only : ∀ (y : Str) (c : Addr), List.lookup y [(("__class__" : Str), cc)] = some c → y = "__class__" ∧ c = cc := fun y c e => by
      by_cases h : y = "__class__"
      · subst h
        rw [List.lookup_cons_self] at e
        exact ⟨rfl, (Option.some.inj e).symm⟩
      · rw [List.lookup_cons, show (y == ("__class__" : Str)) = false by simpa using h] at e
        cases e
    refine ⟨rfl, fun y c e => ?_, fun x y c e1 e2 => (only x c e1).1.trans (only y c e2).1.symm, fun i y e => ?_⟩
    · obtain ⟨_, rfl⟩ := only y c e
      exact ⟨hn, _, hcell⟩
    · cases i with
      | zero =>
        cases e
        exact ⟨cc, List.lookup_cons_self, fun v z => by cases z⟩
      | succ i => simp at e
  have I : Inv (ncx (L2.CX P w) P w K mg base ["self", pn, "__class__"] ⟨"__init__", qual, defArgs st, defBody st, defScope st, [("__class__", cc)], cda⟩ fI A outer s H E) [] (startF ["self", pn, "__class__"] [.ref a, y] [none]) H { s with heap := h₁, toks := s.toks + 2 } :=
    inv_startN NS hr.hd e0 rfl (.cons rfl (.cons ry .nil)) CA hns kp
  have hq := I.quiet
  rw [hb]
  refine PySem.ks_wpAt_execs_cons (PySem.ks_wpAt_Expr_any (PySem.ks_wpAt_MethodCall ?_ (hE _)) hq)
  have hCo := I.kIn _ _ lcc
  have hDo : ∃ oD, h₁.get? C = some oD ∧ oD.data = .cls cdD := by
    unfold PySem.W.clsIn at hD
    split at hD
    · rename_i c d cd' sl ho
      cases hD
      exact ⟨_, I.kIn _ _ ho, rfl⟩
    · cases hD
  obtain ⟨oD, hD1, hD2⟩ := hDo
  obtain ⟨mb, hb1, hb2⟩ := I.mod.blt
  obtain ⟨t1, hxo⟩ := exo_at I.hok ha
  refine PySem.ks_wpAt_super_base (of := ⟨oc, od, .func (PySem.W.ksFn "__init__" qual (defArgs st) (defBody st) (defScope st) .none kV doc pm an (.ref cda) ct cc), osl⟩) (oc := ⟨ccl, cdd, .fields vs0, ccs⟩) hks hkc (by decide) rfl (I.kIn _ _ lk) rfl har rfl (I.kIn _ _ lcd) rfl hvs hfile htop ?_
  refine PySem.W.ks_loadName_global NS.kind hks (Calls.loadGlobal_builtin (I.mod.glob.keeps I.bk) hm (hb1.keeps I.bk) ((hb2 _ (by decide)).trans (by decide +kernel : bootBuiltins "super" = some (.type "super"))) ⟨rfl, ?_⟩)
  refine wpAny_loadName_free NS.kind hkc rfl ⟨_, hCo, rfl⟩ ?_
  rw [hara]
  refine wpAny_loadName_local (m := fun y => (([("self", Value.ref a), (pn, u)] : List (Str × Value))).reverse.lookup y) (v := .ref a) NS.kind hself hns ?_ ?_
  · have nps : ("self" : Str) ≠ pn := by
      have z := NS.nd
      simp only [List.nodup_cons, List.mem_cons, not_or] at z
      exact z.1.1
    show List.lookup ("self" : Str) [(pn, u), (("self" : Str), Value.ref a)] = _
    rw [List.lookup_cons, show (("self" : Str) == pn) = false by simpa using nps]
    exact List.lookup_cons_self
  refine PySem.ks_wpAny_isType_cls hD1 hD2 ⟨rfl, ?_⟩
  refine PySem.ks_wpAny_call_super hD1 hD2 hxo rfl (fun c e => nomatch e) (PySem.W.looks_mroIn I.kIn S.mro) (fun h' eso kk => ?_)
  have I1 := I.kept (t' := s.toks + [(("self" : Str), Value.ref a), (pn, u)].length) kk
  obtain ⟨t2, hxo1⟩ := exo_at I1.hok ha
  have J : PySem.W.InstAt h' a _ C none := ⟨hxo1, rfl, rfl, trivial⟩
  have hsup : PySem.W.alongIn K "__init__" ((cdD.mro.dropWhile (· != .ref C)).drop 1) = some (some (.builtin "ValueError.__init__")) := by
    have z := S.sup
    unfold PySem.W.ks_superIn at z
    rw [hD] at z
    exact z
  refine PySem.W.kxs_getMethod PySem.W.kxs_ValueError eso (PySem.W.looks_opaque I1.kIn S.opq) (l₀ := cdD.mro) (fun A Q E s k q => wpAny_bind ((PySem.W.looks_clsIn I1.kIn hD) A _ E s k (wpAny_pure q))) rfl I1.kIn hsup (J.type.andThen (PySem.W.looks_subIn I1.kIn S.subV)) (PySem.W.ks_ne I1.kIn J hD) (by decide) ?_
  have k2 : ∀ b o, h'.get? b = some o → (h'.push (kxs_mw "ValueError.__init__" a)).get? b = some o := fun b o e => Heap.get?_push_of_some _ e
  have hmw : (h'.push (kxs_mw "ValueError.__init__" a)).get? h'.objs.size = some (kxs_mw "ValueError.__init__" a) := Heap.get?_push_at rfl rfl
  have I2 := I1.kept (t' := s.toks + [(("self" : Str), Value.ref a), (pn, u)].length + 1) k2
  have I3 := I2.pins_of (pins' := [(h'.objs.size, kxs_mw "ValueError.__init__" a)]) fun p hp => by
    rw [List.mem_singleton.mp hp]
    exact ⟨hmw, I1.hok.fresh (Nat.le_refl _), Nat.ne_of_gt I1.lt, I1.nofs (Nat.le_refl _), fun v z => nomatch z⟩
  show wpAny _ _ (callWith p4 (.ref h'.objs.size) [] (backTo p4 ((false, eval (.Name pn p3) _) :: starEach [] _)) []) _ _ _
  refine PySem.W.kxs_callWith (i := "ValueError.__init__") (x := a) rfl ?_
  refine PySem.Calls.evalArgs_plain ?_
  have arg := (pa_cons (pv (X := ncx (L2.CX P w) P w K mg base ["self", pn, "__class__"] ⟨"__init__", qual, defArgs st, defBody st, defScope st, [("__class__", cc)], cda⟩ fI A outer s H E) 1 (x := pn) (pos := p3) rfl (.inl hpn) hpd hpc) pa_nil).run p4 _ _ _ H (fun vs H1 => vs = [y] ∧ H1 = H) I3 ⟨y, rfl, rfl, rfl⟩
  refine wpAny_mono arg (fun us2 s3 hA => ?_) fun _ _ e => e
  obtain ⟨vs2, H1, I4, r4, ev, eH⟩ := hA
  subst ev
  subst eH
  obtain ⟨u2, rfl, _⟩ : ∃ u2, us2 = [u2] ∧ RelV y u2 := by
    cases r4 with
    | cons ra r =>
      cases r
      exact ⟨_, rfl, ra⟩
  obtain ⟨hmw4, _⟩ := I4.pin (h'.objs.size, kxs_mw "ValueError.__init__" a) (by simp)
  refine ⟨hmw4, ?_⟩
  obtain ⟨nm, q, N, bs, bm, sn, sub, ab, col, dd, k0, k1, k2', k3, k5, hCo', hbm⟩ := S.oex.cls
  obtain ⟨t4, hxo4⟩ := exo_at I4.hok ha
  have I5 := I4.pins_of (pins' := []) fun p hp => nomatch hp
  obtain ⟨h3, g3, d3, tk3, os3⟩ := s3
  refine call_mw (I4.kIn _ _ hCo') hxo4 hmw4 (by show 1 ≤ sizeLine; decide) fun h4 t5 k4 hx4 => ?_
  have I6 := I5.write (t' := tk3) (x := a) (e := a) (o := exo a C none) (by rw [ha]; exact True.intro) (.inl rfl) k4 ⟨_, hx4⟩ (exo_ok hx4)
  have eu : upd H1 a (exo a C none) = H1 := by
    funext b
    by_cases hb : b = a
    · rw [hb, upd_same, ha]
    · rw [upd_ne hb]
  rw [eu] at I6
  have st2 := pss_one (ps_ost (X := ncx (L2.CX P w) P w K mg base ["self", pn, "__class__"] ⟨"__init__", qual, defArgs st, defBody st, defScope st, [("__class__", cc)], cda⟩ fI A outer s H1 E) (f := attr) (p' := p7) (pos := p9)
    (pv 0 (x := "self") (pos := p6) rfl (.inl hself)) (pv 1 (x := pn) (pos := p8) rfl (.inl hpn) hpd hpc) rfl)
  refine wpAt_of_wpAny (wpAny_mono (st2.run [] _ _ H1 { nx := fun _ H' => Q .non H', rt := Q } I6 ⟨y, rfl, .ref a, rfl, a, C, rfl, S.oex, S.noF, .inl ⟨ha, hk⟩⟩) (fun fl s' hs => ?_) fun e s' hs => hs)
  have fin : ∀ {σ' : L2.St} {H' : Hp} {v : V} {u : Value}, Inv (ncx (L2.CX P w) P w K mg base ["self", pn, "__class__"] ⟨"__init__", qual, defArgs st, defBody st, defScope st, [("__class__", cc)], cda⟩ fI A outer s H1 E) [] σ' H' s' → RelV v u → Q v H' → CE outer P w H1 s Q u s' :=
    fun {σ' H' v u} J rv q => ⟨v, H', J.os, J.bare, J.base, J.hok, rv, q⟩
  cases fl with
  | ret u =>
    obtain ⟨v, σ', H', J, rv, q⟩ := hs
    exact fin J rv q
  | next =>
    obtain ⟨σ', H', J, q⟩ := hs
    exact fin (v := V.non) (u := Value.none) J rfl q
  | brk =>
    obtain ⟨_, _, _, q⟩ := hs
    exact False.elim q
  | cont =>
    obtain ⟨_, _, _, q⟩ := hs
    exact False.elim q
end
/-! ### raise X(e), X with such an __init__ -/
/-- what is to be known of such a class where it is raised -/
structure Ex1 (X : Cx) (C : Addr) (attr : Str) : Prop where
  ex : ∃ (fI : Addr) (fd : FuncData) (pn : Str) (k : Nat), OexC X.K C ∧ PySem.W.findIn X.K (.ref C) "__init__" = some (some (.ref fI)) ∧ PySem.W.typeIn X.K (.ref fI) = some (.type "function") ∧
    FnOk X.prog X.w X.K X.mg X.base (L2.CX X.prog X.w) k fI fd ["self", pn] (spSI C attr) ∧ Binds X.K fd ["self", pn] [] ∧ Room (k + 1) X.A
def T_raise1 (c : Nat) (f : Str) (Te : TrE) : TrS := fun N ρ μ => Te ρ μ (fun s μ1 => match s with | .val d => N.ex ⟨c, [(f, d)]⟩ ρ μ1 | .cell _ => False) (fun x μ1 => N.ex x ρ μ1)
theorem ds_raise1 {X : Cx} {cl : Nat → Addr} {W : WX} {c : Nat} {f x : Str} {e : Expr} {Te : TrE} {p pos pos' : Pos} (E : Ex1 X (cl c) f) (tk : Takes X W) (hm : X.mg x = some (.ref (cl c))) (he : DE X cl W e Te) (hc : X.calm = true := by rfl) (hg : Gl X x := by rfl) (hdb : (x == ("__debug__" : Str)) = false := by decide)
    (hst : starEach [e] X.env = (false, eval e X.env) :: starEach [] X.env := by rfl) (hpl : (backTo pos (starEach [] X.env)).any (·.1) = false := by rfl) :
    DS X cl W (.Raise (some (.Call (.Name x p) [e] [] pos)) none pos') (T_raise1 c f Te) := by
  obtain ⟨fI, fd, pn, k, oex, iC, tI, F1, hb, hr⟩ := E.ex
  refine PS.of (ps_raise hc tk (pmk_oex oex iC tI F1 hr hb .nil (fun pins σ H s e s' I h => pass0At σ pins H s e s' I h) hg hm (da_cons (cl := cl) (W := W) he da_nil hst) hdb hst hpl)) fun D σ H h => ?_
  obtain ⟨I, α, ρ, μ, F, N, hf, en, t, n1, n2, n3, n4, n5⟩ := h
  refine liftA_go hf en (E := fun x μ1 => N.ex x ρ μ1) (k := fun ds μ1 => match ds with | [.val d] => N.ex ⟨c, [(f, d)]⟩ ρ μ1 | _ => False) (show T_cons Te T_nil ρ μ _ _ from ?_) (fun vs ds I1 α1 H1 μ1 x1 hf1 r1 t1 => ?_) (n5.at en)
  · have e1 : (fun (s : Sl) (μ1 : Sto) => (match s with | .val d => N.ex ⟨c, [(f, d)]⟩ ρ μ1 | .cell _ => False)) = fun s μ1 => T_nil ρ μ1 (fun ds μ2 => match s :: ds with | [.val d] => N.ex ⟨c, [(f, d)]⟩ ρ μ2 | _ => False) (fun x μ1 => N.ex x ρ μ1) := by
      funext s μ1
      cases s <;> rfl
    have t' : Te ρ μ (fun (s : Sl) (μ1 : Sto) => (match s with | .val d => N.ex ⟨c, [(f, d)]⟩ ρ μ1 | .cell _ => False)) (fun x μ1 => N.ex x ρ μ1) := t
    rw [e1] at t'
    exact t'
  · dsimp only at t1
    split at t1
    · rename_i d
      cases r1 with
      | cons r1 r2 =>
        cases r2
        rename_i v
        cases r1 with
        | val r1 =>
          refine ⟨by show 1 ≤ 1000; decide, fun a na => ⟨a, v, rfl, upd_same, fun dx ndx hne => ?_⟩⟩
          have nd1 : H1 dx = none := by rw [upd_ne hne] at ndx; exact ndx
          refine ⟨rfl, dx, [(f, v)], upd_same, by rw [upd_ne hne, upd_same], nd1, ?_⟩
          have eh : upd (del (upd (upd (upd H1 a (exo a (cl c) none)) dx (exd dx [(f, v)])) a (exo a (cl c) (some dx))) a) dx (.xd [(f, v)]) = upd H1 dx (.xd [(f, v)]) := by
            funext b
            by_cases h1 : b = dx
            · rw [h1, upd_same, upd_same]
            · rw [upd_ne h1, upd_ne h1]
              by_cases h2 : b = a
              · rw [h2, del_same, na]
              · rw [del_ne h2, upd_ne h2, upd_ne h1, upd_ne h2]
          rw [eh]
          obtain ⟨hf2, x2⟩ := hf1.new (o := .xd [(f, v)]) nd1
          exact n5 ⟨c, [(f, d)]⟩ (.ref (cl c)) (some dx) σ ρ _ α1 _ μ1 (x1.trans (Ext.of x2 _)) hf2 (en.mono (x1.trans (Ext.of x2 _))) ⟨rfl, .inr ⟨dx, [(f, v)], rfl, upd_same, .cons (r1.mono x2) .nil⟩⟩ t1
    · exact t1.elim
end Dv
/-! Dv15: == and != of lists and tuples that hold instances. -/
namespace DvQ
open PySem PySem.SeqAt
open AutoSeq1 (wpAny_loadPart')
open MeetsSeq MeetsSeq2 MeetsSeq3 SeqRoads2
section
variable {prog : Program} {w : World} {A : Around} {R : Result → Shared → Prop} {l b : Addr} {items items2 : Array Value} {n n2 : Nat} {dd dd2 : Option Addr} {sl sl2 : Array (Option Value)} {I : Shared → Prop} {e : Nat → Bool}
abbrev lo (items : Array Value) (n : Nat) (dd : Option Addr) (sl : Array (Option Value)) : Obj := { cls := .type "list", dict := dd, data := .seq items n, slots := sl }
/-- the items compared one by one, up to the first two that differ -/
def Turns (prog : Program) (w : World) (A : Around) (E : Value → Shared → Prop) (items items2 : Array Value) (I : Shared → Prop) (e : Nat → Bool) : Prop :=
  ∀ i (h1 : i < items.size) (h2 : i < items2.size) s, I s → (∀ j, j < i → e j = true) → wpAny (model prog w) A.in1 (eqBool items[i] items2[i]) (fun r s' => r = e i ∧ I s') E s
/-- at each turn the two lists are read anew -/
def TurnsL (prog : Program) (w : World) (A : Around) (E : Value → Shared → Prop) (l b : Addr) (N N2 : Nat) (I : Shared → Prop) (e : Nat → Bool) : Prop :=
  ∀ s, I s → ∃ (items items2 : Array Value) (n n2 : Nat) (dd dd2 : Option Addr) (sl sl2 : Array (Option Value)), s.heap.get? l = some (lo items n dd sl) ∧ s.heap.get? b = some (lo items2 n2 dd2 sl2) ∧ items.size = N ∧ items2.size = N2 ∧
    ∀ i (h1 : i < items.size) (h2 : i < items2.size), (∀ j, j < i → e j = true) → wpAny (model prog w) A.in1 (eqBool items[i] items2[i]) (fun r s' => r = e i ∧ I s') E s
variable {N N2 : Nat}
theorem loopE (hl : N = N2 → TurnsL prog w A (fun e s' => R (.error e) s') l b N N2 I e) (hsz : N = N2)
    (finT : (∀ j, j < N → e j = true) → ∀ s, I s → R (.ok (.ret (.bool true))) s) (finF : (∃ j, j < N ∧ e j = false) → ∀ s, I s → R (.ok (.ret (.bool false))) s) (k : Nat) :
    ∀ i : Nat, N - i = k → i ≤ N → (∀ j, j < i → e j = true) → ∀ s, I s → wpAny (model prog w) A.in1 (Builtin.«list.__eq__.loop» ⟨[.ref l, .ref b, rawInt i, rawInt 2], []⟩) (GQ.FinOf prog w A R) (fun e s' => R (.error e) s') s := by
  induction k with
  | zero =>
    intro i hk hi he s h
    obtain ⟨items, items2, n, n2, dd, dd2, sl, sl2, hl1, hb1, z1, z2, _⟩ := hl hsz s h
    have hR : R (.ok (.ret (.bool true))) s := finT (fun j hj => he j (by omega)) s h
    obtain ⟨hp, g, d, tk, os⟩ := s
    wp_walk using wpAny_loadPart' hl1, wpAny_loadPart' hb1
    have hi1 : items[((i : Nat) : Int).toNat]? = none := by simp; omega
    have hi2 : items2[((i : Nat) : Int).toNat]? = none := by simp; omega
    rw [hi1, hi2]
    wp_walk using wpAny_loadPart' hl1, wpAny_loadPart' hb1
    show R (.ok (.ret (.bool (items.size == items2.size)))) _
    rw [z1, z2, hsz]
    simpa using hR
  | succ k ih =>
    intro i hk hi he s h
    obtain ⟨items, items2, n, n2, dd, dd2, sl, sl2, hl1, hb1, z1, z2, turn⟩ := hl hsz s h
    have hlt : i < items.size := by omega
    have hlt2 : i < items2.size := by omega
    have ht := turn i hlt hlt2 he
    obtain ⟨hp, g, d, tk, os⟩ := s
    wp_walk using wpAny_loadPart' hl1, wpAny_loadPart' hb1
    have hi1 : items[((i : Nat) : Int).toNat]? = some items[i] := by simp [hlt]
    have hi2 : items2[((i : Nat) : Int).toNat]? = some items2[i] := by simp [hlt2]
    have hc : ((i : Int) + 1) = ((i + 1 : Nat) : Int) := by omega
    rw [hi1, hi2]
    refine wpAny_bind (wpAny_mono ht (fun r s2 h2 => ?_) fun _ _ x => x)
    obtain ⟨hr, h2⟩ := h2
    subst hr
    cases q : e i with
    | true =>
      have hrec := ih (i + 1) (by omega) (by omega) (fun j hj => by
        rcases Nat.lt_succ_iff_lt_or_eq.mp hj with h | h
        · exact he j h
        · rw [h]; exact q) s2 h2
      obtain ⟨hp2, g2, d2, tk2, os2⟩ := s2
      wp_walk
      rw [hc]
      exact ⟨plainId_quiet plain_eq_loop _, codeAny_builtin entry_eq_loop (by
        rw [Around.under_plainId plain_eq_loop _]
        exact hrec)⟩
    | false =>
      obtain ⟨jtems, jtems2, m, m2, ee, ee2, tl, tl2, hl2, hb2, y1, y2, _⟩ := hl hsz s2 h2
      have hR := finF ⟨i, by omega, q⟩ s2 h2
      have hlt : i < jtems.size := by omega
      have hlt2 : i < jtems2.size := by omega
      have hi1 : jtems[((i : Nat) : Int).toNat]? = some jtems[i] := by simp [hlt]
      have hi2 : jtems2[((i : Nat) : Int).toNat]? = some jtems2[i] := by simp [hlt2]
      obtain ⟨hp2, g2, d2, tk2, os2⟩ := s2
      wp_walk using wpAny_loadPart' hl2, wpAny_loadPart' hb2
      rw [hi1, hi2]
      wp_walk
      exact hR
theorem loopN (hl : N = N2 → TurnsL prog w A (fun e s' => R (.error e) s') l b N N2 I e) (hsz : N = N2)
    (finT : (∀ j, j < N → e j = true) → ∀ s, I s → R (.ok (.ret (.bool false))) s) (finF : (∃ j, j < N ∧ e j = false) → ∀ s, I s → R (.ok (.ret (.bool true))) s) (k : Nat) :
    ∀ i : Nat, N - i = k → i ≤ N → (∀ j, j < i → e j = true) → ∀ s, I s → wpAny (model prog w) A.in1 (Builtin.«list.__eq__.loop» ⟨[.ref l, .ref b, rawInt i, rawInt 3], []⟩) (GQ.FinOf prog w A R) (fun e s' => R (.error e) s') s := by
  induction k with
  | zero =>
    intro i hk hi he s h
    obtain ⟨items, items2, n, n2, dd, dd2, sl, sl2, hl1, hb1, z1, z2, _⟩ := hl hsz s h
    have hR : R (.ok (.ret (.bool false))) s := finT (fun j hj => he j (by omega)) s h
    obtain ⟨hp, g, d, tk, os⟩ := s
    wp_walk using wpAny_loadPart' hl1, wpAny_loadPart' hb1
    have hi1 : items[((i : Nat) : Int).toNat]? = none := by simp; omega
    have hi2 : items2[((i : Nat) : Int).toNat]? = none := by simp; omega
    rw [hi1, hi2]
    wp_walk using wpAny_loadPart' hl1, wpAny_loadPart' hb1
    show R (.ok (.ret (.bool (items.size != items2.size)))) _
    rw [z1, z2, hsz]
    simpa using hR
  | succ k ih =>
    intro i hk hi he s h
    obtain ⟨items, items2, n, n2, dd, dd2, sl, sl2, hl1, hb1, z1, z2, turn⟩ := hl hsz s h
    have hlt : i < items.size := by omega
    have hlt2 : i < items2.size := by omega
    have ht := turn i hlt hlt2 he
    obtain ⟨hp, g, d, tk, os⟩ := s
    wp_walk using wpAny_loadPart' hl1, wpAny_loadPart' hb1
    have hi1 : items[((i : Nat) : Int).toNat]? = some items[i] := by simp [hlt]
    have hi2 : items2[((i : Nat) : Int).toNat]? = some items2[i] := by simp [hlt2]
    have hc : ((i : Int) + 1) = ((i + 1 : Nat) : Int) := by omega
    rw [hi1, hi2]
    refine wpAny_bind (wpAny_mono ht (fun r s2 h2 => ?_) fun _ _ x => x)
    obtain ⟨hr, h2⟩ := h2
    subst hr
    cases q : e i with
    | true =>
      have hrec := ih (i + 1) (by omega) (by omega) (fun j hj => by
        rcases Nat.lt_succ_iff_lt_or_eq.mp hj with h | h
        · exact he j h
        · rw [h]; exact q) s2 h2
      obtain ⟨hp2, g2, d2, tk2, os2⟩ := s2
      wp_walk
      rw [hc]
      exact ⟨plainId_quiet plain_eq_loop _, codeAny_builtin entry_eq_loop (by
        rw [Around.under_plainId plain_eq_loop _]
        exact hrec)⟩
    | false =>
      obtain ⟨jtems, jtems2, m, m2, ee, ee2, tl, tl2, hl2, hb2, y1, y2, _⟩ := hl hsz s2 h2
      have hR := finF ⟨i, by omega, q⟩ s2 h2
      have hlt : i < jtems.size := by omega
      have hlt2 : i < jtems2.size := by omega
      have hi1 : jtems[((i : Nat) : Int).toNat]? = some jtems[i] := by simp [hlt]
      have hi2 : jtems2[((i : Nat) : Int).toNat]? = some jtems2[i] := by simp [hlt2]
      obtain ⟨hp2, g2, d2, tk2, os2⟩ := s2
      wp_walk using wpAny_loadPart' hl2, wpAny_loadPart' hb2
      rw [hi1, hi2]
      wp_walk
      exact hR
/-- == of two lists -/
theorem list_E (hl : TurnsL prog w A (fun e s' => R (.error e) s') l b N N2 I e)
    (finT : N = N2 → (∀ j, j < N → e j = true) → ∀ s, I s → R (.ok (.ret (.bool true))) s) (finF : (N ≠ N2 ∨ ∃ j, j < N ∧ e j = false) → ∀ s, I s → R (.ok (.ret (.bool false))) s) {s : Shared} (h : I s) :
    wpAny (model prog w) A.in1 (Builtin.«list.__eq__» ⟨[.ref l, .ref b], []⟩) (GQ.FinOf prog w A R) (fun e s' => R (.error e) s') s := by
  obtain ⟨items, items2, n, n2, dd, dd2, sl, sl2, hl1, hb1, z1, z2, _⟩ := hl s h
  have f3 := AutoSeq1.sub_list_list
  by_cases hsz : N = N2
  · have hrec := loopE (A := A) (R := R) (fun _ => hl) hsz (finT hsz) (fun z => finF (.inr z)) _ 0 rfl (Nat.zero_le _) (fun j hj => absurd hj (Nat.not_lt_zero _)) s h
    obtain ⟨hp, g, d, tk, os⟩ := s
    have hne : ¬ (items.size != items2.size) = true := by simp [z1, z2, hsz]
    wp_walk using wpAny_loadPart' hl1, wpAny_loadPart' hb1
    exact ⟨plainId_quiet plain_eq_loop _, codeAny_builtin entry_eq_loop (by
      rw [Around.under_plainId plain_eq_loop _]
      exact hrec)⟩
  · have hR := finF (.inl hsz) s h
    obtain ⟨hp, g, d, tk, os⟩ := s
    have hne : (items.size != items2.size) = true := by rw [z1, z2]; simpa using hsz
    wp_walk using wpAny_loadPart' hl1, wpAny_loadPart' hb1
    all_goals exact hR
/-- != of two lists -/
theorem list_N (hl : TurnsL prog w A (fun e s' => R (.error e) s') l b N N2 I e)
    (finT : N = N2 → (∀ j, j < N → e j = true) → ∀ s, I s → R (.ok (.ret (.bool false))) s) (finF : (N ≠ N2 ∨ ∃ j, j < N ∧ e j = false) → ∀ s, I s → R (.ok (.ret (.bool true))) s) {s : Shared} (h : I s) :
    wpAny (model prog w) A.in1 (Builtin.«list.__ne__» ⟨[.ref l, .ref b], []⟩) (GQ.FinOf prog w A R) (fun e s' => R (.error e) s') s := by
  obtain ⟨items, items2, n, n2, dd, dd2, sl, sl2, hl1, hb1, z1, z2, _⟩ := hl s h
  have f3 := AutoSeq1.sub_list_list
  by_cases hsz : N = N2
  · have hrec := loopN (A := A) (R := R) (fun _ => hl) hsz (finT hsz) (fun z => finF (.inr z)) _ 0 rfl (Nat.zero_le _) (fun j hj => absurd hj (Nat.not_lt_zero _)) s h
    obtain ⟨hp, g, d, tk, os⟩ := s
    have hne : ¬ (items.size != items2.size) = true := by simp [z1, z2, hsz]
    wp_walk using wpAny_loadPart' hl1, wpAny_loadPart' hb1
    exact ⟨plainId_quiet plain_eq_loop _, codeAny_builtin entry_eq_loop (by
      rw [Around.under_plainId plain_eq_loop _]
      exact hrec)⟩
  · have hR := finF (.inl hsz) s h
    obtain ⟨hp, g, d, tk, os⟩ := s
    have hne : (items.size != items2.size) = true := by rw [z1, z2]; simpa using hsz
    wp_walk using wpAny_loadPart' hl1, wpAny_loadPart' hb1
    all_goals exact hR
abbrev to (items : Array Value) (n : Nat) (dd : Option Addr) (sl : Array (Option Value)) : Obj := { cls := .type "tuple", dict := dd, data := .seq items n, slots := sl }
/-- == of two tuples -/
theorem tup_E (turn : Turns prog w A (fun e s' => R (.error e) s') items items2 I e)
    (finT : items.size = items2.size → (∀ j, j < items.size → e j = true) → ∀ s, I s → R (.ok (.ret (.bool true))) s) (finF : (items.size ≠ items2.size ∨ ∃ j, j < items.size ∧ j < items2.size ∧ e j = false) → ∀ s, I s → R (.ok (.ret (.bool false))) s) {s : Shared} (ha : s.heap.get? l = some (to items n dd sl)) (hb : s.heap.get? b = some (to items2 n2 dd2 sl2)) (h : I s) :
    wpAny (model prog w) A.in1 (Builtin.«tuple.__eq__» ⟨[.ref l, .ref b], []⟩) (GQ.FinOf prog w A R) (fun e s' => R (.error e) s') s := by
  have f2 := AutoSeq1.sub_tuple_tuple
  have h0 := h
  obtain ⟨hp, g, d, tk, os⟩ := s
  wp_walk using wpAny_loadPart' ha, wpAny_loadPart' hb, wpAny_forIn_list _ (fun rest b s' => b.1 = none ∧ ∃ i, rest = (items.toList.zip items2.toList).drop i ∧ i ≤ (items.toList.zip items2.toList).length ∧ (∀ j, j < i → e j = true) ∧ I s') _
  case turn =>
    rintro ⟨y, x⟩ rest b s' ⟨hb', i, hz, hi, he, hI⟩
    have hlt : i < (items.toList.zip items2.toList).length := by
      rcases Nat.lt_or_ge i (items.toList.zip items2.toList).length with h' | h'
      · exact h'
      · rw [List.drop_of_length_le h'] at hz; cases hz
    have hlt' := hlt
    rw [List.length_zip, Array.length_toList, Array.length_toList] at hlt'
    have h1 : i < items.size := by omega
    have h2 : i < items2.size := by omega
    rw [List.drop_eq_getElem_cons hlt] at hz
    injection hz with hyx hrest
    have hy : y = items[i] := by have := congrArg Prod.fst hyx; simpa using this
    have hx : x = items2[i] := by have := congrArg Prod.snd hyx; simpa using this
    subst hy hx
    refine wpAny_bind (wpAny_mono (turn i h1 h2 s' hI he) (fun r s2 q2 => ?_) fun _ _ x => x)
    obtain ⟨hr, q2⟩ := q2
    subst hr
    cases q : e i with
    | true =>
      wp_walk
      exact ⟨rfl, i + 1, hrest, hlt, fun j hj => by
        rcases Nat.lt_succ_iff_lt_or_eq.mp hj with h | h
        · exact he j h
        · rw [h]; exact q, q2⟩
    | false =>
      have hR := finF (.inr ⟨i, h1, h2, q⟩) s2 q2
      wp_walk
      all_goals exact hR
  case fin =>
    rintro ⟨b1, b2⟩ s' ⟨hb', i, hz, hi, he, hI⟩
    simp only at hb'
    subst hb'
    have hge : (items.toList.zip items2.toList).length ≤ i := by
      rcases Nat.lt_or_ge i (items.toList.zip items2.toList).length with h' | h'
      · rw [List.drop_eq_getElem_cons h'] at hz; cases hz
      · exact h'
    rw [List.length_zip, Array.length_toList, Array.length_toList] at hge hi
    by_cases hsz : items.size = items2.size
    · have hR : R (.ok (.ret (.bool true))) s' := finT hsz (fun j hj => he j (by omega)) s' hI
      wp_walk
      simpa [Builtin.Tuple.tupleCompareSizes, hsz] using hR
    · have hR : R (.ok (.ret (.bool false))) s' := finF (.inl hsz) s' hI
      have hne : (items.size == items2.size) = false := by simpa using hsz
      wp_walk
      show R (.ok (.ret (.bool (items.size == items2.size)))) _
      rw [hne]
      exact hR
  case h =>
    exact ⟨rfl, 0, rfl, Nat.zero_le _, fun j hj => absurd hj (Nat.not_lt_zero _), h0⟩
/-- != of two tuples -/
theorem tup_N (turn : Turns prog w A (fun e s' => R (.error e) s') items items2 I e)
    (finT : items.size = items2.size → (∀ j, j < items.size → e j = true) → ∀ s, I s → R (.ok (.ret (.bool false))) s) (finF : (items.size ≠ items2.size ∨ ∃ j, j < items.size ∧ j < items2.size ∧ e j = false) → ∀ s, I s → R (.ok (.ret (.bool true))) s) {s : Shared} (ha : s.heap.get? l = some (to items n dd sl)) (hb : s.heap.get? b = some (to items2 n2 dd2 sl2)) (h : I s) :
    wpAny (model prog w) A.in1 (Builtin.«tuple.__ne__» ⟨[.ref l, .ref b], []⟩) (GQ.FinOf prog w A R) (fun e s' => R (.error e) s') s := by
  have f2 := AutoSeq1.sub_tuple_tuple
  have h0 := h
  obtain ⟨hp, g, d, tk, os⟩ := s
  wp_walk using wpAny_loadPart' ha, wpAny_loadPart' hb, wpAny_forIn_list _ (fun rest b s' => b.1 = none ∧ ∃ i, rest = (items.toList.zip items2.toList).drop i ∧ i ≤ (items.toList.zip items2.toList).length ∧ (∀ j, j < i → e j = true) ∧ I s') _
  case turn =>
    rintro ⟨y, x⟩ rest b s' ⟨hb', i, hz, hi, he, hI⟩
    have hlt : i < (items.toList.zip items2.toList).length := by
      rcases Nat.lt_or_ge i (items.toList.zip items2.toList).length with h' | h'
      · exact h'
      · rw [List.drop_of_length_le h'] at hz; cases hz
    have hlt' := hlt
    rw [List.length_zip, Array.length_toList, Array.length_toList] at hlt'
    have h1 : i < items.size := by omega
    have h2 : i < items2.size := by omega
    rw [List.drop_eq_getElem_cons hlt] at hz
    injection hz with hyx hrest
    have hy : y = items[i] := by have := congrArg Prod.fst hyx; simpa using this
    have hx : x = items2[i] := by have := congrArg Prod.snd hyx; simpa using this
    subst hy hx
    refine wpAny_bind (wpAny_mono (turn i h1 h2 s' hI he) (fun r s2 q2 => ?_) fun _ _ x => x)
    obtain ⟨hr, q2⟩ := q2
    subst hr
    cases q : e i with
    | true =>
      wp_walk
      exact ⟨rfl, i + 1, hrest, hlt, fun j hj => by
        rcases Nat.lt_succ_iff_lt_or_eq.mp hj with h | h
        · exact he j h
        · rw [h]; exact q, q2⟩
    | false =>
      have hR := finF (.inr ⟨i, h1, h2, q⟩) s2 q2
      wp_walk
      all_goals exact hR
  case fin =>
    rintro ⟨b1, b2⟩ s' ⟨hb', i, hz, hi, he, hI⟩
    simp only at hb'
    subst hb'
    have hge : (items.toList.zip items2.toList).length ≤ i := by
      rcases Nat.lt_or_ge i (items.toList.zip items2.toList).length with h' | h'
      · rw [List.drop_eq_getElem_cons h'] at hz; cases hz
      · exact h'
    rw [List.length_zip, Array.length_toList, Array.length_toList] at hge hi
    by_cases hsz : items.size = items2.size
    · have hR : R (.ok (.ret (.bool false))) s' := finT hsz (fun j hj => he j (by omega)) s' hI
      wp_walk
      simpa [Builtin.Tuple.tupleCompareSizes, hsz] using hR
    · have hR : R (.ok (.ret (.bool true))) s' := finF (.inl hsz) s' hI
      have hne : (items.size != items2.size) = true := by simpa using hsz
      wp_walk
      show R (.ok (.ret (.bool (items.size != items2.size)))) _
      rw [hne]
      exact hR
  case h =>
    exact ⟨rfl, 0, rfl, Nat.zero_le _, fun j hj => absurd hj (Nat.not_lt_zero _), h0⟩
end
end DvQ
/-! Dv16: deep == over plain data with instances. -/
namespace Dv
open PySem PySem.Spec PyProof.Rows L2
/-- == of scalars, and of data without instances -/
def pyEq (d e : D) : Option Bool := match d.v?, e.v? with
  | some v, some w => some (eqV v w)
  | _, _ => match d.py, e.py with
    | some p, some q => if (SeqAt.shaped p && SeqAt.shaped q) = true then some (PyData.eqv p q) else none
    | _, _ => none
section
variable (ie : Nat → List (Str × D) → List (Str × D) → Option Bool)
mutual
def dEq : D → D → Option Bool
  | .lst xs, e => match e with
    | .lst ys => dEqL xs ys
    | e => pyEq (.lst xs) e
  | .tup xs, e => match e with
    | .tup ys => dEqL xs ys
    | e => pyEq (.tup xs) e
  | .ins _ c fs, e => match e with
    | .ins _ c' gs => if c = c' then ie c fs gs else none
    | _ => none
  | .non, e => pyEq .non e
  | .bl b, e => pyEq (.bl b) e
  | .int i, e => pyEq (.int i) e
  | .str z, e => pyEq (.str z) e
  | _, _ => none
def dEqL : List D → List D → Option Bool
  | [], ys => some ys.isEmpty
  | x :: xs, ys => match ys with
    | [] => some false
    | y :: ys => match dEq x y with
      | some true => dEqL xs ys
      | some false => some false
      | none => none
end
mutual
def dep : D → Nat
  | .lst xs => depL xs + 1
  | .tup xs => depL xs + 1
  | _ => 0
def depL : List D → Nat
  | [] => 0
  | x :: xs => max (dep x) (depL xs)
end
/-- the j-th two are equal -/
def eqAtB (ds es : List D) (j : Nat) : Bool := match ds[j]?, es[j]? with
  | some d, some e => dEq ie d e == some true
  | _, _ => false
end
section
variable {ie : Nat → List (Str × D) → List (Str × D) → Option Bool}
theorem dEqL_at : ∀ {ds es : List D} {r : Bool}, dEqL ie ds es = some r → ∀ i d e, ds[i]? = some d → es[i]? = some e → (∀ j, j < i → eqAtB ie ds es j = true) → dEq ie d e = some (eqAtB ie ds es i)
  | [], _, _, _, i, _, _, h1, _, _ => by simp at h1
  | _ :: _, [], _, _, i, _, _, _, h2, _ => by simp at h2
  | x :: xs, y :: ys, r, h, 0, d, e, h1, h2, _ => by
    simp only [List.getElem?_cons_zero, Option.some.injEq] at h1 h2
    subst h1
    subst h2
    have h' : (match dEq ie x y with | some true => dEqL ie xs ys | some false => some false | none => none) = some r := h
    show _ = some (dEq ie x y == some true)
    cases q : dEq ie x y with
    | none => rw [q] at h'; cases h'
    | some b => cases b <;> rfl
  | x :: xs, y :: ys, r, h, i + 1, d, e, h1, h2, hj => by
    have h0 : (dEq ie x y == some true) = true := hj 0 (Nat.succ_pos _)
    have h0 : dEq ie x y = some true := by simpa using h0
    have h' : (match dEq ie x y with | some true => dEqL ie xs ys | some false => some false | none => none) = some r := h
    rw [h0] at h'
    exact dEqL_at (ds := xs) (es := ys) h' i d e h1 h2 fun j hlt => hj (j + 1) (Nat.succ_lt_succ hlt)
theorem dEqL_T : ∀ {ds es : List D} {r : Bool}, dEqL ie ds es = some r → ds.length = es.length → (∀ j, j < ds.length → eqAtB ie ds es j = true) → r = true
  | [], [], r, h, _, _ => by
    have h' : some true = some r := h
    exact (Option.some.inj h').symm
  | [], _ :: _, _, _, hl, _ => by cases hl
  | _ :: _, [], _, _, hl, _ => by cases hl
  | x :: xs, y :: ys, r, h, hl, hj => by
    have h0 : (dEq ie x y == some true) = true := hj 0 (Nat.succ_pos _)
    have h0 : dEq ie x y = some true := by simpa using h0
    have h' : (match dEq ie x y with | some true => dEqL ie xs ys | some false => some false | none => none) = some r := h
    rw [h0] at h'
    exact dEqL_T (ds := xs) (es := ys) h' (Nat.succ.inj hl) fun j hlt => hj (j + 1) (Nat.succ_lt_succ hlt)
theorem dEqL_F : ∀ {ds es : List D} {r : Bool}, dEqL ie ds es = some r → (ds.length ≠ es.length ∨ ∃ j, j < ds.length ∧ j < es.length ∧ eqAtB ie ds es j = false) → r = false
  | [], [], r, h, hf => by
    rcases hf with hf | ⟨j, hj, _⟩
    · exact absurd rfl hf
    · exact absurd hj (Nat.not_lt_zero _)
  | [], y :: ys, r, h, _ => by
    have h' : some false = some r := h
    exact (Option.some.inj h').symm
  | _ :: _, [], r, h, _ => by
    have h' : some false = some r := h
    exact (Option.some.inj h').symm
  | x :: xs, y :: ys, r, h, hf => by
    have h' : (match dEq ie x y with | some true => dEqL ie xs ys | some false => some false | none => none) = some r := h
    cases q : dEq ie x y with
    | none => rw [q] at h'; cases h'
    | some b =>
      rw [q] at h'
      cases b with
      | false => exact (Option.some.inj h').symm
      | true =>
        refine dEqL_F (ds := xs) (es := ys) h' ?_
        rcases hf with hf | ⟨j, h1, h2, h3⟩
        · exact .inl fun e => hf (congrArg Nat.succ e)
        · cases j with
          | zero =>
            have h3' : (dEq ie x y == some true) = false := h3
            rw [q] at h3'
            cases h3'
          | succ j => exact .inr ⟨j, Nat.lt_of_succ_lt_succ h1, Nat.lt_of_succ_lt_succ h2, h3⟩
end
/-! ### the reading -/
/-- a def of plain data called: the caller's things stay -/
theorem spP_goE {g : G} {I : Hp} {α : Al} {H : Hp} {μ : Sto} {F : Hp} {c : CtP} {vs : List V} {xs : List D} {k : D → Prop} {Q : VK} {W : XK} (hf : Hf g I α H μ F) (r : RpL g I vs xs)
    (hc : c xs k (fun _ => False)) (hk : ∀ v d I' H', Same I I' → Hf g I' α H' μ F → Rp g I' v d → k d → Q v H') : spOf g (ctP c) vs H Q W := by
  refine ⟨I, [], [], asideOf α H F, xs.map Sl.val, fun s _ => ∃ d, s = .val d ∧ k d, fun _ _ => False, hf.leave, RpSL.ofL r, ⟨rfl, xs, rfl, ?_⟩, fun v d I' α' H' μ' x' hf' r' t' => ?_, fun _ _ _ _ _ _ _ _ _ _ z => z.elim⟩
  · have e1 : (fun d => ∀ ν : Sto, ∃ d', (Sl.val d) = Sl.val d' ∧ k d') = k := by
      funext d
      exact propext ⟨fun z => by obtain ⟨d', e, q⟩ := z []; cases e; exact q, fun z _ => ⟨d, rfl, z⟩⟩
    have e2 : (fun (_ : Exn) => ∀ _ : Sto, False) = fun _ => False := by
      funext x
      exact propext ⟨fun z => z [], fun z _ => z⟩
    show c xs (fun d => ∀ ν : Sto, ∃ d', (Sl.val d) = Sl.val d' ∧ k d') (fun _ => ∀ _ : Sto, False)
    rw [e1, e2]
    exact hc
  · obtain ⟨d', e, q'⟩ := t'
    subst e
    cases r' with
    | val r' => exact hk v _ I' H' x'.hp (hf.back hf' x'.hp) r' q'
/-- how instances are equal -/
structure EqI (X : Cx) (cl : Nat → Addr) (ie : Nat → List (Str × D) → List (Str × D) → Option Bool) (n : Nat) : Prop where
  own : ∀ c fs gs b, ie c fs gs = some b → ∃ f fd ps cE, FnOk X.prog X.w X.K X.mg X.base (L2.CX X.prog X.w) n f fd ps (spOf ⟨X.K, cl⟩ (ctP cE)) ∧ OE X.K (cl c) f ∧ kb2 X.K fd ps ∧ ∀ a a' (Q : D → Prop) (E : Exn → Prop), Q (.bl b) → cE [.ins a c fs, .ins a' c gs] Q E
  same : ∀ I vs c fs gs b, RpF ⟨X.K, cl⟩ I vs fs → RpF ⟨X.K, cl⟩ I vs gs → ie c fs gs = some b → b = true
/-- nothing but growth -/
def EqK (X : Cx) (cl : Nat → Addr) (I : Hp) (α : Al) (μ : Sto) (F : Hp) (pins : List (Addr × Obj)) (σ : L2.St) (s : Shared) : Prop := ∃ H' I', Inv X pins σ H' s ∧ Hf ⟨X.K, cl⟩ I' α H' μ F ∧ Same I I'
def EqJ (X : Cx) (cl : Nat → Addr) (n : Nat) (d e : D) (b : Bool) : Prop := ∀ (A : Around) (pins : List (Addr × Obj)) (s : Shared) (σ : L2.St) (H I : Hp) (α : Al) (μ : Sto) (F : Hp) (x y : V) (u v : Value), Sub X n A → Inv X pins σ H s → Hf ⟨X.K, cl⟩ I α H μ F → Rp ⟨X.K, cl⟩ I x d → Rp ⟨X.K, cl⟩ I y e → RelV x u → RelV y v →
  wpAny (model X.prog X.w) A (eqBool u v) (fun r s' => r = b ∧ EqK X cl I α μ F pins σ s') X.xe s
def RcJ (X : Cx) (cl : Nat → Addr) (n : Nat) (op : CmpOp) (d e : D) (b : Bool) : Prop := ∀ (A : Around) (pins : List (Addr × Obj)) (s : Shared) (σ : L2.St) (H I : Hp) (α : Al) (μ : Sto) (F : Hp) (x y : V) (u v : Value), Sub X n A → Inv X pins σ H s → Hf ⟨X.K, cl⟩ I α H μ F → Rp ⟨X.K, cl⟩ I x d → Rp ⟨X.K, cl⟩ I y e → RelV x u → RelV y v →
  wpAny (model X.prog X.w) A (richCompare op u v) (fun r s' => r = .bool b ∧ EqK X cl I α μ F pins σ s') X.xe s
section
variable {X : Cx} {cl : Nat → Addr} {ie : Nat → List (Str × D) → List (Str × D) → Option Bool} {n : Nat}
theorem EqJ.mono {m : Nat} {d e : D} {b : Bool} (h : EqJ X cl n d e b) (hn : n ≤ m) : EqJ X cl m d e b := fun A pins s σ H I α μ F x y u v sb => h A pins s σ H I α μ F x y u v (sb.mono hn)
theorem eqJ_py {d e : D} {b : Bool} (h : pyEq d e = some b) : EqJ X cl 0 d e b := by
  intro A pins s σ H I α μ F x y u v sb J hf rx ry hu hv
  have fin : EqK X cl I α μ F pins σ s := ⟨H, I, J, hf, Same.refl _⟩
  unfold pyEq at h
  split at h
  · rename_i p q e1 e2
    cases h
    have z1 := v?_rp (rx.mono hf.sub) e1
    have z2 := v?_rp (ry.mono hf.sub) e2
    subst z1
    subst z2
    exact eqAt_V (A := A) (s := s) hu hv (v?_flat e1) (v?_flat e2) X.prog X.w X.xe _ ⟨rfl, fin⟩
  · split at h
    · rename_i p q e1 e2
      split at h
      · rename_i hs
        cases h
        obtain ⟨hs1, hs2⟩ := Bool.and_eq_true_iff.mp hs
        obtain ⟨as, r1⟩ := Dp.reads J p x u (rx.dp hf.sub e1) hu
        obtain ⟨bs, r2⟩ := Dp.reads J q y v (ry.dp hf.sub e2) hv
        exact SeqAt.eqAt_reads p q A s u v as bs r1 r2 (SeqAt.canLay_of_shaped hs1) (SeqAt.canLay_of_shaped hs2) (SeqAt.room_of_shaped hs1 sb.room.units) X.prog X.w X.xe _ ⟨rfl, fin⟩
      · cases h
    · cases h
theorem eqJ_ins (ei : EqI X cl ie n) {a a' : Addr} {c : Nat} {fs gs : List (Str × D)} {b : Bool} (h : ie c fs gs = some b) : EqJ X cl n (.ins a c fs) (.ins a' c gs) b := by
  intro A pins s σ H I α μ F x y u v sb J hf rx ry hu hv
  cases rx with
  | @ins a c dx vs fs hi rf =>
  cases ry with
  | @ins a' c dy ws gs hi' rg =>
  obtain rfl : u = Value.ref a := hu
  obtain rfl : v = Value.ref a' := hv
  by_cases haa : a = a'
  · subst haa
    rw [hi] at hi'
    injection hi' with hi'
    injection hi' with _ e1 e2
    subst e2
    have hb := ei.same I vs c fs gs b rf rg h
    subst hb
    exact SeqAt.EqAt.same (A := A) (s := s) (.ref a) X.prog X.w X.xe _ ⟨rfl, H, I, J, hf, Same.refl _⟩
  · obtain ⟨f, fd, ps, cE, Fk, oe, hb2, hq⟩ := ei.own c fs gs b h
    have ha := hf.sub _ _ hi
    have ha' := hf.sub _ _ hi'
    obtain ⟨mA, JA, _⟩ := ins_get J.hok ha
    obtain ⟨mB, JB, _⟩ := ins_get J.hok ha'
    obtain ⟨od, JA, _⟩ := JA.look
    obtain ⟨od', JB, _⟩ := JB.look
    obtain ⟨m, hF⟩ := J.fr
    refine GQ.eqBool_refG haa (PySem.W.cmp_K (op := .Eq) (tb := .ref (cl c)) sb.room.units0 hF J.ok.mod.kin JA JB.type (by simp [PySem.W.notFirst]) oe.at_ oe.fn ?_)
    have hsp : spOf ⟨X.K, cl⟩ (ctP cE) [.ref a, .ref a'] H (fun v H' => v = .bl b ∧ ∃ I', Hf ⟨X.K, cl⟩ I' α H' μ F ∧ Same I I') (fun _ _ _ => False) :=
      spP_goE (k := fun d => d = .bl b) hf (.cons (.ins hi rf) (.cons (.ins hi' rg) .nil)) (hq a a' _ _ rfl) fun v d I' H' x' hf' r' e => by
        subst e
        cases r'
        exact ⟨rfl, I', hf', x'⟩
    have e0 : Env0 X.prog X.w X.K X.mg X.base A X.stack s H := by
      have e := J.env0
      exact ⟨by rw [sb.fr]; exact e.frames, e.mod, e.bs, e.bsz, e.funs, e.frf, e.hok, e.bare⟩
    have run := Fk.run A X.stack s H ⟨[.ref a, .ref a'], [].zip []⟩ _ [.ref a, .ref a'] _ _ sb.room e0 (hb2.to s [.ref a, .ref a'] [] J.kIn rfl rfl) (.cons rfl (.cons rfl .nil)) hsp
    refine wpAny_call (codeAny_mono run fun r s' hq' => ?_)
    cases r with
    | error e =>
      obtain ⟨_, _, _, _, _, _, _, _, _, _, _, _, z⟩ := hq'
      exact z.elim
    | ok fl =>
      cases fl with
      | ret w =>
        obtain ⟨z, H', J', rz, ez, I', hf', x'⟩ := J.after hq'
        subst ez
        cases (show w = Value.bool b from rz)
        exact ⟨b, rfl, rfl, H', I', J', hf', x'⟩
      | next => exact False.elim hq'
      | brk => exact False.elim hq'
      | cont => exact False.elim hq'
end
section
variable {X : Cx} {cl : Nat → Addr} {ie : Nat → List (Str × D) → List (Str × D) → Option Bool} {n : Nat} {ds es : List D} {r : Bool}
/-- the items, as far as they are compared -/
def ItemsJ (X : Cx) (cl : Nat → Addr) (ie : Nat → List (Str × D) → List (Str × D) → Option Bool) (n : Nat) (ds es : List D) : Prop :=
  ∀ i d e, ds[i]? = some d → es[i]? = some e → (∀ j, j < i → eqAtB ie ds es j = true) → EqJ X cl n d e (eqAtB ie ds es i)
theorem item_turn (hat : ItemsJ X cl ie n ds es) {A : Around} {pins : List (Addr × Obj)} {σ : L2.St} {I : Hp} {α : Al} {μ : Sto} {F : Hp} {vs ws : List V} {its its2 : List Value} (sb : Sub X (n + 1) A) (rl : RpL ⟨X.K, cl⟩ I vs ds) (rm : RpL ⟨X.K, cl⟩ I ws es) (r1 : Vals vs its) (r2 : Vals ws its2)
    (i : Nat) (h1 : i < its.toArray.size) (h2 : i < its2.toArray.size) {s : Shared} (q : EqK X cl I α μ F pins σ s) (hj : ∀ j, j < i → eqAtB ie ds es j = true) :
    wpAny (model X.prog X.w) A.in1 (eqBool its.toArray[i] its2.toArray[i]) (fun r s' => r = eqAtB ie ds es i ∧ EqK X cl I α μ F pins σ s') X.xe s := by
  obtain ⟨H', I', J, hf, x⟩ := q
  have k1 : i < vs.length := by rw [r1.length]; simpa using h1
  have k2 : i < ws.length := by rw [r2.length]; simpa using h2
  obtain ⟨d, hd, rd⟩ := rl.get (List.getElem?_eq_getElem k1)
  obtain ⟨e, he, re⟩ := rm.get (List.getElem?_eq_getElem k2)
  obtain ⟨u, hu, ru⟩ := r1.get (List.getElem?_eq_getElem k1)
  obtain ⟨v, hv, rv⟩ := r2.get (List.getElem?_eq_getElem k2)
  have g1 : its[i]? = some its.toArray[i] := by
    have h1' : i < its.length := by simpa using h1
    rw [List.getElem?_eq_getElem h1'] <;> simp
  have g2 : its2[i]? = some its2.toArray[i] := by
    have h2' : i < its2.length := by simpa using h2
    rw [List.getElem?_eq_getElem h2'] <;> simp
  rw [g1] at hu
  rw [g2] at hv
  rw [Option.some.inj hu, Option.some.inj hv]
  refine wpAny_mono (hat i d e hd he hj A.in1 pins s σ H' I' α μ F _ _ u v sb.in1 J hf (rd.mono x) (re.mono x) ru rv) (fun r s' z => ?_) fun _ _ e => e
  obtain ⟨hr, H2, I2, J2, hf2, x2⟩ := z
  exact ⟨hr, H2, I2, J2, hf2, x.trans x2⟩
theorem turns_list (hat : ItemsJ X cl ie n ds es) {A : Around} {pins : List (Addr × Obj)} {σ : L2.St} {I : Hp} {α : Al} {μ : Sto} {F : Hp} {l b : Addr} {vs ws : List V} (sb : Sub X (n + 1) A) (hq : SqL X.K I l vs) (rl : RpL ⟨X.K, cl⟩ I vs ds) (hq2 : SqL X.K I b ws) (rm : RpL ⟨X.K, cl⟩ I ws es) :
    DvQ.TurnsL X.prog X.w A X.xe l b ds.length es.length (EqK X cl I α μ F pins σ) (eqAtB ie ds es) := by
  intro s q
  obtain ⟨H', I', J, hf, x⟩ := id q
  obtain ⟨its, r1, ⟨⟨cls, dd, data, sl⟩, n1, ho, hc, hdd, hd⟩, _⟩ := J.list (hf.sub.seq (x.seq hq))
  obtain ⟨its2, r2, ⟨⟨cls2, dd2, data2, sl2⟩, n2, ho2, hc2, hdd2, hd2⟩, _⟩ := J.list (hf.sub.seq (x.seq hq2))
  simp only at hc hd hc2 hd2
  subst hc hd hc2 hd2
  exact ⟨its.toArray, its2.toArray, n1, n2, dd, dd2, sl, sl2, ho, ho2, by rw [List.size_toArray, ← r1.length, rl.length], by rw [List.size_toArray, ← r2.length, rm.length], fun i h1 h2 hj => item_turn hat sb rl rm r1 r2 i h1 h2 q hj⟩
theorem rcJ_listE (hat : ItemsJ X cl ie n ds es) (hT : ds.length = es.length → (∀ j, j < ds.length → eqAtB ie ds es j = true) → r = true) (hF : (ds.length ≠ es.length ∨ ∃ j, j < ds.length ∧ eqAtB ie ds es j = false) → r = false) : RcJ X cl (n + 1) .Eq (.lst ds) (.lst es) r := by
  intro A pins s σ H I α μ F x y u v sb J hf rx ry hu hv
  cases rx with
  | @lst l vs _ hq rl =>
  cases ry with
  | @lst b ws _ hq2 rm =>
  obtain rfl : u = Value.ref l := hu
  obtain rfl : v = Value.ref b := hv
  have h0 : EqK X cl I α μ F pins σ s := ⟨H, I, J, hf, Same.refl _⟩
  have turns := turns_list (α := α) (μ := μ) (F := F) (pins := pins) (σ := σ) hat sb hq rl hq2 rm
  obtain ⟨_, _, _, _, _, _, _, _, ho, ho2, _⟩ := turns s h0
  refine wpAny_richCompare_same_room (op := .Eq) ⟨_, ho, rfl⟩ ⟨_, ho2, rfl⟩ PySem.F.slot_list_eq (GQ.call_here PySem.F.slot_list_eq ⟨_, ho, rfl⟩ PySem.F.entry_list_eq (PySem.F.args_list_eq_2 _ _) ?_) sb.room.units0
  exact DvQ.list_E (R := wants (fun v s' => v ≠ .notImplemented ∧ v = .bool r ∧ EqK X cl I α μ F pins σ s') X.xe) turns (fun hl hj s' q => ⟨(fun z => nomatch z), by rw [hT hl hj], q⟩) (fun hf s' q => ⟨(fun z => nomatch z), by rw [hF hf], q⟩) h0
theorem rcJ_listN (hat : ItemsJ X cl ie n ds es) (hT : ds.length = es.length → (∀ j, j < ds.length → eqAtB ie ds es j = true) → r = true) (hF : (ds.length ≠ es.length ∨ ∃ j, j < ds.length ∧ eqAtB ie ds es j = false) → r = false) : RcJ X cl (n + 1) .NotEq (.lst ds) (.lst es) (!r) := by
  intro A pins s σ H I α μ F x y u v sb J hf rx ry hu hv
  cases rx with
  | @lst l vs _ hq rl =>
  cases ry with
  | @lst b ws _ hq2 rm =>
  obtain rfl : u = Value.ref l := hu
  obtain rfl : v = Value.ref b := hv
  have h0 : EqK X cl I α μ F pins σ s := ⟨H, I, J, hf, Same.refl _⟩
  have turns := turns_list (α := α) (μ := μ) (F := F) (pins := pins) (σ := σ) hat sb hq rl hq2 rm
  obtain ⟨_, _, _, _, _, _, _, _, ho, ho2, _⟩ := turns s h0
  refine wpAny_richCompare_same_room (op := .NotEq) ⟨_, ho, rfl⟩ ⟨_, ho2, rfl⟩ PySem.F.slot_list_ne (GQ.call_here PySem.F.slot_list_ne ⟨_, ho, rfl⟩ PySem.F.entry_list_ne (PySem.F.args_list_ne_2 _ _) ?_) sb.room.units0
  exact DvQ.list_N (R := wants (fun v s' => v ≠ .notImplemented ∧ v = .bool (!r) ∧ EqK X cl I α μ F pins σ s') X.xe) turns (fun hl hj s' q => ⟨(fun z => nomatch z), by rw [hT hl hj]; rfl, q⟩) (fun hf s' q => ⟨(fun z => nomatch z), by rw [hF hf]; rfl, q⟩) h0
theorem rcJ_tupE (hat : ItemsJ X cl ie n ds es) (hT : ds.length = es.length → (∀ j, j < ds.length → eqAtB ie ds es j = true) → r = true) (hF : (ds.length ≠ es.length ∨ ∃ j, j < ds.length ∧ j < es.length ∧ eqAtB ie ds es j = false) → r = false) : RcJ X cl (n + 1) .Eq (.tup ds) (.tup es) r := by
  intro A pins s σ H I α μ F x y u v sb J hf rx ry hu hv
  cases rx with
  | @tup l vs _ hq rl =>
  cases ry with
  | @tup b ws _ hq2 rm =>
  obtain rfl : u = Value.ref l := hu
  obtain rfl : v = Value.ref b := hv
  have h0 : EqK X cl I α μ F pins σ s := ⟨H, I, J, hf, Same.refl _⟩
  obtain ⟨its, r1, ⟨⟨cls, dd, data, sl⟩, ho, hc, n1, hd⟩, _⟩ := J.tuple (sqT_same hf.sub hq)
  obtain ⟨its2, r2, ⟨⟨cls2, dd2, data2, sl2⟩, ho2, hc2, n2, hd2⟩, _⟩ := J.tuple (sqT_same hf.sub hq2)
  simp only at hc hd hc2 hd2
  subst hc hd hc2 hd2
  have z1 : its.toArray.size = ds.length := by rw [List.size_toArray, ← r1.length, rl.length]
  have z2 : its2.toArray.size = es.length := by rw [List.size_toArray, ← r2.length, rm.length]
  refine wpAny_richCompare_same_room (op := .Eq) ⟨_, ho, rfl⟩ ⟨_, ho2, rfl⟩ PySem.F.slot_tuple_eq (GQ.call_here PySem.F.slot_tuple_eq ⟨_, ho, rfl⟩ PySem.F.entry_tuple_eq (PySem.F.args_tuple_eq_2 _ _) ?_) sb.room.units0
  exact DvQ.tup_E (e := eqAtB ie ds es) (I := EqK X cl I α μ F pins σ) (R := wants (fun v s' => v ≠ .notImplemented ∧ v = .bool r ∧ EqK X cl I α μ F pins σ s') X.xe) (fun i h1 h2 s' q hj => item_turn hat sb rl rm r1 r2 i h1 h2 q hj)
    (fun hl hj s' q => ⟨(fun z => nomatch z), by rw [hT (by rw [← z1, ← z2, hl]) fun j h => hj j (by rw [z1]; exact h)], q⟩) (fun hf s' q => ⟨(fun z => nomatch z), by rw [hF (by rw [z1, z2] at hf; exact hf)], q⟩) ho ho2 h0
theorem rcJ_tupN (hat : ItemsJ X cl ie n ds es) (hT : ds.length = es.length → (∀ j, j < ds.length → eqAtB ie ds es j = true) → r = true) (hF : (ds.length ≠ es.length ∨ ∃ j, j < ds.length ∧ j < es.length ∧ eqAtB ie ds es j = false) → r = false) : RcJ X cl (n + 1) .NotEq (.tup ds) (.tup es) (!r) := by
  intro A pins s σ H I α μ F x y u v sb J hf rx ry hu hv
  cases rx with
  | @tup l vs _ hq rl =>
  cases ry with
  | @tup b ws _ hq2 rm =>
  obtain rfl : u = Value.ref l := hu
  obtain rfl : v = Value.ref b := hv
  have h0 : EqK X cl I α μ F pins σ s := ⟨H, I, J, hf, Same.refl _⟩
  obtain ⟨its, r1, ⟨⟨cls, dd, data, sl⟩, ho, hc, n1, hd⟩, _⟩ := J.tuple (sqT_same hf.sub hq)
  obtain ⟨its2, r2, ⟨⟨cls2, dd2, data2, sl2⟩, ho2, hc2, n2, hd2⟩, _⟩ := J.tuple (sqT_same hf.sub hq2)
  simp only at hc hd hc2 hd2
  subst hc hd hc2 hd2
  have z1 : its.toArray.size = ds.length := by rw [List.size_toArray, ← r1.length, rl.length]
  have z2 : its2.toArray.size = es.length := by rw [List.size_toArray, ← r2.length, rm.length]
  refine wpAny_richCompare_same_room (op := .NotEq) ⟨_, ho, rfl⟩ ⟨_, ho2, rfl⟩ PySem.F.slot_tuple_ne (GQ.call_here PySem.F.slot_tuple_ne ⟨_, ho, rfl⟩ PySem.F.entry_tuple_ne (PySem.F.args_tuple_ne_2 _ _) ?_) sb.room.units0
  exact DvQ.tup_N (e := eqAtB ie ds es) (I := EqK X cl I α μ F pins σ) (R := wants (fun v s' => v ≠ .notImplemented ∧ v = .bool (!r) ∧ EqK X cl I α μ F pins σ s') X.xe) (fun i h1 h2 s' q hj => item_turn hat sb rl rm r1 r2 i h1 h2 q hj)
    (fun hl hj s' q => ⟨(fun z => nomatch z), by rw [hT (by rw [← z1, ← z2, hl]) fun j h => hj j (by rw [z1]; exact h)]; rfl, q⟩) (fun hf s' q => ⟨(fun z => nomatch z), by rw [hF (by rw [z1, z2] at hf; exact hf)]; rfl, q⟩) ho ho2 h0
end
/-- what the heap says of who is what -/
structure OneWay (K : PySem.W.Frag) (I : Hp) : Prop where
  l : ∀ a xs ys, SqL K I a xs → SqL K I a ys → xs = ys
  t : ∀ a xs ys, SqT K I a xs → SqT K I a ys → xs = ys
  lt : ∀ a xs ys, SqL K I a xs → SqT K I a ys → False
theorem oneWay {X : Cx} {cl : Nat → Addr} {pins : List (Addr × Obj)} {σ : L2.St} {H I : Hp} {s : Shared} {α : Al} {μ : Sto} {F : Hp} (J : Inv X pins σ H s) (hf : Hf ⟨X.K, cl⟩ I α H μ F) : OneWay X.K I := by
  refine ⟨fun a xs ys h1 h2 => J.list_inj (hf.sub.seq h1) (hf.sub.seq h2), fun a xs ys h1 h2 => J.tuple_inj (sqT_same hf.sub h1) (sqT_same hf.sub h2), fun a xs ys h1 h2 => ?_⟩
  obtain ⟨its, _, ⟨o, n1, ho, hc, _, _⟩, _⟩ := J.list (hf.sub.seq h1)
  obtain ⟨its2, _, ⟨o2, ho2, hc2, _, _⟩, _⟩ := J.tuple (sqT_same hf.sub h2)
  rw [ho] at ho2
  cases ho2
  rw [hc] at hc2
  exact absurd hc2 (by decide)
section
variable {g : G} {I : Hp} {ie : Nat → List (Str × D) → List (Str × D) → Option Bool}
theorem pyEq_no {d e : D} (hd : d.v? = none) (he : e.py = none) : pyEq d e = none := by
  unfold pyEq
  rw [hd, he]
  cases d.py <;> rfl
theorem eqV_same {d : D} {v : V} (h : d.v? = some v) : eqV v v = true := by
  cases d <;> cases h <;> simp [eqV]
mutual
theorem sameD (w : OneWay g.K I) (hs : ∀ vs c fs gs b, RpF g I vs fs → RpF g I vs gs → ie c fs gs = some b → b = true) : ∀ (d e : D) {x : V} {b : Bool}, Rp g I x d → Rp g I x e → dEq ie d e = some b → b = true
  | .non, e, x, b, rx, re, h => by
    cases rx
    cases re
    exact (Option.some.inj h).symm
  | .bl c, e, x, b, rx, re, h => by
    cases rx
    cases re
    have h' : some (eqV (.bl c) (.bl c)) = some b := h
    rw [← Option.some.inj h']
    exact eqV_same (d := .bl c) rfl
  | .int c, e, x, b, rx, re, h => by
    cases rx
    cases re
    have h' : some (eqV (.int c) (.int c)) = some b := h
    rw [← Option.some.inj h']
    exact eqV_same (d := .int c) rfl
  | .str c, e, x, b, rx, re, h => by
    cases rx
    cases re
    have h' : some (eqV (.str c) (.str c)) = some b := h
    rw [← Option.some.inj h']
    exact eqV_same (d := .str c) rfl
  | .ty c, e, x, b, rx, re, h => by cases h
  | .obj a o, e, x, b, rx, re, h => by cases h
  | .exn a d c fs, e, x, b, rx, re, h => by cases h
  | .lst xs, e, x, b, rx, re, h => by
    cases rx with
    | @lst a vs _ hq rl =>
      cases re with
      | @lst _ ws ys hq2 rm =>
        have e1 := w.l _ _ _ hq hq2
        subst e1
        exact sameL w hs xs ys rl rm h
      | tup hq2 rm => exact (w.lt _ _ _ hq hq2).elim
      | obj => exact absurd ((pyEq_no (d := .lst xs) rfl rfl).symm.trans h) (fun z => nomatch z)
      | ins => exact absurd ((pyEq_no (d := .lst xs) rfl rfl).symm.trans h) (fun z => nomatch z)
      | cls => exact absurd ((pyEq_no (d := .lst xs) rfl rfl).symm.trans h) (fun z => nomatch z)
      | exn0 => exact absurd ((pyEq_no (d := .lst xs) rfl rfl).symm.trans h) (fun z => nomatch z)
      | exn => exact absurd ((pyEq_no (d := .lst xs) rfl rfl).symm.trans h) (fun z => nomatch z)
  | .tup xs, e, x, b, rx, re, h => by
    cases rx with
    | @tup a vs _ hq rl =>
      cases re with
      | @tup _ ws ys hq2 rm =>
        have e1 := w.t _ _ _ hq hq2
        subst e1
        exact sameL w hs xs ys rl rm h
      | lst hq2 rm => exact (w.lt _ _ _ hq2 hq).elim
      | obj => exact absurd ((pyEq_no (d := .tup xs) rfl rfl).symm.trans h) (fun z => nomatch z)
      | ins => exact absurd ((pyEq_no (d := .tup xs) rfl rfl).symm.trans h) (fun z => nomatch z)
      | cls => exact absurd ((pyEq_no (d := .tup xs) rfl rfl).symm.trans h) (fun z => nomatch z)
      | exn0 => exact absurd ((pyEq_no (d := .tup xs) rfl rfl).symm.trans h) (fun z => nomatch z)
      | exn => exact absurd ((pyEq_no (d := .tup xs) rfl rfl).symm.trans h) (fun z => nomatch z)
  | .ins a c fs, e, x, b, rx, re, h => by
    cases rx with
    | @ins _ _ dx vs _ hi rf =>
      cases re with
      | @ins _ c' dy ws gs hi' rg =>
        rw [hi] at hi'
        injection hi' with hi'
        injection hi' with _ e1 e2
        subst e2
        have h' : (if c = c' then ie c fs gs else none) = some b := h
        split at h'
        · exact hs vs c fs gs b rf rg h'
        · cases h'
      | _ => cases h
theorem sameL (w : OneWay g.K I) (hs : ∀ vs c fs gs b, RpF g I vs fs → RpF g I vs gs → ie c fs gs = some b → b = true) : ∀ (ds es : List D) {vs : List V} {b : Bool}, RpL g I vs ds → RpL g I vs es → dEqL ie ds es = some b → b = true
  | [], es, vs, b, rx, re, h => by
    cases rx
    cases re
    exact (Option.some.inj h).symm
  | d :: ds, es, vs, b, rx, re, h => by
    cases rx with
    | cons r1 r2 =>
      cases re with
      | @cons _ e _ es q1 q2 =>
        have h' : (match dEq ie d e with | some true => dEqL ie ds es | some false => some false | none => none) = some b := h
        cases z : dEq ie d e with
        | none => rw [z] at h'; cases h'
        | some c =>
          have hc := sameD w hs d e r1 q1 z
          subst hc
          rw [z] at h'
          exact sameL w hs ds es r2 q2 h'
end
end
section
variable {X : Cx} {cl : Nat → Addr} {ie : Nat → List (Str × D) → List (Str × D) → Option Bool} {n m : Nat} {d e : D} {b : Bool}
theorem eqJ_rc (ei : EqI X cl ie n) (h : dEq ie d e = some b) (rc : RcJ X cl m .Eq d e b) (hd : ∀ I x, Rp ⟨X.K, cl⟩ I x d → ∃ a, x = .ref a) (he : ∀ I x, Rp ⟨X.K, cl⟩ I x e → ∃ a, x = .ref a) : EqJ X cl m d e b := by
  intro A pins s σ H I α μ F x y u v sb J hf rx ry hu hv
  obtain ⟨a, rfl⟩ := hd I x rx
  obtain ⟨a', rfl⟩ := he I y ry
  obtain rfl : u = Value.ref a := hu
  obtain rfl : v = Value.ref a' := hv
  by_cases haa : a = a'
  · subst haa
    have hb := sameD (g := ⟨X.K, cl⟩) (oneWay J hf) (fun vs c fs gs b r1 r2 => ei.same I vs c fs gs b r1 r2) d e rx ry h
    subst hb
    exact SeqAt.EqAt.same (A := A) (s := s) (.ref a) X.prog X.w X.xe _ ⟨rfl, H, I, J, hf, Same.refl _⟩
  · refine GQ.eqBool_refG haa (wpAny_mono (rc A pins s σ H I α μ F _ _ _ _ sb J hf rx ry rfl rfl) (fun r s' q => ?_) fun _ _ x => x)
    exact ⟨b, q.1, rfl, q.2⟩
mutual
theorem dEq_ok (ei : EqI X cl ie n) : ∀ (d e : D) {b : Bool}, dEq ie d e = some b → EqJ X cl (n + dep d) d e b
  | .non, e, b, h => (eqJ_py h).mono (Nat.zero_le _)
  | .bl _, e, b, h => (eqJ_py h).mono (Nat.zero_le _)
  | .int _, e, b, h => (eqJ_py h).mono (Nat.zero_le _)
  | .str _, e, b, h => (eqJ_py h).mono (Nat.zero_le _)
  | .ty _, e, b, h => by cases h
  | .obj _ _, e, b, h => by cases h
  | .exn _ _ _ _, e, b, h => by cases h
  | .ins a c fs, e, b, h => by
    cases e with
    | ins a' c' gs =>
      have h' : (if c = c' then ie c fs gs else none) = some b := h
      split at h'
      · rename_i hc
        subst hc
        exact (eqJ_ins ei h').mono (Nat.le_add_right _ _)
      · cases h'
    | _ => cases h
  | .lst xs, e, b, h => by
    cases e with
    | lst ys =>
      have h' : dEqL ie xs ys = some b := h
      have hat := dEqL_ok ei xs ys h'
      refine eqJ_rc ei h (rcJ_listE hat (fun hl hj => dEqL_T h' hl hj) (fun hf => dEqL_F h' ?_)) (fun I x r => by cases r; exact ⟨_, rfl⟩) (fun I x r => by cases r; exact ⟨_, rfl⟩)
      by_cases hl : xs.length = ys.length
      · rcases hf with hf | ⟨j, h1, h2⟩
        · exact .inl hf
        · exact .inr ⟨j, h1, hl ▸ h1, h2⟩
      · exact .inl hl
    | _ => exact (eqJ_py (d := .lst xs) h).mono (Nat.zero_le _)
  | .tup xs, e, b, h => by
    cases e with
    | tup ys =>
      have h' : dEqL ie xs ys = some b := h
      have hat := dEqL_ok ei xs ys h'
      exact eqJ_rc ei h (rcJ_tupE hat (fun hl hj => dEqL_T h' hl hj) (fun hf => dEqL_F h' hf)) (fun I x r => by cases r; exact ⟨_, rfl⟩) (fun I x r => by cases r; exact ⟨_, rfl⟩)
    | _ => exact (eqJ_py (d := .tup xs) h).mono (Nat.zero_le _)
theorem dEqL_ok (ei : EqI X cl ie n) : ∀ (ds es : List D) {b : Bool}, dEqL ie ds es = some b → ItemsJ X cl ie (n + depL ds) ds es
  | [], es, b, h => fun i d e h1 _ _ => by simp at h1
  | x :: xs, [], b, h => fun i d e _ h2 _ => by simp at h2
  | x :: xs, y :: ys, b, h => fun i d e h1 h2 hj => by
    cases i with
    | zero =>
      have z := dEqL_at h 0 d e h1 h2 hj
      simp only [List.getElem?_cons_zero, Option.some.injEq] at h1 h2
      subst h1
      subst h2
      exact (dEq_ok ei x y z).mono (Nat.add_le_add_left (Nat.le_max_left _ _) _)
    | succ i =>
      have h0 : (dEq ie x y == some true) = true := hj 0 (Nat.succ_pos _)
      have h0 : dEq ie x y = some true := by simpa using h0
      have h' : (match dEq ie x y with | some true => dEqL ie xs ys | some false => some false | none => none) = some b := h
      rw [h0] at h'
      exact (dEqL_ok ei xs ys h' i d e h1 h2 fun j hlt => hj (j + 1) (Nat.succ_lt_succ hlt)).mono (Nat.add_le_add_left (Nat.le_max_right _ _) _)
end
end
/-- == and != of lists or tuples that hold instances, at most N deep -/
def oDeep (o0 : OD) (ie : Nat → List (Str × D) → List (Str × D) → Option Bool) (N : Nat) (neg : Bool) : OD := fun x y μ k => match x, y with
  | .val (.lst xs), .val (.lst ys) => depL xs ≤ N ∧ match dEqL ie xs ys with | some b => k (.val (.bl (if neg then !b else b))) μ | none => False
  | .val (.tup xs), .val (.tup ys) => depL xs ≤ N ∧ match dEqL ie xs ys with | some b => k (.val (.bl (if neg then !b else b))) μ | none => False
  | x, y => o0 x y μ k
def rDeep (g : G) (ie : Nat → List (Str × D) → List (Str × D) → Option Bool) (N : Nat) (neg : Bool) : R2 := fun x y H Q => ∃ (I : Hp) (α : Al) (μ : Sto) (F : Hp) (tp : Bool) (xs ys : List D) (b : Bool), Hf g I α H μ F ∧ depL xs ≤ N ∧ dEqL ie xs ys = some b ∧
  (if tp then Rp g I x (.tup xs) ∧ Rp g I y (.tup ys) else Rp g I x (.lst xs) ∧ Rp g I y (.lst ys)) ∧ ∀ H' I', Hf g I' α H' μ F → Same I I' → Q (.bl (if neg then !b else b)) H'
theorem snd_deep {g : G} {o0 : OD} {r0 : R2} {ie : Nat → List (Str × D) → List (Str × D) → Option Bool} {N : Nat} {neg : Bool} (h0 : OSnd g o0 r0) : OSnd g (oDeep o0 ie N neg) (fun x y H Q => rDeep g ie N neg x y H Q ∨ r0 x y H Q) := by
  intro I α H μ F x y dx dy k Q hf rx ry o hk
  unfold oDeep at o
  split at o
  · rename_i xs ys
    obtain ⟨hN, o⟩ := o
    cases rx with
    | val rx =>
      cases ry with
      | val ry =>
        cases q : dEqL ie xs ys with
        | none => rw [q] at o; exact o.elim
        | some b =>
          rw [q] at o
          exact .inl ⟨I, α, μ, F, false, xs, ys, b, hf, hN, q, ⟨rx, ry⟩, fun H' I' hf' x' => hk _ _ I' α H' μ (Ext.of x' _) hf' (.val .bl) o⟩
  · rename_i xs ys
    obtain ⟨hN, o⟩ := o
    cases rx with
    | val rx =>
      cases ry with
      | val ry =>
        cases q : dEqL ie xs ys with
        | none => rw [q] at o; exact o.elim
        | some b =>
          rw [q] at o
          exact .inl ⟨I, α, μ, F, true, xs, ys, b, hf, hN, q, ⟨rx, ry⟩, fun H' I' hf' x' => hk _ _ I' α H' μ (Ext.of x' _) hf' (.val .bl) o⟩
  · exact .inr (h0 I α H μ F x y dx dy k Q hf rx ry o hk)
section
variable {X : Cx} {cl : Nat → Addr} {ie : Nat → List (Str × D) → List (Str × D) → Option Bool} {n N : Nat}
theorem listF {xs ys : List D} {b : Bool} (h : dEqL ie xs ys = some b) (hf : xs.length ≠ ys.length ∨ ∃ j, j < xs.length ∧ eqAtB ie xs ys j = false) : b = false := by
  refine dEqL_F h ?_
  by_cases hl : xs.length = ys.length
  · rcases hf with hf | ⟨j, h1, h2⟩
    · exact .inl hf
    · exact .inr ⟨j, h1, hl ▸ h1, h2⟩
  · exact .inl hl
theorem op_deepE (ei : EqI X cl ie n) (hr : Room (n + N + 1) X.A) : OpR X (compareOp .Eq) (rDeep ⟨X.K, cl⟩ ie N false) := by
  intro pins s σ H x y v u Q J rx ry h
  obtain ⟨I, α, μ, F, tp, xs, ys, b, hf, hN, q, hp, hq⟩ := h
  have hat := dEqL_ok ei xs ys q
  have sb : Sub X (n + depL xs + 1) X.A := ⟨hr.mono (by omega), rfl⟩
  show wpAny (model X.prog X.w) X.A (richCompare .Eq v u) (EP X pins σ Q) X.xe s
  cases tp with
  | false =>
    refine wpAny_mono (rcJ_listE hat (fun hl hj => dEqL_T q hl hj) (listF q) X.A pins s σ H I α μ F x y v u sb J hf hp.1 hp.2 rx ry) (fun r s' z => ?_) fun _ _ e => e
    obtain ⟨rfl, H', I', J', hf', x'⟩ := z
    exact ⟨.bl b, H', J', rfl, hq H' I' hf' x'⟩
  | true =>
    refine wpAny_mono (rcJ_tupE hat (fun hl hj => dEqL_T q hl hj) (fun hf => dEqL_F q hf) X.A pins s σ H I α μ F x y v u sb J hf hp.1 hp.2 rx ry) (fun r s' z => ?_) fun _ _ e => e
    obtain ⟨rfl, H', I', J', hf', x'⟩ := z
    exact ⟨.bl b, H', J', rfl, hq H' I' hf' x'⟩
theorem op_deepN (ei : EqI X cl ie n) (hr : Room (n + N + 1) X.A) : OpR X (compareOp .NotEq) (rDeep ⟨X.K, cl⟩ ie N true) := by
  intro pins s σ H x y v u Q J rx ry h
  obtain ⟨I, α, μ, F, tp, xs, ys, b, hf, hN, q, hp, hq⟩ := h
  have hat := dEqL_ok ei xs ys q
  have sb : Sub X (n + depL xs + 1) X.A := ⟨hr.mono (by omega), rfl⟩
  show wpAny (model X.prog X.w) X.A (richCompare .NotEq v u) (EP X pins σ Q) X.xe s
  cases tp with
  | false =>
    refine wpAny_mono (rcJ_listN hat (fun hl hj => dEqL_T q hl hj) (listF q) X.A pins s σ H I α μ F x y v u sb J hf hp.1 hp.2 rx ry) (fun r s' z => ?_) fun _ _ e => e
    obtain ⟨rfl, H', I', J', hf', x'⟩ := z
    exact ⟨.bl (!b), H', J', rfl, hq H' I' hf' x'⟩
  | true =>
    refine wpAny_mono (rcJ_tupN hat (fun hl hj => dEqL_T q hl hj) (fun hf => dEqL_F q hf) X.A pins s σ H I α μ F x y v u sb J hf hp.1 hp.2 rx ry) (fun r s' z => ?_) fun _ _ e => e
    obtain ⟨rfl, H', I', J', hf', x'⟩ := z
    exact ⟨.bl (!b), H', J', rfl, hq H' I' hf' x'⟩
end
end Dv
/-! Dv17: defs with defaults, repr of {}. -/
namespace Dv
open PySem PySem.Spec PyProof.Rows L2
/-- a def as it stands, whatever its defaults are -/
structure FunV (K : PySem.W.Frag) (x qual : Str) (st : Stmt) (f : Addr) (fd : FuncData) : Prop where
  ex : ∃ (oc : Value) (od : Option Addr) (dV kV doc pm : Value) (an : Option Addr) (cdv ct : Value) (osl : Array (Option Value)),
    fd = PySem.W.fnOf x qual (defArgs st) (defBody st) (defScope st) dV kV doc pm an cdv ct ∧ K.lookup f = some ⟨oc, od, .func fd, osl⟩ ∧ PySem.W.codeIn K cdv qual = true
section
variable {P : Program} {w : World} {K : PySem.W.Frag} {mg : Str → Option Value} {base : Heap} {cl : Nat → Addr}
theorem fn_okV {x qual : Str} {st : Stmt} {f : Addr} {fd : FuncData} {N ps : List Str} {k : Nat} {c : Ct} {T : TrS} (F : FunV K x qual st f fd) (S : FnScope N ps (defScope st)) (len : ∀ ds μ k e, c ds μ k e → ds.length = ps.length)
    (hbody : ∀ (cdv : Value) (A : Around) (outer : List Env) (s : Shared) (H : Hp) (E : XK), Room k (A.deeper (envOfC qual (defScope st) s.heap.objs.size f cdv)) →
      Takes (cxOf (L2.CX P w) P w K mg base N qual (defScope st) f cdv A outer s H E) (fun cls d _ H => E cls d H) →
      DSs (cxOf (L2.CX P w) P w K mg base N qual (defScope st) f cdv A outer s H E) cl (fun cls d _ H => E cls d H) (defBody st) T)
    (hvc : ∀ ds μ k e, c ds μ k e → T ⟨fun _ μ' => k (.val .non) μ', k, fun _ _ => False, fun _ _ => False, fun x _ μ' => e x μ'⟩ (ds.map some ++ List.replicate (N.length - ds.length) none) μ) :
    FnOk P w K mg base (L2.CX P w) (k + 1) f fd ps (spOf ⟨K, cl⟩ c) := by
  obtain ⟨oc, od, dV, kV, doc, pm, an, cdv, ct, osl, rfl, lk, hcd⟩ := F.ex
  refine fn_of lk hcd S (fun vs H Q E h => ?_) fun A outer s H vs Q E hr h => ⟨_, hbody cdv A outer s H E hr (takes_of rfl rfl rfl rfl), ?_⟩
  · obtain ⟨I, α, μ, F, ds, k, e, hf, r, hc, _, _⟩ := h
    rw [r.length]
    exact len ds μ k e hc
  · obtain ⟨I, α, μ, F, ds, k, e, hf, r, hc, hk, hx⟩ := h
    have en : En ⟨K, cl⟩ I (ad α) (L2.start N vs) (ds.map some ++ List.replicate (N.length - ds.length) none) := by
      unfold L2.start
      rw [r.length]
      exact En.start r
    exact ⟨I, α, _, μ, F, _, hf, en, hvc ds μ k e hc, fun σ' ρ' I' α' H' μ' x hf' _ q => hk _ _ I' α' H' μ' x hf' (.val .non) q, fun _ _ _ _ _ _ _ _ _ z => z.elim, fun _ _ _ _ _ _ _ _ _ z => z.elim, hk,
      fun x cls dx σ' ρ' I' α' H' μ' e' hf' _ er q => hx x cls dx I' α' H' μ' e' hf' er q⟩
end
/-- the arguments of a def with defaults -/
theorem kd_def {K : PySem.W.Frag} {x qual : Str} {params : Arguments} {body : List Stmt} {scope : Scope} {T : Addr} {fd : FuncData} {ps : List Str} {n : Nat} {ks : List Str} {π : List Nat} {kV doc pm cdv ct : Value} {an : Option Addr} {o : Obj} {ud : List Value} {m : Nat} {vd : List V} {dd : List D}
    (e : fd = PySem.W.fnOf x qual params body scope (.ref T) kV doc pm an cdv ct) (lT : K.lookup T = some o) (hd : o.data = .seq ud.toArray m) (D : Dfl K ud vd dd)
    (h : ∀ us ws : List Value, us.length = n → ws.length = ks.length → ∃ k : Option (Array Value) → Sem (List (Str × Value)), bindArgs (PySem.W.fnOf x qual params body scope (.ref T) kV doc pm an cdv ct) ⟨us, ks.zip ws⟩ = seqItems? (.ref T) >>= k ∧ k (some ud.toArray) = pure (ps.zip (pick π (us ++ ws ++ ud)))) : KD K fd ps n ks π dd :=
  ⟨ud, vd, D, ⟨fun s us ws kin l1 l2 => by
    subst e
    obtain ⟨k, h1, h2⟩ := h us ws l1 l2
    exact PySem.W.binds_K kin rfl lT hd h1 h2, fun r1 r2 => pick_vals ((r1.append r2).append D.vals) π⟩⟩
theorem Dfl.int1 {K : PySem.W.Frag} {i : Int} {t : Nat} : Dfl K [.int i t] [.int i] [.int i] := ⟨.cons ⟨t, rfl⟩ .nil, fun _ _ => .cons .int .nil⟩
/-! ### repr of {} -/
def oReprE : OC := fun ds μ k => match ds with
  | [.val (.obj _ (.dK []))] => k (.val (.str (PyData.dict []).shown)) μ
  | ds => oRepr ds μ k
def rReprE (K : PySem.W.Frag) : List V → Hp → VK → Prop := fun xs H Q => (∃ a, xs = [.ref a] ∧ H a = some (.dK []) ∧ Q (.str (PyData.dict []).shown) H) ∨ rRepr K xs H Q
theorem call_reprE {X : Cx} (hG : X.A.guards = some []) (hu : X.A.units + 64 < cLine) : CallR X (.builtin "repr") (rReprE X.K) := by
  intro pins s σ H xs us Q I r h
  rcases h with ⟨a, rfl, ha, q⟩ | h
  · obtain ⟨u, rfl, rx⟩ := vals1 r
    cases rx
    obtain ⟨_, hsm, vs, kv, dk⟩ := (show ObjOk X.prog X.w H s.heap a (.dK []) from I.hok a _ ha)
    cases kv
    have rr : Reads s.heap (.ref a) (.dict []) [a] := by
      obtain ⟨o, es, ep, ho, hc, hd, ko, pr, nd⟩ := dk
      have e0 : es.toList = [] := by
        cases h0 : es.toList with
        | nil => rfl
        | cons x t => rw [h0] at pr; cases pr
      have rr := Reads.dict (kvs := []) (as := []) (bs := []) ho hc.1 hd (by rw [e0]; exact .nil) (by rw [e0]; exact .nil)
      simpa using rr
    exact repr_of_reads' rr rfl (fun _ z => by
      rw [List.mem_singleton] at z
      rw [← z] at hsm
      simp at hsm) hG (by show X.A.units + 2 < cLine; omega) (fun b o e => e) (fun h' u tk hk => ⟨.str _, H, I.kept hk, ⟨u, rfl⟩, q⟩) (by decide +kernel)
  · exact call_reprA hG hu pins s σ H xs us Q I r h
theorem snd_reprE {g : G} : CSnd g oReprE (rReprE g.K) := by
  intro I α H μ F xs ds k Q hf r o hk
  unfold oReprE at o
  split at o
  · cases r with
    | cons r1 r2 =>
      cases r2
      cases r1 with
      | val r1 =>
        cases r1 with
        | obj h => exact .inl ⟨_, rfl, hf.sub _ _ h, hk _ _ I α H μ (Ext.refl _ _) hf (.val .str) o⟩
  · exact .inr (snd_repr I α H μ F xs ds k Q hf r o hk)
end Dv
/-! Dv18: isinstance of an instance with a type; None or not. -/
namespace Dv
open PySem PySem.Spec PyProof.Rows L2
abbrev tys7 : List String := ["NoneType", "bool", "int", "str", "list", "tuple", "dict"]
def InsK (K : PySem.W.Frag) (cl : Nat → Addr) (ins : Nat → Bool) : Prop := ∀ c, ins c = true → InsT K (cl c) ∧ ∀ t ∈ tys7, PySem.W.kitOne K (.ref (cl c)) (.type t) = some false
def oIsiI (ins : Nat → Bool) : OC := fun ds μ k => match ds with
  | [.val (.ins _ c _), .val (.ty n)] => ins c = true ∧ n ∈ tys7 ∧ k (.val (.bl false)) μ
  | ds => oIsi ds μ k
theorem snd_isiI {g : G} {ins : Nat → Bool} (h : InsK g.K g.cls ins) : CSnd g (oIsiI ins) (rIsiA g.K) := by
  intro I α H μ F xs ds k Q hf r o hk
  unfold oIsiI at o
  split at o
  · rename_i a c fs n
    obtain ⟨h1, h2, o⟩ := o
    obtain ⟨T, hkit⟩ := h c h1
    cases r with
    | cons r1 r2 =>
      cases r2 with
      | cons r2 r3 =>
        cases r3
        cases r1 with
        | val r1 =>
          cases r2 with
          | val r2 =>
            cases r2
            obtain ⟨a', dx, vs, rfl, hi⟩ := ins_is hf.sub r1 (rfl : D.insOf (.ins a c fs) = some c)
            exact .inl ⟨_, _, .ref (g.cls c), .type n, false, rfl, .ty n, .base (.ins hi T.cls T.ha T.hn T.tk T.mo), hkit n h2, hk _ _ I α H μ (Ext.refl _ _) hf (.val .bl) o⟩
  · exact snd_isi I α H μ F xs ds k Q hf r o hk
def oModN : OD := oI (fun _ j => j ≠ 0) fun i j => .int (i.fmod j)
theorem snd_modN {g : G} : OSnd g oModN (rI (fun _ j => j ≠ 0) fun i j => .int (i.fmod j)) := snd_I (fun _ _ h => h) fun _ _ _ => .int
/-- tuple(x) -/
def oTup : OC := fun ds μ k => match ds with
  | [.val (.lst xs)] => k (.val (.tup xs)) μ
  | [.val (.tup xs)] => k (.val (.tup xs)) μ
  | _ => False
theorem snd_tup {g : G} : CSnd g oTup (fun xs H Q => ∃ p ys, xs = [.ref p] ∧ ((SqL g.K H p ys ∧ ∀ l, H l = none → Q (.ref l) (upd H l (.tup ys))) ∨ (SqT g.K H p ys ∧ Q (.ref p) H))) := by
  intro I α H μ F xs ds k Q hf r o hk
  unfold oTup at o
  split at o
  · cases r with
    | cons r1 r2 =>
      cases r2
      cases r1 with
      | val r1 =>
        cases r1 with
        | lst h rl =>
          refine ⟨_, _, rfl, .inl ⟨hf.sub.seq h, fun p hp => ?_⟩⟩
          obtain ⟨hf2, x2⟩ := hf.new (o := .tup _) hp
          exact hk _ _ _ α _ μ (Ext.of x2 _) hf2 (.val (.tup (.inl (.inl upd_same)) (rl.mono x2))) o
  · cases r with
    | cons r1 r2 =>
      cases r2
      cases r1 with
      | val r1 =>
        cases r1 with
        | tup h rl => exact ⟨_, _, rfl, .inr ⟨sqT_same hf.sub h, hk _ _ I α H μ (Ext.refl _ _) hf (.val (.tup h rl)) o⟩⟩
  · exact o.elim
theorem kit7 {P : String → Prop} (h0 : P "NoneType") (h1 : P "bool") (h2 : P "int") (h3 : P "str") (h4 : P "list") (h5 : P "tuple") (h6 : P "dict") : ∀ t ∈ tys7, P t := by
  intro t ht
  simp only [List.mem_cons, List.not_mem_nil, or_false] at ht
  rcases ht with rfl | rfl | rfl | rfl | rfl | rfl | rfl <;> assumption
end Dv
/-! Dv19: texts (methods, str, int of a text, f-strings), classmethods, a star call of a class. -/
namespace Dv
open PySem PySem.Spec PyProof.Rows L2
/-! ### methods of texts -/
def oStr0 (f : Str → D) : OU := fun x μ k => match x with
  | .val (.str z) => k (.val (f z)) μ
  | _ => False
/-- a method of a text, with one argument -/
def T_sm1 (r : Str → Sl → Sto → KE → Prop) (To Te : TrE) : TrE := fun ρ μ k E => To ρ μ (fun x μ1 => match x with
  | .val (.str a) => Te ρ μ1 (fun y μ2 => r a y μ2 k) E
  | _ => False) E
def oSplit (a : Str) (y : Sl) (μ : Sto) (k : KE) : Prop := match y with
  | .val (.str b) => (b.length == 0) = false ∧ a.length + 2 ≤ sizeLine ∧ k (.val (.lst ((Txt.split a b).map D.str))) μ
  | _ => False
def strD? : D → Option Str
  | .str z => some z
  | _ => none
def oJoin (a : Str) (y : Sl) (μ : Sto) (k : KE) : Prop := match y with
  | .val (.lst xs) => match xs.mapM strD? with
    | some ys => (ys.map (·.length)).sum + ys.length * a.length ≤ 16777216 ∧ k (.val (.str (Txt.join a ys))) μ
    | none => False
  | _ => False
theorem RpL.strs {g : G} {I : Hp} : ∀ zs : List Str, RpL g I (zs.map V.str) (zs.map D.str)
  | [] => .nil
  | _ :: r => .cons .str (RpL.strs r)
section
variable {X : Cx} {cl : Nat → Addr} {W : WX} {o e : Expr} {To Te : TrE} {apos pos : Pos}
theorem d_isdigit (ho : DE X cl W o To) (hbase : attributeBase o "isdigit" X.env (eval o X.env) = eval o X.env := by rfl) (hline : (apos.endLine == pos.line) = true := by rfl) :
    DE X cl W (.Call (.Attribute o "isdigit" apos) [] [] pos) (T_m0 (oStr0 fun z => .bl (Txt.isdigit z)) To) := by
  refine PE.of (pe_m0 F.slot_str_isdigit F.type_str_isdigit mt_isdigit ho hbase hline) fun σ H Q h => ?_
  obtain ⟨I, α, ρ, μ, F, k, E, hf, en, t, hk, hx⟩ := h
  refine lift_go hf en t (fun v d I1 α1 H1 μ1 x1 hf1 r1 t1 => ?_) hx
  cases r1 with
  | cell => exact (show False from t1).elim
  | val r =>
    cases r with
    | @str z => exact ⟨⟨z, rfl⟩, z, rfl, rfl, trivial, hk _ _ I1 α1 H1 μ1 x1 hf1 (.val .bl) t1⟩
    | _ => exact (show False from t1).elim
theorem d_isascii (ho : DE X cl W o To) (hbase : attributeBase o "isascii" X.env (eval o X.env) = eval o X.env := by rfl) (hline : (apos.endLine == pos.line) = true := by rfl) :
    DE X cl W (.Call (.Attribute o "isascii" apos) [] [] pos) (T_m0 (oStr0 fun z => .bl (Txt.isascii z)) To) := by
  refine PE.of (pe_m0 F.slot_str_isascii F.type_str_isascii mt_isascii ho hbase hline) fun σ H Q h => ?_
  obtain ⟨I, α, ρ, μ, F, k, E, hf, en, t, hk, hx⟩ := h
  refine lift_go hf en t (fun v d I1 α1 H1 μ1 x1 hf1 r1 t1 => ?_) hx
  cases r1 with
  | cell => exact (show False from t1).elim
  | val r =>
    cases r with
    | @str z => exact ⟨⟨z, rfl⟩, z, rfl, rfl, trivial, hk _ _ I1 α1 H1 μ1 x1 hf1 (.val .bl) t1⟩
    | _ => exact (show False from t1).elim
theorem mapM_str {g : G} {I : Hp} : ∀ {vs : List V} {ds : List D} {bs : List Str}, RpL g I vs ds → ds.mapM strD? = some bs → vs = bs.map V.str
  | _, _, bs, .nil, h => by cases h; rfl
  | _, _, bs, .cons (d := d) (ds := ds) r t, h => by
    rw [List.mapM_cons] at h
    cases q : strD? d with
    | none => rw [q] at h; cases h
    | some w =>
      cases q2 : ds.mapM strD? with
      | none => rw [q, q2] at h; cases h
      | some ws =>
        rw [q, q2] at h
        have e : w :: ws = bs := Option.some.inj h
        subst e
        cases d with
        | str z => cases q; cases r; rw [mapM_str t q2]; rfl
        | _ => cases q
theorem d_split (ho : DE X cl W o To) (he : DE X cl W e Te) (hs : starEach [e] X.env = [(false, eval e X.env)] := by rfl) (hbase : attributeBase o "split" X.env (eval o X.env) = eval o X.env := by rfl) (hline : (apos.endLine == pos.line) = true := by rfl) :
    DE X cl W (.Call (.Attribute o "split" apos) [e] [] pos) (T_sm1 oSplit To Te) := by
  refine PE.of (pe_split ho he hs hbase hline) fun σ H Q h => ?_
  obtain ⟨I, α, ρ, μ, F, k, E, hf, en, t, hk, hx⟩ := h
  refine lift_go hf en t (fun v d I1 α1 H1 μ1 x1 hf1 r1 t1 => ?_) hx
  cases r1 with
  | cell => exact (show False from t1).elim
  | val r =>
    cases r with
    | @str a =>
      refine ⟨⟨a, rfl⟩, lift_go hf1 (en.mono x1) t1 (fun w d2 I2 α2 H2 μ2 x2 hf2 r2 t2 => ?_) (hx.mono x1)⟩
      cases r2 with
      | cell => exact (show False from t2).elim
      | val r2 =>
        cases r2 with
        | @str b =>
          obtain ⟨t3, t4, t5⟩ := (show (b.length == 0) = false ∧ a.length + 2 ≤ sizeLine ∧ k (.val (.lst ((Txt.split a b).map D.str))) μ2 from t2)
          refine ⟨a, b, rfl, rfl, t3, t4, fun p hp => ?_⟩
          obtain ⟨hf3, x3⟩ := hf2.new (o := .lst _) hp
          exact hk _ _ _ α2 _ μ2 ((x1.trans x2).trans (Ext.of x3 _)) hf3 (.val (.lst (SqL.of upd_same) (RpL.strs _))) t5
        | _ => exact (show False from t2).elim
    | _ => exact (show False from t1).elim
theorem d_join (ho : DE X cl W o To) (he : DE X cl W e Te) (hs : starEach [e] X.env = [(false, eval e X.env)] := by rfl) (hbase : attributeBase o "join" X.env (eval o X.env) = eval o X.env := by rfl) (hline : (apos.endLine == pos.line) = true := by rfl) :
    DE X cl W (.Call (.Attribute o "join" apos) [e] [] pos) (T_sm1 oJoin To Te) := by
  refine PE.of (pe_join ho he hs hbase hline) fun σ H Q h => ?_
  obtain ⟨I, α, ρ, μ, F, k, E, hf, en, t, hk, hx⟩ := h
  refine lift_go hf en t (fun v d I1 α1 H1 μ1 x1 hf1 r1 t1 => ?_) hx
  cases r1 with
  | cell => exact (show False from t1).elim
  | val r =>
    cases r with
    | @str a =>
      refine ⟨⟨a, rfl⟩, lift_go hf1 (en.mono x1) t1 (fun w d2 I2 α2 H2 μ2 x2 hf2 r2 t2 => ?_) (hx.mono x1)⟩
      cases r2 with
      | cell => exact (show False from t2).elim
      | val r2 =>
        cases r2 with
        | @lst p vs ds h1 rl =>
          have t3 := (show (match ds.mapM strD? with | some ys => (ys.map (·.length)).sum + ys.length * a.length ≤ 16777216 ∧ k (.val (.str (Txt.join a ys))) μ2 | none => False) from t2)
          cases q : ds.mapM strD? with
          | none => rw [q] at t3; exact t3.elim
          | some ys =>
            rw [q] at t3
            have e1 := mapM_str rl q
            subst e1
            exact ⟨a, p, ys, rfl, rfl, .inl (hf2.sub.seq h1), t3.1, hk _ _ _ α2 _ μ2 (x1.trans x2) hf2 (.val .str) t3.2⟩
        | _ => exact (show False from t2).elim
    | _ => exact (show False from t1).elim
end
/-! ### int of a text, str -/
def oIntS : OC := fun ds μ k => match ds with
  | [.val (.int i)] => k (.val (.int i)) μ
  | [.val (.str z)] => z.length ≤ 640 ∧ match PySem.intText? z with
    | some n => k (.val (.int n)) μ
    | none => False
  | _ => False
def rIntS : List V → Hp → VK → Prop := fun xs H Q => ((∃ i, xs = [.int i] ∧ Q (.int i) H) ∨ ∃ k, xs = [.bl k] ∧ Q (.int (if k then 1 else 0)) H) ∨ ∃ a n, xs = [.str a] ∧ PySem.intText? a = some n ∧ a.length ≤ 640 ∧ Q (.int n) H
theorem call_intS {X : Cx} : CallR X (.type "int") rIntS := by
  intro pins s σ H xs us Q I r h
  rcases h with h | h
  · exact call_int1 pins s σ H xs us Q I r h
  · exact call_int_str pins s σ H xs us Q I r h
theorem snd_intS {g : G} : CSnd g oIntS rIntS := by
  intro I α H μ F xs ds k Q hf r o hk
  unfold oIntS at o
  split at o
  · cases r with
    | cons r1 r2 =>
      cases r2
      cases r1 with
      | val r1 =>
        cases r1
        exact .inl (.inl ⟨_, rfl, hk _ _ I α H μ (Ext.refl _ _) hf (.val .int) o⟩)
  · rename_i z
    cases r with
    | cons r1 r2 =>
      cases r2
      cases r1 with
      | val r1 =>
        cases r1
        obtain ⟨o1, o2⟩ := o
        cases q : PySem.intText? z with
        | none => rw [q] at o2; exact o2.elim
        | some n =>
          rw [q] at o2
          exact .inr ⟨z, n, rfl, q, o1, hk _ _ I α H μ (Ext.refl _ _) hf (.val .int) o2⟩
  · exact o.elim
/-- the promise of a def that runs two calls deeper -/
structure RunsIn2 (X : Cx) (f : Addr) (fd : FuncData) (ps : List Str) (sp : Sp) : Prop where
  run : ∀ (s : Shared) (H : Hp) (args : Args) (us : List Value) (vs : List V) (Q : VK) (E : XK), Env0 X.prog X.w X.K X.mg X.base X.A X.stack s H → BindsTo s fd args (ps.zip us) → Vals vs us → sp vs H Q E →
    codeAny (model X.prog X.w) X.A.in1.in1 (.call (.ref f) args) (CR (L2.CX X.prog X.w) X.stack X.prog X.w H s Q E) s
theorem FnOk.runsIn2 {X : Cx} {k : Nat} {f : Addr} {fd : FuncData} {ps : List Str} {sp : Sp} (F : FnOk X.prog X.w X.K X.mg X.base (L2.CX X.prog X.w) k f fd ps sp) (hr : Room (k + 2) X.A) : RunsIn2 X f fd ps sp :=
  ⟨fun s H args us vs Q E e0 hb r h => F.run X.A.in1.in1 X.stack s H args us vs Q E (show Room (k + 1) X.A.in1 from Room.in1 hr).in1 ⟨e0.frames, e0.mod, e0.bs, e0.bsz, e0.funs, e0.frf, e0.hok, e0.bare⟩ hb r h⟩
structure SO (K : PySem.W.Frag) (C f : Addr) : Prop where
  at_ : PySem.W.findIn K (.ref C) "__str__" = some (some (.ref f))
  fn : PySem.W.isFn K (.ref f) = true
def rStrS (C : Addr) (sp : Sp) : List V → Hp → VK → Prop := fun xs H Q => (∃ i, xs = [.int i] ∧ i.natAbs.log2 < 1920 ∧ Q (.str (toString i)) H) ∨ (∃ a, xs = [.str a] ∧ Q (.str a) H) ∨
  ∃ x, xs = [x] ∧ IsIns H C x ∧ sp [x] H (fun v H' => ∃ z, v = .str z ∧ Q (.str z) H') (fun _ _ _ => False)
section
variable {X : Cx} {C f : Addr} {fd : FuncData} {ps : List Str} {sp : Sp}
theorem call_strS (e : SO X.K C f) (R : RunsIn2 X f fd ps sp) (hb : KB X.K fd ps 1 [] [0]) (hu : X.A.in1.in1.units < cLine) : CallR X (.type "str") (rStrS C sp) := by
  intro pins s σ H xs us Q I r h
  rcases h with h | h | ⟨x, rfl, ⟨a, dx, fs, rfl, ha⟩, hsp⟩
  · exact call_str_int pins s σ H xs us Q I r h
  · exact SkE.call_str_str pins s σ H xs us Q I r h
  · obtain ⟨u, rfl, r1⟩ := vals1 r
    cases r1
    obtain ⟨mA, J, _⟩ := ins_get I.hok ha
    obtain ⟨od, J, _⟩ := J.look
    refine PySem.W.kso_call hu I.kIn J e.at_ e.fn ?_
    refine wpAny_call (codeAny_mono (R.run s H ⟨[.ref a], [].zip []⟩ [.ref a] [.ref a] _ (fun _ _ _ => False) I.env0 (hb.to s [.ref a] [] I.kIn rfl rfl) (hb.rel (vs := [.ref a]) (us := [.ref a]) (zs := []) (ws := []) (.cons rfl .nil) .nil) hsp) fun r s' hq => ?_)
    cases r with
    | error e =>
      obtain ⟨_, _, _, _, _, _, _, _, _, _, _, _, z⟩ := hq
      exact z.elim
    | ok fl =>
      cases fl with
      | ret u =>
        obtain ⟨v, H', I', rv, z, ez, q⟩ := I.after hq
        subst ez
        obtain ⟨t, ht⟩ := rv
        subst ht
        exact ⟨.str z, H', I', ⟨t, rfl⟩, q⟩
      | next => exact False.elim hq
      | brk => exact False.elim hq
      | cont => exact False.elim hq
end
def oStrS (cn : Nat) (c : CtP) : OC := fun ds μ k => match ds with
  | [.val (.int i)] => i.natAbs.log2 < 1920 ∧ k (.val (.str (toString i))) μ
  | [.val (.str z)] => k (.val (.str z)) μ
  | [.val (.ins a c' fs)] => c' = cn ∧ c [.ins a c' fs] (fun r => ∃ z, r = .str z ∧ k (.val (.str z)) μ) (fun _ => False)
  | _ => False
theorem snd_strS {g : G} {cn : Nat} {c : CtP} : CSnd g (oStrS cn c) (rStrS (g.cls cn) (spOf g (ctP c))) := by
  intro I α H μ F xs ds k Q hf r o hk
  unfold oStrS at o
  split at o
  · cases r with
    | cons r1 r2 =>
      cases r2
      cases r1 with
      | val r1 =>
        cases r1
        exact .inl ⟨_, rfl, o.1, hk _ _ I α H μ (Ext.refl _ _) hf (.val .str) o.2⟩
  · cases r with
    | cons r1 r2 =>
      cases r2
      cases r1 with
      | val r1 =>
        cases r1
        exact .inr (.inl ⟨_, rfl, hk _ _ I α H μ (Ext.refl _ _) hf (.val .str) o⟩)
  · obtain ⟨rfl, o⟩ := o
    cases r with
    | cons r1 r2 =>
      cases r2
      cases r1 with
      | val r1 =>
        refine .inr (.inr ⟨_, rfl, ins_is hf.sub r1 rfl, spP_go hf (.cons (.val r1) .nil) (rfl : vals? [.val _] = some [_]) (k := fun s μ' => ∃ z, s = .val (.str z) ∧ k (.val (.str z)) μ') (E := fun _ _ => False) (by
          have e1 : (fun d => (fun (s : Sl) (μ' : Sto) => ∃ z, s = .val (.str z) ∧ k (.val (.str z)) μ') (.val d) μ) = fun r => ∃ z, r = Dv.D.str z ∧ k (.val (.str z)) μ := by
            funext d
            exact propext ⟨fun ⟨z, e, q⟩ => ⟨z, by cases e; rfl, q⟩, fun ⟨z, e, q⟩ => ⟨z, by rw [e], q⟩⟩
          exact e1 ▸ o) (fun v d I' α' H' μ' x' hf' r' t' => ?_) no_exn⟩)
        obtain ⟨z, e, q⟩ := t'
        subst e
        cases r' with
        | val r' =>
          cases r'
          exact ⟨z, rfl, hk _ _ I' α' H' μ' x' hf' (.val .str) q⟩
  · exact o.elim
/-! ### f-strings -/
def oFmt : OU := fun x μ k => match x with
  | .val (.str z) => z.length ≤ sizeLine ∧ k (.val (.str z)) μ
  | .val (.int i) => i.natAbs.log2 < 1920 ∧ k (.val (.str (toString i))) μ
  | _ => False
def T_fj : List TrE → Str → TrE
  | [], acc => fun _ μ k _ => k (.val (.str acc)) μ
  | T :: Ts, acc => fun ρ μ k E => T ρ μ (fun s μ1 => match s with
    | .val (.str y) => (acc ++ y).length ≤ sizeLine ∧ T_fj Ts (acc ++ y) ρ μ1 k E
    | _ => False) E
inductive DJ (X : Cx) (cl : Nat → Addr) (W : WX) : List Expr → List TrE → Prop where
  | nil : DJ X cl W [] []
  | cons {e : Expr} {T : TrE} {es : List Expr} {Ts : List TrE} (h : DE X cl W e T) (r : DJ X cl W es Ts) : DJ X cl W (e :: es) (T :: Ts)
theorem DJ.pj {X : Cx} {cl : Nat → Addr} {W : WX} : ∀ {es : List Expr} {Ts : List TrE}, DJ X cl W es Ts → PJ X es (Ts.map (lift ⟨X.K, cl⟩ W))
  | _, _, .nil => .nil
  | _, _, .cons h r => .cons h (DJ.pj r)
theorem lift_fj {g : G} {W : WX} : ∀ (Ts : List TrE) (acc : Str) (σ : L2.St) (H : Hp) (Q : VK), lift g W (T_fj Ts acc) σ H Q → tJs (Ts.map (lift g W)) acc σ H (fun out H1 => Q (.str out) H1)
  | [], acc, σ, H, Q, h => by
    obtain ⟨I, α, ρ, μ, F, k, E, hf, en, t, hk, hx⟩ := h
    exact hk _ _ I α H μ (Ext.refl _ _) hf (.val .str) t
  | T :: Ts, acc, σ, H, Q, h => by
    obtain ⟨I, α, ρ, μ, F, k, E, hf, en, t, hk, hx⟩ := h
    refine lift_go hf en t (fun v d I1 α1 H1 μ1 x1 hf1 r1 t1 => ?_) hx
    cases r1 with
    | cell => exact (show False from t1).elim
    | val r =>
      cases r with
      | @str y => exact ⟨y, rfl, t1.1, lift_fj Ts (acc ++ y) σ H1 Q (lift_go hf1 (en.mono x1) t1.2 (hk.mono x1) (hx.mono x1))⟩
      | _ => exact (show False from t1).elim
section
variable {X : Cx} {cl : Nat → Addr} {W : WX} {e v1 v2 : Expr} {rest : List Expr} {Te : TrE} {Ts : List TrE} {pos : Pos}
theorem d_fmt (he : DE X cl W e Te) : DE X cl W (.FormattedValue e (-1) none pos) (T_un oFmt Te) := by
  refine PE.of (pe_fmt he) fun σ H Q h => ?_
  obtain ⟨I, α, ρ, μ, F, k, E, hf, en, t, hk, hx⟩ := h
  refine lift_go hf en t (fun v d I1 α1 H1 μ1 x1 hf1 r1 t1 => ?_) hx
  cases r1 with
  | cell => exact (show False from t1).elim
  | val r =>
    cases r with
    | @str z => exact .inl ⟨z, rfl, t1.1, hk _ _ I1 α1 H1 μ1 x1 hf1 (.val .str) t1.2⟩
    | @int i => exact .inr ⟨i, rfl, t1.1, hk _ _ I1 α1 H1 μ1 x1 hf1 (.val .str) t1.2⟩
    | _ => exact (show False from t1).elim
theorem d_joined (h : DJ X cl W (v1 :: v2 :: rest) Ts) : DE X cl W (.JoinedStr (v1 :: v2 :: rest) pos) (T_fj Ts Str.empty) :=
  PE.of (pe_joined h.pj) fun σ H Q h => lift_fj Ts _ σ H Q h
end
/-! ### the class as a value; classmethods; a star call of a class -/
theorem d_cls {X : Cx} {cl : Nat → Addr} {W : WX} {x : Str} {n : Nat} {pos : Pos} (hm : X.mg x = some (.ref (cl n))) (hg : Gl X x := by rfl) (hd : (x == ("__debug__" : Str)) = false := by decide) : DE X cl W (.Name x pos) (T_c (.cls n)) :=
  d_glob hg hm (v := .ref (cl n)) rfl (fun _ => .cls) hd
def tCMethG (C : Addr) (n mk : Nat) (sp : Sp) (gV : List V → List V → List V) (E : L2.St → XK) (t tk : TA) : TE := fun σ H Q => t σ H fun vs H1 => tk σ H1 fun zs H2 => vs.length = n ∧ zs.length = mk ∧ sp (gV (.ref C :: vs) zs) H2 Q (E σ)
section
variable {X : Cx} {n : Nat} {C p g : Addr} {mc : Value} {fd : FuncData} {ps ks : List Str} {sp : Sp} {E : L2.St → XK} {m x : Str} {px pos apos : Pos} {e : Expr} {es : List Expr} {kws : List Keyword} {t tk : TA} {gg : List Value → List Value → List Value} {gV : List V → List V → List V}
theorem run_cmG {pins : List (Addr × Obj)} {σ : L2.St} {H : Hp} {s : Shared} {Q : VK} {us ws : List Value} {vs zs : List V} {E : XK} {q : Addr} (R : Runs X g fd ps sp) (hb : KBn X.K fd ps (n + 1) ks gg gV) (hx : PassesAt (L2.CX X.prog X.w) X σ E)
    (I : Inv X ((q, PySem.W.methodObj (.ref g) (.ref C)) :: pins) σ H s) (r : Vals vs us) (rz : Vals zs ws) (l1 : vs.length = n) (l2 : zs.length = ks.length) (h : sp (gV (.ref C :: vs) zs) H Q E) : wpAny (model X.prog X.w) X.A (call (.ref q) us (ks.zip ws)) (EP X pins σ Q) X.xe s := by
  have ra : Vals (V.ref C :: vs) (Value.ref C :: us) := .cons rfl r
  have na : (Value.ref C :: us).length = n + 1 := congrArg Nat.succ (r.length.symm.trans l1)
  have z : wpAny (model X.prog X.w) X.A (call (.ref q) us (ks.zip ws)) (EP X ((q, PySem.W.methodObj (.ref g) (.ref C)) :: pins) σ Q) X.xe s :=
    wpAny_call (PySem.W.method_call (ClX.pin_at I) (codeAny_mono (R.run s H ⟨.ref C :: us, ks.zip ws⟩ (gg (.ref C :: us) ws) (gV (.ref C :: vs) zs) Q E I.env0 (hb.to s (.ref C :: us) ws I.kIn na (rz.length.symm.trans l2)) (hb.rel ra rz) h) fun r s' hq => by
      cases r with
      | error e => exact hx _ H s e s' I hq
      | ok fl =>
        cases fl with
        | ret u => exact I.after hq
        | next => exact False.elim hq
        | brk => exact False.elim hq
        | cont => exact False.elim hq))
  exact thn z fun _ _ y => ClX.unpinE y
theorem pe_cmethG {pl : Sem Bool} (r : ClX.CRead X.K C mc) (c : ClX.CMet X.K C mc m p g) (hC : X.mg x = some (.ref C)) (R : Runs X g fd ps sp) (hb : KBn X.K fd ps (n + 1) ks gg gV) (hx : ∀ σ, PassesAt (L2.CX X.prog X.w) X σ (E σ))
    (ha : PA X (e :: es) t) (hkw : PK X kws tk) (hgx : Gl X x := by rfl) (hdx : (x == ("__debug__" : Str)) = false := by decide) (hall : (backToKw pos (keywordEach kws X.env)).all (·.1.isSome) = true := by rfl) (hks : (backToKw pos (keywordEach kws X.env)).filterMap (·.1) = ks := by rfl)
    (hst : starEach (e :: es) X.env = (false, eval e X.env) :: starEach es X.env := by rfl)
    (hpl : ((backTo pos (starEach (e :: es) X.env)).any (·.1) || (backToKw pos (keywordEach kws X.env)).any (·.1.isNone)) = false := by rfl)
    (ht : eval (.Call (.Attribute (.Name x px) m apos) (e :: es) kws pos) X.env = (do
      let ov ← eval (.Name x px) X.env
      standAt apos.atName
      let (f, first) ← holding [ov] (getMethod ov m pl)
      callWith pos f first (backTo pos (starEach (e :: es) X.env)) (backToKw pos (keywordEach kws X.env))) := by rfl) :
    PE X (.Call (.Attribute (.Name x px) m apos) (e :: es) kws pos) (tCMethG C n ks.length sp gV E t tk) := by
  refine ⟨fun pins s σ H Q I h => ?_⟩
  refine PySem.W.methodCall_KW (pl := pl) (thn ((pe_glob (v := .ref C) hgx hC rfl hdx (pos := px)).run pins s σ H (fun v H1 => v = .ref C ∧ H1 = H) I ⟨rfl, rfl⟩) fun u s1 ⟨y, H1, I1, rx, ex, eH⟩ => ?_) ht
  subst ex
  subst eH
  obtain rfl : u = Value.ref C := rx
  refine ClX.getmethcm_ok I1 r c fun s2 I2 => ?_
  refine PySem.W.callWith_of hpl (PySem.W.keeps_M (self := .ref C) c.fi) (evalArgs_kw2 hall (thn (ha.run pos _ s2 σ H1 _ I2 h) fun us s3 ⟨vs, H2, I3, r3, q2⟩ => ?_) hst)
  refine thn (hkw.run pos _ s3 σ H2 _ I3 q2) fun ws s4 ⟨zs, H3, I4, rz, l1, l2, q3⟩ => ⟨⟨ClX.pin_at I4, I4.kIn⟩, ?_⟩
  rw [hks]
  exact run_cmG R hb (hx σ) I4 r3 rz l1 l2 q3
theorem pe_cmethG0 {pl : Sem Bool} (r : ClX.CRead X.K C mc) (c : ClX.CMet X.K C mc m p g) (hC : X.mg x = some (.ref C)) (R : Runs X g fd ps sp) (hb : KBn X.K fd ps 1 ks gg gV) (hx : ∀ σ, PassesAt (L2.CX X.prog X.w) X σ (E σ))
    (hkw : PK X kws tk) (hgx : Gl X x := by rfl) (hdx : (x == ("__debug__" : Str)) = false := by decide) (hall : (backToKw pos (keywordEach kws X.env)).all (·.1.isSome) = true := by rfl) (hks : (backToKw pos (keywordEach kws X.env)).filterMap (·.1) = ks := by rfl)
    (hpl : ((backTo pos (starEach [] X.env)).any (·.1) || (backToKw pos (keywordEach kws X.env)).any (·.1.isNone)) = false := by rfl)
    (ht : eval (.Call (.Attribute (.Name x px) m apos) [] kws pos) X.env = (do
      let ov ← eval (.Name x px) X.env
      standAt apos.atName
      let (f, first) ← holding [ov] (getMethod ov m pl)
      callWith pos f first (backTo pos (starEach [] X.env)) (backToKw pos (keywordEach kws X.env))) := by rfl) :
    PE X (.Call (.Attribute (.Name x px) m apos) [] kws pos) (tCMethG C 0 ks.length sp gV E tNil tk) := by
  refine ⟨fun pins s σ H Q I h => ?_⟩
  refine PySem.W.methodCall_KW (pl := pl) (thn ((pe_glob (v := .ref C) hgx hC rfl hdx (pos := px)).run pins s σ H (fun v H1 => v = .ref C ∧ H1 = H) I ⟨rfl, rfl⟩) fun u s1 ⟨y, H1, I1, rx, ex, eH⟩ => ?_) ht
  subst ex
  subst eH
  obtain rfl : u = Value.ref C := rx
  refine ClX.getmethcm_ok I1 r c fun s2 I2 => ?_
  refine PySem.W.callWith_of hpl (PySem.W.keeps_M (self := .ref C) c.fi) (evalArgs_kw2_nil hall ?_)
  refine thn (hkw.run pos _ s2 σ H1 _ I2 h) fun ws s4 ⟨zs, H3, I4, rz, l1, l2, q3⟩ => ⟨⟨ClX.pin_at I4, I4.kIn⟩, ?_⟩
  rw [hks]
  exact run_cmG (us := []) (vs := []) R hb (hx σ) I4 .nil rz rfl l2 q3
end
def T_cmeth (cn : Nat) (c : CtP) (n mk : Nat) (π : List Nat) (Ta Tk : TrA) : TrE := fun ρ μ k E => Ta ρ μ (fun ds μ1 => Tk ρ μ1 (fun es μ2 => ds.length = n ∧ es.length = mk ∧ match vals? (pick π (.val (.cls cn) :: (ds ++ es))) with
  | some xs => c xs (fun d => k (.val d) μ2) (fun x => E x μ2)
  | none => False) E) E
section
variable {X : Cx} {cl : Nat → Addr} {W : WX} {n cn : Nat} {p g : Addr} {mc : Value} {fd : FuncData} {ps ks : List Str} {m x : Str} {px pos apos : Pos} {e : Expr} {es : List Expr} {kws : List Keyword} {π : List Nat} {c : CtP} {Ta Tk : TrA}
theorem lift_cmeth {σ : L2.St} {H : Hp} {Q : VK} {nk : Nat} (h : lift ⟨X.K, cl⟩ W (T_cmeth cn c n nk π Ta Tk) σ H Q) :
    tCMethG (cl cn) n nk (spOf ⟨X.K, cl⟩ (ctP c)) (fun vs zs => pick π (vs ++ zs)) (fun σ cls d H => W cls d σ H) (liftA ⟨X.K, cl⟩ W Ta) (liftA ⟨X.K, cl⟩ W Tk) σ H Q := by
  obtain ⟨I, α, ρ, μ, F, k, E, hf, en, t, hk, hx⟩ := h
  refine liftA_go hf en t (fun vs ds I1 α1 H1 μ1 x1 hf1 r1 t1 => ?_) hx
  refine liftA_go hf1 (en.mono x1) t1 (fun zs es I2 α2 H2 μ2 x2 hf2 r2 t2 => ?_) (hx.mono x1)
  obtain ⟨l1, l2, t3⟩ := t2
  refine ⟨by rw [r1.length]; exact l1, by rw [r2.length]; exact l2, ?_⟩
  have x12 := x1.trans x2
  cases q : vals? (pick π (.val (.cls cn) :: (ds ++ es))) with
  | none => rw [q] at t3; exact t3.elim
  | some xs =>
    rw [q] at t3
    exact spP_go hf2 (pick_rp (.cons (.val .cls) ((r1.mono x2).append r2)) π) q t3 (hk.mono x12) (hx.mono x12)
theorem d_cmeth {pl : Sem Bool} (r : ClX.CRead X.K (cl cn) mc) (cm : ∃ p, ClX.CMet X.K (cl cn) mc m p g) (hC : X.mg x = some (.ref (cl cn))) (R : Runs X g fd ps (spOf ⟨X.K, cl⟩ (ctP c))) (hx : ∀ σ, PassesAt (L2.CX X.prog X.w) X σ (fun cls d H => W cls d σ H)) (hb : KB X.K fd ps (n + 1) ks π)
    (ha : DA X cl W (e :: es) Ta) (hkw : DK X cl W kws Tk) (hgx : Gl X x := by rfl) (hdx : (x == ("__debug__" : Str)) = false := by decide) (hall : (backToKw pos (keywordEach kws X.env)).all (·.1.isSome) = true := by rfl) (hks : (backToKw pos (keywordEach kws X.env)).filterMap (·.1) = ks := by rfl)
    (hst : starEach (e :: es) X.env = (false, eval e X.env) :: starEach es X.env := by rfl)
    (hpl : ((backTo pos (starEach (e :: es) X.env)).any (·.1) || (backToKw pos (keywordEach kws X.env)).any (·.1.isNone)) = false := by rfl)
    (ht : eval (.Call (.Attribute (.Name x px) m apos) (e :: es) kws pos) X.env = (do
      let ov ← eval (.Name x px) X.env
      standAt apos.atName
      let (f, first) ← holding [ov] (getMethod ov m pl)
      callWith pos f first (backTo pos (starEach (e :: es) X.env)) (backToKw pos (keywordEach kws X.env))) := by rfl) :
    DE X cl W (.Call (.Attribute (.Name x px) m apos) (e :: es) kws pos) (T_cmeth cn c n ks.length π Ta Tk) :=
  have ⟨_, cm⟩ := cm
  PE.of (pe_cmethG r cm hC R hb hx ha hkw hgx hdx hall hks hst hpl ht) fun σ H Q h => lift_cmeth h
theorem d_cmeth0 {pl : Sem Bool} (r : ClX.CRead X.K (cl cn) mc) (cm : ∃ p, ClX.CMet X.K (cl cn) mc m p g) (hC : X.mg x = some (.ref (cl cn))) (R : Runs X g fd ps (spOf ⟨X.K, cl⟩ (ctP c))) (hx : ∀ σ, PassesAt (L2.CX X.prog X.w) X σ (fun cls d H => W cls d σ H)) (hb : KB X.K fd ps 1 ks π)
    (hkw : DK X cl W kws Tk) (hgx : Gl X x := by rfl) (hdx : (x == ("__debug__" : Str)) = false := by decide) (hall : (backToKw pos (keywordEach kws X.env)).all (·.1.isSome) = true := by rfl) (hks : (backToKw pos (keywordEach kws X.env)).filterMap (·.1) = ks := by rfl)
    (hpl : ((backTo pos (starEach [] X.env)).any (·.1) || (backToKw pos (keywordEach kws X.env)).any (·.1.isNone)) = false := by rfl)
    (ht : eval (.Call (.Attribute (.Name x px) m apos) [] kws pos) X.env = (do
      let ov ← eval (.Name x px) X.env
      standAt apos.atName
      let (f, first) ← holding [ov] (getMethod ov m pl)
      callWith pos f first (backTo pos (starEach [] X.env)) (backToKw pos (keywordEach kws X.env))) := by rfl) :
    DE X cl W (.Call (.Attribute (.Name x px) m apos) [] kws pos) (T_cmeth cn c 0 ks.length π T_nil Tk) := by
  obtain ⟨_, cm⟩ := cm
  refine PE.of (pe_cmethG0 r cm hC R hb hx hkw hgx hdx hall hks hpl ht) fun σ H Q h => ?_
  have z := lift_cmeth (n := 0) h
  obtain ⟨I, α, ρ, μ, F, k, E, hf, en, t, hk, hx⟩ := z
  exact hk [] [] I α H μ (Ext.refl _ _) hf .nil t
end
/-! ### C(*xs), C in a local name -/
section
variable {X : Cx} {cl : Nat → Addr} {n cn : Nat} {g : G} {I I' : Hp} {α : Al} {H : Hp} {μ : Sto} {F : Hp} {c : CtI}
theorem make_go {ws : List V} {xs : List D} {k : KE} {E : KX} {Q : VK} {W : XK} (hf : Hf g I α H μ F) (r : RpL g I ws xs) (t : c xs (fun fs => ∀ b, k (.val (.ins b cn fs)) μ) (fun x => E x μ)) (hk : okE g I α F k Q) (hx : okX g I α F E W)
    {a dx : Addr} (na : H a = none) (nd : H dx = none) (ne : dx ≠ a) : spOf g (ctI cn c) (.ref a :: ws) (upd (upd H dx (.own a)) a (.ins (g.cls cn) dx [])) (fun v H3 => v = .non ∧ Q (.ref a) H3) W := by
  have hj := (hf.leave).junk (o := .own a) nd
  have na' : upd H dx (.own a) a = none := by rw [upd_ne (Ne.symm ne)]; exact na
  obtain ⟨hn, _, h0⟩ := hj.newC (o := .ins (g.cls cn) dx []) (m := .ins cn []) na' fun H' e => ⟨rfl, dx, [], e, .nil⟩
  refine ⟨I, [(a, [a])], [.ins cn []], asideOf α H F, .cell 0 :: xs.map Sl.val, fun s ν => s = .val .non ∧ ∃ fs ν', ν = .ins cn (valF fs) :: ν' ∧ ∀ b, k (.val (.ins b cn fs)) μ, fun x _ => E x μ, hn, .cons (.cell h0) (RpSL.ofL r), ⟨xs, rfl, rfl, ?_⟩, fun v d I' α' H' μ' x' hf' r' t' => ?_, fun x cls dx' I' α' H' μ' x' hf' er t' => ?_⟩
  · have e1 : (fun fs => ∀ ν : Sto, (Sl.val Dv.D.non = Sl.val .non ∧ ∃ fs' ν', MO.ins cn (valF fs) :: ν = .ins cn (valF fs') :: ν' ∧ ∀ b, k (.val (.ins b cn fs')) μ)) = fun fs => ∀ b, k (.val (.ins b cn fs)) μ := by
      funext fs
      refine propext ⟨fun z => ?_, fun z ν => ⟨rfl, fs, ν, rfl, z⟩⟩
      obtain ⟨_, fs', ν', e1, e2⟩ := z []
      have e3 : valF fs = valF fs' := by injection e1 with e1 _; injection e1
      rw [valF_inj e3]
      exact e2
    have e2 : (fun x => ∀ ν : Sto, E x μ) = fun x => E x μ := by
      funext x
      exact propext ⟨fun z => z [], fun z _ => z⟩
    show c xs (fun fs => ∀ ν : Sto, (Sl.val Dv.D.non = Sl.val .non ∧ ∃ fs' ν', MO.ins cn (valF fs) :: ν = .ins cn (valF fs') :: ν' ∧ ∀ b, k (.val (.ins b cn fs')) μ)) (fun x => ∀ ν : Sto, E x μ)
    rw [e1, e2]
    exact t
  · obtain ⟨e1, fs, ν', e2, e3⟩ := t'
    subst e1
    subst e2
    obtain ⟨fp, h0'⟩ := ad_get.mp (x'.ad 0 a rfl)
    obtain ⟨ef, dx', ws, hv, hr⟩ := hf'.sto 0 _ _ h0' rfl
    have ef : fp = [a] := ef
    subst ef
    obtain ⟨hz, xz⟩ := hf'.freezeO (o := .ins (g.cls cn) dx' ws) h0' hv
    have hb := hf.back hz (x'.hp.trans xz.hp)
    cases r' with
    | val r' =>
      cases r'
      exact ⟨rfl, hk _ _ _ α H' μ (Ext.of (x'.hp.trans xz.hp) _) hb (.val (.ins upd_same (hr.toF.mono xz.hp))) (e3 a)⟩
  · exact hx x cls dx' I' α H' μ (Ext.of x'.hp _) (hf.back hf' x'.hp) er t'
end
def T_makeS (cn : Nat) (c : CtI) (i : Nat) (πs : Nat → Option (List Nat)) (dd : List D) (Ta : TrE) : TrE := fun ρ μ k E => ρ[i]? = some (some (.val (.cls cn))) ∧ Ta ρ μ (fun s μ1 => match s with
  | .val (.lst xs) => match πs xs.length with
    | some π => match vals? (pick π (xs.map Sl.val ++ dd.map Sl.val)) with
      | some ys => c ys (fun fs => ∀ a, k (.val (.ins a cn fs)) μ1) (fun x => E x μ1)
      | none => False
    | none => False
  | _ => False) E
section
variable {X : Cx} {cl : Nat → Addr} {W : WX} {i cn : Nat} {f : Addr} {fd : FuncData} {ps : List Str} {x : Str} {p px pos : Pos} {e : Expr} {πs : Nat → Option (List Nat)} {dd : List D} {c : CtI} {Te : TrE}
theorem d_makeS (M : Mk X.K (cl cn) f) (R : RunsI X (cl cn) f fd ps (spOf ⟨X.K, cl⟩ (ctI cn c))) (hx : ∀ σ, PassesAt (L2.CX X.prog X.w) X σ (fun cls d H => W cls d σ H)) (hb : ∀ n π, πs n = some π → KD X.K fd ps (n + 1) [] (up1 π) dd)
    (he : DE X cl W e Te) (hN : X.N[i]? = some x) (hv : Vis X.env.scope x) (hdb : (x == ("__debug__" : Str)) = false := by decide) (hcd : (x == ("__classdict__" : Str)) = false := by decide)
    (hst : starEach [.Starred e px] X.env = [(true, eval e X.env)] := by rfl) : DE X cl W (.Call (.Name x p) [.Starred e px] [] pos) (T_makeS cn c i πs dd Te) := by
  refine ⟨fun pins s σ H Q I h => ?_⟩
  obtain ⟨I0, α, ρ, μ, F, k, E, hf, en, ⟨hi, t⟩, hk, hxx⟩ := h
  obtain ⟨v0, hv0, r0⟩ := en.val i _ hi
  cases r0 with
  | val r0 =>
    cases r0
    refine wpAny_Call_Name_kw (thn ((pe_var (pos := p) hN hv hdb hcd).run pins s σ H (fun v H1 => v = .ref (cl cn) ∧ H1 = H) I ⟨.ref (cl cn), hv0, rfl, rfl⟩) fun u s1 ⟨v, H1, I1, r1, q1⟩ => ?_)
    obtain ⟨rfl, rfl⟩ := q1
    cases r1
    refine PySem.W.callWith_S (h₀ := X.base) I.ok.mod.kin M.kp (thn (he.run pins s1 σ H1 _ I1 (lift_go hf en t (Q := fun y H2 => ∃ a xs, y = V.ref a ∧ (SqT X.K H2 a xs ∨ SqL X.K H2 a xs) ∧ (∃ π, πs xs.length = some π ∧ ∀ vd, (∀ I, RpL ⟨X.K, cl⟩ I vd dd) → ∀ x dx, H2 x = none → H2 dx = none → dx ≠ x →
      spOf ⟨X.K, cl⟩ (ctI cn c) (.ref x :: pick π (xs ++ vd)) (upd (upd H2 dx (.own x)) x (.ins (cl cn) dx [])) (fun v H3 => v = .non ∧ Q (.ref x) H3) (fun cls d H => W cls d σ H))) (fun y d I2 α2 H2 μ2 x2 hf2 r2 t2 => ?_) hxx)) fun v s2 ⟨y, H2, I2, ry, a, xs, ey, hxs, π, hπ, q⟩ => ?_) hst
    · cases r2 with
      | cell => exact (show False from t2).elim
      | val r2 =>
        cases r2 with
        | @lst a vs xs h1 rl =>
          have t3 := (show (match πs xs.length with | some π => (match vals? (pick π (xs.map Sl.val ++ dd.map Sl.val)) with | some ys => c ys (fun fs => ∀ a, k (.val (.ins a cn fs)) μ2) (fun x => E x μ2) | none => False) | none => False) from t2)
          cases q1 : πs xs.length with
          | none => simp only [q1] at t3
          | some π =>
            simp only [q1] at t3
            cases q2 : vals? (pick π (xs.map Sl.val ++ dd.map Sl.val)) with
            | none => simp only [q2] at t3
            | some ys =>
              simp only [q2] at t3
              refine ⟨a, vs, rfl, .inr (hf2.sub.seq h1), π, by rw [rl.length]; exact q1, fun vd hvd b dx n1 n2 n3 => ?_⟩
              have rr := pick_rp ((RpSL.ofL rl (α := ad α2)).append (RpSL.ofL (hvd I2))) π
              rw [vals?_eq q2] at rr
              exact make_go hf2 rr.toL t3 (hk.mono x2) (hxx.mono x2) n1 n2 n3
        | _ => exact (show False from t2).elim
    · subst ey
      obtain rfl : v = Value.ref a := ry
      obtain ⟨ud, vd, D, hb⟩ := (hb _ _ hπ).ex
      refine StX.star_any I2 hxs fun us s3 I3 rv => ⟨I3.kIn, ?_⟩
      have go := run_makeG (ks := []) (us := us) (ws := []) (vs := xs) (zs := []) M R hb (hx σ) I3 rv .nil rfl rfl (fun x dx n1 n2 n3 => by
        have e0 : pick (up1 π) (V.ref x :: xs ++ [] ++ vd) = V.ref x :: pick π (xs ++ vd) := by
          rw [List.append_nil]
          exact pick_up (V.ref x) (xs ++ vd) π
        rw [e0]
        exact q vd (D.rp cl) x dx n1 n2 n3)
      exact go
end
end Dv
namespace Dv
open PySem PySem.Spec PyProof.Rows L2
theorem hu2_of {A : Around} {k : Nat} (hr : Room k A) (h : 2 ≤ k) : A.in1.in1.units < cLine :=
  (show Room 0 A.in1.in1 from Room.in1 (show Room 1 A.in1 from Room.in1 (hr.mono h))).units0
def star12 : Nat → Option (List Nat)
  | 1 => some [0, 1]
  | 2 => some [0, 1]
  | _ => none
theorem star12_kd {K : PySem.W.Frag} {fd : FuncData} {ps : List Str} {dd : List D} (h1 : KD K fd ps 2 [] (up1 [0, 1]) dd) (h2 : KD K fd ps 3 [] (up1 [0, 1]) dd) : ∀ n π, star12 n = some π → KD K fd ps (n + 1) [] (up1 π) dd
  | 1, _, h => by cases h; exact h1
  | 2, _, h => by cases h; exact h2
  | 0, _, h => nomatch h
  | _ + 3, _, h => nomatch h
end Dv
/-! Dv20: is None. -/
namespace Dv
open PySem PySem.Spec PyProof.Rows L2
theorem rp_non {g : G} {I : Hp} {v : V} {d : D} (r : Rp g I v d) : (v = .non) ↔ (d = .non) := by
  constructor
  · intro h
    subst h
    cases r
    rfl
  · intro h
    subst h
    cases r
    rfl
theorem snd_isN {g : G} : OSnd g oIsN (fun x y H Q => y = .non ∧ Q (.bl (decide (x = .non))) H) := by
  intro I α H μ F x y dx dy k Q hf rx ry o hk
  unfold oIsN at o
  split at o
  · cases rx with
    | val rx =>
      cases ry with
      | val ry =>
        cases rx
        cases ry
        exact ⟨rfl, hk _ _ I α H μ (Ext.refl _ _) hf (.val .bl) o⟩
  · rename_i d hd
    cases rx with
    | val rx =>
      cases ry with
      | val ry =>
        cases ry
        have h1 : ¬ x = .non := fun e => hd (by rw [(rp_non rx).mp e])
        refine ⟨rfl, ?_⟩
        rw [decide_eq_false h1]
        exact hk _ _ I α H μ (Ext.refl _ _) hf (.val .bl) o
  · cases rx with
    | cell h =>
      cases ry with
      | val ry =>
        cases ry
        refine ⟨rfl, ?_⟩
        rw [decide_eq_false (by intro z; cases z)]
        exact hk _ _ I α H μ (Ext.refl _ _) hf (.val .bl) o
  · exact o.elim
theorem snd_notN {g : G} : OSnd g oNotN (fun x y H Q => y = .non ∧ Q (.bl (!decide (x = .non))) H) := by
  intro I α H μ F x y dx dy k Q hf rx ry o hk
  unfold oNotN at o
  split at o
  · cases rx with
    | val rx =>
      cases ry with
      | val ry =>
        cases rx
        cases ry
        exact ⟨rfl, hk _ _ I α H μ (Ext.refl _ _) hf (.val .bl) o⟩
  · rename_i d hd
    cases rx with
    | val rx =>
      cases ry with
      | val ry =>
        cases ry
        have h1 : ¬ x = .non := fun e => hd (by rw [(rp_non rx).mp e])
        refine ⟨rfl, ?_⟩
        rw [decide_eq_false h1]
        exact hk _ _ I α H μ (Ext.refl _ _) hf (.val .bl) o
  · cases rx with
    | cell h =>
      cases ry with
      | val ry =>
        cases ry
        refine ⟨rfl, ?_⟩
        rw [decide_eq_false (by intro z; cases z)]
        exact hk _ _ I α H μ (Ext.refl _ _) hf (.val .bl) o
  · exact o.elim
/-- str of an int or a text -/
def oStr0C : OC := fun ds μ k => match ds with
  | [.val (.int i)] => i.natAbs.log2 < 1920 ∧ k (.val (.str (toString i))) μ
  | [.val (.str z)] => k (.val (.str z)) μ
  | _ => False
def rStr0 : List V → Hp → VK → Prop := fun xs H Q => (∃ i, xs = [.int i] ∧ i.natAbs.log2 < 1920 ∧ Q (.str (toString i)) H) ∨ (∃ a, xs = [.str a] ∧ Q (.str a) H)
theorem call_str0 {X : Cx} : CallR X (.type "str") rStr0 := by
  intro pins s σ H xs us Q I r h
  rcases h with h | h
  · exact call_str_int pins s σ H xs us Q I r h
  · exact SkE.call_str_str pins s σ H xs us Q I r h
theorem snd_str0 {g : G} : CSnd g oStr0C rStr0 := by
  intro I α H μ F xs ds k Q hf r o hk
  unfold oStr0C at o
  split at o
  · cases r with
    | cons r1 r2 =>
      cases r2
      cases r1 with
      | val r1 =>
        cases r1
        exact .inl ⟨_, rfl, o.1, hk _ _ I α H μ (Ext.refl _ _) hf (.val .str) o.2⟩
  · cases r with
    | cons r1 r2 =>
      cases r2
      cases r1 with
      | val r1 =>
        cases r1
        exact .inr ⟨_, rfl, hk _ _ I α H μ (Ext.refl _ _) hf (.val .str) o⟩
  · exact o.elim
end Dv
namespace My
open PySem PySem.Spec PyProof.Rows L2 Dv
/-! contracts of ratios -/
def rat (a : Addr) (t b : Int) : D := .ins a 1 [("top", .int t), ("bottom", .int b)]
def sgn (b : Int) : Int := if 0 < b then 1 else -1
def low (t b : Int) : Int × Int := (sgn b * t / (Int.gcd t b : Int), sgn b * b / (Int.gcd t b : Int))
def B4 (i : Int) : Prop := i.natAbs < 2 ^ 4000
def isI : D → Bool
  | .int _ => true
  | _ => false
inductive NumD : D → Int → Int → Prop
  | int (i : Int) : NumD (.int i) i 1
  | rat (a : Addr) (t b : Int) : 0 < b → NumD (rat a t b) t b
inductive NumL : List D → List (Int × Int) → Prop
  | nil : NumL [] []
  | cons {d : D} {t b : Int} {ds : List D} {ps : List (Int × Int)} : NumD d t b → NumL ds ps → NumL (d :: ds) ((t, b) :: ps)
def Plain (d : D) : Prop := (∃ t, d.kind = some t) ∧ isI d = false
def c_gcd : CtP := fun xs Q _ => ∃ a b, xs = [.int a, .int b] ∧ Q (.int (Int.gcd a b))
def c_is_integer : CtP := fun xs Q _ => ∃ d, xs = [d] ∧ ((∃ t, d.kind = some t) ∨ ∃ a fs, d = .ins a 1 fs) ∧ Q (.bl (isI d))
def c_init : CtI := fun xs Q E => ∃ t b, xs = [.int t, .int b] ∧ (b = 0 → E ⟨2, []⟩) ∧ (b ≠ 0 → b.natAbs < 2 ^ 9000 ∧ Q [("top", .int (low t b).1), ("bottom", .int (low t b).2)])
def c_as_ratio : CtP := fun xs Q E => ∃ d, xs = [d] ∧ ((∃ a t b, d = rat a t b ∧ Q d) ∨ (∃ i, d = .int i ∧ ∀ a, Q (rat a i 1)) ∨ (Plain d ∧ E ⟨3, [("value", d)]⟩))
def cop2 (f : Int → Int → Int → Int → Int × Int) : CtP := fun xs Q _ => ∃ a t b d u v, xs = [rat a t b, d] ∧ NumD d u v ∧ 0 < b ∧ 0 < v ∧ B4 t ∧ B4 b ∧ B4 u ∧ B4 v ∧ ∀ a', Q (rat a' (f t b u v).1 (f t b u v).2)
def addR (t b u v : Int) : Int × Int := low (t * v + u * b) (b * v)
def c_add : CtP := cop2 addR
def c_sub : CtP := cop2 fun t b u v => low (t * v - u * b) (b * v)
def c_mul : CtP := cop2 fun t b u v => low (t * u) (b * v)
def c_neg : CtP := fun xs Q _ => ∃ a t b, xs = [rat a t b] ∧ 0 < b ∧ B4 b ∧ ∀ a', Q (rat a' (low (-t) b).1 (low (-t) b).2)
def c_eq : CtP := fun xs Q _ => ∃ a t b d, xs = [rat a t b, d] ∧ ((∃ u v, NumD d u v ∧ Q (.bl (decide (t = u) && decide (b = v)))) ∨ (Plain d ∧ Q (.bl false)))
def c_over : CtP := fun xs Q E => ∃ a t b d u v, xs = [rat a t b, d] ∧ NumD d u v ∧ 0 < b ∧ 0 < v ∧ B4 t ∧ B4 b ∧ B4 u ∧ B4 v ∧ (b * u = 0 → E ⟨2, []⟩) ∧ (b * u ≠ 0 → ∀ a', Q (rat a' (low (t * v) (b * u)).1 (low (t * v) (b * u)).2))
def c_below : CtP := fun xs Q _ => ∃ a t b d u v, xs = [rat a t b, d] ∧ NumD d u v ∧ B4 t ∧ B4 b ∧ B4 u ∧ B4 v ∧ Q (.bl (decide (t * v < u * b)))
def c_size : CtP := fun xs Q _ => ∃ a t b, xs = [rat a t b] ∧ 0 < b ∧ B4 b ∧ ∀ a', Q (rat a' (low (if t < 0 then -t else t) b).1 (low (if t < 0 then -t else t) b).2)
def isN : D → Bool
  | .int _ => true
  | .ins _ _ _ => true
  | _ => false
def c_is_number : CtP := fun xs Q _ => ∃ d, xs = [d] ∧ ((∃ t, d.kind = some t) ∨ ∃ a fs, d = .ins a 1 fs) ∧ Q (.bl (isN d))
def c_is_chance : CtP := fun xs Q _ => ∃ d, xs = [d] ∧ ((∃ t b, NumD d t b ∧ Q (.bl (decide (0 ≤ t) && decide (t ≤ b)))) ∨ (Plain d ∧ Q (.bl false)))
def sumL (p : Int × Int) (ps : List (Int × Int)) : Int × Int := ps.foldl (fun p q => addR p.1 p.2 q.1 q.2) p
def B4P (p : Int × Int) : Prop := B4 p.1 ∧ B4 p.2 ∧ 0 < p.2
def c_total : CtP := fun xs Q _ => ∃ ds ps, (xs = [.lst ds] ∨ xs = [.tup ds]) ∧ NumL ds ps ∧ (∀ p ∈ ps, B4P p) ∧ (∀ n, n ≤ ps.length → B4P (sumL (0, 1) (ps.take n))) ∧ ds.length < 1000 ∧ ∀ a, Q (rat a (sumL (0, 1) ps).1 (sumL (0, 1) ps).2)
def minP (m p : Int × Int) : Int × Int := if p.1 * m.2 < m.1 * p.2 then p else m
def maxP (m p : Int × Int) : Int × Int := if m.1 * p.2 < p.1 * m.2 then p else m
def c_fold (f : Int × Int → Int × Int → Int × Int) : CtP := fun xs Q _ => ∃ ds p ps, (xs = [.lst ds] ∨ xs = [.tup ds]) ∧ NumL ds (p :: ps) ∧ (∀ q ∈ p :: ps, B4P q) ∧ ds.length < 1000 ∧ ∀ a, Q (rat a ((p :: ps).foldl f p).1 ((p :: ps).foldl f p).2)
def c_least : CtP := c_fold minP
def c_greatest : CtP := c_fold maxP
def B1 (i : Int) : Prop := i.natAbs < 2 ^ 140
def B9 (i : Int) : Prop := i.natAbs < 2 ^ 9000
/-- two instances are told equal by their fields -/
def ieR : Nat → List (Str × D) → List (Str × D) → Option Bool := fun c fs gs => match fs, gs with
  | [(f1, .int t), (f2, .int b)], [(g1, .int u), (g2, .int v)] => if c = 1 ∧ f1 = ("top" : Str) ∧ f2 = ("bottom" : Str) ∧ g1 = ("top" : Str) ∧ g2 = ("bottom" : Str) ∧ 0 < v then some (decide (t = u) && decide (b = v)) else none
  | _, _ => none
/-! contracts of texts of ratios -/
def mkS (l : List Nat) : Str := ⟨l.toArray⟩
def sgnL (i : Int) : List Nat := if i < 0 then 45 :: TL.numL i.natAbs else TL.numL i.natAbs
def txtL (t b : Int) : List Nat := if b = 1 then sgnL t else sgnL t ++ 47 :: sgnL b
def txtR (t b : Int) : Str := mkS (txtL t b)
def B15 (i : Int) : Prop := i.natAbs < 2 ^ 1500
def Nf (t b : Int) : Prop := 0 < b ∧ Int.gcd t b = 1
def IsTx (z : Str) : Prop := ∃ t b, Nf t b ∧ z = txtR t b
def c_str : CtP := fun xs Q _ => ∃ a t b, xs = [rat a t b] ∧ B15 t ∧ B15 b ∧ Q (.str (txtR t b))
def c_read : CtP := fun xs Q E => ∃ d, xs = [.cls 1, d] ∧ ((∃ z, d = .str z ∧ z.length ≤ 400 ∧ (∀ t b, Nf t b → z = txtR t b → ∀ a, Q (rat a t b)) ∧ ((¬ IsTx z) → E ⟨5, []⟩)) ∨ ((∃ t, d.kind = some t) ∧ (∀ z, d ≠ .str z) ∧ E ⟨5, []⟩))
def okS (z : Str) : Prop := ∀ c ∈ z.cps.toList, c < 1114112
/-! contracts of k06 -/
def c_divisor : CtP := fun xs Q _ => ∃ a b : Int, xs = [.int a, .int b] ∧ 0 ≤ a ∧ 0 ≤ b ∧ (a < 2 ^ 140 ∨ b < 2 ^ 140) ∧ Q (.int (Int.gcd a b))
def c_ltext : CtP := fun xs Q _ => ∃ a b, xs = [.int a, .int b] ∧ 0 < b ∧ a.natAbs < 2 ^ 140 ∧ b.natAbs < 2 ^ 140 ∧ Q (.str (txtR (low a b).1 (low a b).2))
def wholeB (l : List Nat) : Bool := !l.isEmpty && l.all (fun c => decide (48 ≤ c) && decide (c ≤ 57)) && (decide (l = [48]) || decide (l.head? ≠ some 48))
def c_whole : CtP := fun xs Q _ => ∃ z, xs = [.str z] ∧ z.length ≤ 400 ∧ okS z ∧ Q (.bl (wholeB z.cps.toList))
def c_istext : CtP := fun xs Q _ => ∃ z, xs = [.str z] ∧ z.length ≤ 78 ∧ okS z ∧ ∀ r, (r = true ↔ IsTx z) → Q (.bl r)
def c_lread : CtP := fun xs Q _ => ∃ d, xs = [d] ∧ ((∃ z, d = .str z ∧ z.length ≤ 400 ∧ (IsTx z → Q d) ∧ (¬ IsTx z → Q .non)) ∨ ((∃ t, d.kind = some t) ∧ (∀ z, d ≠ .str z) ∧ Q .non))
def c_near : CtS := fun ds m Q _ => ∃ z n, ds = [.cell 0, .val (.str z)] ∧ m = .draw n ∧ z.length ≤ 100 ∧ okS z ∧ n < 1000000 ∧ ∀ z' n', n' ≤ n + 3 → okS z' → z'.length ≤ z.length + 1 → Q (.str z') (.draw n')
def sub_Ratio : Nat → Option Bool := fun c => if c = 1 then some true else none
def insA : Nat → Bool := fun c => c == 1
def exm_BadText : Nat → Option Bool := fun c => if c = 2 then some false else if c = 5 then some true else if c = 3 then some false else none
/-! common_divisor -/
abbrev N_common_divisor : List Str := ["one", "other"]
def t_common_divisor_0a_0 : TrS := T_par 0 1 (T_cons (T_var 1) (T_cons (T_op oModN (T_var 0) (T_var 1)) T_nil))
def t_common_divisor_0 : TrS := T_while (T_t (T_op oNe (T_var 1) (T_c (.int 0)))) t_common_divisor_0a_0
def t_common_divisor_1 : TrS := T_ret (T_cb oAbs (T_cons (T_var 0) T_nil))
def t_common_divisor : TrS := (T_seq t_common_divisor_0 t_common_divisor_1)
abbrev Vc_common_divisor : Prop := ∀ ds μ (k : KE) (e : KX), (ctP c_gcd : Ct) ds μ k e → t_common_divisor ⟨fun _ μ' => k (.val .non) μ', k, fun _ _ => False, fun _ _ => False, fun x _ μ' => e x μ'⟩ (ds.map some ++ List.replicate (N_common_divisor.length - ds.length) none) μ
/-! is_integer -/
abbrev N_is_integer : List Str := ["value"]
def t_is_integer_0 : TrS := T_ret (T_andV (T_cb (oIsiI insA) (T_cons (T_var 0) (T_cons (T_c (.ty "int")) T_nil))) (T_notV (T_cb (oIsiI insA) (T_cons (T_var 0) (T_cons (T_c (.ty "bool")) T_nil)))))
abbrev Vc_is_integer : Prop := ∀ ds μ (k : KE) (e : KX), (ctP c_is_integer : Ct) ds μ k e → t_is_integer_0 ⟨fun _ μ' => k (.val .non) μ', k, fun _ _ => False, fun _ _ => False, fun x _ μ' => e x μ'⟩ (ds.map some ++ List.replicate (N_is_integer.length - ds.length) none) μ
/-! Ratio.__init__ -/
abbrev N_Ratio_init : List Str := ["self", "top", "bottom", "divisor", "sign"]
def t_Ratio_init_0a_0 : TrS := T_raise0 2
def t_Ratio_init_0 : TrS := T_ifS (T_t (T_op oEq (T_var 2) (T_c (.int 0)))) t_Ratio_init_0a_0 T_next
def t_Ratio_init_1 : TrS := T_asg (T_call c_gcd 2 0 [0, 1] (T_cons (T_var 1) (T_cons (T_var 2) T_nil)) T_nil) 3
def t_Ratio_init_2 : TrS := T_asg (T_if (T_t (T_op oGt (T_var 2) (T_c (.int 0)))) (T_c (.int 1)) (T_un oNeg (T_c (.int 1)))) 4
def t_Ratio_init_3 : TrS := T_setF 1 "top" (T_op oFdiv (T_op oMul (T_var 4) (T_var 1)) (T_var 3)) (T_var 0)
def t_Ratio_init_4 : TrS := T_setF 1 "bottom" (T_op oFdiv (T_op oMul (T_var 4) (T_var 2)) (T_var 3)) (T_var 0)
def t_Ratio_init : TrS := (T_seq t_Ratio_init_0 (T_seq t_Ratio_init_1 (T_seq t_Ratio_init_2 (T_seq t_Ratio_init_3 t_Ratio_init_4))))
abbrev Vc_Ratio_init : Prop := ∀ ds μ (k : KE) (e : KX), (ctI 1 c_init : Ct) ds μ k e → t_Ratio_init ⟨fun _ μ' => k (.val .non) μ', k, fun _ _ => False, fun _ _ => False, fun x _ μ' => e x μ'⟩ (ds.map some ++ List.replicate (N_Ratio_init.length - ds.length) none) μ
/-! Ratio.__mul__ -/
abbrev N_Ratio_mul : List Str := ["self", "other", "number"]
def t_Ratio_mul_0 : TrS := T_asg (T_call c_as_ratio 1 0 [0] (T_cons (T_var 1) T_nil) T_nil) 2
def t_Ratio_mul_1 : TrS := T_ret (T_make 1 c_init 2 0 [0, 1] [.int 1] (T_cons (T_op oMul (T_fld 1 "top" (T_var 0)) (T_fld 1 "top" (T_var 2))) (T_cons (T_op oMul (T_fld 1 "bottom" (T_var 0)) (T_fld 1 "bottom" (T_var 2))) T_nil)) T_nil)
def t_Ratio_mul : TrS := (T_seq t_Ratio_mul_0 t_Ratio_mul_1)
abbrev Vc_Ratio_mul : Prop := ∀ ds μ (k : KE) (e : KX), (ctP c_mul : Ct) ds μ k e → t_Ratio_mul ⟨fun _ μ' => k (.val .non) μ', k, fun _ _ => False, fun _ _ => False, fun x _ μ' => e x μ'⟩ (ds.map some ++ List.replicate (N_Ratio_mul.length - ds.length) none) μ
/-! Ratio.__eq__ -/
abbrev N_Ratio_eq : List Str := ["self", "other"]
def t_Ratio_eq_0a_0 : TrS := T_ret (T_andV (T_op oEq (T_fld 1 "top" (T_var 0)) (T_fld 1 "top" (T_var 1))) (T_op oEq (T_fld 1 "bottom" (T_var 0)) (T_fld 1 "bottom" (T_var 1))))
def t_Ratio_eq_0 : TrS := T_ifS (T_t (T_isi sub_Ratio (T_var 1))) t_Ratio_eq_0a_0 T_next
def t_Ratio_eq_1 : TrS := T_ret (T_andV (T_call c_is_integer 1 0 [0] (T_cons (T_var 1) T_nil) T_nil) (T_andV (T_op oEq (T_fld 1 "bottom" (T_var 0)) (T_c (.int 1))) (T_op oEq (T_fld 1 "top" (T_var 0)) (T_var 1))))
def t_Ratio_eq : TrS := (T_seq t_Ratio_eq_0 t_Ratio_eq_1)
abbrev Vc_Ratio_eq : Prop := ∀ ds μ (k : KE) (e : KX), (ctP c_eq : Ct) ds μ k e → t_Ratio_eq ⟨fun _ μ' => k (.val .non) μ', k, fun _ _ => False, fun _ _ => False, fun x _ μ' => e x μ'⟩ (ds.map some ++ List.replicate (N_Ratio_eq.length - ds.length) none) μ
/-! Ratio.__str__ -/
abbrev N_Ratio_str : List Str := ["self"]
def t_Ratio_str_0a_0 : TrS := T_ret (T_cb oStr0C (T_cons (T_fld 1 "top" (T_var 0)) T_nil))
def t_Ratio_str_0 : TrS := T_ifS (T_t (T_op oEq (T_fld 1 "bottom" (T_var 0)) (T_c (.int 1)))) t_Ratio_str_0a_0 T_next
def t_Ratio_str_1 : TrS := T_ret (T_fj [(T_un oFmt (T_fld 1 "top" (T_var 0))), (T_c (.str "/")), (T_un oFmt (T_fld 1 "bottom" (T_var 0)))] Str.empty)
def t_Ratio_str : TrS := (T_seq t_Ratio_str_0 t_Ratio_str_1)
abbrev Vc_Ratio_str : Prop := ∀ ds μ (k : KE) (e : KX), (ctP c_str : Ct) ds μ k e → t_Ratio_str ⟨fun _ μ' => k (.val .non) μ', k, fun _ _ => False, fun _ _ => False, fun x _ μ' => e x μ'⟩ (ds.map some ++ List.replicate (N_Ratio_str.length - ds.length) none) μ
/-! Ratio.read -/
abbrev N_Ratio_read : List Str := ["cls", "text", "parts", "digits", "numbers", "found", "part"]
def t_Ratio_read_0a_0 : TrS := T_raise0 5
def t_Ratio_read_0 : TrS := T_ifS (T_or (T_not (T_t (T_cb (oIsiI insA) (T_cons (T_var 1) (T_cons (T_c (.ty "str")) T_nil))))) (T_t (T_op oEq (T_var 1) (T_c (.str ""))))) t_Ratio_read_0a_0 T_next
def t_Ratio_read_1 : TrS := T_asg (T_sm1 oSplit (T_var 1) (T_c (.str "/"))) 2
def t_Ratio_read_2 : TrS := T_asg (T_lc (S_seq (T_var 2)) (.name 6) T_yes (T_if (T_t (T_op oEq (T_sl (T_var 6) T_no (T_part (T_c (.int 1)))) (T_c (.str "-")))) (T_sl (T_var 6) (T_part (T_c (.int 1))) T_no) (T_var 6)) [6]) 3
def t_Ratio_read_3a_0 : TrS := T_raise0 5
def t_Ratio_read_3 : TrS := T_ifS (T_or (T_t (T_op oGt (T_cb oLen (T_cons (T_var 2) T_nil)) (T_c (.int 2)))) (T_not (T_t (T_cb oAll (T_cons (T_lc (S_seq (T_var 3)) (.name 6) T_yes (T_andV (T_m0 (oStr0 fun z => .bl (Txt.isdigit z)) (T_var 6)) (T_m0 (oStr0 fun z => .bl (Txt.isascii z)) (T_var 6))) [6]) T_nil))))) t_Ratio_read_3a_0 T_next
def t_Ratio_read_4 : TrS := T_asg (T_lc (S_seq (T_var 2)) (.name 6) T_yes (T_cb oIntS (T_cons (T_var 6) T_nil)) [6]) 4
def t_Ratio_read_5a_0 : TrS := T_raise0 5
def t_Ratio_read_5 : TrS := T_ifS (T_and (T_t (T_op oEq (T_op oIx (T_var 4) (T_un oNeg (T_c (.int 1)))) (T_c (.int 0)))) (T_t (T_op oEq (T_cb oLen (T_cons (T_var 4) T_nil)) (T_c (.int 2))))) t_Ratio_read_5a_0 T_next
def t_Ratio_read_6 : TrS := T_asg (T_makeS 1 c_init 0 star12 [.int 1] (T_var 4)) 5
def t_Ratio_read_7a_0 : TrS := T_raise0 5
def t_Ratio_read_7 : TrS := T_ifS (T_t (T_op oNe (T_cb (oStrS 1 c_str) (T_cons (T_var 5) T_nil)) (T_var 1))) t_Ratio_read_7a_0 T_next
def t_Ratio_read_8 : TrS := T_ret (T_var 5)
def t_Ratio_read : TrS := (T_seq t_Ratio_read_0 (T_seq t_Ratio_read_1 (T_seq t_Ratio_read_2 (T_seq t_Ratio_read_3 (T_seq t_Ratio_read_4 (T_seq t_Ratio_read_5 (T_seq t_Ratio_read_6 (T_seq t_Ratio_read_7 t_Ratio_read_8))))))))
abbrev Vc_Ratio_read : Prop := ∀ ds μ (k : KE) (e : KX), (ctP c_read : Ct) ds μ k e → t_Ratio_read ⟨fun _ μ' => k (.val .non) μ', k, fun _ _ => False, fun _ _ => False, fun x _ μ' => e x μ'⟩ (ds.map some ++ List.replicate (N_Ratio_read.length - ds.length) none) μ
/-! as_ratio -/
abbrev N_as_ratio : List Str := ["value"]
def t_as_ratio_0a_0 : TrS := T_ret (T_var 0)
def t_as_ratio_0 : TrS := T_ifS (T_t (T_isi sub_Ratio (T_var 0))) t_as_ratio_0a_0 T_next
def t_as_ratio_1a_0 : TrS := T_raise1 3 "value" (T_var 0)
def t_as_ratio_1 : TrS := T_ifS (T_not (T_t (T_call c_is_integer 1 0 [0] (T_cons (T_var 0) T_nil) T_nil))) t_as_ratio_1a_0 T_next
def t_as_ratio_2 : TrS := T_ret (T_make 1 c_init 1 0 [0, 1] [.int 1] (T_cons (T_var 0) T_nil) T_nil)
def t_as_ratio : TrS := (T_seq t_as_ratio_0 (T_seq t_as_ratio_1 t_as_ratio_2))
abbrev Vc_as_ratio : Prop := ∀ ds μ (k : KE) (e : KX), (ctP c_as_ratio : Ct) ds μ k e → t_as_ratio ⟨fun _ μ' => k (.val .non) μ', k, fun _ _ => False, fun _ _ => False, fun x _ μ' => e x μ'⟩ (ds.map some ++ List.replicate (N_as_ratio.length - ds.length) none) μ
/-! _law_start -/
abbrev N_law_start : List Str := ["_law_script", "_law_spare", "_law_great"]
def t_law_start_0 : TrS := T_asg (T_op oAddL (T_c (.int 5)) (T_op oMod (T_cb oSum (T_cons (T_sl (T_var 0) T_no (T_part (T_c (.int 1)))) T_nil)) (T_c (.int 1000003)))) 1
def t_law_start_1 : TrS := T_ret (T_lstC (T_cons (T_lcC (S_seq (T_var 0)) (.name 2) (T_t (T_op oGe (T_cb oAbs (T_cons (T_var 2) T_nil)) (T_op oPow (T_c (.int 10)) (T_c (.int 18))))) (T_cb oAbs (T_cons (T_var 2) T_nil)) [2]) (T_cons (T_op oAddL (T_cb oList (T_cons (T_var 0) T_nil)) (T_lst (T_cons (T_var 1) T_nil))) (T_cons (T_c (.int 0)) T_nil))))
def t_law_start : TrS := (T_seq t_law_start_0 t_law_start_1)
abbrev Vc_law_start : Prop := ∀ ds μ (k : KE) (e : KX), (ctStart : Ct) ds μ k e → t_law_start ⟨fun _ μ' => k (.val .non) μ', k, fun _ _ => False, fun _ _ => False, fun x _ μ' => e x μ'⟩ (ds.map some ++ List.replicate (N_law_start.length - ds.length) none) μ
/-! _law_draw -/
abbrev N_law_draw : List Str := ["_law_state", "_law_size", "_law_digit", "_law_mixed"]
def t_law_draw_0 : TrS := T_setIx (T_op oAddL (T_op oIx (T_var 0) (T_c (.int 2))) (T_c (.int 1))) (T_var 0) (T_c (.int 2))
def t_law_draw_1a_0 : TrS := T_setIx (T_slC (T_op oIx (T_var 0) (T_c (.int 0))) (T_part (T_c (.int 1))) T_no) (T_var 0) (T_c (.int 0))
def t_law_draw_1 : TrS := T_while (T_and (T_t (T_op oNe (T_op oIx (T_var 0) (T_c (.int 0))) (T_lst T_nil))) (T_t (T_op oEq (T_op oIx (T_op oIx (T_var 0) (T_c (.int 0))) (T_c (.int 0))) (T_c (.int 0))))) t_law_draw_1a_0
def t_law_draw_2a_0 : TrS := T_asg (T_op oMod (T_cb oIntS (T_cons (T_op oIx (T_op oIx (T_var 0) (T_c (.int 0))) (T_c (.int 0))) T_nil)) (T_var 1)) 2
def t_law_draw_2a_1 : TrS := T_setIx (T_op oFdiv (T_op oIx (T_op oIx (T_var 0) (T_c (.int 0))) (T_c (.int 0))) (T_var 1)) (T_op oIx (T_var 0) (T_c (.int 0))) (T_c (.int 0))
def t_law_draw_2a_2 : TrS := T_ret (T_var 2)
def t_law_draw_2a : TrS := (T_seq t_law_draw_2a_0 (T_seq t_law_draw_2a_1 t_law_draw_2a_2))
def t_law_draw_2 : TrS := T_ifS (T_t (T_op oNe (T_op oIx (T_var 0) (T_c (.int 0))) (T_lst T_nil))) t_law_draw_2a T_next
def t_law_draw_3 : TrS := T_asg (T_op oMod (T_cb oIntS (T_cons (T_op oIx (T_op oIx (T_var 0) (T_c (.int 1))) (T_op oMod (T_cb oIntS (T_cons (T_op oIx (T_var 0) (T_c (.int 2))) T_nil)) (T_cb oLen (T_cons (T_op oIx (T_var 0) (T_c (.int 1))) T_nil)))) T_nil)) (T_c (.int 2147483647))) 3
def t_law_draw_4 : TrS := T_asg (T_op oMod (T_cb oIntS (T_cons (T_op oPow (T_op oAddL (T_op oAddL (T_op oMul (T_var 3) (T_c (.int 69621))) (T_op oMul (T_op oIx (T_var 0) (T_c (.int 2))) (T_c (.int 39373)))) (T_c (.int 7))) (T_c (.int 5))) T_nil)) (T_c (.int 2147483647))) 3
def t_law_draw_5 : TrS := T_ret (T_op oMod (T_op oFdiv (T_op oMod (T_cb oIntS (T_cons (T_op oPow (T_op oAddL (T_op oAddL (T_op oMul (T_var 3) (T_c (.int 48271))) (T_op oMul (T_op oIx (T_var 0) (T_c (.int 2))) (T_c (.int 40692)))) (T_c (.int 13))) (T_c (.int 5))) T_nil)) (T_c (.int 2147483629))) (T_c (.int 16))) (T_var 1))
def t_law_draw : TrS := (T_seq t_law_draw_0 (T_seq t_law_draw_1 (T_seq t_law_draw_2 (T_seq t_law_draw_3 (T_seq t_law_draw_4 t_law_draw_5)))))
abbrev Vc_law_draw : Prop := ∀ ds μ (k : KE) (e : KX), (ctDraw2 : Ct) ds μ k e → t_law_draw ⟨fun _ μ' => k (.val .non) μ', k, fun _ _ => False, fun _ _ => False, fun x _ μ' => e x μ'⟩ (ds.map some ++ List.replicate (N_law_draw.length - ds.length) none) μ
/-! _law_divisor -/
abbrev N_law_divisor : List Str := ["_law_one", "_law_two", "_law_turn"]
def t_law_divisor_0a_0a_0 : TrS := T_par 0 1 (T_cons (T_var 1) (T_cons (T_op oMod (T_var 0) (T_var 1)) T_nil))
def t_law_divisor_0a_0 : TrS := T_ifS (T_t (T_op oNe (T_var 1) (T_c (.int 0)))) t_law_divisor_0a_0a_0 T_next
def t_law_divisor_0 : TrS := T_for (S_range1 (T_cons (T_c (.int 300)) T_nil)) (.name 2) t_law_divisor_0a_0
def t_law_divisor_1 : TrS := T_ret (T_var 0)
def t_law_divisor : TrS := (T_seq t_law_divisor_0 t_law_divisor_1)
abbrev Vc_law_divisor : Prop := ∀ ds μ (k : KE) (e : KX), (ctP c_divisor : Ct) ds μ k e → t_law_divisor ⟨fun _ μ' => k (.val .non) μ', k, fun _ _ => False, fun _ _ => False, fun x _ μ' => e x μ'⟩ (ds.map some ++ List.replicate (N_law_divisor.length - ds.length) none) μ
/-! _law_text -/
abbrev N_law_text : List Str := ["_law_a", "_law_b", "_law_size"]
def t_law_text_0 : TrS := T_asg (T_call c_divisor 2 0 [0, 1] (T_cons (T_cb oAbs (T_cons (T_var 0) T_nil)) (T_cons (T_var 1) T_nil)) T_nil) 2
def t_law_text_1 : TrS := T_ret (T_if (T_t (T_op oEq (T_var 1) (T_var 2))) (T_cb (oStrS 1 c_str) (T_cons (T_op oFdiv (T_var 0) (T_var 2)) T_nil)) (T_op oAddL (T_op oAddL (T_cb (oStrS 1 c_str) (T_cons (T_op oFdiv (T_var 0) (T_var 2)) T_nil)) (T_c (.str "/"))) (T_cb (oStrS 1 c_str) (T_cons (T_op oFdiv (T_var 1) (T_var 2)) T_nil))))
def t_law_text : TrS := (T_seq t_law_text_0 t_law_text_1)
abbrev Vc_law_text : Prop := ∀ ds μ (k : KE) (e : KX), (ctP c_ltext : Ct) ds μ k e → t_law_text ⟨fun _ μ' => k (.val .non) μ', k, fun _ _ => False, fun _ _ => False, fun x _ μ' => e x μ'⟩ (ds.map some ++ List.replicate (N_law_text.length - ds.length) none) μ
/-! _law_whole -/
abbrev N_law_whole : List Str := ["_law_prose", "_law_sign"]
def t_law_whole_0a_0 : TrS := T_ret (T_c (.bl false))
def t_law_whole_0 : TrS := T_ifS (T_or (T_t (T_op oEq (T_var 0) (T_c (.str "")))) (T_t (T_op oNe (T_lc (S_seq (T_var 0)) (.name 1) (T_t (T_op oNin (T_var 1) (T_c (.str "0123456789")))) (T_var 1) [1]) (T_lst T_nil)))) t_law_whole_0a_0 T_next
def t_law_whole_1 : TrS := T_ret (T_orV (T_op oEq (T_var 0) (T_c (.str "0"))) (T_op oNe (T_op oIx (T_var 0) (T_c (.int 0))) (T_c (.str "0"))))
def t_law_whole : TrS := (T_seq t_law_whole_0 t_law_whole_1)
abbrev Vc_law_whole : Prop := ∀ ds μ (k : KE) (e : KX), (ctP c_whole : Ct) ds μ k e → t_law_whole ⟨fun _ μ' => k (.val .non) μ', k, fun _ _ => False, fun _ _ => False, fun x _ μ' => e x μ'⟩ (ds.map some ++ List.replicate (N_law_whole.length - ds.length) none) μ
/-! _law_is_text -/
abbrev N_law_is_text : List Str := ["_law_prose", "_law_bare", "_law_parts", "_law_part"]
def t_law_is_text_0 : TrS := T_asg (T_if (T_t (T_op oEq (T_sl (T_var 0) T_no (T_part (T_c (.int 1)))) (T_c (.str "-")))) (T_sl (T_var 0) (T_part (T_c (.int 1))) T_no) (T_var 0)) 1
def t_law_is_text_1 : TrS := T_asg (T_sm1 oSplit (T_var 1) (T_c (.str "/"))) 2
def t_law_is_text_2a_0 : TrS := T_ret (T_c (.bl false))
def t_law_is_text_2 : TrS := T_ifS (T_or (T_t (T_op oGt (T_cb oLen (T_cons (T_var 2) T_nil)) (T_c (.int 2)))) (T_t (T_op oNe (T_lc (S_seq (T_var 2)) (.name 3) (T_not (T_t (T_call c_whole 1 0 [0] (T_cons (T_var 3) T_nil) T_nil))) (T_var 3) [3]) (T_lst T_nil)))) t_law_is_text_2a_0 T_next
def t_law_is_text_3a_0 : TrS := T_ret (T_op oEq (T_var 0) (T_c (.str "0")))
def t_law_is_text_3 : TrS := T_ifS (T_t (T_op oEq (T_op oIx (T_var 2) (T_c (.int 0))) (T_c (.str "0")))) t_law_is_text_3a_0 T_next
def t_law_is_text_4 : TrS := T_ret (T_orV (T_op oEq (T_cb oLen (T_cons (T_var 2) T_nil)) (T_c (.int 1))) (T_andV (T_op oGt (T_cb oIntS (T_cons (T_op oIx (T_var 2) (T_c (.int 1))) T_nil)) (T_c (.int 1))) (T_op oEq (T_call c_divisor 2 0 [0, 1] (T_cons (T_cb oIntS (T_cons (T_op oIx (T_var 2) (T_c (.int 0))) T_nil)) (T_cons (T_cb oIntS (T_cons (T_op oIx (T_var 2) (T_c (.int 1))) T_nil)) T_nil)) T_nil) (T_c (.int 1)))))
def t_law_is_text : TrS := (T_seq t_law_is_text_0 (T_seq t_law_is_text_1 (T_seq t_law_is_text_2 (T_seq t_law_is_text_3 t_law_is_text_4))))
abbrev Vc_law_is_text : Prop := ∀ ds μ (k : KE) (e : KX), (ctP c_istext : Ct) ds μ k e → t_law_is_text ⟨fun _ μ' => k (.val .non) μ', k, fun _ _ => False, fun _ _ => False, fun x _ μ' => e x μ'⟩ (ds.map some ++ List.replicate (N_law_is_text.length - ds.length) none) μ
/-! _law_read -/
abbrev N_law_read : List Str := ["_law_prose"]
def t_law_read_0a_0 : TrS := T_ret (T_cb (oStrS 1 c_str) (T_cons (T_cmeth 1 c_read 0 1 [0, 1] T_nil (T_cons (T_var 0) T_nil)) T_nil))
def t_law_read_0b_0 : TrS := T_ret (T_c .non)
def t_law_read_0 : TrS := T_try exm_BadText t_law_read_0a_0 t_law_read_0b_0
abbrev Vc_law_read : Prop := ∀ ds μ (k : KE) (e : KX), (ctP c_lread : Ct) ds μ k e → t_law_read_0 ⟨fun _ μ' => k (.val .non) μ', k, fun _ _ => False, fun _ _ => False, fun x _ μ' => e x μ'⟩ (ds.map some ++ List.replicate (N_law_read.length - ds.length) none) μ
/-! _law_near -/
abbrev N_law_near : List Str := ["_law_state", "_law_prose", "_law_at", "_law_sign"]
def t_law_near_0 : TrS := T_asg (T_callS cDraw 2 0 [0, 1] (T_cons (T_var 0) (T_cons (T_op oAddL (T_cb oLen (T_cons (T_var 1) T_nil)) (T_c (.int 1))) T_nil)) T_nil) 2
def t_law_near_1 : TrS := T_asg (T_op oIx (T_lst (T_cons (T_c (.str "")) (T_cons (T_c (.str "0")) (T_cons (T_c (.str "1")) (T_cons (T_c (.str "-")) (T_cons (T_c (.str "/")) (T_cons (T_c (.str "+")) (T_cons (T_c (.str " ")) (T_cons (T_c (.str "2")) (T_cons (T_c (.str "7")) (T_cons (T_c (.str "a")) (T_cons (T_c (.str "\n")) (T_cons (T_c (.str ".")) T_nil))))))))))))) (T_callS cDraw 2 0 [0, 1] (T_cons (T_var 0) (T_cons (T_c (.int 12)) T_nil)) T_nil)) 3
def t_law_near_2 : TrS := T_ret (T_op oAddL (T_op oAddL (T_sl (T_var 1) T_no (T_part (T_var 2))) (T_var 3)) (T_sl (T_var 1) (T_part (T_op oAddL (T_var 2) (T_callS cDraw 2 0 [0, 1] (T_cons (T_var 0) (T_cons (T_c (.int 2)) T_nil)) T_nil))) T_no))
def t_law_near : TrS := (T_seq t_law_near_0 (T_seq t_law_near_1 t_law_near_2))
abbrev Vc_law_near : Prop := ∀ ds μ (k : KE) (e : KX), (ctS c_near : Ct) ds μ k e → t_law_near ⟨fun _ μ' => k (.val .non) μ', k, fun _ _ => False, fun _ _ => False, fun x _ μ' => e x μ'⟩ (ds.map some ++ List.replicate (N_law_near.length - ds.length) none) μ
/-! law -/
abbrev N_law : List Str := ["_law_script", "_law_state", "_law_turn", "_law_size", "_law_a", "_law_b", "_law_told", "_law_wide", "_law_near_here", "_law_prose", "_law_thing"]
def t_law_0 : TrS := T_asg (T_start (T_cons (T_var 0) T_nil)) 1
def t_law_1a_0 : TrS := T_asg (T_op oIx (T_lst (T_cons (T_c (.int 4)) (T_cons (T_c (.int 30)) (T_cons (T_c (.int 500)) (T_cons (T_c (.int 900)) (T_cons (T_op oPow (T_c (.int 10)) (T_c (.int 36))) T_nil)))))) (T_callS cDraw 2 0 [0, 1] (T_cons (T_var 1) (T_cons (T_c (.int 5)) T_nil)) T_nil)) 3
def t_law_1a_1 : TrS := T_par 4 5 (T_cons (T_op oSub (T_callS cDraw 2 0 [0, 1] (T_cons (T_var 1) (T_cons (T_op oMul (T_c (.int 2)) (T_var 3)) T_nil)) T_nil) (T_var 3)) (T_cons (T_op oAddL (T_c (.int 1)) (T_callS cDraw 2 0 [0, 1] (T_cons (T_var 1) (T_cons (T_var 3) T_nil)) T_nil)) T_nil))
def t_law_1a_2 : TrS := T_asg (T_cb (oStrS 1 c_str) (T_cons (T_make 1 c_init 2 0 [0, 1] [.int 1] (T_cons (T_var 4) (T_cons (T_var 5) T_nil)) T_nil) T_nil)) 6
def t_law_1a_3 : TrS := T_asg (T_op (oOwnB oMul 1 c_mul) (T_op (oOwnB oMul 1 c_mul) (T_make 1 c_init 2 0 [0, 1] [.int 1] (T_cons (T_var 4) (T_cons (T_var 5) T_nil)) T_nil) (T_make 1 c_init 2 0 [0, 1] [.int 1] (T_cons (T_op oAddL (T_op oPow (T_c (.int 10)) (T_c (.int 39))) (T_c (.int 1))) (T_cons (T_op oAddL (T_op oPow (T_c (.int 10)) (T_c (.int 38))) (T_c (.int 3))) T_nil)) T_nil)) (T_make 1 c_init 2 0 [0, 1] [.int 1] (T_cons (T_var 5) (T_cons (T_c (.int 7)) T_nil)) T_nil)) 7
def t_law_1a_4a_0 : TrS := T_ret (T_c (.bl false))
def t_law_1a_4 : TrS := T_ifS (T_t (T_op (oOwnN oNe 1 c_eq) (T_cmeth 1 c_read 1 0 [0, 1] (T_cons (T_cb (oStrS 1 c_str) (T_cons (T_var 7) T_nil)) T_nil) T_nil) (T_var 7))) t_law_1a_4a_0 T_next
def t_law_1a_5a_0 : TrS := T_ret (T_c (.bl false))
def t_law_1a_5 : TrS := T_ifS (T_or (T_t (T_op oNe (T_var 6) (T_call c_ltext 2 0 [0, 1] (T_cons (T_var 4) (T_cons (T_var 5) T_nil)) T_nil))) (T_t (T_op (oOwnN oNe 1 c_eq) (T_cmeth 1 c_read 1 0 [0, 1] (T_cons (T_var 6) T_nil) T_nil) (T_make 1 c_init 2 0 [0, 1] [.int 1] (T_cons (T_var 4) (T_cons (T_var 5) T_nil)) T_nil)))) t_law_1a_5a_0 T_next
def t_law_1a_6 : TrS := T_asg (T_callS c_near 2 0 [0, 1] (T_cons (T_var 1) (T_cons (T_var 6) T_nil)) T_nil) 8
def t_law_1a_7a_0a_0 : TrS := T_ret (T_c (.bl false))
def t_law_1a_7a_0 : TrS := T_ifS (T_t (T_op oNe (T_call c_lread 1 0 [0] (T_cons (T_var 9) T_nil) T_nil) (T_if (T_t (T_call c_istext 1 0 [0] (T_cons (T_var 9) T_nil) T_nil)) (T_var 9) (T_c .non)))) t_law_1a_7a_0a_0 T_next
def t_law_1a_7 : TrS := T_for (S_seq (T_lst (T_cons (T_var 8) (T_cons (T_callS c_near 2 0 [0, 1] (T_cons (T_var 1) (T_cons (T_var 8) T_nil)) T_nil) (T_cons (T_op oAddL (T_c (.str "-")) (T_var 6)) (T_cons (T_op oAddL (T_var 6) (T_c (.str "/1"))) (T_cons (T_op oAddL (T_c (.str "0")) (T_var 6)) (T_cons (T_op oAddL (T_var 6) (T_c (.str " "))) (T_cons (T_op oAddL (T_var 6) (T_c (.str "/2"))) T_nil))))))))) (.name 9) t_law_1a_7a_0
def t_law_1a : TrS := (T_seq t_law_1a_0 (T_seq t_law_1a_1 (T_seq t_law_1a_2 (T_seq t_law_1a_3 (T_seq t_law_1a_4 (T_seq t_law_1a_5 (T_seq t_law_1a_6 t_law_1a_7)))))))
def t_law_1 : TrS := T_for (S_range1 (T_cons (T_c (.int 6)) T_nil)) (.name 2) t_law_1a
def t_law_2 : TrS := T_ret (T_op oEq (T_lc (S_seq (T_lst (T_cons (T_c .non) (T_cons (T_c (.int 5)) (T_cons (T_c (.bl true)) (T_cons (T_lst (T_cons (T_c (.str "1")) T_nil)) (T_cons (T_tup (T_cons (T_c (.str "1")) T_nil)) (T_cons T_dic0 (T_cons (T_c (.str "")) (T_cons (T_c (.str "-")) (T_cons (T_c (.str "/")) T_nil))))))))))) (.name 10) (T_t (T_op oNotN (T_call c_lread 1 0 [0] (T_cons (T_var 10) T_nil) T_nil) (T_c .non))) (T_var 10) [10]) (T_lst T_nil))
def t_law : TrS := (T_seq t_law_0 (T_seq t_law_1 t_law_2))
abbrev Vc_law : Prop := ∀ ds μ (k : KE) (e : KX), (ctP cLaw : Ct) ds μ k e → t_law ⟨fun _ μ' => k (.val .non) μ', k, fun _ _ => False, fun _ _ => False, fun x _ μ' => e x μ'⟩ (ds.map some ++ List.replicate (N_law.length - ds.length) none) μ
end My
namespace My
open PySem PySem.Spec PyProof.Rows L2 Dv
def top (i : Nat) : Stmt := PySem.Challenge.pw_saidchances_k06_texts_of_ratios.main.body.getD i (.Pass ⟨0, 0, 0, 0⟩)
abbrev s_common_divisor : Stmt := top 7
theorem sc_common_divisor : FnScope N_common_divisor ["one", "other"] (defScope s_common_divisor) := ⟨rfl, rfl, rfl, by decide +kernel, rfl, by decide +kernel, by decide +kernel⟩
abbrev s_is_integer : Stmt := top 8
theorem sc_is_integer : FnScope N_is_integer ["value"] (defScope s_is_integer) := ⟨rfl, rfl, rfl, by decide +kernel, rfl, by decide +kernel, by decide +kernel⟩
abbrev s_Ratio_init : Stmt := inClass (top 9) 0
theorem sc_Ratio_init : FnScope N_Ratio_init ["self", "top", "bottom"] (defScope s_Ratio_init) := ⟨rfl, rfl, rfl, by decide +kernel, rfl, by decide +kernel, by decide +kernel⟩
abbrev s_Ratio_mul : Stmt := inClass (top 9) 3
theorem sc_Ratio_mul : FnScope N_Ratio_mul ["self", "other"] (defScope s_Ratio_mul) := ⟨rfl, rfl, rfl, by decide +kernel, rfl, by decide +kernel, by decide +kernel⟩
abbrev s_Ratio_eq : Stmt := inClass (top 9) 5
theorem sc_Ratio_eq : FnScope N_Ratio_eq ["self", "other"] (defScope s_Ratio_eq) := ⟨rfl, rfl, rfl, by decide +kernel, rfl, by decide +kernel, by decide +kernel⟩
abbrev s_Ratio_str : Stmt := inClass (top 9) 6
theorem sc_Ratio_str : FnScope N_Ratio_str ["self"] (defScope s_Ratio_str) := ⟨rfl, rfl, rfl, by decide +kernel, rfl, by decide +kernel, by decide +kernel⟩
abbrev s_Ratio_read : Stmt := inClass (top 9) 10
theorem sc_Ratio_read : FnScope N_Ratio_read ["cls", "text"] (defScope s_Ratio_read) := ⟨rfl, rfl, rfl, by decide +kernel, rfl, by decide +kernel, by decide +kernel⟩
abbrev s_as_ratio : Stmt := top 10
theorem sc_as_ratio : FnScope N_as_ratio ["value"] (defScope s_as_ratio) := ⟨rfl, rfl, rfl, by decide +kernel, rfl, by decide +kernel, by decide +kernel⟩
abbrev s_law_start : Stmt := top 12
theorem sc_law_start : FnScope N_law_start ["_law_script"] (defScope s_law_start) := ⟨rfl, rfl, rfl, by decide +kernel, rfl, by decide +kernel, by decide +kernel⟩
abbrev s_law_draw : Stmt := top 13
theorem sc_law_draw : FnScope N_law_draw ["_law_state", "_law_size"] (defScope s_law_draw) := ⟨rfl, rfl, rfl, by decide +kernel, rfl, by decide +kernel, by decide +kernel⟩
abbrev s_law_divisor : Stmt := top 14
theorem sc_law_divisor : FnScope N_law_divisor ["_law_one", "_law_two"] (defScope s_law_divisor) := ⟨rfl, rfl, rfl, by decide +kernel, rfl, by decide +kernel, by decide +kernel⟩
abbrev s_law_text : Stmt := top 15
theorem sc_law_text : FnScope N_law_text ["_law_a", "_law_b"] (defScope s_law_text) := ⟨rfl, rfl, rfl, by decide +kernel, rfl, by decide +kernel, by decide +kernel⟩
abbrev s_law_whole : Stmt := top 16
theorem sc_law_whole : FnScope N_law_whole ["_law_prose"] (defScope s_law_whole) := ⟨rfl, rfl, rfl, by decide +kernel, rfl, by decide +kernel, by decide +kernel⟩
abbrev s_law_is_text : Stmt := top 17
theorem sc_law_is_text : FnScope N_law_is_text ["_law_prose"] (defScope s_law_is_text) := ⟨rfl, rfl, rfl, by decide +kernel, rfl, by decide +kernel, by decide +kernel⟩
abbrev s_law_read : Stmt := top 18
theorem sc_law_read : FnScope N_law_read ["_law_prose"] (defScope s_law_read) := ⟨rfl, rfl, rfl, by decide +kernel, rfl, by decide +kernel, by decide +kernel⟩
abbrev s_law_near : Stmt := top 19
theorem sc_law_near : FnScope N_law_near ["_law_state", "_law_prose"] (defScope s_law_near) := ⟨rfl, rfl, rfl, by decide +kernel, rfl, by decide +kernel, by decide +kernel⟩
abbrev s_law : Stmt := top 20
theorem sc_law : FnScope N_law ["_law_script"] (defScope s_law) := ⟨rfl, rfl, rfl, by decide +kernel, rfl, by decide +kernel, by decide +kernel⟩
abbrev s_BadNumber : Stmt := inClass (top 5) 0
structure Ad where
  c_Ratio : Addr
  c_ByZero : Addr
  c_RainError : Addr
  c_BadNumber : Addr
  c_BadText : Addr
  i_BadNumber : Addr
  g_BadNumber : FuncData
  a_common_divisor : Addr
  d_common_divisor : FuncData
  a_is_integer : Addr
  d_is_integer : FuncData
  a_Ratio_init : Addr
  d_Ratio_init : FuncData
  a_Ratio_mul : Addr
  d_Ratio_mul : FuncData
  a_Ratio_eq : Addr
  d_Ratio_eq : FuncData
  a_Ratio_str : Addr
  d_Ratio_str : FuncData
  a_Ratio_read : Addr
  d_Ratio_read : FuncData
  a_as_ratio : Addr
  d_as_ratio : FuncData
  a_law_start : Addr
  d_law_start : FuncData
  a_law_draw : Addr
  d_law_draw : FuncData
  a_law_divisor : Addr
  d_law_divisor : FuncData
  a_law_text : Addr
  d_law_text : FuncData
  a_law_whole : Addr
  d_law_whole : FuncData
  a_law_is_text : Addr
  d_law_is_text : FuncData
  a_law_read : Addr
  d_law_read : FuncData
  a_law_near : Addr
  d_law_near : FuncData
  a_law : Addr
  d_law : FuncData
def clA (A : Ad) : Nat → Addr := fun n => match n with | 1 => A.c_Ratio | 2 => A.c_ByZero | 4 => A.c_RainError | 3 => A.c_BadNumber | 5 => A.c_BadText | _ => 0
structure Tx (K : PySem.W.Frag) (mg : Str → Option Value) (A : Ad) : Prop where
  m_Ratio : mg "Ratio" = some (.ref (clA A 1))
  m_ByZero : mg "ByZero" = some (.ref (clA A 2))
  m_RainError : mg "RainError" = some (.ref (clA A 4))
  m_BadNumber : mg "BadNumber" = some (.ref (clA A 3))
  m_BadText : mg "BadText" = some (.ref (clA A 5))
  cl_Ratio : Cls K (clA A 1)
  cf_Ratio_top : CF K (clA A 1) "top"
  cf_Ratio_bottom : CF K (clA A 1) "bottom"
  is_Ratio : IsiC K (clA A) (clA A 1) sub_Ratio
  insk : InsK K (clA A) insA
  x0_ByZero : Ex0 K (clA A 2)
  x0_BadText : Ex0 K (clA A 5)
  em_BadText : Exm K (clA A) (.ref (clA A 5)) exm_BadText
  ox_BadNumber : OexC K (clA A 3)
  ix_BadNumber : PySem.W.findIn K (.ref (clA A 3)) "__init__" = some (some (.ref A.i_BadNumber))
  tx_BadNumber : PySem.W.typeIn K (.ref A.i_BadNumber) = some (.type "function")
  bx_BadNumber : Binds K A.g_BadNumber ["self", "value"] []
  xf_BadNumber : XfC K (clA A 3)
  na_BadNumber_value : PySem.W.findIn K (.ref (clA A 3)) "value" = some none
  F_common_divisor : Fun K "common_divisor" "common_divisor" s_common_divisor A.a_common_divisor A.d_common_divisor
  m_common_divisor : mg "common_divisor" = some (.ref A.a_common_divisor)
  F_is_integer : Fun K "is_integer" "is_integer" s_is_integer A.a_is_integer A.d_is_integer
  m_is_integer : mg "is_integer" = some (.ref A.a_is_integer)
  F_Ratio_init : FunV K "__init__" "Ratio.__init__" s_Ratio_init A.a_Ratio_init A.d_Ratio_init
  kb_Ratio_init_3 : KD K A.d_Ratio_init ["self", "top", "bottom"] 3 [] [0, 1, 2] [.int 1]
  kb_Ratio_init_2 : KD K A.d_Ratio_init ["self", "top", "bottom"] 2 [] [0, 1, 2] [.int 1]
  mk_Ratio : Mk K (clA A 1) A.a_Ratio_init
  F_Ratio_mul : Fun K "__mul__" "Ratio.__mul__" s_Ratio_mul A.a_Ratio_mul A.d_Ratio_mul
  ob_Ratio_mul : OB K (clA A 1) A.a_Ratio_mul "mul"
  F_Ratio_eq : Fun K "__eq__" "Ratio.__eq__" s_Ratio_eq A.a_Ratio_eq A.d_Ratio_eq
  oe_Ratio : OE K (clA A 1) A.a_Ratio_eq
  F_Ratio_str : Fun K "__str__" "Ratio.__str__" s_Ratio_str A.a_Ratio_str A.d_Ratio_str
  so_Ratio : SO K (clA A 1) A.a_Ratio_str
  cr_Ratio : ClX.CRead K (clA A 1) (.type "type")
  F_Ratio_read : Fun K "read" "Ratio.read" s_Ratio_read A.a_Ratio_read A.d_Ratio_read
  cm_Ratio_read : ∃ p, ClX.CMet K (clA A 1) (.type "type") "read" p A.a_Ratio_read
  F_as_ratio : Fun K "as_ratio" "as_ratio" s_as_ratio A.a_as_ratio A.d_as_ratio
  m_as_ratio : mg "as_ratio" = some (.ref A.a_as_ratio)
  F_law_start : Fun K "_law_start" "_law_start" s_law_start A.a_law_start A.d_law_start
  m_law_start : mg "_law_start" = some (.ref A.a_law_start)
  F_law_draw : Fun K "_law_draw" "_law_draw" s_law_draw A.a_law_draw A.d_law_draw
  m_law_draw : mg "_law_draw" = some (.ref A.a_law_draw)
  F_law_divisor : Fun K "_law_divisor" "_law_divisor" s_law_divisor A.a_law_divisor A.d_law_divisor
  m_law_divisor : mg "_law_divisor" = some (.ref A.a_law_divisor)
  F_law_text : Fun K "_law_text" "_law_text" s_law_text A.a_law_text A.d_law_text
  m_law_text : mg "_law_text" = some (.ref A.a_law_text)
  F_law_whole : Fun K "_law_whole" "_law_whole" s_law_whole A.a_law_whole A.d_law_whole
  m_law_whole : mg "_law_whole" = some (.ref A.a_law_whole)
  F_law_is_text : Fun K "_law_is_text" "_law_is_text" s_law_is_text A.a_law_is_text A.d_law_is_text
  m_law_is_text : mg "_law_is_text" = some (.ref A.a_law_is_text)
  F_law_read : Fun K "_law_read" "_law_read" s_law_read A.a_law_read A.d_law_read
  m_law_read : mg "_law_read" = some (.ref A.a_law_read)
  F_law_near : Fun K "_law_near" "_law_near" s_law_near A.a_law_near A.d_law_near
  m_law_near : mg "_law_near" = some (.ref A.a_law_near)
  F_law : Fun K "law" "law" s_law A.a_law A.d_law
  m_law : mg "law" = some (.ref A.a_law)
  n_abs : mg "abs" = none
  n_isinstance : mg "isinstance" = none
  n_int : mg "int" = none
  n_bool : mg "bool" = none
  n_str : mg "str" = none
  n_len : mg "len" = none
  n_all : mg "all" = none
  n_sum : mg "sum" = none
  n_list : mg "list" = none
  n_range : mg "range" = none
  n_super : mg "super" = none
section
variable {P : Program} {w : World} {K : PySem.W.Frag} {mg : Str → Option Value} {A : Ad} {base : Heap}
theorem Tx.kb_common_divisor_2 (T : Tx K mg A) : KB K A.d_common_divisor ["one", "other"] 2 [] [0, 1] := kb_mk T.F_common_divisor fun _ _ _ _ _ _ us ws h1 h2 => match us, ws, h1, h2 with | [_, _], [], _, _ => rfl
theorem Tx.kb_as_ratio_1 (T : Tx K mg A) : KB K A.d_as_ratio ["value"] 1 [] [0] := kb_mk T.F_as_ratio fun _ _ _ _ _ _ us ws h1 h2 => match us, ws, h1, h2 with | [_], [], _, _ => rfl
theorem Tx.kb_is_integer_1 (T : Tx K mg A) : KB K A.d_is_integer ["value"] 1 [] [0] := kb_mk T.F_is_integer fun _ _ _ _ _ _ us ws h1 h2 => match us, ws, h1, h2 with | [_], [], _, _ => rfl
theorem Tx.kb_Ratio_str_1 (T : Tx K mg A) : KB K A.d_Ratio_str ["self"] 1 [] [0] := kb_mk T.F_Ratio_str fun _ _ _ _ _ _ us ws h1 h2 => match us, ws, h1, h2 with | [_], [], _, _ => rfl
theorem Tx.kb_law_divisor_2 (T : Tx K mg A) : KB K A.d_law_divisor ["_law_one", "_law_two"] 2 [] [0, 1] := kb_mk T.F_law_divisor fun _ _ _ _ _ _ us ws h1 h2 => match us, ws, h1, h2 with | [_, _], [], _, _ => rfl
theorem Tx.kb_law_whole_1 (T : Tx K mg A) : KB K A.d_law_whole ["_law_prose"] 1 [] [0] := kb_mk T.F_law_whole fun _ _ _ _ _ _ us ws h1 h2 => match us, ws, h1, h2 with | [_], [], _, _ => rfl
theorem Tx.kb_Ratio_read_1_text (T : Tx K mg A) : KB K A.d_Ratio_read ["cls", "text"] 1 ["text"] [0, 1] := kb_mk T.F_Ratio_read fun _ _ _ _ _ _ us ws h1 h2 => match us, ws, h1, h2 with | [_], [_], _, _ => rfl
theorem Tx.kb_law_draw_2 (T : Tx K mg A) : KB K A.d_law_draw ["_law_state", "_law_size"] 2 [] [0, 1] := kb_mk T.F_law_draw fun _ _ _ _ _ _ us ws h1 h2 => match us, ws, h1, h2 with | [_, _], [], _, _ => rfl
theorem Tx.kb_law_start_1 (T : Tx K mg A) : KB K A.d_law_start ["_law_script"] 1 [] [0] := kb_mk T.F_law_start fun _ _ _ _ _ _ us ws h1 h2 => match us, ws, h1, h2 with | [_], [], _, _ => rfl
theorem Tx.kb_Ratio_mul_2 (T : Tx K mg A) : KB K A.d_Ratio_mul ["self", "other"] 2 [] [0, 1] := kb_mk T.F_Ratio_mul fun _ _ _ _ _ _ us ws h1 h2 => match us, ws, h1, h2 with | [_, _], [], _, _ => rfl
theorem Tx.kb_Ratio_eq_2 (T : Tx K mg A) : KB K A.d_Ratio_eq ["self", "other"] 2 [] [0, 1] := kb_mk T.F_Ratio_eq fun _ _ _ _ _ _ us ws h1 h2 => match us, ws, h1, h2 with | [_, _], [], _, _ => rfl
theorem Tx.kb_Ratio_read_2 (T : Tx K mg A) : KB K A.d_Ratio_read ["cls", "text"] 2 [] [0, 1] := kb_mk T.F_Ratio_read fun _ _ _ _ _ _ us ws h1 h2 => match us, ws, h1, h2 with | [_, _], [], _, _ => rfl
theorem Tx.kb_law_text_2 (T : Tx K mg A) : KB K A.d_law_text ["_law_a", "_law_b"] 2 [] [0, 1] := kb_mk T.F_law_text fun _ _ _ _ _ _ us ws h1 h2 => match us, ws, h1, h2 with | [_, _], [], _, _ => rfl
theorem Tx.kb_law_near_2 (T : Tx K mg A) : KB K A.d_law_near ["_law_state", "_law_prose"] 2 [] [0, 1] := kb_mk T.F_law_near fun _ _ _ _ _ _ us ws h1 h2 => match us, ws, h1, h2 with | [_, _], [], _, _ => rfl
theorem Tx.kb_law_read_1 (T : Tx K mg A) : KB K A.d_law_read ["_law_prose"] 1 [] [0] := kb_mk T.F_law_read fun _ _ _ _ _ _ us ws h1 h2 => match us, ws, h1, h2 with | [_], [], _, _ => rfl
theorem Tx.kb_law_is_text_1 (T : Tx K mg A) : KB K A.d_law_is_text ["_law_prose"] 1 [] [0] := kb_mk T.F_law_is_text fun _ _ _ _ _ _ us ws h1 h2 => match us, ws, h1, h2 with | [_], [], _, _ => rfl
abbrev Ok_BadNumber (K : PySem.W.Frag) (mg : Str → Option Value) (A : Ad) : Prop := FnOk P w K mg base (L2.CX P w) 1 A.i_BadNumber A.g_BadNumber ["self", "value"] (spSI (clA A 3) "value")
abbrev Ok_common_divisor (K : PySem.W.Frag) (mg : Str → Option Value) (A : Ad) : Prop := FnOk P w K mg base (L2.CX P w) 1 A.a_common_divisor A.d_common_divisor ["one", "other"] (spOf ⟨K, clA A⟩ (ctP c_gcd))
theorem o_common_divisor (T : Tx K mg A) (hv : Vc_common_divisor) (len : ∀ ds μ (k : KE) (e : KX), (ctP c_gcd : Ct) ds μ k e → ds.length = 2) : Ok_common_divisor (P := P) (w := w) (base := base) K mg A :=
  fn_ok (T := t_common_divisor) T.F_common_divisor sc_common_divisor len (fun cdv A1 outer s H E hr tk =>
      (dss_cons (ds_while (passes_of rfl) (dt_cmp (op_neA hr.units) snd_ne (d_var 1) d_int (nomark _)) (dss_one (ds_par (by rfl) sc_common_divisor.nd rfl rfl (by decide) rfl rfl (da_cons (d_var 1) (da_cons (d_op op_modN snd_modN (d_var 0) (d_var 1)) da_nil)) (by rfl))))
      (dss_one (ds_ret (d_callB call_abs snd_abs T.n_abs (by decide +kernel) (da_cons (d_var 0) da_nil)))))) hv
abbrev Ok_is_integer (K : PySem.W.Frag) (mg : Str → Option Value) (A : Ad) : Prop := FnOk P w K mg base (L2.CX P w) 1 A.a_is_integer A.d_is_integer ["value"] (spOf ⟨K, clA A⟩ (ctP c_is_integer))
theorem o_is_integer (T : Tx K mg A) (hv : Vc_is_integer) (len : ∀ ds μ (k : KE) (e : KX), (ctP c_is_integer : Ct) ds μ k e → ds.length = 1) : Ok_is_integer (P := P) (w := w) (base := base) K mg A :=
  fn_ok (T := t_is_integer_0) T.F_is_integer sc_is_integer len (fun cdv A1 outer s H E hr tk =>
      (dss_one (ds_ret (d_and (d_callB call_isiA (snd_isiI T.insk) T.n_isinstance (by decide +kernel) (da_cons (d_var 0) (da_cons (d_bltn (by rfl) T.n_int (by decide +kernel) (v := .ty "int") (u := .type "int") rfl (fun _ => .ty)) da_nil))) (d_one (d_not (d_callB call_isiA (snd_isiI T.insk) T.n_isinstance (by decide +kernel) (da_cons (d_var 0) (da_cons (d_bltn (by rfl) T.n_bool (by decide +kernel) (v := .ty "bool") (u := .type "bool") rfl (fun _ => .ty)) da_nil))))))))) hv
abbrev Ok_Ratio_str (K : PySem.W.Frag) (mg : Str → Option Value) (A : Ad) : Prop := FnOk P w K mg base (L2.CX P w) 1 A.a_Ratio_str A.d_Ratio_str ["self"] (spOf ⟨K, clA A⟩ (ctP c_str))
theorem o_Ratio_str (T : Tx K mg A) (hv : Vc_Ratio_str) (len : ∀ ds μ (k : KE) (e : KX), (ctP c_str : Ct) ds μ k e → ds.length = 1) : Ok_Ratio_str (P := P) (w := w) (base := base) K mg A :=
  fn_ok (T := t_Ratio_str) T.F_Ratio_str sc_Ratio_str len (fun cdv A1 outer s H E hr tk =>
      (dss_cons (ds_if (dt_cmp (op_eqA hr.units) snd_eq (d_fld T.cf_Ratio_bottom (d_var 0)) d_int (nomark _)) (dss_one (ds_ret (d_callTy call_str0 snd_str0 T.n_str (by decide +kernel) (da_cons (d_fld T.cf_Ratio_top (d_var 0)) da_nil)))) dss_nil)
      (dss_one (ds_ret (d_joined (DJ.cons (d_fmt (d_fld T.cf_Ratio_top (d_var 0))) (DJ.cons d_str (DJ.cons (d_fmt (d_fld T.cf_Ratio_bottom (d_var 0))) DJ.nil)))))))) hv
abbrev Ok_law_start (K : PySem.W.Frag) (mg : Str → Option Value) (A : Ad) : Prop := FnOk P w K mg base (L2.CX P w) 1 A.a_law_start A.d_law_start ["_law_script"] (spOf ⟨K, clA A⟩ (ctStart))
theorem o_law_start (T : Tx K mg A) (hv : Vc_law_start) (len : ∀ ds μ (k : KE) (e : KX), (ctStart : Ct) ds μ k e → ds.length = 1) : Ok_law_start (P := P) (w := w) (base := base) K mg A :=
  fn_ok (T := t_law_start) T.F_law_start sc_law_start len (fun cdv A1 outer s H E hr tk =>
      (dss_cons (ds_set (i := 1) sc_law_start.nd rfl (by first | exact .inl rfl | exact .inr rfl) (d_op op_addL snd_addL d_int (d_op op_mod snd_mod (d_callB (cr_sum rfl) snd_sum T.n_sum (by decide +kernel) (da_cons (d_sl (d_var 0) do_none (do_some d_int)) da_nil)) d_int)))
      (dss_one (ds_ret (d_lstC (da_cons (d_lcC (own := [("_law_great", 2)]) rfl sc_law_start.nd (di_seq (d_var 0)) (blkOk_by (N := N_law_start) (sc := defScope s_law_start) (by decide +kernel)) (by decide) (by decide) (fun _ _ _ _ _ => (pg_name (i := 2) sc_law_start.nd rfl (by first | exact .inl rfl | exact .inr rfl))) (fun _ _ _ _ _ => by exact (dts_one (dt_cmp op_ge snd_ge (d_callB call_abs snd_abs T.n_abs (by decide +kernel) (da_cons (d_var 2) da_nil)) (d_op op_pow snd_pow d_int d_int) (nomark _)))) (fun _ _ _ _ _ => by exact (d_callB call_abs snd_abs T.n_abs (by decide +kernel) (da_cons (d_var 2) da_nil)))) (da_cons (d_op op_addL snd_addL (d_callTy call_list_of snd_list T.n_list (by decide +kernel) (da_cons (d_var 0) da_nil)) (d_lst (da_cons (d_var 1) da_nil))) (da_cons d_int da_nil)))))))) hv
abbrev Ok_law_draw (K : PySem.W.Frag) (mg : Str → Option Value) (A : Ad) : Prop := FnOk P w K mg base (L2.CX P w) 1 A.a_law_draw A.d_law_draw ["_law_state", "_law_size"] (spOf ⟨K, clA A⟩ (ctS cDraw))
theorem o_law_draw (T : Tx K mg A) (hv : Vc_law_draw) (len : ∀ ds μ (k : KE) (e : KX), (ctDraw2 : Ct) ds μ k e → ds.length = 2) : Ok_law_draw (P := P) (w := w) (base := base) K mg A :=
  (fn_ok (T := t_law_draw) T.F_law_draw sc_law_draw len (fun cdv A1 outer s H E hr tk =>
      (dss_cons (ds_setIx (d_op op_addL snd_addL (d_ix (d_var 0) d_int) d_int) (d_var 0) d_int)
      (dss_cons (ds_while (passes_of rfl) (DW.pt (dw_and (dt_cmp (op_neA hr.units) snd_ne (d_ix (d_var 0) d_int) (d_lst da_nil) (nomark _)) (dw_and1 (dt_cmp (op_eqA hr.units) snd_eq (d_ix (d_ix (d_var 0) d_int) d_int) d_int (nomark _))))) (dss_one (ds_setIx (d_slC (d_ix (d_var 0) d_int) (do_some d_int) do_none) (d_var 0) d_int)))
      (dss_cons (ds_if (dt_cmp (op_neA hr.units) snd_ne (d_ix (d_var 0) d_int) (d_lst da_nil) (nomark _)) (dss_cons (ds_set (i := 2) sc_law_draw.nd rfl (by first | exact .inl rfl | exact .inr rfl) (d_op op_mod snd_mod (d_callTy call_intS snd_intS T.n_int (by decide +kernel) (da_cons (d_ix (d_ix (d_var 0) d_int) d_int) da_nil)) (d_var 1)))
      (dss_cons (ds_setIx (d_op op_fdivW snd_fdiv (d_ix (d_ix (d_var 0) d_int) d_int) (d_var 1)) (d_ix (d_var 0) d_int) d_int)
      (dss_one (ds_ret (d_var 2))))) dss_nil)
      (dss_cons (ds_set (i := 3) sc_law_draw.nd rfl (by first | exact .inl rfl | exact .inr rfl) (d_op op_mod snd_mod (d_callTy call_intS snd_intS T.n_int (by decide +kernel) (da_cons (d_ix (d_ix (d_var 0) d_int) (d_op op_mod snd_mod (d_callTy call_intS snd_intS T.n_int (by decide +kernel) (da_cons (d_ix (d_var 0) d_int) da_nil)) (d_callB call_len snd_len T.n_len (by decide +kernel) (da_cons (d_ix (d_var 0) d_int) da_nil)))) da_nil)) d_int))
      (dss_cons (ds_set (i := 3) sc_law_draw.nd rfl (by first | exact .inl rfl | exact .inr rfl) (d_op op_mod snd_mod (d_callTy call_intS snd_intS T.n_int (by decide +kernel) (da_cons (d_op op_pow snd_pow (d_op op_addL snd_addL (d_op op_addL snd_addL (d_op op_mulA snd_mul (d_var 3) d_int) (d_op op_mulA snd_mul (d_ix (d_var 0) d_int) d_int)) d_int) d_int) da_nil)) d_int))
      (dss_one (ds_ret (d_op op_mod snd_mod (d_op op_fdivW snd_fdiv (d_op op_mod snd_mod (d_callTy call_intS snd_intS T.n_int (by decide +kernel) (da_cons (d_op op_pow snd_pow (d_op op_addL snd_addL (d_op op_addL snd_addL (d_op op_mulA snd_mul (d_var 3) d_int) (d_op op_mulA snd_mul (d_ix (d_var 0) d_int) d_int)) d_int) d_int) da_nil)) d_int) d_int) (d_var 1)))))))))) hv).imp fun vs H Q E h => draw_imp vs H Q E h
abbrev Ok_law_divisor (K : PySem.W.Frag) (mg : Str → Option Value) (A : Ad) : Prop := FnOk P w K mg base (L2.CX P w) 1 A.a_law_divisor A.d_law_divisor ["_law_one", "_law_two"] (spOf ⟨K, clA A⟩ (ctP c_divisor))
theorem o_law_divisor (T : Tx K mg A) (hv : Vc_law_divisor) (len : ∀ ds μ (k : KE) (e : KX), (ctP c_divisor : Ct) ds μ k e → ds.length = 2) : Ok_law_divisor (P := P) (w := w) (base := base) K mg A :=
  fn_ok (T := t_law_divisor) T.F_law_divisor sc_law_divisor len (fun cdv A1 outer s H E hr tk =>
      (dss_cons (ds_for (passes_of rfl) rfl (di_range1 T.n_range (da_cons d_int da_nil)) (pg_name (i := 2) sc_law_divisor.nd rfl (by first | exact .inl rfl | exact .inr rfl)) (dss_one (ds_if (dt_cmp (op_neA hr.units) snd_ne (d_var 1) d_int (nomark _)) (dss_one (ds_par (by rfl) sc_law_divisor.nd rfl rfl (by decide) rfl rfl (da_cons (d_var 1) (da_cons (d_op op_mod snd_mod (d_var 0) (d_var 1)) da_nil)) (by rfl))) dss_nil)))
      (dss_one (ds_ret (d_var 0))))) hv
abbrev Ok_law_whole (K : PySem.W.Frag) (mg : Str → Option Value) (A : Ad) : Prop := FnOk P w K mg base (L2.CX P w) 1 A.a_law_whole A.d_law_whole ["_law_prose"] (spOf ⟨K, clA A⟩ (ctP c_whole))
theorem o_law_whole (T : Tx K mg A) (hv : Vc_law_whole) (len : ∀ ds μ (k : KE) (e : KX), (ctP c_whole : Ct) ds μ k e → ds.length = 1) : Ok_law_whole (P := P) (w := w) (base := base) K mg A :=
  fn_ok (T := t_law_whole) T.F_law_whole sc_law_whole len (fun cdv A1 outer s H E hr tk =>
      (dss_cons (ds_if (DW.pt (dw_or (dt_cmp (op_eqA hr.units) snd_eq (d_var 0) d_str (nomark _)) (dw_or1 (dt_cmp (op_neA hr.units) snd_ne (d_lc (own := [("_law_sign", 1)]) rfl sc_law_whole.nd (di_seq (d_var 0)) (blkOk_by (N := N_law_whole) (sc := defScope s_law_whole) (by decide +kernel)) (by decide) (by decide) (fun _ _ _ _ _ => (pg_name (i := 1) sc_law_whole.nd rfl (by first | exact .inl rfl | exact .inr rfl))) (fun _ _ _ _ _ => by exact (dts_one (dt_cmp op_ninA snd_nin (d_var 1) d_str (by with_unfolding_all rfl)))) (fun _ _ _ _ _ => by exact (d_var 1))) (d_lst da_nil) (nomark _))))) (dss_one (ds_ret d_bl)) dss_nil)
      (dss_one (ds_ret (d_or (d_cmp (op_eqA hr.units) snd_eq (d_var 0) d_str (nomark _)) (d_one (d_cmp (op_neA hr.units) snd_ne (d_ix (d_var 0) d_int) d_str (nomark _)))))))) hv
abbrev Ok_Ratio_init (K : PySem.W.Frag) (mg : Str → Option Value) (A : Ad) : Prop := FnOk P w K mg base (L2.CX P w) 2 A.a_Ratio_init A.d_Ratio_init ["self", "top", "bottom"] (spOf ⟨K, clA A⟩ (ctI 1 c_init))
theorem o_Ratio_init (T : Tx K mg A) (hv : Vc_Ratio_init) (len : ∀ ds μ (k : KE) (e : KX), (ctI 1 c_init : Ct) ds μ k e → ds.length = 3) (O_common_divisor : Ok_common_divisor (P := P) (w := w) (base := base) K mg A) : Ok_Ratio_init (P := P) (w := w) (base := base) K mg A :=
  fn_okV (T := t_Ratio_init) T.F_Ratio_init sc_Ratio_init len (fun cdv A1 outer s H E hr tk =>
      (dss_cons (ds_if (dt_cmp (op_eqA hr.units) snd_eq (d_var 2) d_int (nomark _)) (dss_one (ds_raise0 (c := 2) T.x0_ByZero tk T.m_ByZero)) dss_nil)
      (dss_cons (ds_set (i := 3) sc_Ratio_init.nd rfl (by first | exact .inl rfl | exact .inr rfl) (d_call (ks := []) (Dv.FnOk.runs O_common_divisor (hr.mono (by decide))) (fun σ => passAt tk σ) T.m_common_divisor T.F_common_divisor.kp (T.kb_common_divisor_2)  (da_cons (d_var 1) (da_cons (d_var 2) da_nil)) dk_nil))
      (dss_cons (ds_set (i := 4) sc_Ratio_init.nd rfl (by first | exact .inl rfl | exact .inr rfl) (d_if (dt_cmp op_gt snd_gt (d_var 2) d_int (nomark _)) d_int (d_un un_neg snd_neg d_int)))
      (dss_cons (ds_fld T.cf_Ratio_top (d_op op_fdivW snd_fdiv (d_op op_mulA snd_mul (d_var 4) (d_var 1)) (d_var 3)) (d_var 0))
      (dss_one (ds_fld T.cf_Ratio_bottom (d_op op_fdivW snd_fdiv (d_op op_mulA snd_mul (d_var 4) (d_var 2)) (d_var 3)) (d_var 0)))))))) hv
abbrev Ok_Ratio_eq (K : PySem.W.Frag) (mg : Str → Option Value) (A : Ad) : Prop := FnOk P w K mg base (L2.CX P w) 2 A.a_Ratio_eq A.d_Ratio_eq ["self", "other"] (spOf ⟨K, clA A⟩ (ctP c_eq))
theorem o_Ratio_eq (T : Tx K mg A) (hv : Vc_Ratio_eq) (len : ∀ ds μ (k : KE) (e : KX), (ctP c_eq : Ct) ds μ k e → ds.length = 2) (O_is_integer : Ok_is_integer (P := P) (w := w) (base := base) K mg A) : Ok_Ratio_eq (P := P) (w := w) (base := base) K mg A :=
  fn_ok (T := t_Ratio_eq) T.F_Ratio_eq sc_Ratio_eq len (fun cdv A1 outer s H E hr tk =>
      (dss_cons (ds_if (dt_val (d_isi T.is_Ratio T.n_isinstance T.m_Ratio (d_var 1))) (dss_one (ds_ret (d_and (d_cmp (op_eqA hr.units) snd_eq (d_fld T.cf_Ratio_top (d_var 0)) (d_fld T.cf_Ratio_top (d_var 1)) (nomark _)) (d_one (d_cmp (op_eqA hr.units) snd_eq (d_fld T.cf_Ratio_bottom (d_var 0)) (d_fld T.cf_Ratio_bottom (d_var 1)) (nomark _)))))) dss_nil)
      (dss_one (ds_ret (d_and (d_call (ks := []) (Dv.FnOk.runs O_is_integer (hr.mono (by decide))) (fun σ => passAt tk σ) T.m_is_integer T.F_is_integer.kp (T.kb_is_integer_1)  (da_cons (d_var 1) da_nil) dk_nil) (d_and (d_cmp (op_eqA hr.units) snd_eq (d_fld T.cf_Ratio_bottom (d_var 0)) d_int (nomark _)) (d_one (d_cmp (op_eqA hr.units) snd_eq (d_fld T.cf_Ratio_top (d_var 0)) (d_var 1) (nomark _))))))))) hv
abbrev Ok_law_is_text (K : PySem.W.Frag) (mg : Str → Option Value) (A : Ad) : Prop := FnOk P w K mg base (L2.CX P w) 2 A.a_law_is_text A.d_law_is_text ["_law_prose"] (spOf ⟨K, clA A⟩ (ctP c_istext))
theorem o_law_is_text (T : Tx K mg A) (hv : Vc_law_is_text) (len : ∀ ds μ (k : KE) (e : KX), (ctP c_istext : Ct) ds μ k e → ds.length = 1) (O_law_divisor : Ok_law_divisor (P := P) (w := w) (base := base) K mg A) (O_law_whole : Ok_law_whole (P := P) (w := w) (base := base) K mg A) : Ok_law_is_text (P := P) (w := w) (base := base) K mg A :=
  fn_ok (T := t_law_is_text) T.F_law_is_text sc_law_is_text len (fun cdv A1 outer s H E hr tk =>
      (dss_cons (ds_set (i := 1) sc_law_is_text.nd rfl (by first | exact .inl rfl | exact .inr rfl) (d_if (dt_cmp (op_eqA hr.units) snd_eq (d_sl (d_var 0) do_none (do_some d_int)) d_str (nomark _)) (d_sl (d_var 0) (do_some d_int) do_none) (d_var 0)))
      (dss_cons (ds_set (i := 2) sc_law_is_text.nd rfl (by first | exact .inl rfl | exact .inr rfl) (d_split (d_var 1) d_str))
      (dss_cons (ds_if (DW.pt (dw_or (dt_cmp op_gt snd_gt (d_callB call_len snd_len T.n_len (by decide +kernel) (da_cons (d_var 2) da_nil)) d_int (nomark _)) (dw_or1 (dt_cmp (op_neA hr.units) snd_ne (d_lc (own := [("_law_part", 3)]) rfl sc_law_is_text.nd (di_seq (d_var 2)) (blkOk_by (N := N_law_is_text) (sc := defScope s_law_is_text) (by decide +kernel)) (by decide) (by decide) (fun _ _ _ _ _ => (pg_name (i := 3) sc_law_is_text.nd rfl (by first | exact .inl rfl | exact .inr rfl))) (fun _ _ _ _ _ => by exact (dts_one (dt_not (dt_val (d_call (ks := []) (Dv.FnOk.runs O_law_whole (hr.mono (by decide))) (fun σ => pass0At σ) T.m_law_whole T.F_law_whole.kp (T.kb_law_whole_1)  (da_cons (d_var 3) da_nil) dk_nil))))) (fun _ _ _ _ _ => by exact (d_var 3))) (d_lst da_nil) (nomark _))))) (dss_one (ds_ret d_bl)) dss_nil)
      (dss_cons (ds_if (dt_cmp (op_eqA hr.units) snd_eq (d_ix (d_var 2) d_int) d_str (nomark _)) (dss_one (ds_ret (d_cmp (op_eqA hr.units) snd_eq (d_var 0) d_str (nomark _)))) dss_nil)
      (dss_one (ds_ret (d_or (d_cmp (op_eqA hr.units) snd_eq (d_callB call_len snd_len T.n_len (by decide +kernel) (da_cons (d_var 2) da_nil)) d_int (nomark _)) (d_one (d_and (d_cmp op_gt snd_gt (d_callTy call_intS snd_intS T.n_int (by decide +kernel) (da_cons (d_ix (d_var 2) d_int) da_nil)) d_int (nomark _)) (d_one (d_cmp (op_eqA hr.units) snd_eq (d_call (ks := []) (Dv.FnOk.runs O_law_divisor (hr.mono (by decide))) (fun σ => passAt tk σ) T.m_law_divisor T.F_law_divisor.kp (T.kb_law_divisor_2)  (da_cons (d_callTy call_intS snd_intS T.n_int (by decide +kernel) (da_cons (d_ix (d_var 2) d_int) da_nil)) (da_cons (d_callTy call_intS snd_intS T.n_int (by decide +kernel) (da_cons (d_ix (d_var 2) d_int) da_nil)) da_nil)) dk_nil) d_int (nomark _))))))))))))) hv
abbrev Ok_law_near (K : PySem.W.Frag) (mg : Str → Option Value) (A : Ad) : Prop := FnOk P w K mg base (L2.CX P w) 2 A.a_law_near A.d_law_near ["_law_state", "_law_prose"] (spOf ⟨K, clA A⟩ (ctS c_near))
theorem o_law_near (T : Tx K mg A) (hv : Vc_law_near) (len : ∀ ds μ (k : KE) (e : KX), (ctS c_near : Ct) ds μ k e → ds.length = 2) (O_law_draw : Ok_law_draw (P := P) (w := w) (base := base) K mg A) : Ok_law_near (P := P) (w := w) (base := base) K mg A :=
  fn_ok (T := t_law_near) T.F_law_near sc_law_near len (fun cdv A1 outer s H E hr tk =>
      (dss_cons (ds_set (i := 2) sc_law_near.nd rfl (by first | exact .inl rfl | exact .inr rfl) (d_callS (ks := []) (Dv.FnOk.runs O_law_draw (hr.mono (by decide))) (fun σ => passAt tk σ) T.m_law_draw T.F_law_draw.kp (T.kb_law_draw_2)  (da_cons (d_var 0) (da_cons (d_op op_addL snd_addL (d_callB call_len snd_len T.n_len (by decide +kernel) (da_cons (d_var 1) da_nil)) d_int) da_nil)) dk_nil))
      (dss_cons (ds_set (i := 3) sc_law_near.nd rfl (by first | exact .inl rfl | exact .inr rfl) (d_ix (d_lst (da_cons d_str (da_cons d_str (da_cons d_str (da_cons d_str (da_cons d_str (da_cons d_str (da_cons d_str (da_cons d_str (da_cons d_str (da_cons d_str (da_cons d_str (da_cons d_str da_nil))))))))))))) (d_callS (ks := []) (Dv.FnOk.runs O_law_draw (hr.mono (by decide))) (fun σ => passAt tk σ) T.m_law_draw T.F_law_draw.kp (T.kb_law_draw_2)  (da_cons (d_var 0) (da_cons d_int da_nil)) dk_nil)))
      (dss_one (ds_ret (d_op op_addL snd_addL (d_op op_addL snd_addL (d_sl (d_var 1) do_none (do_some (d_var 2))) (d_var 3)) (d_sl (d_var 1) (do_some (d_op op_addL snd_addL (d_var 2) (d_callS (ks := []) (Dv.FnOk.runs O_law_draw (hr.mono (by decide))) (fun σ => passAt tk σ) T.m_law_draw T.F_law_draw.kp (T.kb_law_draw_2)  (da_cons (d_var 0) (da_cons d_int da_nil)) dk_nil))) do_none))))))) hv
abbrev Ok_Ratio_read (K : PySem.W.Frag) (mg : Str → Option Value) (A : Ad) : Prop := FnOk P w K mg base (L2.CX P w) 4 A.a_Ratio_read A.d_Ratio_read ["cls", "text"] (spOf ⟨K, clA A⟩ (ctP c_read))
theorem o_Ratio_read (T : Tx K mg A) (hv : Vc_Ratio_read) (len : ∀ ds μ (k : KE) (e : KX), (ctP c_read : Ct) ds μ k e → ds.length = 2) (O_Ratio_init : Ok_Ratio_init (P := P) (w := w) (base := base) K mg A) (O_Ratio_str : Ok_Ratio_str (P := P) (w := w) (base := base) K mg A) : Ok_Ratio_read (P := P) (w := w) (base := base) K mg A :=
  fn_ok (T := t_Ratio_read) T.F_Ratio_read sc_Ratio_read len (fun cdv A1 outer s H E hr tk =>
      (dss_cons (ds_if (DW.pt (dw_or (dt_not (dt_val (d_callB call_isiA (snd_isiI T.insk) T.n_isinstance (by decide +kernel) (da_cons (d_var 1) (da_cons (d_bltn (by rfl) T.n_str (by decide +kernel) (v := .ty "str") (u := .type "str") rfl (fun _ => .ty)) da_nil))))) (dw_or1 (dt_cmp (op_eqA hr.units) snd_eq (d_var 1) d_str (nomark _))))) (dss_one (ds_raise0 (c := 5) T.x0_BadText tk T.m_BadText)) dss_nil)
      (dss_cons (ds_set (i := 2) sc_Ratio_read.nd rfl (by first | exact .inl rfl | exact .inr rfl) (d_split (d_var 1) d_str))
      (dss_cons (ds_setLc (i := 3) (own := [("part", 6)]) rfl sc_Ratio_read.nd rfl rfl (sw_true rfl rfl rfl (by decide +kernel)) (di_seq (d_var 2)) (blkOk_by (N := N_Ratio_read) (sc := defScope s_Ratio_read) (by decide +kernel)) (by decide) (by decide) (fun _ _ _ _ _ => (pg_name (i := 6) sc_Ratio_read.nd rfl (by first | exact .inl rfl | exact .inr rfl))) (fun _ _ _ _ _ => by exact dts_nil) (fun _ _ _ _ _ => by exact (d_if (dt_cmp (op_eqA hr.units) snd_eq (d_sl (d_var 6) do_none (do_some d_int)) d_str (nomark _)) (d_sl (d_var 6) (do_some d_int) do_none) (d_var 6))))
      (dss_cons (ds_if (DW.pt (dw_or (dt_cmp op_gt snd_gt (d_callB call_len snd_len T.n_len (by decide +kernel) (da_cons (d_var 2) da_nil)) d_int (nomark _)) (dw_or1 (dt_not (dt_val (d_callB (cr_all rfl) snd_all T.n_all (by decide +kernel) (da_cons (d_lc (own := [("part", 6)]) rfl sc_Ratio_read.nd (di_seq (d_var 3)) (blkOk_by (N := N_Ratio_read) (sc := defScope s_Ratio_read) (by decide +kernel)) (by decide) (by decide) (fun _ _ _ _ _ => (pg_name (i := 6) sc_Ratio_read.nd rfl (by first | exact .inl rfl | exact .inr rfl))) (fun _ _ _ _ _ => by exact dts_nil) (fun _ _ _ _ _ => by exact (d_and (d_isdigit (d_var 6)) (d_one (d_isascii (d_var 6)))))) da_nil))))))) (dss_one (ds_raise0 (c := 5) T.x0_BadText tk T.m_BadText)) dss_nil)
      (dss_cons (ds_setLc (i := 4) (own := [("part", 6)]) rfl sc_Ratio_read.nd rfl rfl (sw_true rfl rfl rfl (by decide +kernel)) (di_seq (d_var 2)) (blkOk_by (N := N_Ratio_read) (sc := defScope s_Ratio_read) (by decide +kernel)) (by decide) (by decide) (fun _ _ _ _ _ => (pg_name (i := 6) sc_Ratio_read.nd rfl (by first | exact .inl rfl | exact .inr rfl))) (fun _ _ _ _ _ => by exact dts_nil) (fun _ _ _ _ _ => by exact (d_callTy call_intS snd_intS T.n_int (by decide +kernel) (da_cons (d_var 6) da_nil))))
      (dss_cons (ds_if (DW.pt (dw_and (dt_cmp (op_eqA hr.units) snd_eq (d_ix (d_var 4) (d_un un_neg snd_neg d_int)) d_int (nomark _)) (dw_and1 (dt_cmp (op_eqA hr.units) snd_eq (d_callB call_len snd_len T.n_len (by decide +kernel) (da_cons (d_var 4) da_nil)) d_int (nomark _))))) (dss_one (ds_raise0 (c := 5) T.x0_BadText tk T.m_BadText)) dss_nil)
      (dss_cons (ds_set (i := 5) sc_Ratio_read.nd rfl (by first | exact .inl rfl | exact .inr rfl) (d_makeS (cn := 1) (i := 0) T.mk_Ratio ⟨_, O_Ratio_init, hr.mono (by decide)⟩ (fun σ => passAt tk σ) (star12_kd T.kb_Ratio_init_2 T.kb_Ratio_init_3) (d_var 4) rfl (by first | exact Or.inl rfl | exact Or.inr (Or.inl rfl) | exact Or.inr (Or.inr rfl))))
      (dss_cons (ds_if (dt_cmp (op_neA hr.units) snd_ne (d_callTy (call_strS T.so_Ratio (Dv.FnOk.runsIn2 O_Ratio_str (hr.mono (by decide))) T.kb_Ratio_str_1 (hu2_of hr (by decide))) snd_strS T.n_str (by decide +kernel) (da_cons (d_var 5) da_nil)) (d_var 1) (nomark _)) (dss_one (ds_raise0 (c := 5) T.x0_BadText tk T.m_BadText)) dss_nil)
      (dss_one (ds_ret (d_var 5)))))))))))) hv
abbrev Ok_as_ratio (K : PySem.W.Frag) (mg : Str → Option Value) (A : Ad) : Prop := FnOk P w K mg base (L2.CX P w) 4 A.a_as_ratio A.d_as_ratio ["value"] (spOf ⟨K, clA A⟩ (ctP c_as_ratio))
theorem o_as_ratio (T : Tx K mg A) (hv : Vc_as_ratio) (len : ∀ ds μ (k : KE) (e : KX), (ctP c_as_ratio : Ct) ds μ k e → ds.length = 1) (O_is_integer : Ok_is_integer (P := P) (w := w) (base := base) K mg A) (O_Ratio_init : Ok_Ratio_init (P := P) (w := w) (base := base) K mg A) (O_BadNumber : Ok_BadNumber (P := P) (w := w) (base := base) K mg A) : Ok_as_ratio (P := P) (w := w) (base := base) K mg A :=
  fn_ok (T := t_as_ratio) T.F_as_ratio sc_as_ratio len (fun cdv A1 outer s H E hr tk =>
      (dss_cons (ds_if (dt_val (d_isi T.is_Ratio T.n_isinstance T.m_Ratio (d_var 0))) (dss_one (ds_ret (d_var 0))) dss_nil)
      (dss_cons (ds_if (dt_not (dt_val (d_call (ks := []) (Dv.FnOk.runs O_is_integer (hr.mono (by decide))) (fun σ => passAt tk σ) T.m_is_integer T.F_is_integer.kp (T.kb_is_integer_1)  (da_cons (d_var 0) da_nil) dk_nil))) (dss_one (ds_raise1 (c := 3) ⟨_, _, _, _, T.ox_BadNumber, T.ix_BadNumber, T.tx_BadNumber, O_BadNumber, T.bx_BadNumber, hr.mono (by decide)⟩ tk T.m_BadNumber (d_var 0))) dss_nil)
      (dss_one (ds_ret (d_make (cn := 1) (π := [0, 1]) (ks := []) T.mk_Ratio ⟨_, O_Ratio_init, hr.mono (by decide)⟩ (fun σ => passAt tk σ) T.m_Ratio T.kb_Ratio_init_2 (da_cons (d_var 0) da_nil) dk_nil)))))) hv
abbrev Ok_law_text (K : PySem.W.Frag) (mg : Str → Option Value) (A : Ad) : Prop := FnOk P w K mg base (L2.CX P w) 4 A.a_law_text A.d_law_text ["_law_a", "_law_b"] (spOf ⟨K, clA A⟩ (ctP c_ltext))
theorem o_law_text (T : Tx K mg A) (hv : Vc_law_text) (len : ∀ ds μ (k : KE) (e : KX), (ctP c_ltext : Ct) ds μ k e → ds.length = 2) (O_Ratio_str : Ok_Ratio_str (P := P) (w := w) (base := base) K mg A) (O_law_divisor : Ok_law_divisor (P := P) (w := w) (base := base) K mg A) : Ok_law_text (P := P) (w := w) (base := base) K mg A :=
  fn_ok (T := t_law_text) T.F_law_text sc_law_text len (fun cdv A1 outer s H E hr tk =>
      (dss_cons (ds_set (i := 2) sc_law_text.nd rfl (by first | exact .inl rfl | exact .inr rfl) (d_call (ks := []) (Dv.FnOk.runs O_law_divisor (hr.mono (by decide))) (fun σ => passAt tk σ) T.m_law_divisor T.F_law_divisor.kp (T.kb_law_divisor_2)  (da_cons (d_callB call_abs snd_abs T.n_abs (by decide +kernel) (da_cons (d_var 0) da_nil)) (da_cons (d_var 1) da_nil)) dk_nil))
      (dss_one (ds_ret (d_if (dt_cmp (op_eqA hr.units) snd_eq (d_var 1) (d_var 2) (nomark _)) (d_callTy (call_strS T.so_Ratio (Dv.FnOk.runsIn2 O_Ratio_str (hr.mono (by decide))) T.kb_Ratio_str_1 (hu2_of hr (by decide))) snd_strS T.n_str (by decide +kernel) (da_cons (d_op op_fdivW snd_fdiv (d_var 0) (d_var 2)) da_nil)) (d_op op_addL snd_addL (d_op op_addL snd_addL (d_callTy (call_strS T.so_Ratio (Dv.FnOk.runsIn2 O_Ratio_str (hr.mono (by decide))) T.kb_Ratio_str_1 (hu2_of hr (by decide))) snd_strS T.n_str (by decide +kernel) (da_cons (d_op op_fdivW snd_fdiv (d_var 0) (d_var 2)) da_nil)) d_str) (d_callTy (call_strS T.so_Ratio (Dv.FnOk.runsIn2 O_Ratio_str (hr.mono (by decide))) T.kb_Ratio_str_1 (hu2_of hr (by decide))) snd_strS T.n_str (by decide +kernel) (da_cons (d_op op_fdivW snd_fdiv (d_var 1) (d_var 2)) da_nil)))))))) hv
abbrev Ok_Ratio_mul (K : PySem.W.Frag) (mg : Str → Option Value) (A : Ad) : Prop := FnOk P w K mg base (L2.CX P w) 5 A.a_Ratio_mul A.d_Ratio_mul ["self", "other"] (spOf ⟨K, clA A⟩ (ctP c_mul))
theorem o_Ratio_mul (T : Tx K mg A) (hv : Vc_Ratio_mul) (len : ∀ ds μ (k : KE) (e : KX), (ctP c_mul : Ct) ds μ k e → ds.length = 2) (O_Ratio_init : Ok_Ratio_init (P := P) (w := w) (base := base) K mg A) (O_as_ratio : Ok_as_ratio (P := P) (w := w) (base := base) K mg A) : Ok_Ratio_mul (P := P) (w := w) (base := base) K mg A :=
  fn_ok (T := t_Ratio_mul) T.F_Ratio_mul sc_Ratio_mul len (fun cdv A1 outer s H E hr tk =>
      (dss_cons (ds_set (i := 2) sc_Ratio_mul.nd rfl (by first | exact .inl rfl | exact .inr rfl) (d_call (ks := []) (Dv.FnOk.runs O_as_ratio (hr.mono (by decide))) (fun σ => passAt tk σ) T.m_as_ratio T.F_as_ratio.kp (T.kb_as_ratio_1)  (da_cons (d_var 1) da_nil) dk_nil))
      (dss_one (ds_ret (d_make (cn := 1) (π := [0, 1]) (ks := []) T.mk_Ratio ⟨_, O_Ratio_init, hr.mono (by decide)⟩ (fun σ => passAt tk σ) T.m_Ratio T.kb_Ratio_init_3 (da_cons (d_op op_mulA snd_mul (d_fld T.cf_Ratio_top (d_var 0)) (d_fld T.cf_Ratio_top (d_var 2))) (da_cons (d_op op_mulA snd_mul (d_fld T.cf_Ratio_bottom (d_var 0)) (d_fld T.cf_Ratio_bottom (d_var 2))) da_nil)) dk_nil))))) hv
abbrev Ok_law_read (K : PySem.W.Frag) (mg : Str → Option Value) (A : Ad) : Prop := FnOk P w K mg base (L2.CX P w) 5 A.a_law_read A.d_law_read ["_law_prose"] (spOf ⟨K, clA A⟩ (ctP c_lread))
theorem o_law_read (T : Tx K mg A) (hv : Vc_law_read) (len : ∀ ds μ (k : KE) (e : KX), (ctP c_lread : Ct) ds μ k e → ds.length = 1) (O_Ratio_str : Ok_Ratio_str (P := P) (w := w) (base := base) K mg A) (O_Ratio_read : Ok_Ratio_read (P := P) (w := w) (base := base) K mg A) : Ok_law_read (P := P) (w := w) (base := base) K mg A :=
  fn_ok (T := t_law_read_0) T.F_law_read sc_law_read len (fun cdv A1 outer s H E hr tk =>
      (dss_one (ds_try ⟨rfl, by decide, .inl T.m_BadText⟩ tk T.em_BadText (fun W pn xe tk hp => (dss_one (ds_ret (d_callTy (call_strS T.so_Ratio (Dv.FnOk.runsIn2 O_Ratio_str (hr.mono (by decide))) T.kb_Ratio_str_1 (hu2_of hr (by decide))) snd_strS T.n_str (by decide +kernel) (da_cons (d_cmeth0 (cn := 1) (ks := ["text"]) T.cr_Ratio T.cm_Ratio_read T.m_Ratio (Dv.FnOk.runs O_Ratio_read (hr.mono (by decide))) (fun σ => passAt tk σ) T.kb_Ratio_read_1_text (dk_cons (d_var 0) dk_nil)) da_nil))))) (fun a oe pn => (dss_one (ds_ret d_non)))))) hv
abbrev Ok_law (K : PySem.W.Frag) (mg : Str → Option Value) (A : Ad) : Prop := FnOk P w K mg base (L2.CX P w) 6 A.a_law A.d_law ["_law_script"] (spOf ⟨K, clA A⟩ (ctP cLaw))
theorem o_law (T : Tx K mg A) (hv : Vc_law) (len : ∀ ds μ (k : KE) (e : KX), (ctP cLaw : Ct) ds μ k e → ds.length = 1) (O_Ratio_init : Ok_Ratio_init (P := P) (w := w) (base := base) K mg A) (O_Ratio_mul : Ok_Ratio_mul (P := P) (w := w) (base := base) K mg A) (O_Ratio_eq : Ok_Ratio_eq (P := P) (w := w) (base := base) K mg A) (O_Ratio_str : Ok_Ratio_str (P := P) (w := w) (base := base) K mg A) (O_Ratio_read : Ok_Ratio_read (P := P) (w := w) (base := base) K mg A) (O_law_start : Ok_law_start (P := P) (w := w) (base := base) K mg A) (O_law_draw : Ok_law_draw (P := P) (w := w) (base := base) K mg A) (O_law_text : Ok_law_text (P := P) (w := w) (base := base) K mg A) (O_law_is_text : Ok_law_is_text (P := P) (w := w) (base := base) K mg A) (O_law_read : Ok_law_read (P := P) (w := w) (base := base) K mg A) (O_law_near : Ok_law_near (P := P) (w := w) (base := base) K mg A) : Ok_law (P := P) (w := w) (base := base) K mg A :=
  fn_ok (T := t_law) T.F_law sc_law len (fun cdv A1 outer s H E hr tk =>
      (dss_cons (ds_set (i := 1) sc_law.nd rfl (by first | exact .inl rfl | exact .inr rfl) (d_start (Dv.FnOk.runs O_law_start (hr.mono (by decide))) (fun σ => passAt tk σ) T.m_law_start T.F_law_start.kp T.kb_law_start_1 (fun _ => rfl) (da_cons (d_var 0) da_nil)))
      (dss_cons (ds_for (passes_of rfl) rfl (di_range1 T.n_range (da_cons d_int da_nil)) (pg_name (i := 2) sc_law.nd rfl (by first | exact .inl rfl | exact .inr rfl)) (dss_cons (ds_set (i := 3) sc_law.nd rfl (by first | exact .inl rfl | exact .inr rfl) (d_ix (d_lst (da_cons d_int (da_cons d_int (da_cons d_int (da_cons d_int (da_cons (d_op op_pow snd_pow d_int d_int) da_nil)))))) (d_callS (ks := []) (Dv.FnOk.runs O_law_draw (hr.mono (by decide))) (fun σ => passAt tk σ) T.m_law_draw T.F_law_draw.kp (T.kb_law_draw_2)  (da_cons (d_var 1) (da_cons d_int da_nil)) dk_nil)))
      (dss_cons (ds_par (by rfl) sc_law.nd rfl rfl (by decide) rfl rfl (da_cons (d_op op_sub snd_sub (d_callS (ks := []) (Dv.FnOk.runs O_law_draw (hr.mono (by decide))) (fun σ => passAt tk σ) T.m_law_draw T.F_law_draw.kp (T.kb_law_draw_2)  (da_cons (d_var 1) (da_cons (d_op op_mulA snd_mul d_int (d_var 3)) da_nil)) dk_nil) (d_var 3)) (da_cons (d_op op_addL snd_addL d_int (d_callS (ks := []) (Dv.FnOk.runs O_law_draw (hr.mono (by decide))) (fun σ => passAt tk σ) T.m_law_draw T.F_law_draw.kp (T.kb_law_draw_2)  (da_cons (d_var 1) (da_cons (d_var 3) da_nil)) dk_nil)) da_nil)) (by rfl))
      (dss_cons (ds_set (i := 6) sc_law.nd rfl (by first | exact .inl rfl | exact .inr rfl) (d_callTy (call_strS T.so_Ratio (Dv.FnOk.runsIn2 O_Ratio_str (hr.mono (by decide))) T.kb_Ratio_str_1 (hu2_of hr (by decide))) snd_strS T.n_str (by decide +kernel) (da_cons (d_make (cn := 1) (π := [0, 1]) (ks := []) T.mk_Ratio ⟨_, O_Ratio_init, hr.mono (by decide)⟩ (fun σ => passAt tk σ) T.m_Ratio T.kb_Ratio_init_3 (da_cons (d_var 4) (da_cons (d_var 5) da_nil)) dk_nil) da_nil)))
      (dss_cons (ds_set (i := 7) sc_law.nd rfl (by first | exact .inl rfl | exact .inr rfl) (d_op (OpR.or (op_ownB T.ob_Ratio_mul int_mul (Dv.FnOk.runs O_Ratio_mul (hr.mono (by decide))) T.kb_Ratio_mul_2) op_mulA) (snd_ownB snd_mul) (d_op (OpR.or (op_ownB T.ob_Ratio_mul int_mul (Dv.FnOk.runs O_Ratio_mul (hr.mono (by decide))) T.kb_Ratio_mul_2) op_mulA) (snd_ownB snd_mul) (d_make (cn := 1) (π := [0, 1]) (ks := []) T.mk_Ratio ⟨_, O_Ratio_init, hr.mono (by decide)⟩ (fun σ => passAt tk σ) T.m_Ratio T.kb_Ratio_init_3 (da_cons (d_var 4) (da_cons (d_var 5) da_nil)) dk_nil) (d_make (cn := 1) (π := [0, 1]) (ks := []) T.mk_Ratio ⟨_, O_Ratio_init, hr.mono (by decide)⟩ (fun σ => passAt tk σ) T.m_Ratio T.kb_Ratio_init_3 (da_cons (d_op op_addL snd_addL (d_op op_pow snd_pow d_int d_int) d_int) (da_cons (d_op op_addL snd_addL (d_op op_pow snd_pow d_int d_int) d_int) da_nil)) dk_nil)) (d_make (cn := 1) (π := [0, 1]) (ks := []) T.mk_Ratio ⟨_, O_Ratio_init, hr.mono (by decide)⟩ (fun σ => passAt tk σ) T.m_Ratio T.kb_Ratio_init_3 (da_cons (d_var 5) (da_cons d_int da_nil)) dk_nil)))
      (dss_cons (ds_if (dt_cmp (OpR.or (op_ownN T.oe_Ratio (Dv.FnOk.runsIn O_Ratio_eq (hr.mono (by decide))) T.kb_Ratio_eq_2 (hu_of hr)) (op_neA hr.units)) (snd_ownN snd_ne) (d_cmeth (cn := 1) (ks := []) T.cr_Ratio T.cm_Ratio_read T.m_Ratio (Dv.FnOk.runs O_Ratio_read (hr.mono (by decide))) (fun σ => passAt tk σ) T.kb_Ratio_read_2 (da_cons (d_callTy (call_strS T.so_Ratio (Dv.FnOk.runsIn2 O_Ratio_str (hr.mono (by decide))) T.kb_Ratio_str_1 (hu2_of hr (by decide))) snd_strS T.n_str (by decide +kernel) (da_cons (d_var 7) da_nil)) da_nil) dk_nil) (d_var 7) (nomark _)) (dss_one (ds_ret d_bl)) dss_nil)
      (dss_cons (ds_if (DW.pt (dw_or (dt_cmp (op_neA hr.units) snd_ne (d_var 6) (d_call (ks := []) (Dv.FnOk.runs O_law_text (hr.mono (by decide))) (fun σ => passAt tk σ) T.m_law_text T.F_law_text.kp (T.kb_law_text_2)  (da_cons (d_var 4) (da_cons (d_var 5) da_nil)) dk_nil) (nomark _)) (dw_or1 (dt_cmp (OpR.or (op_ownN T.oe_Ratio (Dv.FnOk.runsIn O_Ratio_eq (hr.mono (by decide))) T.kb_Ratio_eq_2 (hu_of hr)) (op_neA hr.units)) (snd_ownN snd_ne) (d_cmeth (cn := 1) (ks := []) T.cr_Ratio T.cm_Ratio_read T.m_Ratio (Dv.FnOk.runs O_Ratio_read (hr.mono (by decide))) (fun σ => passAt tk σ) T.kb_Ratio_read_2 (da_cons (d_var 6) da_nil) dk_nil) (d_make (cn := 1) (π := [0, 1]) (ks := []) T.mk_Ratio ⟨_, O_Ratio_init, hr.mono (by decide)⟩ (fun σ => passAt tk σ) T.m_Ratio T.kb_Ratio_init_3 (da_cons (d_var 4) (da_cons (d_var 5) da_nil)) dk_nil) (nomark _))))) (dss_one (ds_ret d_bl)) dss_nil)
      (dss_cons (ds_set (i := 8) sc_law.nd rfl (by first | exact .inl rfl | exact .inr rfl) (d_callS (ks := []) (Dv.FnOk.runs O_law_near (hr.mono (by decide))) (fun σ => passAt tk σ) T.m_law_near T.F_law_near.kp (T.kb_law_near_2)  (da_cons (d_var 1) (da_cons (d_var 6) da_nil)) dk_nil))
      (dss_one (ds_for (passes_of rfl) rfl (di_seq (d_lst (da_cons (d_var 8) (da_cons (d_callS (ks := []) (Dv.FnOk.runs O_law_near (hr.mono (by decide))) (fun σ => passAt tk σ) T.m_law_near T.F_law_near.kp (T.kb_law_near_2)  (da_cons (d_var 1) (da_cons (d_var 8) da_nil)) dk_nil) (da_cons (d_op op_addL snd_addL d_str (d_var 6)) (da_cons (d_op op_addL snd_addL (d_var 6) d_str) (da_cons (d_op op_addL snd_addL d_str (d_var 6)) (da_cons (d_op op_addL snd_addL (d_var 6) d_str) (da_cons (d_op op_addL snd_addL (d_var 6) d_str) da_nil))))))))) (pg_name (i := 9) sc_law.nd rfl (by first | exact .inl rfl | exact .inr rfl)) (dss_one (ds_if (dt_cmp (op_neA hr.units) snd_ne (d_call (ks := []) (Dv.FnOk.runs O_law_read (hr.mono (by decide))) (fun σ => passAt tk σ) T.m_law_read T.F_law_read.kp (T.kb_law_read_1)  (da_cons (d_var 9) da_nil) dk_nil) (d_if (dt_val (d_call (ks := []) (Dv.FnOk.runs O_law_is_text (hr.mono (by decide))) (fun σ => passAt tk σ) T.m_law_is_text T.F_law_is_text.kp (T.kb_law_is_text_1)  (da_cons (d_var 9) da_nil) dk_nil)) (d_var 9) d_non) (nomark _)) (dss_one (ds_ret d_bl)) dss_nil))))))))))))
      (dss_one (ds_ret (d_cmp (op_eqA hr.units) snd_eq (d_lc (own := [("_law_thing", 10)]) rfl sc_law.nd (di_seq (d_lst (da_cons d_non (da_cons d_int (da_cons d_bl (da_cons (d_lst (da_cons d_str da_nil)) (da_cons (d_tup (da_cons d_str da_nil)) (da_cons d_dic0 (da_cons d_str (da_cons d_str (da_cons d_str da_nil))))))))))) (blkOk_by (N := N_law) (sc := defScope s_law) (by decide +kernel)) (by decide) (by decide) (fun _ _ _ _ _ => (pg_name (i := 10) sc_law.nd rfl (by first | exact .inl rfl | exact .inr rfl))) (fun _ _ _ _ _ => by exact (dts_one (dt_cmp op_notN snd_notN (d_call (ks := []) (Dv.FnOk.runs O_law_read (hr.mono (by decide))) (fun σ => pass0At σ) T.m_law_read T.F_law_read.kp (T.kb_law_read_1)  (da_cons (d_var 10) da_nil) dk_nil) d_non (nomark _)))) (fun _ _ _ _ _ => by exact (d_var 10))) (d_lst da_nil) (nomark _))))))) hv
end
end My
namespace My
open PySem PySem.Spec PyProof.Rows L2 Dv
theorem lk1 {x y : D} : List.lookup ("top" : Str) [(("top" : Str), x), (("bottom" : Str), y)] = some x := rfl
theorem lk2 {x y : D} : List.lookup ("bottom" : Str) [(("top" : Str), x), (("bottom" : Str), y)] = some y := rfl
theorem insOf_ins {a : Addr} {c : Nat} {fs : List (Str × D)} : D.insOf (.ins a c fs) = some c := rfl
theorem insOf_int {i : Int} : D.insOf (.int i) = none := rfl
theorem sub_R : sub_Ratio 1 = some true := rfl
theorem len_law_start : ∀ ds μ (k : KE) (e : KX), (ctStart : Ct) ds μ k e → ds.length = 1 := by
  rintro ds μ k e ⟨rfl, xs, rfl, _⟩
  rfl
theorem len_law_draw : ∀ ds μ (k : KE) (e : KX), (ctDraw2 : Ct) ds μ k e → ds.length = 2 := by
  rintro ds μ k e ⟨_, _, _, _, rfl, _⟩
  rfl
theorem len_law : ∀ ds μ (k : KE) (e : KX), (ctP cLaw : Ct) ds μ k e → ds.length = 1 := by
  rintro ds μ k e ⟨rfl, xs, rfl, d, rfl, _⟩
  rfl
def absI (i : Int) : Int := if i < 0 then -i else i
def absD : D → D
  | .int i => .int (absI i)
  | d => d
def bigD : D → Bool
  | .int i => decide ((10 : Int) ^ 18 ≤ absI i)
  | _ => false
theorem v_law_start : Vc_law_start := by
  rintro ds μ k e ⟨rfl, ns, rfl, hl, hk⟩
  unfold t_law_start N_law_start t_law_start_0 t_law_start_1
  have e1 : cutL (ns.map D.int) none (some 1) = (ns.take 1).map D.int := by
    rw [cutL_map]
    congr 1
    exact cutL_head ns
  simp only [T_seq, T_dic0, T_cut, T_ret, T_asg, T_drop, T_ifS, T_next, T_var, T_c, T_nil, T_cons, T_op, T_un, T_cb, T_t, T_chain, T_and, T_or, T_not, T_andV, T_orV, T_notV, T_if, T_tup, T_lst, T_lstC, T_no, T_part, T_sl, T_slC, S_seq, S_range1, S_range2, T_lc, T_lcC, T_for, T_while, T_setIx, T_call, T_callS, T_start, T_m0, T_yes, T_asgT, vals?, pick_nil, pick_cons, setT, setAll, wipeD, List.getElem?_cons_zero, List.getElem?_cons_succ, List.set_cons_zero, List.set_cons_succ, List.cons_append, List.nil_append, List.append_nil, List.length_cons, List.length_nil, List.map_cons, List.map_nil, oIsi, oLen, oAbs, oInt, oAll, oAny, oAllF, oList, oSum, oIx, oSl, oLt, oLe, oGt, oGe, oSub, oMul, oMod, oFdiv, oPow, oAdd, oAddL, oI, oI0, oIsB, oNotB, oUpper, cellOf?, ren, oIn, oNin, oInF, Nat.reduceSub, Nat.reduceAdd, List.reduceReplicate, true_and, if_true, if_false, Bool.false_eq_true, ite_true, ite_false, eq_self, decide_true, decide_false, Bool.not_true, Bool.not_false, id, oEq, oNe, oEqF, now_val, eqD_str, eqD_int, eqD_nn, T_par, T_par3, T_fld, T_setF, T_make, T_meth, T_isi, T_raise0, T_raise1, T_try, T_tryAs, T_exf, T_asgN, setN, setNs, argsOf, oModN, oIsiI, oOwnB, oOwnE, oOwnN, oOwnG, oTup, oNeg, oI, oI0, insOf_ins, insOf_int, sub_R, rat, lk1, lk2, true_or, or_true, ne_eq, not_false_eq_true, oIntS, oStr0C, T_sm1, oSplit, oNotN, oIsN, T_cmeth, e1, mapM_int_map]
  refine ⟨by decide, ?_⟩
  refine ⟨IvFil bigD absD (ns.map D.int) [], .zero, fun i acc μ' _ q => q.le, ?_, fun i x acc μ' hx q => ?_, fun acc μ' q => ?_⟩
  · rw [List.length_map]
    exact Nat.lt_of_le_of_lt hl (by decide)
  · have hx2 := hx
    rw [List.getElem?_map] at hx2
    cases e : ns[i]? with
    | none => rw [e] at hx2; cases hx2
    | some c =>
      rw [e] at hx2
      cases hx2
      have q1 := fun h => q.yes (p := bigD) (f := absD) hx h
      have q2 := fun h => q.no (p := bigD) (f := absD) hx h
      simp only [T_seq, T_dic0, T_cut, T_ret, T_asg, T_drop, T_ifS, T_next, T_var, T_c, T_nil, T_cons, T_op, T_un, T_cb, T_t, T_chain, T_and, T_or, T_not, T_andV, T_orV, T_notV, T_if, T_tup, T_lst, T_lstC, T_no, T_part, T_sl, T_slC, S_seq, S_range1, S_range2, T_lc, T_lcC, T_for, T_while, T_setIx, T_call, T_callS, T_start, T_m0, T_yes, T_asgT, vals?, pick_nil, pick_cons, setT, setAll, wipeD, List.getElem?_cons_zero, List.getElem?_cons_succ, List.set_cons_zero, List.set_cons_succ, List.cons_append, List.nil_append, List.append_nil, List.length_cons, List.length_nil, List.map_cons, List.map_nil, oIsi, oLen, oAbs, oInt, oAll, oAny, oAllF, oList, oSum, oIx, oSl, oLt, oLe, oGt, oGe, oSub, oMul, oMod, oFdiv, oPow, oAdd, oAddL, oI, oI0, oIsB, oNotB, oUpper, cellOf?, ren, oIn, oNin, oInF, Nat.reduceSub, Nat.reduceAdd, List.reduceReplicate, true_and, if_true, if_false, Bool.false_eq_true, ite_true, ite_false, eq_self, decide_true, decide_false, Bool.not_true, Bool.not_false, id, oEq, oNe, oEqF, now_val, eqD_str, eqD_int, eqD_nn, T_par, T_par3, T_fld, T_setF, T_make, T_meth, T_isi, T_raise0, T_raise1, T_try, T_tryAs, T_exf, T_asgN, setN, setNs, argsOf, oModN, oIsiI, oOwnB, oOwnE, oOwnN, oOwnG, oTup, oNeg, oI, oI0, insOf_ins, insOf_int, sub_R, rat, lk1, lk2, true_or, or_true, ne_eq, not_false_eq_true, oIntS, oStr0C, T_sm1, oSplit, oNotN, oIsN, T_cmeth]
      refine ⟨⟨by decide, by decide, by decide⟩, ?_⟩
      by_cases hb : (10 : Int) ^ 18 ≤ absI c
      · have hb' : bigD (.int c) = true := decide_eq_true hb
        have z : decide ((10 : Int) ^ ((18 : Int).toNat) ≤ (if c < 0 then -c else c)) = true := decide_eq_true hb
        rw [z, if_pos rfl]
        exact q1 hb'
      · have hb' : bigD (.int c) = false := decide_eq_false hb
        have z : decide ((10 : Int) ^ ((18 : Int).toNat) ≤ (if c < 0 then -c else c)) = false := decide_eq_false hb
        rw [z, if_neg Bool.false_ne_true]
        exact q2 hb'
  · have e1 := q.done
    obtain ⟨rfl, _⟩ := q
    simp only [T_seq, T_dic0, T_cut, T_ret, T_asg, T_drop, T_ifS, T_next, T_var, T_c, T_nil, T_cons, T_op, T_un, T_cb, T_t, T_chain, T_and, T_or, T_not, T_andV, T_orV, T_notV, T_if, T_tup, T_lst, T_lstC, T_no, T_part, T_sl, T_slC, S_seq, S_range1, S_range2, T_lc, T_lcC, T_for, T_while, T_setIx, T_call, T_callS, T_start, T_m0, T_yes, T_asgT, vals?, pick_nil, pick_cons, setT, setAll, wipeD, List.getElem?_cons_zero, List.getElem?_cons_succ, List.set_cons_zero, List.set_cons_succ, List.cons_append, List.nil_append, List.append_nil, List.length_cons, List.length_nil, List.map_cons, List.map_nil, oIsi, oLen, oAbs, oInt, oAll, oAny, oAllF, oList, oSum, oIx, oSl, oLt, oLe, oGt, oGe, oSub, oMul, oMod, oFdiv, oPow, oAdd, oAddL, oI, oI0, oIsB, oNotB, oUpper, cellOf?, ren, oIn, oNin, oInF, Nat.reduceSub, Nat.reduceAdd, List.reduceReplicate, true_and, if_true, if_false, Bool.false_eq_true, ite_true, ite_false, eq_self, decide_true, decide_false, Bool.not_true, Bool.not_false, id, oEq, oNe, oEqF, now_val, eqD_str, eqD_int, eqD_nn, T_par, T_par3, T_fld, T_setF, T_make, T_meth, T_isi, T_raise0, T_raise1, T_try, T_tryAs, T_exf, T_asgN, setN, setNs, argsOf, oModN, oIsiI, oOwnB, oOwnE, oOwnN, oOwnG, oTup, oNeg, oI, oI0, insOf_ins, insOf_int, sub_R, rat, lk1, lk2, true_or, or_true, ne_eq, not_false_eq_true, oIntS, oStr0C, T_sm1, oSplit, oNotN, oIsN, T_cmeth]
    have e2 : acc.map Sl.val = intSls ((ns.filter fun i => decide ((10 : Int) ^ 18 ≤ absI i)).map absI) := by
      rw [e1, List.filter_map, List.map_map, List.map_map]
      unfold intSls
      rw [List.map_map]
      rfl
    rw [e2]
    refine ⟨by decide, ?_, by decide, ?_⟩
    · rw [List.length_map]
      exact Nat.le_trans (Nat.succ_le_succ hl) (by decide)
    · refine hk 1 0 _ _ (ns ++ [5 + (ns.take 1).sum % 1000003]) ?_ (by decide) rfl (by simp)
      rw [List.map_append]
      rfl
theorem ixN3_0 : ixN 3 0 = some 0 := rfl
theorem ixN3_1 : ixN 3 1 = some 1 := rfl
theorem ixN3_2 : ixN 3 2 = some 2 := rfl
theorem atI3_0 {β : Type} (a b c : β) : atI [a, b, c] 0 = some a := rfl
theorem atI3_1 {β : Type} (a b c : β) : atI [a, b, c] 1 = some b := rfl
theorem atI3_2 {β : Type} (a b c : β) : atI [a, b, c] 2 = some c := rfl
theorem sls_cons (g : Int) (gs : List Int) : intSls (g :: gs) = .val (.int g) :: intSls gs := rfl
/-- what the loop of a draw keeps -/
def IvDraw (size : Int) (cs : List Int) (m : Int) : Nat → Rho → Sto → Prop := fun n ρ μ => ρ = [some (.cell 0), some (.val (.int size)), none, none] ∧ ∃ (j : Nat) (gs : List Int), n = gs.length ∧ j ≠ 0 ∧ μ[0]? = some (.lst [.cell j, .val (.lst (cs.map D.int)), .val (.int m)]) ∧ μ[j]? = some (.lst (intSls gs))
theorem v_law_draw : Vc_law_draw := by
  rintro ds μ k e ⟨size, cs, gs, m, rfl, rfl, hs0, hs1, hcs, hm0, hm1, hk⟩
  unfold t_law_draw N_law_draw t_law_draw_0 t_law_draw_1 t_law_draw_1a_0
  simp only [T_seq, T_dic0, T_cut, T_ret, T_asg, T_drop, T_ifS, T_next, T_var, T_c, T_nil, T_cons, T_op, T_un, T_cb, T_t, T_chain, T_and, T_or, T_not, T_andV, T_orV, T_notV, T_if, T_tup, T_lst, T_lstC, T_no, T_part, T_sl, T_slC, S_seq, S_range1, S_range2, T_lc, T_lcC, T_for, T_while, T_setIx, T_call, T_callS, T_start, T_m0, T_yes, T_asgT, vals?, pick_nil, pick_cons, setT, setAll, wipeD, List.getElem?_cons_zero, List.getElem?_cons_succ, List.set_cons_zero, List.set_cons_succ, List.cons_append, List.nil_append, List.append_nil, List.length_cons, List.length_nil, List.map_cons, List.map_nil, oIsi, oLen, oAbs, oInt, oAll, oAny, oAllF, oList, oSum, oIx, oSl, oLt, oLe, oGt, oGe, oSub, oMul, oMod, oFdiv, oPow, oAdd, oAddL, oI, oI0, oIsB, oNotB, oUpper, cellOf?, ren, oIn, oNin, oInF, Nat.reduceSub, Nat.reduceAdd, List.reduceReplicate, true_and, if_true, if_false, Bool.false_eq_true, ite_true, ite_false, eq_self, decide_true, decide_false, Bool.not_true, Bool.not_false, id, oEq, oNe, oEqF, now_val, eqD_str, eqD_int, eqD_nn, T_par, T_par3, T_fld, T_setF, T_make, T_meth, T_isi, T_raise0, T_raise1, T_try, T_tryAs, T_exf, T_asgN, setN, setNs, argsOf, oModN, oIsiI, oOwnB, oOwnE, oOwnN, oOwnG, oTup, oNeg, oI, oI0, insOf_ins, insOf_int, sub_R, rat, lk1, lk2, true_or, or_true, ne_eq, not_false_eq_true, oIntS, oStr0C, T_sm1, oSplit, oNotN, oIsN, T_cmeth, atI3_0, atI3_1, atI3_2, ixN3_0, ixN3_1, ixN3_2]
  refine ⟨IvDraw size cs (m + 1), ⟨_, rfl, 1, gs, rfl, by decide, rfl, rfl⟩, ?_⟩
  rintro n ρ μ ⟨rfl, j, gs, rfl, hj, h0, h1⟩
  have h2 := now_sls h1
  simp only [T_seq, T_dic0, T_cut, T_ret, T_asg, T_drop, T_ifS, T_next, T_var, T_c, T_nil, T_cons, T_op, T_un, T_cb, T_t, T_chain, T_and, T_or, T_not, T_andV, T_orV, T_notV, T_if, T_tup, T_lst, T_lstC, T_no, T_part, T_sl, T_slC, S_seq, S_range1, S_range2, T_lc, T_lcC, T_for, T_while, T_setIx, T_call, T_callS, T_start, T_m0, T_yes, T_asgT, vals?, pick_nil, pick_cons, setT, setAll, wipeD, List.getElem?_cons_zero, List.getElem?_cons_succ, List.set_cons_zero, List.set_cons_succ, List.cons_append, List.nil_append, List.append_nil, List.length_cons, List.length_nil, List.map_cons, List.map_nil, oIsi, oLen, oAbs, oInt, oAll, oAny, oAllF, oList, oSum, oIx, oSl, oLt, oLe, oGt, oGe, oSub, oMul, oMod, oFdiv, oPow, oAdd, oAddL, oI, oI0, oIsB, oNotB, oUpper, cellOf?, ren, oIn, oNin, oInF, Nat.reduceSub, Nat.reduceAdd, List.reduceReplicate, true_and, if_true, if_false, Bool.false_eq_true, ite_true, ite_false, eq_self, decide_true, decide_false, Bool.not_true, Bool.not_false, id, oEq, oNe, oEqF, now_val, eqD_str, eqD_int, eqD_nn, T_par, T_par3, T_fld, T_setF, T_make, T_meth, T_isi, T_raise0, T_raise1, T_try, T_tryAs, T_exf, T_asgN, setN, setNs, argsOf, oModN, oIsiI, oOwnB, oOwnE, oOwnN, oOwnG, oTup, oNeg, oI, oI0, insOf_ins, insOf_int, sub_R, rat, lk1, lk2, true_or, or_true, ne_eq, not_false_eq_true, oIntS, oStr0C, T_sm1, oSplit, oNotN, oIsN, T_cmeth, h0, h1, h2, oEq, oNe, oEqF, now_val, eqD_nil, eqD_int, atI3_0, atI3_1, atI3_2, ixN3_0, ixN3_1, ixN3_2]
  refine ⟨by decide, ?_⟩
  cases gs with
  | nil =>
    simp only [T_seq, T_dic0, T_cut, T_ret, T_asg, T_drop, T_ifS, T_next, T_var, T_c, T_nil, T_cons, T_op, T_un, T_cb, T_t, T_chain, T_and, T_or, T_not, T_andV, T_orV, T_notV, T_if, T_tup, T_lst, T_lstC, T_no, T_part, T_sl, T_slC, S_seq, S_range1, S_range2, T_lc, T_lcC, T_for, T_while, T_setIx, T_call, T_callS, T_start, T_m0, T_yes, T_asgT, vals?, pick_nil, pick_cons, setT, setAll, wipeD, List.getElem?_cons_zero, List.getElem?_cons_succ, List.set_cons_zero, List.set_cons_succ, List.cons_append, List.nil_append, List.append_nil, List.length_cons, List.length_nil, List.map_cons, List.map_nil, oIsi, oLen, oAbs, oInt, oAll, oAny, oAllF, oList, oSum, oIx, oSl, oLt, oLe, oGt, oGe, oSub, oMul, oMod, oFdiv, oPow, oAdd, oAddL, oI, oI0, oIsB, oNotB, oUpper, cellOf?, ren, oIn, oNin, oInF, Nat.reduceSub, Nat.reduceAdd, List.reduceReplicate, true_and, if_true, if_false, Bool.false_eq_true, ite_true, ite_false, eq_self, decide_true, decide_false, Bool.not_true, Bool.not_false, id, oEq, oNe, oEqF, now_val, eqD_str, eqD_int, eqD_nn, T_par, T_par3, T_fld, T_setF, T_make, T_meth, T_isi, T_raise0, T_raise1, T_try, T_tryAs, T_exf, T_asgN, setN, setNs, argsOf, oModN, oIsiI, oOwnB, oOwnE, oOwnN, oOwnG, oTup, oNeg, oI, oI0, insOf_ins, insOf_int, sub_R, rat, lk1, lk2, true_or, or_true, ne_eq, not_false_eq_true, oIntS, oStr0C, T_sm1, oSplit, oNotN, oIsN, T_cmeth, List.isEmpty_nil, Bool.not_true]
    unfold t_law_draw_2 t_law_draw_2a
    simp only [T_seq, T_dic0, T_cut, T_ret, T_asg, T_drop, T_ifS, T_next, T_var, T_c, T_nil, T_cons, T_op, T_un, T_cb, T_t, T_chain, T_and, T_or, T_not, T_andV, T_orV, T_notV, T_if, T_tup, T_lst, T_lstC, T_no, T_part, T_sl, T_slC, S_seq, S_range1, S_range2, T_lc, T_lcC, T_for, T_while, T_setIx, T_call, T_callS, T_start, T_m0, T_yes, T_asgT, vals?, pick_nil, pick_cons, setT, setAll, wipeD, List.getElem?_cons_zero, List.getElem?_cons_succ, List.set_cons_zero, List.set_cons_succ, List.cons_append, List.nil_append, List.append_nil, List.length_cons, List.length_nil, List.map_cons, List.map_nil, oIsi, oLen, oAbs, oInt, oAll, oAny, oAllF, oList, oSum, oIx, oSl, oLt, oLe, oGt, oGe, oSub, oMul, oMod, oFdiv, oPow, oAdd, oAddL, oI, oI0, oIsB, oNotB, oUpper, cellOf?, ren, oIn, oNin, oInF, Nat.reduceSub, Nat.reduceAdd, List.reduceReplicate, true_and, if_true, if_false, Bool.false_eq_true, ite_true, ite_false, eq_self, decide_true, decide_false, Bool.not_true, Bool.not_false, id, oEq, oNe, oEqF, now_val, eqD_str, eqD_int, eqD_nn, T_par, T_par3, T_fld, T_setF, T_make, T_meth, T_isi, T_raise0, T_raise1, T_try, T_tryAs, T_exf, T_asgN, setN, setNs, argsOf, oModN, oIsiI, oOwnB, oOwnE, oOwnN, oOwnG, oTup, oNeg, oI, oI0, insOf_ins, insOf_int, sub_R, rat, lk1, lk2, true_or, or_true, ne_eq, not_false_eq_true, oIntS, oStr0C, T_sm1, oSplit, oNotN, oIsN, T_cmeth, h0, h1, h2, oEq, oNe, oEqF, now_val, eqD_nil, eqD_nn, eqD_int, atI3_0, atI3_1, atI3_2, ixN3_0, ixN3_1, ixN3_2, List.isEmpty_nil, Bool.not_true]
    refine ⟨by decide, ?_⟩
    unfold t_law_draw_3 t_law_draw_4 t_law_draw_5
    simp only [T_seq, T_dic0, T_cut, T_ret, T_asg, T_drop, T_ifS, T_next, T_var, T_c, T_nil, T_cons, T_op, T_un, T_cb, T_t, T_chain, T_and, T_or, T_not, T_andV, T_orV, T_notV, T_if, T_tup, T_lst, T_lstC, T_no, T_part, T_sl, T_slC, S_seq, S_range1, S_range2, T_lc, T_lcC, T_for, T_while, T_setIx, T_call, T_callS, T_start, T_m0, T_yes, T_asgT, vals?, pick_nil, pick_cons, setT, setAll, wipeD, List.getElem?_cons_zero, List.getElem?_cons_succ, List.set_cons_zero, List.set_cons_succ, List.cons_append, List.nil_append, List.append_nil, List.length_cons, List.length_nil, List.map_cons, List.map_nil, oIsi, oLen, oAbs, oInt, oAll, oAny, oAllF, oList, oSum, oIx, oSl, oLt, oLe, oGt, oGe, oSub, oMul, oMod, oFdiv, oPow, oAdd, oAddL, oI, oI0, oIsB, oNotB, oUpper, cellOf?, ren, oIn, oNin, oInF, Nat.reduceSub, Nat.reduceAdd, List.reduceReplicate, true_and, if_true, if_false, Bool.false_eq_true, ite_true, ite_false, eq_self, decide_true, decide_false, Bool.not_true, Bool.not_false, id, oEq, oNe, oEqF, now_val, eqD_str, eqD_int, eqD_nn, T_par, T_par3, T_fld, T_setF, T_make, T_meth, T_isi, T_raise0, T_raise1, T_try, T_tryAs, T_exf, T_asgN, setN, setNs, argsOf, oModN, oIsiI, oOwnB, oOwnE, oOwnN, oOwnG, oTup, oNeg, oI, oI0, insOf_ins, insOf_int, sub_R, rat, lk1, lk2, true_or, or_true, ne_eq, not_false_eq_true, oIntS, oStr0C, T_sm1, oSplit, oNotN, oIsN, T_cmeth, h0, h1, h2, atI3_0, atI3_1, atI3_2]
    have hL : 0 < ((cs.map D.int).length : Int) := by
      rw [List.length_map]
      cases cs with
      | nil => exact absurd rfl hcs
      | cons _ _ => simp
    obtain ⟨x, hx, hx2⟩ := atI_pos (xs := cs.map D.int) (Int.emod_nonneg (m + 1) (by omega)) (Int.emod_lt_of_pos (m + 1) hL)
    obtain ⟨c, rfl⟩ : ∃ c, x = .int c := by
      rw [List.getElem?_map] at hx
      cases q : cs[((m + 1) % ((cs.map D.int).length : Int)).toNat]? with
      | none => rw [q] at hx; cases hx
      | some c =>
        rw [q] at hx
        cases hx
        exact ⟨c, rfl⟩
    simp only [T_seq, T_dic0, T_cut, T_ret, T_asg, T_drop, T_ifS, T_next, T_var, T_c, T_nil, T_cons, T_op, T_un, T_cb, T_t, T_chain, T_and, T_or, T_not, T_andV, T_orV, T_notV, T_if, T_tup, T_lst, T_lstC, T_no, T_part, T_sl, T_slC, S_seq, S_range1, S_range2, T_lc, T_lcC, T_for, T_while, T_setIx, T_call, T_callS, T_start, T_m0, T_yes, T_asgT, vals?, pick_nil, pick_cons, setT, setAll, wipeD, List.getElem?_cons_zero, List.getElem?_cons_succ, List.set_cons_zero, List.set_cons_succ, List.cons_append, List.nil_append, List.append_nil, List.length_cons, List.length_nil, List.map_cons, List.map_nil, oIsi, oLen, oAbs, oInt, oAll, oAny, oAllF, oList, oSum, oIx, oSl, oLt, oLe, oGt, oGe, oSub, oMul, oMod, oFdiv, oPow, oAdd, oAddL, oI, oI0, oIsB, oNotB, oUpper, cellOf?, ren, oIn, oNin, oInF, Nat.reduceSub, Nat.reduceAdd, List.reduceReplicate, true_and, if_true, if_false, Bool.false_eq_true, ite_true, ite_false, eq_self, decide_true, decide_false, Bool.not_true, Bool.not_false, id, oEq, oNe, oEqF, now_val, eqD_str, eqD_int, eqD_nn, T_par, T_par3, T_fld, T_setF, T_make, T_meth, T_isi, T_raise0, T_raise1, T_try, T_tryAs, T_exf, T_asgN, setN, setNs, argsOf, oModN, oIsiI, oOwnB, oOwnE, oOwnN, oOwnG, oTup, oNeg, oI, oI0, insOf_ins, insOf_int, sub_R, rat, lk1, lk2, true_or, or_true, ne_eq, not_false_eq_true, oIntS, oStr0C, T_sm1, oSplit, oNotN, oIsN, T_cmeth, hx2]
    have b1 := Int.emod_nonneg c (b := 2147483647) (by decide)
    have b2 := Int.emod_lt_of_pos c (b := 2147483647) (by decide)
    generalize c % 2147483647 = c1 at b1 b2 ⊢
    refine ⟨hL, by decide, .inr (.inl ⟨by omega, by omega⟩), .inr (.inl ⟨by omega, by omega⟩), ⟨by decide, by decide, by omega⟩, by decide, ?_⟩
    have d1 := fun X : Int => Int.emod_nonneg X (b := 2147483647) (by decide)
    have d2 := fun X : Int => Int.emod_lt_of_pos X (b := 2147483647) (by decide)
    have key : ∀ X : Int, ∃ Y, X % 2147483647 = Y ∧ 0 ≤ Y ∧ Y < 2147483647 := fun X => ⟨_, rfl, d1 X, d2 X⟩
    obtain ⟨c2, e2, g1, g2⟩ := key ((_ : Int) ^ (5 : Int).toNat)
    rw [e2]
    refine ⟨.inr (.inl ⟨by omega, by omega⟩), .inr (.inl ⟨by omega, by omega⟩), ⟨by decide, by decide, by omega⟩, by decide, ⟨by decide, by decide⟩, hs0, ?_⟩
    exact hk _ j [] μ (Int.emod_nonneg _ (by omega)) (Int.emod_lt_of_pos _ hs0) hj h0 h1
  | cons g r =>
    have hl : 0 < μ.length := (List.getElem?_eq_some_iff.mp h0).1
    simp only [T_seq, T_dic0, T_cut, T_ret, T_asg, T_drop, T_ifS, T_next, T_var, T_c, T_nil, T_cons, T_op, T_un, T_cb, T_t, T_chain, T_and, T_or, T_not, T_andV, T_orV, T_notV, T_if, T_tup, T_lst, T_lstC, T_no, T_part, T_sl, T_slC, S_seq, S_range1, S_range2, T_lc, T_lcC, T_for, T_while, T_setIx, T_call, T_callS, T_start, T_m0, T_yes, T_asgT, vals?, pick_nil, pick_cons, setT, setAll, wipeD, List.getElem?_cons_zero, List.getElem?_cons_succ, List.set_cons_zero, List.set_cons_succ, List.cons_append, List.nil_append, List.append_nil, List.length_cons, List.length_nil, List.map_cons, List.map_nil, oIsi, oLen, oAbs, oInt, oAll, oAny, oAllF, oList, oSum, oIx, oSl, oLt, oLe, oGt, oGe, oSub, oMul, oMod, oFdiv, oPow, oAdd, oAddL, oI, oI0, oIsB, oNotB, oUpper, cellOf?, ren, oIn, oNin, oInF, Nat.reduceSub, Nat.reduceAdd, List.reduceReplicate, true_and, if_true, if_false, Bool.false_eq_true, ite_true, ite_false, eq_self, decide_true, decide_false, Bool.not_true, Bool.not_false, id, oEq, oNe, oEqF, now_val, eqD_str, eqD_int, eqD_nn, T_par, T_par3, T_fld, T_setF, T_make, T_meth, T_isi, T_raise0, T_raise1, T_try, T_tryAs, T_exf, T_asgN, setN, setNs, argsOf, oModN, oIsiI, oOwnB, oOwnE, oOwnN, oOwnG, oTup, oNeg, oI, oI0, insOf_ins, insOf_int, sub_R, rat, lk1, lk2, true_or, or_true, ne_eq, not_false_eq_true, oIntS, oStr0C, T_sm1, oSplit, oNotN, oIsN, T_cmeth, List.isEmpty_cons, Bool.not_false, sls_cons, atI_hd, now_val, eqD_int]
    by_cases hg : g = 0
    · have h3 : (μ ++ [MO.lst (intSls r)])[0]? = some (.lst [.cell j, .val (.lst (cs.map D.int)), .val (.int (m + 1))]) := by
        rw [List.getElem?_append_left hl]
        exact h0
      simp only [T_seq, T_dic0, T_cut, T_ret, T_asg, T_drop, T_ifS, T_next, T_var, T_c, T_nil, T_cons, T_op, T_un, T_cb, T_t, T_chain, T_and, T_or, T_not, T_andV, T_orV, T_notV, T_if, T_tup, T_lst, T_lstC, T_no, T_part, T_sl, T_slC, S_seq, S_range1, S_range2, T_lc, T_lcC, T_for, T_while, T_setIx, T_call, T_callS, T_start, T_m0, T_yes, T_asgT, vals?, pick_nil, pick_cons, setT, setAll, wipeD, List.getElem?_cons_zero, List.getElem?_cons_succ, List.set_cons_zero, List.set_cons_succ, List.cons_append, List.nil_append, List.append_nil, List.length_cons, List.length_nil, List.map_cons, List.map_nil, oIsi, oLen, oAbs, oInt, oAll, oAny, oAllF, oList, oSum, oIx, oSl, oLt, oLe, oGt, oGe, oSub, oMul, oMod, oFdiv, oPow, oAdd, oAddL, oI, oI0, oIsB, oNotB, oUpper, cellOf?, ren, oIn, oNin, oInF, Nat.reduceSub, Nat.reduceAdd, List.reduceReplicate, true_and, if_true, if_false, Bool.false_eq_true, ite_true, ite_false, eq_self, decide_true, decide_false, Bool.not_true, Bool.not_false, id, oEq, oNe, oEqF, now_val, eqD_str, eqD_int, eqD_nn, T_par, T_par3, T_fld, T_setF, T_make, T_meth, T_isi, T_raise0, T_raise1, T_try, T_tryAs, T_exf, T_asgN, setN, setNs, argsOf, oModN, oIsiI, oOwnB, oOwnE, oOwnN, oOwnG, oTup, oNeg, oI, oI0, insOf_ins, insOf_int, sub_R, rat, lk1, lk2, true_or, or_true, ne_eq, not_false_eq_true, oIntS, oStr0C, T_sm1, oSplit, oNotN, oIsN, T_cmeth, decide_eq_true hg, id, cutL_tail, h3, ixN3_0]
      refine ⟨r.length, Nat.lt_succ_self _, rfl, μ.length, r, rfl, by omega, ?_, ?_⟩
      · rw [List.getElem?_set_self (by rw [List.length_append]; exact Nat.lt_of_lt_of_le hl (Nat.le_add_right _ _))]
      · rw [List.getElem?_set_ne (by omega), List.getElem?_append_right (Nat.le_refl _), Nat.sub_self]
        rfl
    · simp only [T_seq, T_dic0, T_cut, T_ret, T_asg, T_drop, T_ifS, T_next, T_var, T_c, T_nil, T_cons, T_op, T_un, T_cb, T_t, T_chain, T_and, T_or, T_not, T_andV, T_orV, T_notV, T_if, T_tup, T_lst, T_lstC, T_no, T_part, T_sl, T_slC, S_seq, S_range1, S_range2, T_lc, T_lcC, T_for, T_while, T_setIx, T_call, T_callS, T_start, T_m0, T_yes, T_asgT, vals?, pick_nil, pick_cons, setT, setAll, wipeD, List.getElem?_cons_zero, List.getElem?_cons_succ, List.set_cons_zero, List.set_cons_succ, List.cons_append, List.nil_append, List.append_nil, List.length_cons, List.length_nil, List.map_cons, List.map_nil, oIsi, oLen, oAbs, oInt, oAll, oAny, oAllF, oList, oSum, oIx, oSl, oLt, oLe, oGt, oGe, oSub, oMul, oMod, oFdiv, oPow, oAdd, oAddL, oI, oI0, oIsB, oNotB, oUpper, cellOf?, ren, oIn, oNin, oInF, Nat.reduceSub, Nat.reduceAdd, List.reduceReplicate, true_and, if_true, if_false, Bool.false_eq_true, ite_true, ite_false, eq_self, decide_true, decide_false, Bool.not_true, Bool.not_false, id, oEq, oNe, oEqF, now_val, eqD_str, eqD_int, eqD_nn, T_par, T_par3, T_fld, T_setF, T_make, T_meth, T_isi, T_raise0, T_raise1, T_try, T_tryAs, T_exf, T_asgN, setN, setNs, argsOf, oModN, oIsiI, oOwnB, oOwnE, oOwnN, oOwnG, oTup, oNeg, oI, oI0, insOf_ins, insOf_int, sub_R, rat, lk1, lk2, true_or, or_true, ne_eq, not_false_eq_true, oIntS, oStr0C, T_sm1, oSplit, oNotN, oIsN, T_cmeth, decide_eq_false hg, id]
      unfold t_law_draw_2 t_law_draw_2a t_law_draw_2a_0 t_law_draw_2a_1 t_law_draw_2a_2
      simp only [T_seq, T_dic0, T_cut, T_ret, T_asg, T_drop, T_ifS, T_next, T_var, T_c, T_nil, T_cons, T_op, T_un, T_cb, T_t, T_chain, T_and, T_or, T_not, T_andV, T_orV, T_notV, T_if, T_tup, T_lst, T_lstC, T_no, T_part, T_sl, T_slC, S_seq, S_range1, S_range2, T_lc, T_lcC, T_for, T_while, T_setIx, T_call, T_callS, T_start, T_m0, T_yes, T_asgT, vals?, pick_nil, pick_cons, setT, setAll, wipeD, List.getElem?_cons_zero, List.getElem?_cons_succ, List.set_cons_zero, List.set_cons_succ, List.cons_append, List.nil_append, List.append_nil, List.length_cons, List.length_nil, List.map_cons, List.map_nil, oIsi, oLen, oAbs, oInt, oAll, oAny, oAllF, oList, oSum, oIx, oSl, oLt, oLe, oGt, oGe, oSub, oMul, oMod, oFdiv, oPow, oAdd, oAddL, oI, oI0, oIsB, oNotB, oUpper, cellOf?, ren, oIn, oNin, oInF, Nat.reduceSub, Nat.reduceAdd, List.reduceReplicate, true_and, if_true, if_false, Bool.false_eq_true, ite_true, ite_false, eq_self, decide_true, decide_false, Bool.not_true, Bool.not_false, id, oEq, oNe, oEqF, now_val, eqD_str, eqD_int, eqD_nn, T_par, T_par3, T_fld, T_setF, T_make, T_meth, T_isi, T_raise0, T_raise1, T_try, T_tryAs, T_exf, T_asgN, setN, setNs, argsOf, oModN, oIsiI, oOwnB, oOwnE, oOwnN, oOwnG, oTup, oNeg, oI, oI0, insOf_ins, insOf_int, sub_R, rat, lk1, lk2, true_or, or_true, ne_eq, not_false_eq_true, oIntS, oStr0C, T_sm1, oSplit, oNotN, oIsN, T_cmeth, h0, h1, h2, oEq, oNe, oEqF, now_val, eqD_nil, eqD_nn, eqD_cn, eqD_int, atI3_0, atI3_1, atI3_2, ixN3_0, ixN3_1, ixN3_2, List.isEmpty_cons, Bool.not_false, sls_cons, atI_hd]
      have e3 : ixN ((intSls r).length + 1) 0 = some 0 := by
        unfold ixN
        rw [if_pos (Int.le_refl 0), if_pos (by omega)]
        rfl
      simp only [T_seq, T_dic0, T_cut, T_ret, T_asg, T_drop, T_ifS, T_next, T_var, T_c, T_nil, T_cons, T_op, T_un, T_cb, T_t, T_chain, T_and, T_or, T_not, T_andV, T_orV, T_notV, T_if, T_tup, T_lst, T_lstC, T_no, T_part, T_sl, T_slC, S_seq, S_range1, S_range2, T_lc, T_lcC, T_for, T_while, T_setIx, T_call, T_callS, T_start, T_m0, T_yes, T_asgT, vals?, pick_nil, pick_cons, setT, setAll, wipeD, List.getElem?_cons_zero, List.getElem?_cons_succ, List.set_cons_zero, List.set_cons_succ, List.cons_append, List.nil_append, List.append_nil, List.length_cons, List.length_nil, List.map_cons, List.map_nil, oIsi, oLen, oAbs, oInt, oAll, oAny, oAllF, oList, oSum, oIx, oSl, oLt, oLe, oGt, oGe, oSub, oMul, oMod, oFdiv, oPow, oAdd, oAddL, oI, oI0, oIsB, oNotB, oUpper, cellOf?, ren, oIn, oNin, oInF, Nat.reduceSub, Nat.reduceAdd, List.reduceReplicate, true_and, if_true, if_false, Bool.false_eq_true, ite_true, ite_false, eq_self, decide_true, decide_false, Bool.not_true, Bool.not_false, id, oEq, oNe, oEqF, now_val, eqD_str, eqD_int, eqD_nn, T_par, T_par3, T_fld, T_setF, T_make, T_meth, T_isi, T_raise0, T_raise1, T_try, T_tryAs, T_exf, T_asgN, setN, setNs, argsOf, oModN, oIsiI, oOwnB, oOwnE, oOwnN, oOwnG, oTup, oNeg, oI, oI0, insOf_ins, insOf_int, sub_R, rat, lk1, lk2, true_or, or_true, ne_eq, not_false_eq_true, oIntS, oStr0C, T_sm1, oSplit, oNotN, oIsN, T_cmeth, e3]
      refine ⟨by decide, hs0, ⟨hs0, hs1⟩, hk _ j (g / size :: r) _ (Int.emod_nonneg _ (by omega)) (Int.emod_lt_of_pos _ hs0) hj ?_ ?_⟩
      · rw [List.getElem?_set_ne (by omega)]
        exact h0
      · rw [List.getElem?_set_self (List.getElem?_eq_some_iff.mp h1).1]
        rfl
theorem fmod_lt {x y : Int} (h : y ≠ 0) : (x.fmod y).natAbs < y.natAbs := by
  rw [Int.fmod_eq_emod]
  have h1 := Int.emod_nonneg x h
  have h2 := Int.emod_lt x h
  split
  · omega
  · rename_i c
    have c1 : ¬ (0 ≤ y) := fun z => c (.inl z)
    have c2 : ¬ (y ∣ x) := fun z => c (.inr z)
    have : x % y ≠ 0 := fun z => c2 (Int.dvd_of_emod_eq_zero z)
    omega
theorem gcd_fmod {x y : Int} : Int.gcd y (x.fmod y) = Int.gcd x y := by
  rw [Int.fmod_def]
  rw [Int.gcd_comm x y]
  exact Int.gcd_sub_mul_left_right y x (x.fdiv y)
theorem low_spec {t b : Int} (h : b ≠ 0) : ∃ g : Int, g ≠ 0 ∧ t = g * (low t b).1 ∧ b = g * (low t b).2 ∧ 0 < (low t b).2 ∧ Int.gcd (low t b).1 (low t b).2 = 1 := by
  have hg : Int.gcd t b ≠ 0 := fun z => h (Int.gcd_eq_zero_iff.mp z).2
  obtain ⟨t', ht⟩ := Int.gcd_dvd_left t b
  obtain ⟨b', hb⟩ := Int.gcd_dvd_right t b
  have hg' : (Int.gcd t b : Int) ≠ 0 := by omega
  have hgp : (0 : Int) < Int.gcd t b := by omega
  have e1 : (low t b).1 = sgn b * t' := by
    show sgn b * t / (Int.gcd t b : Int) = _
    conv => lhs; lhs; rhs; rw [ht]
    rw [Int.mul_left_comm, Int.mul_ediv_cancel_left _ hg']
  have e2 : (low t b).2 = sgn b * b' := by
    show sgn b * b / (Int.gcd t b : Int) = _
    conv => lhs; lhs; rhs; rw [hb]
    rw [Int.mul_left_comm, Int.mul_ediv_cancel_left _ hg']
  have e3 : sgn b * sgn b = 1 := by unfold sgn; split <;> rfl
  have e5 : Int.gcd t' b' = 1 := by
    have := Int.gcd_mul_left (Int.gcd t b : Int) t' b'
    rw [← ht, ← hb, Int.natAbs_natCast] at this
    have h2 : 0 < Int.gcd t b := by omega
    have : Int.gcd t b * 1 = Int.gcd t b * Int.gcd t' b' := by omega
    exact (Nat.eq_of_mul_eq_mul_left h2 this).symm
  refine ⟨Int.gcd t b * sgn b, ?_, ?_, ?_, ?_, ?_⟩
  · unfold sgn; split <;> omega
  · rw [e1, Int.mul_assoc, ← Int.mul_assoc (sgn b), e3, Int.one_mul]; exact ht
  · rw [e2, Int.mul_assoc, ← Int.mul_assoc (sgn b), e3, Int.one_mul]; exact hb
  · rw [e2]
    unfold sgn
    split
    · rename_i hp
      rw [hb] at hp
      rw [Int.one_mul]
      exact Int.pos_of_mul_pos_right hp hgp
    · have : b < 0 := by omega
      rw [hb] at this
      have : (Int.gcd t b : Int) * (-b') > 0 := by rw [Int.mul_neg]; omega
      have := Int.pos_of_mul_pos_right this hgp
      omega
  · rw [e1, e2]
    unfold sgn
    split
    · rw [Int.one_mul, Int.one_mul]; exact e5
    · rw [Int.neg_one_mul, Int.neg_one_mul, Int.gcd_neg, Int.neg_gcd]; exact e5
theorem dvd_cop {b t v : Int} (h : b ∣ t * v) (g : Int.gcd b t = 1) : b ∣ v := by
  have h1 := Int.natAbs_dvd_natAbs.mpr h
  rw [Int.natAbs_mul] at h1
  exact Int.natAbs_dvd_natAbs.mp (Nat.Coprime.dvd_of_dvd_mul_left (g : Nat.Coprime b.natAbs t.natAbs) h1)
theorem sq_pos {g : Int} (h : g ≠ 0) : 0 < g * g := by
  rcases Int.lt_or_gt_of_ne h with h | h
  · exact Int.mul_pos_of_neg_of_neg h h
  · exact Int.mul_pos h h
theorem nf_uniq {t b u v : Int} (h1 : 0 < b) (h2 : 0 < v) (g1 : Int.gcd t b = 1) (g2 : Int.gcd u v = 1) (e : t * v = u * b) : t = u ∧ b = v := by
  have d1 : b ∣ v := by
    have : b ∣ t * v := ⟨u, by rw [e, Int.mul_comm]⟩
    exact dvd_cop this (by rw [Int.gcd_comm]; exact g1)
  have d2 : v ∣ b := by
    have : v ∣ u * b := ⟨t, by rw [← e, Int.mul_comm]⟩
    exact dvd_cop this (by rw [Int.gcd_comm]; exact g2)
  have e2 : b = v := Int.le_antisymm (Int.le_of_dvd h2 d1) (Int.le_of_dvd h1 d2)
  subst e2
  exact ⟨Int.eq_of_mul_eq_mul_right (by omega) e, rfl⟩
theorem low_uniq {p q p' q' : Int} (h : q ≠ 0) (h' : q' ≠ 0) (e : p * q' = p' * q) : low p q = low p' q' := by
  obtain ⟨g, n1, e1, e2, b1, c1⟩ := low_spec (t := p) h
  obtain ⟨g', n2, e3, e4, b2, c2⟩ := low_spec (t := p') h'
  generalize low p q = x at *
  generalize low p' q' = y at *
  obtain ⟨t, b⟩ := x
  obtain ⟨u, v⟩ := y
  dsimp only at *
  have e5 : (g * g') * (t * v) = (g * g') * (u * b) := by grind
  have e6 := Int.eq_of_mul_eq_mul_left (Int.mul_ne_zero n1 n2) e5
  obtain ⟨rfl, rfl⟩ := nf_uniq b1 b2 c1 c2 e6
  rfl
theorem low_nf {t b : Int} (h : 0 < b) (g : Int.gcd t b = 1) : low t b = (t, b) := by
  unfold low sgn
  rw [g, if_pos h]
  simp
theorem low_one (i : Int) : low i 1 = (i, 1) := low_nf (by decide) (by simp)
theorem low_cross {p q : Int} (h : q ≠ 0) : (low p q).1 * q = p * (low p q).2 := by
  obtain ⟨g, n1, e1, e2, b1, c1⟩ := low_spec (t := p) h
  generalize low p q = x at *
  grind
theorem low_pos {p q : Int} (h : q ≠ 0) : 0 < (low p q).2 := by
  obtain ⟨g, n1, e1, e2, b1, c1⟩ := low_spec (t := p) h
  exact b1
theorem low_le {p q : Int} (h : q ≠ 0) : (low p q).1.natAbs ≤ p.natAbs ∧ (low p q).2.natAbs ≤ q.natAbs := by
  obtain ⟨g, n1, e1, e2, b1, c1⟩ := low_spec (t := p) h
  generalize low p q = x at *
  have : 0 < g.natAbs := by omega
  constructor
  · rw [e1, Int.natAbs_mul]; exact Nat.le_mul_of_pos_left _ this
  · rw [e2, Int.natAbs_mul]; exact Nat.le_mul_of_pos_left _ this
theorem low_add {a b c d : Int} (h1 : b ≠ 0) (h2 : d ≠ 0) : low ((low a b).1 * (low c d).2 + (low c d).1 * (low a b).2) ((low a b).2 * (low c d).2) = low (a * d + c * b) (b * d) := by
  have b1 := low_pos (p := a) h1
  have b2 := low_pos (p := c) h2
  refine low_uniq (Int.mul_ne_zero (by omega) (by omega)) (Int.mul_ne_zero h1 h2) ?_
  have x1 := low_cross (p := a) h1
  have x2 := low_cross (p := c) h2
  grind
theorem low_sub {a b c d : Int} (h1 : b ≠ 0) (h2 : d ≠ 0) : low ((low a b).1 * (low c d).2 - (low c d).1 * (low a b).2) ((low a b).2 * (low c d).2) = low (a * d - c * b) (b * d) := by
  have b1 := low_pos (p := a) h1
  have b2 := low_pos (p := c) h2
  refine low_uniq (Int.mul_ne_zero (by omega) (by omega)) (Int.mul_ne_zero h1 h2) ?_
  have x1 := low_cross (p := a) h1
  have x2 := low_cross (p := c) h2
  grind
theorem low_mul {a b c d : Int} (h1 : b ≠ 0) (h2 : d ≠ 0) : low ((low a b).1 * (low c d).1) ((low a b).2 * (low c d).2) = low (a * c) (b * d) := by
  have b1 := low_pos (p := a) h1
  have b2 := low_pos (p := c) h2
  refine low_uniq (Int.mul_ne_zero (by omega) (by omega)) (Int.mul_ne_zero h1 h2) ?_
  have x1 := low_cross (p := a) h1
  have x2 := low_cross (p := c) h2
  grind
theorem low_neg {a b : Int} (h1 : b ≠ 0) : low (-(low a b).1) (low a b).2 = low (-a) b := by
  have b1 := low_pos (p := a) h1
  refine low_uniq (by omega) h1 ?_
  have x1 := low_cross (p := a) h1
  grind
theorem low_over {a b c d : Int} (h1 : b ≠ 0) (h2 : d ≠ 0) (h3 : c ≠ 0) : low ((low a b).1 * (low c d).2) ((low a b).2 * (low c d).1) = low (a * d) (b * c) := by
  have b1 := low_pos (p := a) h1
  have b2 := low_pos (p := c) h2
  have x1 := low_cross (p := a) h1
  have x2 := low_cross (p := c) h2
  refine low_uniq (Int.mul_ne_zero (by omega) ?_) (Int.mul_ne_zero h1 h3) ?_
  · intro z
    rw [z] at x2
    have : c * (low c d).2 ≠ 0 := Int.mul_ne_zero h3 (by omega)
    omega
  grind
theorem low_zero {c d : Int} (h2 : d ≠ 0) : (low c d).1 = 0 ↔ c = 0 := by
  have b2 := low_pos (p := c) h2
  have x2 := low_cross (p := c) h2
  constructor
  · intro z
    rw [z, Int.zero_mul] at x2
    exact (Int.mul_eq_zero.mp x2.symm).resolve_right (by omega)
  · intro z
    have x3 : (low c d).1 * d = 0 := by rw [x2, z, Int.zero_mul]
    exact (Int.mul_eq_zero.mp x3).resolve_right h2
/-- the sign of a difference -/
theorem low_gap {a b c d : Int} (h1 : b ≠ 0) (h2 : d ≠ 0) : ∃ m : Int, 0 < m ∧ (a * d - c * b) * (b * d) = m * ((low a b).1 * (low c d).2 - (low c d).1 * (low a b).2) := by
  obtain ⟨g, n1, e1, e2, b1, c1⟩ := low_spec (t := a) h1
  obtain ⟨g', n2, e3, e4, b2, c2⟩ := low_spec (t := c) h2
  generalize low a b = x at *
  generalize low c d = y at *
  refine ⟨(g * g) * (g' * g') * (x.2 * y.2), Int.mul_pos (Int.mul_pos ?_ ?_) (Int.mul_pos b1 b2), by grind⟩
  · exact sq_pos n1
  · exact sq_pos n2
theorem low_below {a b c d : Int} (h1 : b ≠ 0) (h2 : d ≠ 0) : decide ((low a b).1 * (low c d).2 < (low c d).1 * (low a b).2) = decide ((a * d - c * b) * (b * d) < 0) := by
  obtain ⟨m, hm, e⟩ := low_gap (a := a) (c := c) h1 h2
  rw [e]
  apply decide_eq_decide.mpr
  constructor
  · intro h
    exact Int.mul_neg_of_pos_of_neg hm (by omega)
  · intro h
    have : ¬ (0 ≤ (low a b).1 * (low c d).2 - (low c d).1 * (low a b).2) := fun z => by
      have := Int.mul_nonneg (Int.le_of_lt hm) z
      omega
    omega
theorem low_same {a b c d : Int} (h1 : b ≠ 0) (h2 : d ≠ 0) : (decide ((low a b).1 = (low c d).1) && decide ((low a b).2 = (low c d).2)) = decide ((a * d - c * b) * (b * d) = 0) := by
  rw [← Bool.decide_and]
  apply decide_eq_decide.mpr
  constructor
  · rintro ⟨h3, h4⟩
    obtain ⟨m, hm, e⟩ := low_gap (a := a) (c := c) h1 h2
    rw [e, h3, h4, Int.sub_self, Int.mul_zero]
  · intro h
    have h5 := (Int.mul_eq_zero.mp h).resolve_right (Int.mul_ne_zero h1 h2)
    have := low_uniq h1 h2 (show a * d = c * b by omega)
    rw [this]
    exact ⟨rfl, rfl⟩
theorem low_abs {a b : Int} (h1 : b ≠ 0) : low (if (low a b).1 < 0 then -(low a b).1 else (low a b).1) (low a b).2 = low (if a < 0 then -a else a) (if b < 0 then -b else b) := by
  obtain ⟨g, n1, e1, e2, b1, c1⟩ := low_spec (t := a) h1
  generalize low a b = x at *
  obtain ⟨t, v⟩ := x
  dsimp only at *
  refine low_uniq (by omega) (by omega) ?_
  subst e1
  subst e2
  rcases Int.lt_or_gt_of_ne n1 with h | h
  · have hv : g * v < 0 := Int.mul_neg_of_neg_of_pos h b1
    by_cases ht : t < 0
    · have : 0 < g * t := Int.mul_pos_of_neg_of_neg h ht
      rw [if_pos ht, if_pos hv, if_neg (by omega)]
      grind
    · by_cases ht0 : t = 0
      · subst ht0; simp
      · have : g * t < 0 := Int.mul_neg_of_neg_of_pos h (by omega)
        rw [if_neg ht, if_pos hv, if_pos this]
        grind
  · have hv : 0 < g * v := Int.mul_pos h b1
    by_cases ht : t < 0
    · have : g * t < 0 := Int.mul_neg_of_pos_of_neg h ht
      rw [if_pos ht, if_neg (by omega), if_pos this]
      grind
    · by_cases ht0 : t = 0
      · subst ht0; simp
      · have : 0 < g * t := Int.mul_pos h (by omega)
        rw [if_neg ht, if_neg (by omega), if_neg (by omega)]
        grind
theorem len_common_divisor : ∀ ds μ (k : KE) (e : KX), (ctP c_gcd : Ct) ds μ k e → ds.length = 2 := by
  rintro ds μ k e ⟨rfl, xs, rfl, a, b, rfl, _⟩
  rfl
theorem insOf_none {d : D} {t : String} (h : d.kind = some t) : d.insOf = none := by
  cases d <;> first | rfl | cases h
theorem v_common_divisor : Vc_common_divisor := vcP fun xs k e h => by
  obtain ⟨a, b, rfl, hk⟩ := h
  unfold t_common_divisor N_common_divisor t_common_divisor_0 t_common_divisor_0a_0 t_common_divisor_1
  simp only [T_seq, T_dic0, T_cut, T_ret, T_asg, T_drop, T_ifS, T_next, T_var, T_c, T_nil, T_cons, T_op, T_un, T_cb, T_t, T_chain, T_and, T_or, T_not, T_andV, T_orV, T_notV, T_if, T_tup, T_lst, T_lstC, T_no, T_part, T_sl, T_slC, S_seq, S_range1, S_range2, T_lc, T_lcC, T_for, T_while, T_setIx, T_call, T_callS, T_start, T_m0, T_yes, T_asgT, vals?, pick_nil, pick_cons, setT, setAll, wipeD, List.getElem?_cons_zero, List.getElem?_cons_succ, List.set_cons_zero, List.set_cons_succ, List.cons_append, List.nil_append, List.append_nil, List.length_cons, List.length_nil, List.map_cons, List.map_nil, oIsi, oLen, oAbs, oInt, oAll, oAny, oAllF, oList, oSum, oIx, oSl, oLt, oLe, oGt, oGe, oSub, oMul, oMod, oFdiv, oPow, oAdd, oAddL, oI, oI0, oIsB, oNotB, oUpper, cellOf?, ren, oIn, oNin, oInF, Nat.reduceSub, Nat.reduceAdd, List.reduceReplicate, true_and, if_true, if_false, Bool.false_eq_true, ite_true, ite_false, eq_self, decide_true, decide_false, Bool.not_true, Bool.not_false, id, oEq, oNe, oEqF, now_val, eqD_str, eqD_int, eqD_nn, T_par, T_par3, T_fld, T_setF, T_make, T_meth, T_isi, T_raise0, T_raise1, T_try, T_tryAs, T_exf, T_asgN, setN, setNs, argsOf, oModN, oIsiI, oOwnB, oOwnE, oOwnN, oOwnG, oTup, oNeg, oI, oI0, insOf_ins, insOf_int, sub_R, rat, lk1, lk2, true_or, or_true, ne_eq, not_false_eq_true, oIntS, oStr0C, T_sm1, oSplit, oNotN, oIsN, T_cmeth]
  refine ⟨fun n ρ μ => ∃ x y : Int, ρ = [some (.val (.int x)), some (.val (.int y))] ∧ μ = [] ∧ n = y.natAbs ∧ Int.gcd x y = Int.gcd a b, ⟨_, a, b, rfl, rfl, rfl, rfl⟩, ?_⟩
  rintro n ρ μ ⟨x, y, rfl, rfl, rfl, hg⟩
  simp only [T_seq, T_dic0, T_cut, T_ret, T_asg, T_drop, T_ifS, T_next, T_var, T_c, T_nil, T_cons, T_op, T_un, T_cb, T_t, T_chain, T_and, T_or, T_not, T_andV, T_orV, T_notV, T_if, T_tup, T_lst, T_lstC, T_no, T_part, T_sl, T_slC, S_seq, S_range1, S_range2, T_lc, T_lcC, T_for, T_while, T_setIx, T_call, T_callS, T_start, T_m0, T_yes, T_asgT, vals?, pick_nil, pick_cons, setT, setAll, wipeD, List.getElem?_cons_zero, List.getElem?_cons_succ, List.set_cons_zero, List.set_cons_succ, List.cons_append, List.nil_append, List.append_nil, List.length_cons, List.length_nil, List.map_cons, List.map_nil, oIsi, oLen, oAbs, oInt, oAll, oAny, oAllF, oList, oSum, oIx, oSl, oLt, oLe, oGt, oGe, oSub, oMul, oMod, oFdiv, oPow, oAdd, oAddL, oI, oI0, oIsB, oNotB, oUpper, cellOf?, ren, oIn, oNin, oInF, Nat.reduceSub, Nat.reduceAdd, List.reduceReplicate, true_and, if_true, if_false, Bool.false_eq_true, ite_true, ite_false, eq_self, decide_true, decide_false, Bool.not_true, Bool.not_false, id, oEq, oNe, oEqF, now_val, eqD_str, eqD_int, eqD_nn, T_par, T_par3, T_fld, T_setF, T_make, T_meth, T_isi, T_raise0, T_raise1, T_try, T_tryAs, T_exf, T_asgN, setN, setNs, argsOf, oModN, oIsiI, oOwnB, oOwnE, oOwnN, oOwnG, oTup, oNeg, oI, oI0, insOf_ins, insOf_int, sub_R, rat, lk1, lk2, true_or, or_true, ne_eq, not_false_eq_true, oIntS, oStr0C, T_sm1, oSplit, oNotN, oIsN, T_cmeth]
  by_cases h : y = 0
  · subst h
    simp only [T_seq, T_dic0, T_cut, T_ret, T_asg, T_drop, T_ifS, T_next, T_var, T_c, T_nil, T_cons, T_op, T_un, T_cb, T_t, T_chain, T_and, T_or, T_not, T_andV, T_orV, T_notV, T_if, T_tup, T_lst, T_lstC, T_no, T_part, T_sl, T_slC, S_seq, S_range1, S_range2, T_lc, T_lcC, T_for, T_while, T_setIx, T_call, T_callS, T_start, T_m0, T_yes, T_asgT, vals?, pick_nil, pick_cons, setT, setAll, wipeD, List.getElem?_cons_zero, List.getElem?_cons_succ, List.set_cons_zero, List.set_cons_succ, List.cons_append, List.nil_append, List.append_nil, List.length_cons, List.length_nil, List.map_cons, List.map_nil, oIsi, oLen, oAbs, oInt, oAll, oAny, oAllF, oList, oSum, oIx, oSl, oLt, oLe, oGt, oGe, oSub, oMul, oMod, oFdiv, oPow, oAdd, oAddL, oI, oI0, oIsB, oNotB, oUpper, cellOf?, ren, oIn, oNin, oInF, Nat.reduceSub, Nat.reduceAdd, List.reduceReplicate, true_and, if_true, if_false, Bool.false_eq_true, ite_true, ite_false, eq_self, decide_true, decide_false, Bool.not_true, Bool.not_false, id, oEq, oNe, oEqF, now_val, eqD_str, eqD_int, eqD_nn, T_par, T_par3, T_fld, T_setF, T_make, T_meth, T_isi, T_raise0, T_raise1, T_try, T_tryAs, T_exf, T_asgN, setN, setNs, argsOf, oModN, oIsiI, oOwnB, oOwnE, oOwnN, oOwnG, oTup, oNeg, oI, oI0, insOf_ins, insOf_int, sub_R, rat, lk1, lk2, true_or, or_true, ne_eq, not_false_eq_true, oIntS, oStr0C, T_sm1, oSplit, oNotN, oIsN, T_cmeth]
    have z := hk []
    rw [← hg, Int.gcd_zero_right] at z
    have e1 : (if x < 0 then -x else x) = (x.natAbs : Int) := by split <;> omega
    rw [e1]
    exact z
  · simp only [T_seq, T_dic0, T_cut, T_ret, T_asg, T_drop, T_ifS, T_next, T_var, T_c, T_nil, T_cons, T_op, T_un, T_cb, T_t, T_chain, T_and, T_or, T_not, T_andV, T_orV, T_notV, T_if, T_tup, T_lst, T_lstC, T_no, T_part, T_sl, T_slC, S_seq, S_range1, S_range2, T_lc, T_lcC, T_for, T_while, T_setIx, T_call, T_callS, T_start, T_m0, T_yes, T_asgT, vals?, pick_nil, pick_cons, setT, setAll, wipeD, List.getElem?_cons_zero, List.getElem?_cons_succ, List.set_cons_zero, List.set_cons_succ, List.cons_append, List.nil_append, List.append_nil, List.length_cons, List.length_nil, List.map_cons, List.map_nil, oIsi, oLen, oAbs, oInt, oAll, oAny, oAllF, oList, oSum, oIx, oSl, oLt, oLe, oGt, oGe, oSub, oMul, oMod, oFdiv, oPow, oAdd, oAddL, oI, oI0, oIsB, oNotB, oUpper, cellOf?, ren, oIn, oNin, oInF, Nat.reduceSub, Nat.reduceAdd, List.reduceReplicate, true_and, if_true, if_false, Bool.false_eq_true, ite_true, ite_false, eq_self, decide_true, decide_false, Bool.not_true, Bool.not_false, id, oEq, oNe, oEqF, now_val, eqD_str, eqD_int, eqD_nn, T_par, T_par3, T_fld, T_setF, T_make, T_meth, T_isi, T_raise0, T_raise1, T_try, T_tryAs, T_exf, T_asgN, setN, setNs, argsOf, oModN, oIsiI, oOwnB, oOwnE, oOwnN, oOwnG, oTup, oNeg, oI, oI0, insOf_ins, insOf_int, sub_R, rat, lk1, lk2, true_or, or_true, ne_eq, not_false_eq_true, oIntS, oStr0C, T_sm1, oSplit, oNotN, oIsN, T_cmeth, decide_eq_false h]
    refine ⟨h, _, fmod_lt h, y, _, rfl, rfl, ?_⟩
    rw [gcd_fmod, hg]
theorem len_is_integer : ∀ ds μ (k : KE) (e : KX), (ctP c_is_integer : Ct) ds μ k e → ds.length = 1 := by
  rintro ds μ k e ⟨rfl, xs, rfl, d, rfl, _⟩
  rfl
theorem v_is_integer : Vc_is_integer := vcP fun xs k e h => by
  obtain ⟨d, rfl, hd, hk⟩ := h
  unfold t_is_integer_0 N_is_integer
  rcases hd with ⟨t, ht⟩ | ⟨a, fs, rfl⟩
  · cases d with
    | ins => cases ht
    | exn => cases ht
    | ty => cases ht
    | cls => cases ht
    | obj a o => cases o <;> (first | (cases ht; done) | (simp only [T_seq, T_dic0, T_cut, T_ret, T_asg, T_drop, T_ifS, T_next, T_var, T_c, T_nil, T_cons, T_op, T_un, T_cb, T_t, T_chain, T_and, T_or, T_not, T_andV, T_orV, T_notV, T_if, T_tup, T_lst, T_lstC, T_no, T_part, T_sl, T_slC, S_seq, S_range1, S_range2, T_lc, T_lcC, T_for, T_while, T_setIx, T_call, T_callS, T_start, T_m0, T_yes, T_asgT, vals?, pick_nil, pick_cons, setT, setAll, wipeD, List.getElem?_cons_zero, List.getElem?_cons_succ, List.set_cons_zero, List.set_cons_succ, List.cons_append, List.nil_append, List.append_nil, List.length_cons, List.length_nil, List.map_cons, List.map_nil, oIsi, oLen, oAbs, oInt, oAll, oAny, oAllF, oList, oSum, oIx, oSl, oLt, oLe, oGt, oGe, oSub, oMul, oMod, oFdiv, oPow, oAdd, oAddL, oI, oI0, oIsB, oNotB, oUpper, cellOf?, ren, oIn, oNin, oInF, Nat.reduceSub, Nat.reduceAdd, List.reduceReplicate, true_and, if_true, if_false, Bool.false_eq_true, ite_true, ite_false, eq_self, decide_true, decide_false, Bool.not_true, Bool.not_false, id, oEq, oNe, oEqF, now_val, eqD_str, eqD_int, eqD_nn, T_par, T_par3, T_fld, T_setF, T_make, T_meth, T_isi, T_raise0, T_raise1, T_try, T_tryAs, T_exf, T_asgN, setN, setNs, argsOf, oModN, oIsiI, oOwnB, oOwnE, oOwnN, oOwnG, oTup, oNeg, oI, oI0, insOf_ins, insOf_int, sub_R, rat, lk1, lk2, true_or, or_true, ne_eq, not_false_eq_true, oIntS, oStr0C, T_sm1, oSplit, oNotN, oIsN, T_cmeth, ht]; cases ht; exact hk []))
    | _ =>
      simp only [T_seq, T_dic0, T_cut, T_ret, T_asg, T_drop, T_ifS, T_next, T_var, T_c, T_nil, T_cons, T_op, T_un, T_cb, T_t, T_chain, T_and, T_or, T_not, T_andV, T_orV, T_notV, T_if, T_tup, T_lst, T_lstC, T_no, T_part, T_sl, T_slC, S_seq, S_range1, S_range2, T_lc, T_lcC, T_for, T_while, T_setIx, T_call, T_callS, T_start, T_m0, T_yes, T_asgT, vals?, pick_nil, pick_cons, setT, setAll, wipeD, List.getElem?_cons_zero, List.getElem?_cons_succ, List.set_cons_zero, List.set_cons_succ, List.cons_append, List.nil_append, List.append_nil, List.length_cons, List.length_nil, List.map_cons, List.map_nil, oIsi, oLen, oAbs, oInt, oAll, oAny, oAllF, oList, oSum, oIx, oSl, oLt, oLe, oGt, oGe, oSub, oMul, oMod, oFdiv, oPow, oAdd, oAddL, oI, oI0, oIsB, oNotB, oUpper, cellOf?, ren, oIn, oNin, oInF, Nat.reduceSub, Nat.reduceAdd, List.reduceReplicate, true_and, if_true, if_false, Bool.false_eq_true, ite_true, ite_false, eq_self, decide_true, decide_false, Bool.not_true, Bool.not_false, id, oEq, oNe, oEqF, now_val, eqD_str, eqD_int, eqD_nn, T_par, T_par3, T_fld, T_setF, T_make, T_meth, T_isi, T_raise0, T_raise1, T_try, T_tryAs, T_exf, T_asgN, setN, setNs, argsOf, oModN, oIsiI, oOwnB, oOwnE, oOwnN, oOwnG, oTup, oNeg, oI, oI0, insOf_ins, insOf_int, sub_R, rat, lk1, lk2, true_or, or_true, ne_eq, not_false_eq_true, oIntS, oStr0C, T_sm1, oSplit, oNotN, oIsN, T_cmeth, ht]
      cases ht
      exact hk []
  · simp only [T_seq, T_dic0, T_cut, T_ret, T_asg, T_drop, T_ifS, T_next, T_var, T_c, T_nil, T_cons, T_op, T_un, T_cb, T_t, T_chain, T_and, T_or, T_not, T_andV, T_orV, T_notV, T_if, T_tup, T_lst, T_lstC, T_no, T_part, T_sl, T_slC, S_seq, S_range1, S_range2, T_lc, T_lcC, T_for, T_while, T_setIx, T_call, T_callS, T_start, T_m0, T_yes, T_asgT, vals?, pick_nil, pick_cons, setT, setAll, wipeD, List.getElem?_cons_zero, List.getElem?_cons_succ, List.set_cons_zero, List.set_cons_succ, List.cons_append, List.nil_append, List.append_nil, List.length_cons, List.length_nil, List.map_cons, List.map_nil, oIsi, oLen, oAbs, oInt, oAll, oAny, oAllF, oList, oSum, oIx, oSl, oLt, oLe, oGt, oGe, oSub, oMul, oMod, oFdiv, oPow, oAdd, oAddL, oI, oI0, oIsB, oNotB, oUpper, cellOf?, ren, oIn, oNin, oInF, Nat.reduceSub, Nat.reduceAdd, List.reduceReplicate, true_and, if_true, if_false, Bool.false_eq_true, ite_true, ite_false, eq_self, decide_true, decide_false, Bool.not_true, Bool.not_false, id, oEq, oNe, oEqF, now_val, eqD_str, eqD_int, eqD_nn, T_par, T_par3, T_fld, T_setF, T_make, T_meth, T_isi, T_raise0, T_raise1, T_try, T_tryAs, T_exf, T_asgN, setN, setNs, argsOf, oModN, oIsiI, oOwnB, oOwnE, oOwnN, oOwnG, oTup, oNeg, oI, oI0, insOf_ins, insOf_int, sub_R, rat, lk1, lk2, true_or, or_true, ne_eq, not_false_eq_true, oIntS, oStr0C, T_sm1, oSplit, oNotN, oIsN, T_cmeth]
    exact ⟨rfl, by decide, hk []⟩
theorem low_b9 {t b : Int} (h : b ≠ 0) (h9 : b.natAbs < 2 ^ 9000) : DivOk 0 (Int.gcd t b : Int) := by
  have hg : Int.gcd t b ≠ 0 := fun z => h (Int.gcd_eq_zero_iff.mp z).2
  refine ⟨by omega, ?_⟩
  rw [Int.natAbs_natCast]
  exact (Nat.log2_lt hg).mpr (Nat.lt_of_le_of_lt (Nat.le_of_dvd (by omega) (Int.natAbs_dvd_natAbs.mpr (Int.gcd_dvd_right t b) |> fun z => by rwa [Int.natAbs_natCast] at z)) h9)
theorem sgn_mul {b x : Int} : MulOk (sgn b) x := .inr (.inl (by unfold sgn; split <;> decide))
theorem len_Ratio_init : ∀ ds μ (k : KE) (e : KX), (ctI 1 c_init : Ct) ds μ k e → ds.length = 3 := by
  rintro ds μ k e ⟨xs, rfl, rfl, t, b, rfl, _⟩
  rfl
theorem v_Ratio_init : Vc_Ratio_init := by
  rintro ds μ k e ⟨xs, rfl, rfl, t, b, rfl, h0, h1⟩
  unfold t_Ratio_init N_Ratio_init t_Ratio_init_0 t_Ratio_init_0a_0 t_Ratio_init_1
  simp only [T_seq, T_dic0, T_cut, T_ret, T_asg, T_drop, T_ifS, T_next, T_var, T_c, T_nil, T_cons, T_op, T_un, T_cb, T_t, T_chain, T_and, T_or, T_not, T_andV, T_orV, T_notV, T_if, T_tup, T_lst, T_lstC, T_no, T_part, T_sl, T_slC, S_seq, S_range1, S_range2, T_lc, T_lcC, T_for, T_while, T_setIx, T_call, T_callS, T_start, T_m0, T_yes, T_asgT, vals?, pick_nil, pick_cons, setT, setAll, wipeD, List.getElem?_cons_zero, List.getElem?_cons_succ, List.set_cons_zero, List.set_cons_succ, List.cons_append, List.nil_append, List.append_nil, List.length_cons, List.length_nil, List.map_cons, List.map_nil, oIsi, oLen, oAbs, oInt, oAll, oAny, oAllF, oList, oSum, oIx, oSl, oLt, oLe, oGt, oGe, oSub, oMul, oMod, oFdiv, oPow, oAdd, oAddL, oI, oI0, oIsB, oNotB, oUpper, cellOf?, ren, oIn, oNin, oInF, Nat.reduceSub, Nat.reduceAdd, List.reduceReplicate, true_and, if_true, if_false, Bool.false_eq_true, ite_true, ite_false, eq_self, decide_true, decide_false, Bool.not_true, Bool.not_false, id, oEq, oNe, oEqF, now_val, eqD_str, eqD_int, eqD_nn, T_par, T_par3, T_fld, T_setF, T_make, T_meth, T_isi, T_raise0, T_raise1, T_try, T_tryAs, T_exf, T_asgN, setN, setNs, argsOf, oModN, oIsiI, oOwnB, oOwnE, oOwnN, oOwnG, oTup, oNeg, oI, oI0, insOf_ins, insOf_int, sub_R, rat, lk1, lk2, true_or, or_true, ne_eq, not_false_eq_true, oIntS, oStr0C, T_sm1, oSplit, oNotN, oIsN, T_cmeth]
  by_cases h : b = 0
  · subst h
    simp only [T_seq, T_dic0, T_cut, T_ret, T_asg, T_drop, T_ifS, T_next, T_var, T_c, T_nil, T_cons, T_op, T_un, T_cb, T_t, T_chain, T_and, T_or, T_not, T_andV, T_orV, T_notV, T_if, T_tup, T_lst, T_lstC, T_no, T_part, T_sl, T_slC, S_seq, S_range1, S_range2, T_lc, T_lcC, T_for, T_while, T_setIx, T_call, T_callS, T_start, T_m0, T_yes, T_asgT, vals?, pick_nil, pick_cons, setT, setAll, wipeD, List.getElem?_cons_zero, List.getElem?_cons_succ, List.set_cons_zero, List.set_cons_succ, List.cons_append, List.nil_append, List.append_nil, List.length_cons, List.length_nil, List.map_cons, List.map_nil, oIsi, oLen, oAbs, oInt, oAll, oAny, oAllF, oList, oSum, oIx, oSl, oLt, oLe, oGt, oGe, oSub, oMul, oMod, oFdiv, oPow, oAdd, oAddL, oI, oI0, oIsB, oNotB, oUpper, cellOf?, ren, oIn, oNin, oInF, Nat.reduceSub, Nat.reduceAdd, List.reduceReplicate, true_and, if_true, if_false, Bool.false_eq_true, ite_true, ite_false, eq_self, decide_true, decide_false, Bool.not_true, Bool.not_false, id, oEq, oNe, oEqF, now_val, eqD_str, eqD_int, eqD_nn, T_par, T_par3, T_fld, T_setF, T_make, T_meth, T_isi, T_raise0, T_raise1, T_try, T_tryAs, T_exf, T_asgN, setN, setNs, argsOf, oModN, oIsiI, oOwnB, oOwnE, oOwnN, oOwnG, oTup, oNeg, oI, oI0, insOf_ins, insOf_int, sub_R, rat, lk1, lk2, true_or, or_true, ne_eq, not_false_eq_true, oIntS, oStr0C, T_sm1, oSplit, oNotN, oIsN, T_cmeth]
    exact h0 rfl _
  · simp only [T_seq, T_dic0, T_cut, T_ret, T_asg, T_drop, T_ifS, T_next, T_var, T_c, T_nil, T_cons, T_op, T_un, T_cb, T_t, T_chain, T_and, T_or, T_not, T_andV, T_orV, T_notV, T_if, T_tup, T_lst, T_lstC, T_no, T_part, T_sl, T_slC, S_seq, S_range1, S_range2, T_lc, T_lcC, T_for, T_while, T_setIx, T_call, T_callS, T_start, T_m0, T_yes, T_asgT, vals?, pick_nil, pick_cons, setT, setAll, wipeD, List.getElem?_cons_zero, List.getElem?_cons_succ, List.set_cons_zero, List.set_cons_succ, List.cons_append, List.nil_append, List.append_nil, List.length_cons, List.length_nil, List.map_cons, List.map_nil, oIsi, oLen, oAbs, oInt, oAll, oAny, oAllF, oList, oSum, oIx, oSl, oLt, oLe, oGt, oGe, oSub, oMul, oMod, oFdiv, oPow, oAdd, oAddL, oI, oI0, oIsB, oNotB, oUpper, cellOf?, ren, oIn, oNin, oInF, Nat.reduceSub, Nat.reduceAdd, List.reduceReplicate, true_and, if_true, if_false, Bool.false_eq_true, ite_true, ite_false, eq_self, decide_true, decide_false, Bool.not_true, Bool.not_false, id, oEq, oNe, oEqF, now_val, eqD_str, eqD_int, eqD_nn, T_par, T_par3, T_fld, T_setF, T_make, T_meth, T_isi, T_raise0, T_raise1, T_try, T_tryAs, T_exf, T_asgN, setN, setNs, argsOf, oModN, oIsiI, oOwnB, oOwnE, oOwnN, oOwnG, oTup, oNeg, oI, oI0, insOf_ins, insOf_int, sub_R, rat, lk1, lk2, true_or, or_true, ne_eq, not_false_eq_true, oIntS, oStr0C, T_sm1, oSplit, oNotN, oIsN, T_cmeth, decide_eq_false h]
    obtain ⟨h9, h1⟩ := h1 h
    refine ⟨t, b, rfl, ?_⟩
    unfold t_Ratio_init_2 t_Ratio_init_3 t_Ratio_init_4
    simp only [T_seq, T_dic0, T_cut, T_ret, T_asg, T_drop, T_ifS, T_next, T_var, T_c, T_nil, T_cons, T_op, T_un, T_cb, T_t, T_chain, T_and, T_or, T_not, T_andV, T_orV, T_notV, T_if, T_tup, T_lst, T_lstC, T_no, T_part, T_sl, T_slC, S_seq, S_range1, S_range2, T_lc, T_lcC, T_for, T_while, T_setIx, T_call, T_callS, T_start, T_m0, T_yes, T_asgT, vals?, pick_nil, pick_cons, setT, setAll, wipeD, List.getElem?_cons_zero, List.getElem?_cons_succ, List.set_cons_zero, List.set_cons_succ, List.cons_append, List.nil_append, List.append_nil, List.length_cons, List.length_nil, List.map_cons, List.map_nil, oIsi, oLen, oAbs, oInt, oAll, oAny, oAllF, oList, oSum, oIx, oSl, oLt, oLe, oGt, oGe, oSub, oMul, oMod, oFdiv, oPow, oAdd, oAddL, oI, oI0, oIsB, oNotB, oUpper, cellOf?, ren, oIn, oNin, oInF, Nat.reduceSub, Nat.reduceAdd, List.reduceReplicate, true_and, if_true, if_false, Bool.false_eq_true, ite_true, ite_false, eq_self, decide_true, decide_false, Bool.not_true, Bool.not_false, id, oEq, oNe, oEqF, now_val, eqD_str, eqD_int, eqD_nn, T_par, T_par3, T_fld, T_setF, T_make, T_meth, T_isi, T_raise0, T_raise1, T_try, T_tryAs, T_exf, T_asgN, setN, setNs, argsOf, oModN, oIsiI, oOwnB, oOwnE, oOwnN, oOwnG, oTup, oNeg, oI, oI0, insOf_ins, insOf_int, sub_R, rat, lk1, lk2, true_or, or_true, ne_eq, not_false_eq_true, oIntS, oStr0C, T_sm1, oSplit, oNotN, oIsN, T_cmeth]
    have z := h1 []
    have d0 := low_b9 (t := t) h h9
    by_cases hb : 0 < b
    · simp only [T_seq, T_dic0, T_cut, T_ret, T_asg, T_drop, T_ifS, T_next, T_var, T_c, T_nil, T_cons, T_op, T_un, T_cb, T_t, T_chain, T_and, T_or, T_not, T_andV, T_orV, T_notV, T_if, T_tup, T_lst, T_lstC, T_no, T_part, T_sl, T_slC, S_seq, S_range1, S_range2, T_lc, T_lcC, T_for, T_while, T_setIx, T_call, T_callS, T_start, T_m0, T_yes, T_asgT, vals?, pick_nil, pick_cons, setT, setAll, wipeD, List.getElem?_cons_zero, List.getElem?_cons_succ, List.set_cons_zero, List.set_cons_succ, List.cons_append, List.nil_append, List.append_nil, List.length_cons, List.length_nil, List.map_cons, List.map_nil, oIsi, oLen, oAbs, oInt, oAll, oAny, oAllF, oList, oSum, oIx, oSl, oLt, oLe, oGt, oGe, oSub, oMul, oMod, oFdiv, oPow, oAdd, oAddL, oI, oI0, oIsB, oNotB, oUpper, cellOf?, ren, oIn, oNin, oInF, Nat.reduceSub, Nat.reduceAdd, List.reduceReplicate, true_and, if_true, if_false, Bool.false_eq_true, ite_true, ite_false, eq_self, decide_true, decide_false, Bool.not_true, Bool.not_false, id, oEq, oNe, oEqF, now_val, eqD_str, eqD_int, eqD_nn, T_par, T_par3, T_fld, T_setF, T_make, T_meth, T_isi, T_raise0, T_raise1, T_try, T_tryAs, T_exf, T_asgN, setN, setNs, argsOf, oModN, oIsiI, oOwnB, oOwnE, oOwnN, oOwnG, oTup, oNeg, oI, oI0, insOf_ins, insOf_int, sub_R, rat, lk1, lk2, true_or, or_true, ne_eq, not_false_eq_true, oIntS, oStr0C, T_sm1, oSplit, oNotN, oIsN, T_cmeth, decide_eq_true hb]
      have z : k (.val .non) [.ins 1 [("top", .val (.int (low t b).1)), ("bottom", .val (.int (low t b).2))]] := z
      unfold low sgn at z
      rw [if_pos hb] at z
      exact ⟨.inr (.inl (by decide)), d0, by decide, .inr (.inl (by decide)), d0, (by decide : 1 < 900), z⟩
    · simp only [T_seq, T_dic0, T_cut, T_ret, T_asg, T_drop, T_ifS, T_next, T_var, T_c, T_nil, T_cons, T_op, T_un, T_cb, T_t, T_chain, T_and, T_or, T_not, T_andV, T_orV, T_notV, T_if, T_tup, T_lst, T_lstC, T_no, T_part, T_sl, T_slC, S_seq, S_range1, S_range2, T_lc, T_lcC, T_for, T_while, T_setIx, T_call, T_callS, T_start, T_m0, T_yes, T_asgT, vals?, pick_nil, pick_cons, setT, setAll, wipeD, List.getElem?_cons_zero, List.getElem?_cons_succ, List.set_cons_zero, List.set_cons_succ, List.cons_append, List.nil_append, List.append_nil, List.length_cons, List.length_nil, List.map_cons, List.map_nil, oIsi, oLen, oAbs, oInt, oAll, oAny, oAllF, oList, oSum, oIx, oSl, oLt, oLe, oGt, oGe, oSub, oMul, oMod, oFdiv, oPow, oAdd, oAddL, oI, oI0, oIsB, oNotB, oUpper, cellOf?, ren, oIn, oNin, oInF, Nat.reduceSub, Nat.reduceAdd, List.reduceReplicate, true_and, if_true, if_false, Bool.false_eq_true, ite_true, ite_false, eq_self, decide_true, decide_false, Bool.not_true, Bool.not_false, id, oEq, oNe, oEqF, now_val, eqD_str, eqD_int, eqD_nn, T_par, T_par3, T_fld, T_setF, T_make, T_meth, T_isi, T_raise0, T_raise1, T_try, T_tryAs, T_exf, T_asgN, setN, setNs, argsOf, oModN, oIsiI, oOwnB, oOwnE, oOwnN, oOwnG, oTup, oNeg, oI, oI0, insOf_ins, insOf_int, sub_R, rat, lk1, lk2, true_or, or_true, ne_eq, not_false_eq_true, oIntS, oStr0C, T_sm1, oSplit, oNotN, oIsN, T_cmeth, decide_eq_false hb]
      have z : k (.val .non) [.ins 1 [("top", .val (.int (low t b).1)), ("bottom", .val (.int (low t b).2))]] := z
      unfold low sgn at z
      rw [if_neg hb] at z
      exact ⟨.inr (.inl (by decide)), d0, by decide, .inr (.inl (by decide)), d0, (by decide : 1 < 900), z⟩
theorem len_as_ratio : ∀ ds μ (k : KE) (e : KX), (ctP c_as_ratio : Ct) ds μ k e → ds.length = 1 := by
  rintro ds μ k e ⟨rfl, xs, rfl, d, rfl, _⟩
  rfl
theorem init1 {i : Int} {Q : List (Str × D) → Prop} {E : Exn → Prop} (h : Q [("top", .int i), ("bottom", .int 1)]) : c_init [.int i, .int 1] Q E := ⟨i, 1, rfl, (fun z => by cases z), fun _ => ⟨by decide, by rw [low_one]; exact h⟩⟩
theorem init_ok {t b : Int} {Q : List (Str × D) → Prop} {E : Exn → Prop} (h : b ≠ 0) (h9 : b.natAbs < 2 ^ 9000) (hq : Q [("top", .int (low t b).1), ("bottom", .int (low t b).2)]) : c_init [.int t, .int b] Q E := ⟨t, b, rfl, fun z => absurd z h, fun _ => ⟨h9, hq⟩⟩
theorem v_as_ratio : Vc_as_ratio := vcP fun xs k e h => by
  obtain ⟨d, rfl, hd⟩ := h
  unfold t_as_ratio N_as_ratio t_as_ratio_0 t_as_ratio_0a_0
  rcases hd with ⟨a, t, b, rfl, hk⟩ | ⟨i, rfl, hk⟩ | ⟨⟨⟨t, ht⟩, hi⟩, he⟩
  · simp only [T_seq, T_dic0, T_cut, T_ret, T_asg, T_drop, T_ifS, T_next, T_var, T_c, T_nil, T_cons, T_op, T_un, T_cb, T_t, T_chain, T_and, T_or, T_not, T_andV, T_orV, T_notV, T_if, T_tup, T_lst, T_lstC, T_no, T_part, T_sl, T_slC, S_seq, S_range1, S_range2, T_lc, T_lcC, T_for, T_while, T_setIx, T_call, T_callS, T_start, T_m0, T_yes, T_asgT, vals?, pick_nil, pick_cons, setT, setAll, wipeD, List.getElem?_cons_zero, List.getElem?_cons_succ, List.set_cons_zero, List.set_cons_succ, List.cons_append, List.nil_append, List.append_nil, List.length_cons, List.length_nil, List.map_cons, List.map_nil, oIsi, oLen, oAbs, oInt, oAll, oAny, oAllF, oList, oSum, oIx, oSl, oLt, oLe, oGt, oGe, oSub, oMul, oMod, oFdiv, oPow, oAdd, oAddL, oI, oI0, oIsB, oNotB, oUpper, cellOf?, ren, oIn, oNin, oInF, Nat.reduceSub, Nat.reduceAdd, List.reduceReplicate, true_and, if_true, if_false, Bool.false_eq_true, ite_true, ite_false, eq_self, decide_true, decide_false, Bool.not_true, Bool.not_false, id, oEq, oNe, oEqF, now_val, eqD_str, eqD_int, eqD_nn, T_par, T_par3, T_fld, T_setF, T_make, T_meth, T_isi, T_raise0, T_raise1, T_try, T_tryAs, T_exf, T_asgN, setN, setNs, argsOf, oModN, oIsiI, oOwnB, oOwnE, oOwnN, oOwnG, oTup, oNeg, oI, oI0, insOf_ins, insOf_int, sub_R, rat, lk1, lk2, true_or, or_true, ne_eq, not_false_eq_true, oIntS, oStr0C, T_sm1, oSplit, oNotN, oIsN, T_cmeth]
    exact hk []
  · simp only [T_seq, T_dic0, T_cut, T_ret, T_asg, T_drop, T_ifS, T_next, T_var, T_c, T_nil, T_cons, T_op, T_un, T_cb, T_t, T_chain, T_and, T_or, T_not, T_andV, T_orV, T_notV, T_if, T_tup, T_lst, T_lstC, T_no, T_part, T_sl, T_slC, S_seq, S_range1, S_range2, T_lc, T_lcC, T_for, T_while, T_setIx, T_call, T_callS, T_start, T_m0, T_yes, T_asgT, vals?, pick_nil, pick_cons, setT, setAll, wipeD, List.getElem?_cons_zero, List.getElem?_cons_succ, List.set_cons_zero, List.set_cons_succ, List.cons_append, List.nil_append, List.append_nil, List.length_cons, List.length_nil, List.map_cons, List.map_nil, oIsi, oLen, oAbs, oInt, oAll, oAny, oAllF, oList, oSum, oIx, oSl, oLt, oLe, oGt, oGe, oSub, oMul, oMod, oFdiv, oPow, oAdd, oAddL, oI, oI0, oIsB, oNotB, oUpper, cellOf?, ren, oIn, oNin, oInF, Nat.reduceSub, Nat.reduceAdd, List.reduceReplicate, true_and, if_true, if_false, Bool.false_eq_true, ite_true, ite_false, eq_self, decide_true, decide_false, Bool.not_true, Bool.not_false, id, oEq, oNe, oEqF, now_val, eqD_str, eqD_int, eqD_nn, T_par, T_par3, T_fld, T_setF, T_make, T_meth, T_isi, T_raise0, T_raise1, T_try, T_tryAs, T_exf, T_asgN, setN, setNs, argsOf, oModN, oIsiI, oOwnB, oOwnE, oOwnN, oOwnG, oTup, oNeg, oI, oI0, insOf_ins, insOf_int, sub_R, rat, lk1, lk2, true_or, or_true, ne_eq, not_false_eq_true, oIntS, oStr0C, T_sm1, oSplit, oNotN, oIsN, T_cmeth]
    refine ⟨⟨_, rfl⟩, ?_⟩
    unfold t_as_ratio_1 t_as_ratio_1a_0
    simp only [T_seq, T_dic0, T_cut, T_ret, T_asg, T_drop, T_ifS, T_next, T_var, T_c, T_nil, T_cons, T_op, T_un, T_cb, T_t, T_chain, T_and, T_or, T_not, T_andV, T_orV, T_notV, T_if, T_tup, T_lst, T_lstC, T_no, T_part, T_sl, T_slC, S_seq, S_range1, S_range2, T_lc, T_lcC, T_for, T_while, T_setIx, T_call, T_callS, T_start, T_m0, T_yes, T_asgT, vals?, pick_nil, pick_cons, setT, setAll, wipeD, List.getElem?_cons_zero, List.getElem?_cons_succ, List.set_cons_zero, List.set_cons_succ, List.cons_append, List.nil_append, List.append_nil, List.length_cons, List.length_nil, List.map_cons, List.map_nil, oIsi, oLen, oAbs, oInt, oAll, oAny, oAllF, oList, oSum, oIx, oSl, oLt, oLe, oGt, oGe, oSub, oMul, oMod, oFdiv, oPow, oAdd, oAddL, oI, oI0, oIsB, oNotB, oUpper, cellOf?, ren, oIn, oNin, oInF, Nat.reduceSub, Nat.reduceAdd, List.reduceReplicate, true_and, if_true, if_false, Bool.false_eq_true, ite_true, ite_false, eq_self, decide_true, decide_false, Bool.not_true, Bool.not_false, id, oEq, oNe, oEqF, now_val, eqD_str, eqD_int, eqD_nn, T_par, T_par3, T_fld, T_setF, T_make, T_meth, T_isi, T_raise0, T_raise1, T_try, T_tryAs, T_exf, T_asgN, setN, setNs, argsOf, oModN, oIsiI, oOwnB, oOwnE, oOwnN, oOwnG, oTup, oNeg, oI, oI0, insOf_ins, insOf_int, sub_R, rat, lk1, lk2, true_or, or_true, ne_eq, not_false_eq_true, oIntS, oStr0C, T_sm1, oSplit, oNotN, oIsN, T_cmeth]
    refine ⟨_, rfl, .inl ⟨_, rfl⟩, ?_⟩
    unfold t_as_ratio_2
    simp only [T_seq, T_dic0, T_cut, T_ret, T_asg, T_drop, T_ifS, T_next, T_var, T_c, T_nil, T_cons, T_op, T_un, T_cb, T_t, T_chain, T_and, T_or, T_not, T_andV, T_orV, T_notV, T_if, T_tup, T_lst, T_lstC, T_no, T_part, T_sl, T_slC, S_seq, S_range1, S_range2, T_lc, T_lcC, T_for, T_while, T_setIx, T_call, T_callS, T_start, T_m0, T_yes, T_asgT, vals?, pick_nil, pick_cons, setT, setAll, wipeD, List.getElem?_cons_zero, List.getElem?_cons_succ, List.set_cons_zero, List.set_cons_succ, List.cons_append, List.nil_append, List.append_nil, List.length_cons, List.length_nil, List.map_cons, List.map_nil, oIsi, oLen, oAbs, oInt, oAll, oAny, oAllF, oList, oSum, oIx, oSl, oLt, oLe, oGt, oGe, oSub, oMul, oMod, oFdiv, oPow, oAdd, oAddL, oI, oI0, oIsB, oNotB, oUpper, cellOf?, ren, oIn, oNin, oInF, Nat.reduceSub, Nat.reduceAdd, List.reduceReplicate, true_and, if_true, if_false, Bool.false_eq_true, ite_true, ite_false, eq_self, decide_true, decide_false, Bool.not_true, Bool.not_false, id, oEq, oNe, oEqF, now_val, eqD_str, eqD_int, eqD_nn, T_par, T_par3, T_fld, T_setF, T_make, T_meth, T_isi, T_raise0, T_raise1, T_try, T_tryAs, T_exf, T_asgN, setN, setNs, argsOf, oModN, oIsiI, oOwnB, oOwnE, oOwnN, oOwnG, oTup, oNeg, oI, oI0, insOf_ins, insOf_int, sub_R, rat, lk1, lk2, true_or, or_true, ne_eq, not_false_eq_true, oIntS, oStr0C, T_sm1, oSplit, oNotN, oIsN, T_cmeth, isI]
    exact init1 fun a => hk a []
  · simp only [T_seq, T_dic0, T_cut, T_ret, T_asg, T_drop, T_ifS, T_next, T_var, T_c, T_nil, T_cons, T_op, T_un, T_cb, T_t, T_chain, T_and, T_or, T_not, T_andV, T_orV, T_notV, T_if, T_tup, T_lst, T_lstC, T_no, T_part, T_sl, T_slC, S_seq, S_range1, S_range2, T_lc, T_lcC, T_for, T_while, T_setIx, T_call, T_callS, T_start, T_m0, T_yes, T_asgT, vals?, pick_nil, pick_cons, setT, setAll, wipeD, List.getElem?_cons_zero, List.getElem?_cons_succ, List.set_cons_zero, List.set_cons_succ, List.cons_append, List.nil_append, List.append_nil, List.length_cons, List.length_nil, List.map_cons, List.map_nil, oIsi, oLen, oAbs, oInt, oAll, oAny, oAllF, oList, oSum, oIx, oSl, oLt, oLe, oGt, oGe, oSub, oMul, oMod, oFdiv, oPow, oAdd, oAddL, oI, oI0, oIsB, oNotB, oUpper, cellOf?, ren, oIn, oNin, oInF, Nat.reduceSub, Nat.reduceAdd, List.reduceReplicate, true_and, if_true, if_false, Bool.false_eq_true, ite_true, ite_false, eq_self, decide_true, decide_false, Bool.not_true, Bool.not_false, id, oEq, oNe, oEqF, now_val, eqD_str, eqD_int, eqD_nn, T_par, T_par3, T_fld, T_setF, T_make, T_meth, T_isi, T_raise0, T_raise1, T_try, T_tryAs, T_exf, T_asgN, setN, setNs, argsOf, oModN, oIsiI, oOwnB, oOwnE, oOwnN, oOwnG, oTup, oNeg, oI, oI0, insOf_ins, insOf_int, sub_R, rat, lk1, lk2, true_or, or_true, ne_eq, not_false_eq_true, oIntS, oStr0C, T_sm1, oSplit, oNotN, oIsN, T_cmeth, insOf_none ht]
    refine ⟨⟨_, ht⟩, ?_⟩
    unfold t_as_ratio_1 t_as_ratio_1a_0
    simp only [T_seq, T_dic0, T_cut, T_ret, T_asg, T_drop, T_ifS, T_next, T_var, T_c, T_nil, T_cons, T_op, T_un, T_cb, T_t, T_chain, T_and, T_or, T_not, T_andV, T_orV, T_notV, T_if, T_tup, T_lst, T_lstC, T_no, T_part, T_sl, T_slC, S_seq, S_range1, S_range2, T_lc, T_lcC, T_for, T_while, T_setIx, T_call, T_callS, T_start, T_m0, T_yes, T_asgT, vals?, pick_nil, pick_cons, setT, setAll, wipeD, List.getElem?_cons_zero, List.getElem?_cons_succ, List.set_cons_zero, List.set_cons_succ, List.cons_append, List.nil_append, List.append_nil, List.length_cons, List.length_nil, List.map_cons, List.map_nil, oIsi, oLen, oAbs, oInt, oAll, oAny, oAllF, oList, oSum, oIx, oSl, oLt, oLe, oGt, oGe, oSub, oMul, oMod, oFdiv, oPow, oAdd, oAddL, oI, oI0, oIsB, oNotB, oUpper, cellOf?, ren, oIn, oNin, oInF, Nat.reduceSub, Nat.reduceAdd, List.reduceReplicate, true_and, if_true, if_false, Bool.false_eq_true, ite_true, ite_false, eq_self, decide_true, decide_false, Bool.not_true, Bool.not_false, id, oEq, oNe, oEqF, now_val, eqD_str, eqD_int, eqD_nn, T_par, T_par3, T_fld, T_setF, T_make, T_meth, T_isi, T_raise0, T_raise1, T_try, T_tryAs, T_exf, T_asgN, setN, setNs, argsOf, oModN, oIsiI, oOwnB, oOwnE, oOwnN, oOwnG, oTup, oNeg, oI, oI0, insOf_ins, insOf_int, sub_R, rat, lk1, lk2, true_or, or_true, ne_eq, not_false_eq_true, oIntS, oStr0C, T_sm1, oSplit, oNotN, oIsN, T_cmeth]
    refine ⟨_, rfl, .inl ⟨_, ht⟩, ?_⟩
    simp only [T_seq, T_dic0, T_cut, T_ret, T_asg, T_drop, T_ifS, T_next, T_var, T_c, T_nil, T_cons, T_op, T_un, T_cb, T_t, T_chain, T_and, T_or, T_not, T_andV, T_orV, T_notV, T_if, T_tup, T_lst, T_lstC, T_no, T_part, T_sl, T_slC, S_seq, S_range1, S_range2, T_lc, T_lcC, T_for, T_while, T_setIx, T_call, T_callS, T_start, T_m0, T_yes, T_asgT, vals?, pick_nil, pick_cons, setT, setAll, wipeD, List.getElem?_cons_zero, List.getElem?_cons_succ, List.set_cons_zero, List.set_cons_succ, List.cons_append, List.nil_append, List.append_nil, List.length_cons, List.length_nil, List.map_cons, List.map_nil, oIsi, oLen, oAbs, oInt, oAll, oAny, oAllF, oList, oSum, oIx, oSl, oLt, oLe, oGt, oGe, oSub, oMul, oMod, oFdiv, oPow, oAdd, oAddL, oI, oI0, oIsB, oNotB, oUpper, cellOf?, ren, oIn, oNin, oInF, Nat.reduceSub, Nat.reduceAdd, List.reduceReplicate, true_and, if_true, if_false, Bool.false_eq_true, ite_true, ite_false, eq_self, decide_true, decide_false, Bool.not_true, Bool.not_false, id, oEq, oNe, oEqF, now_val, eqD_str, eqD_int, eqD_nn, T_par, T_par3, T_fld, T_setF, T_make, T_meth, T_isi, T_raise0, T_raise1, T_try, T_tryAs, T_exf, T_asgN, setN, setNs, argsOf, oModN, oIsiI, oOwnB, oOwnE, oOwnN, oOwnG, oTup, oNeg, oI, oI0, insOf_ins, insOf_int, sub_R, rat, lk1, lk2, true_or, or_true, ne_eq, not_false_eq_true, oIntS, oStr0C, T_sm1, oSplit, oNotN, oIsN, T_cmeth, hi]
    exact he []
theorem b4_log {i : Int} (h : B4 i) : i.natAbs.log2 < 4000 := by
  by_cases z : i.natAbs = 0
  · rw [z]; decide
  · exact (Nat.log2_lt z).mpr h
theorem mul4 {i j : Int} (h : B4 i) (h' : B4 j) : MulOk i j := .inl (by
  have := b4_log h
  have := b4_log h'
  show _ + _ < 1000000
  omega)
theorem b4_9 {i : Int} (h : B4 i) : i.natAbs < 2 ^ 9000 := Nat.lt_of_lt_of_le h (Nat.pow_le_pow_right (by decide) (by decide))
theorem mul9 {i j : Int} (h : B4 i) (h' : B4 j) : (i * j).natAbs < 2 ^ 9000 := by
  rw [Int.natAbs_mul]
  have h1 : i.natAbs * j.natAbs < 2 ^ 4000 * 2 ^ 4000 := Nat.mul_lt_mul'' h h'
  rw [← Nat.pow_add] at h1
  exact Nat.lt_of_lt_of_le h1 (Nat.pow_le_pow_right (by decide) (by decide))
theorem as_num {d : D} {u v : Int} {Q : D → Prop} {E : Exn → Prop} (h : NumD d u v) (hq : ∀ a, Q (rat a u v)) : c_as_ratio [d] Q E := by
  cases h with
  | int => exact ⟨_, rfl, .inr (.inl ⟨_, rfl, hq⟩)⟩
  | rat a _ _ h => exact ⟨_, rfl, .inl ⟨a, _, _, rfl, hq a⟩⟩
theorem num_ok {d : D} {u v : Int} (h : NumD d u v) : (∃ t, d.kind = some t) ∨ ∃ a fs, d = .ins a 1 fs := by
  cases h with
  | int => exact .inl ⟨_, rfl⟩
  | rat a _ _ h => exact .inr ⟨a, _, rfl⟩
theorem num_ins {d : D} {u v : Int} (h : NumD d u v) : d.insOf = some 1 ∨ ∃ i, d = .int i := by
  cases h with
  | int => exact .inr ⟨_, rfl⟩
  | rat => exact .inl rfl
theorem num_isN {d : D} {u v : Int} (h : NumD d u v) : isN d = true := by
  cases h <;> rfl
theorem isN_plain {d : D} {t : String} (ht : d.kind = some t) (hi : isI d = false) : isN d = false := by
  cases d <;> first | rfl | (cases ht; done) | (cases hi; done)
theorem len_Ratio_mul : ∀ ds μ (k : KE) (e : KX), (ctP c_mul : Ct) ds μ k e → ds.length = 2 := by
  rintro ds μ k e ⟨rfl, xs, rfl, a, t, b, d, u, v, rfl, _⟩
  rfl
theorem v_Ratio_mul : Vc_Ratio_mul := vcP fun xs k e h => by
  obtain ⟨a, t, b, d, u, v, rfl, hd, hb, hv, q1, q2, q3, q4, hk⟩ := h
  unfold t_Ratio_mul N_Ratio_mul t_Ratio_mul_0
  simp only [T_seq, T_dic0, T_cut, T_ret, T_asg, T_drop, T_ifS, T_next, T_var, T_c, T_nil, T_cons, T_op, T_un, T_cb, T_t, T_chain, T_and, T_or, T_not, T_andV, T_orV, T_notV, T_if, T_tup, T_lst, T_lstC, T_no, T_part, T_sl, T_slC, S_seq, S_range1, S_range2, T_lc, T_lcC, T_for, T_while, T_setIx, T_call, T_callS, T_start, T_m0, T_yes, T_asgT, vals?, pick_nil, pick_cons, setT, setAll, wipeD, List.getElem?_cons_zero, List.getElem?_cons_succ, List.set_cons_zero, List.set_cons_succ, List.cons_append, List.nil_append, List.append_nil, List.length_cons, List.length_nil, List.map_cons, List.map_nil, oIsi, oLen, oAbs, oInt, oAll, oAny, oAllF, oList, oSum, oIx, oSl, oLt, oLe, oGt, oGe, oSub, oMul, oMod, oFdiv, oPow, oAdd, oAddL, oI, oI0, oIsB, oNotB, oUpper, cellOf?, ren, oIn, oNin, oInF, Nat.reduceSub, Nat.reduceAdd, List.reduceReplicate, true_and, if_true, if_false, Bool.false_eq_true, ite_true, ite_false, eq_self, decide_true, decide_false, Bool.not_true, Bool.not_false, id, oEq, oNe, oEqF, now_val, eqD_str, eqD_int, eqD_nn, T_par, T_par3, T_fld, T_setF, T_make, T_meth, T_isi, T_raise0, T_raise1, T_try, T_tryAs, T_exf, T_asgN, setN, setNs, argsOf, oModN, oIsiI, oOwnB, oOwnE, oOwnN, oOwnG, oTup, oNeg, oI, oI0, insOf_ins, insOf_int, sub_R, rat, lk1, lk2, true_or, or_true, ne_eq, not_false_eq_true, oIntS, oStr0C, T_sm1, oSplit, oNotN, oIsN, T_cmeth]
  refine as_num hd fun a' => ?_
  unfold t_Ratio_mul_1
  simp only [T_seq, T_dic0, T_cut, T_ret, T_asg, T_drop, T_ifS, T_next, T_var, T_c, T_nil, T_cons, T_op, T_un, T_cb, T_t, T_chain, T_and, T_or, T_not, T_andV, T_orV, T_notV, T_if, T_tup, T_lst, T_lstC, T_no, T_part, T_sl, T_slC, S_seq, S_range1, S_range2, T_lc, T_lcC, T_for, T_while, T_setIx, T_call, T_callS, T_start, T_m0, T_yes, T_asgT, vals?, pick_nil, pick_cons, setT, setAll, wipeD, List.getElem?_cons_zero, List.getElem?_cons_succ, List.set_cons_zero, List.set_cons_succ, List.cons_append, List.nil_append, List.append_nil, List.length_cons, List.length_nil, List.map_cons, List.map_nil, oIsi, oLen, oAbs, oInt, oAll, oAny, oAllF, oList, oSum, oIx, oSl, oLt, oLe, oGt, oGe, oSub, oMul, oMod, oFdiv, oPow, oAdd, oAddL, oI, oI0, oIsB, oNotB, oUpper, cellOf?, ren, oIn, oNin, oInF, Nat.reduceSub, Nat.reduceAdd, List.reduceReplicate, true_and, if_true, if_false, Bool.false_eq_true, ite_true, ite_false, eq_self, decide_true, decide_false, Bool.not_true, Bool.not_false, id, oEq, oNe, oEqF, now_val, eqD_str, eqD_int, eqD_nn, T_par, T_par3, T_fld, T_setF, T_make, T_meth, T_isi, T_raise0, T_raise1, T_try, T_tryAs, T_exf, T_asgN, setN, setNs, argsOf, oModN, oIsiI, oOwnB, oOwnE, oOwnN, oOwnG, oTup, oNeg, oI, oI0, insOf_ins, insOf_int, sub_R, rat, lk1, lk2, true_or, or_true, ne_eq, not_false_eq_true, oIntS, oStr0C, T_sm1, oSplit, oNotN, oIsN, T_cmeth]
  exact ⟨mul4 q1 q3, mul4 q2 q4, init_ok (by have := Int.mul_pos hb hv; omega) (mul9 q2 q4) fun a => hk a []⟩
theorem len_Ratio_eq : ∀ ds μ (k : KE) (e : KX), (ctP c_eq : Ct) ds μ k e → ds.length = 2 := by
  rintro ds μ k e ⟨rfl, xs, rfl, a, t, b, d, rfl, _⟩
  rfl
theorem v_Ratio_eq : Vc_Ratio_eq := vcP fun xs k e h => by
  obtain ⟨a, t, b, d, rfl, hd⟩ := h
  unfold t_Ratio_eq N_Ratio_eq t_Ratio_eq_0
  rcases hd with ⟨u, v, hd, hk⟩ | ⟨⟨⟨ty, ht⟩, hi⟩, hk⟩
  · cases hd with
    | int i =>
      simp only [T_seq, T_dic0, T_cut, T_ret, T_asg, T_drop, T_ifS, T_next, T_var, T_c, T_nil, T_cons, T_op, T_un, T_cb, T_t, T_chain, T_and, T_or, T_not, T_andV, T_orV, T_notV, T_if, T_tup, T_lst, T_lstC, T_no, T_part, T_sl, T_slC, S_seq, S_range1, S_range2, T_lc, T_lcC, T_for, T_while, T_setIx, T_call, T_callS, T_start, T_m0, T_yes, T_asgT, vals?, pick_nil, pick_cons, setT, setAll, wipeD, List.getElem?_cons_zero, List.getElem?_cons_succ, List.set_cons_zero, List.set_cons_succ, List.cons_append, List.nil_append, List.append_nil, List.length_cons, List.length_nil, List.map_cons, List.map_nil, oIsi, oLen, oAbs, oInt, oAll, oAny, oAllF, oList, oSum, oIx, oSl, oLt, oLe, oGt, oGe, oSub, oMul, oMod, oFdiv, oPow, oAdd, oAddL, oI, oI0, oIsB, oNotB, oUpper, cellOf?, ren, oIn, oNin, oInF, Nat.reduceSub, Nat.reduceAdd, List.reduceReplicate, true_and, if_true, if_false, Bool.false_eq_true, ite_true, ite_false, eq_self, decide_true, decide_false, Bool.not_true, Bool.not_false, id, oEq, oNe, oEqF, now_val, eqD_str, eqD_int, eqD_nn, T_par, T_par3, T_fld, T_setF, T_make, T_meth, T_isi, T_raise0, T_raise1, T_try, T_tryAs, T_exf, T_asgN, setN, setNs, argsOf, oModN, oIsiI, oOwnB, oOwnE, oOwnN, oOwnG, oTup, oNeg, oI, oI0, insOf_ins, insOf_int, sub_R, rat, lk1, lk2, true_or, or_true, ne_eq, not_false_eq_true, oIntS, oStr0C, T_sm1, oSplit, oNotN, oIsN, T_cmeth]
      refine ⟨⟨_, rfl⟩, ?_⟩
      unfold t_Ratio_eq_1
      simp only [T_seq, T_dic0, T_cut, T_ret, T_asg, T_drop, T_ifS, T_next, T_var, T_c, T_nil, T_cons, T_op, T_un, T_cb, T_t, T_chain, T_and, T_or, T_not, T_andV, T_orV, T_notV, T_if, T_tup, T_lst, T_lstC, T_no, T_part, T_sl, T_slC, S_seq, S_range1, S_range2, T_lc, T_lcC, T_for, T_while, T_setIx, T_call, T_callS, T_start, T_m0, T_yes, T_asgT, vals?, pick_nil, pick_cons, setT, setAll, wipeD, List.getElem?_cons_zero, List.getElem?_cons_succ, List.set_cons_zero, List.set_cons_succ, List.cons_append, List.nil_append, List.append_nil, List.length_cons, List.length_nil, List.map_cons, List.map_nil, oIsi, oLen, oAbs, oInt, oAll, oAny, oAllF, oList, oSum, oIx, oSl, oLt, oLe, oGt, oGe, oSub, oMul, oMod, oFdiv, oPow, oAdd, oAddL, oI, oI0, oIsB, oNotB, oUpper, cellOf?, ren, oIn, oNin, oInF, Nat.reduceSub, Nat.reduceAdd, List.reduceReplicate, true_and, if_true, if_false, Bool.false_eq_true, ite_true, ite_false, eq_self, decide_true, decide_false, Bool.not_true, Bool.not_false, id, oEq, oNe, oEqF, now_val, eqD_str, eqD_int, eqD_nn, T_par, T_par3, T_fld, T_setF, T_make, T_meth, T_isi, T_raise0, T_raise1, T_try, T_tryAs, T_exf, T_asgN, setN, setNs, argsOf, oModN, oIsiI, oOwnB, oOwnE, oOwnN, oOwnG, oTup, oNeg, oI, oI0, insOf_ins, insOf_int, sub_R, rat, lk1, lk2, true_or, or_true, ne_eq, not_false_eq_true, oIntS, oStr0C, T_sm1, oSplit, oNotN, oIsN, T_cmeth]
      refine ⟨_, rfl, .inl ⟨_, rfl⟩, ?_⟩
      simp only [T_seq, T_dic0, T_cut, T_ret, T_asg, T_drop, T_ifS, T_next, T_var, T_c, T_nil, T_cons, T_op, T_un, T_cb, T_t, T_chain, T_and, T_or, T_not, T_andV, T_orV, T_notV, T_if, T_tup, T_lst, T_lstC, T_no, T_part, T_sl, T_slC, S_seq, S_range1, S_range2, T_lc, T_lcC, T_for, T_while, T_setIx, T_call, T_callS, T_start, T_m0, T_yes, T_asgT, vals?, pick_nil, pick_cons, setT, setAll, wipeD, List.getElem?_cons_zero, List.getElem?_cons_succ, List.set_cons_zero, List.set_cons_succ, List.cons_append, List.nil_append, List.append_nil, List.length_cons, List.length_nil, List.map_cons, List.map_nil, oIsi, oLen, oAbs, oInt, oAll, oAny, oAllF, oList, oSum, oIx, oSl, oLt, oLe, oGt, oGe, oSub, oMul, oMod, oFdiv, oPow, oAdd, oAddL, oI, oI0, oIsB, oNotB, oUpper, cellOf?, ren, oIn, oNin, oInF, Nat.reduceSub, Nat.reduceAdd, List.reduceReplicate, true_and, if_true, if_false, Bool.false_eq_true, ite_true, ite_false, eq_self, decide_true, decide_false, Bool.not_true, Bool.not_false, id, oEq, oNe, oEqF, now_val, eqD_str, eqD_int, eqD_nn, T_par, T_par3, T_fld, T_setF, T_make, T_meth, T_isi, T_raise0, T_raise1, T_try, T_tryAs, T_exf, T_asgN, setN, setNs, argsOf, oModN, oIsiI, oOwnB, oOwnE, oOwnN, oOwnG, oTup, oNeg, oI, oI0, insOf_ins, insOf_int, sub_R, rat, lk1, lk2, true_or, or_true, ne_eq, not_false_eq_true, oIntS, oStr0C, T_sm1, oSplit, oNotN, oIsN, T_cmeth, isI]
      have z := hk []
      by_cases h : b = 1
      · simp only [T_seq, T_dic0, T_cut, T_ret, T_asg, T_drop, T_ifS, T_next, T_var, T_c, T_nil, T_cons, T_op, T_un, T_cb, T_t, T_chain, T_and, T_or, T_not, T_andV, T_orV, T_notV, T_if, T_tup, T_lst, T_lstC, T_no, T_part, T_sl, T_slC, S_seq, S_range1, S_range2, T_lc, T_lcC, T_for, T_while, T_setIx, T_call, T_callS, T_start, T_m0, T_yes, T_asgT, vals?, pick_nil, pick_cons, setT, setAll, wipeD, List.getElem?_cons_zero, List.getElem?_cons_succ, List.set_cons_zero, List.set_cons_succ, List.cons_append, List.nil_append, List.append_nil, List.length_cons, List.length_nil, List.map_cons, List.map_nil, oIsi, oLen, oAbs, oInt, oAll, oAny, oAllF, oList, oSum, oIx, oSl, oLt, oLe, oGt, oGe, oSub, oMul, oMod, oFdiv, oPow, oAdd, oAddL, oI, oI0, oIsB, oNotB, oUpper, cellOf?, ren, oIn, oNin, oInF, Nat.reduceSub, Nat.reduceAdd, List.reduceReplicate, true_and, if_true, if_false, Bool.false_eq_true, ite_true, ite_false, eq_self, decide_true, decide_false, Bool.not_true, Bool.not_false, id, oEq, oNe, oEqF, now_val, eqD_str, eqD_int, eqD_nn, T_par, T_par3, T_fld, T_setF, T_make, T_meth, T_isi, T_raise0, T_raise1, T_try, T_tryAs, T_exf, T_asgN, setN, setNs, argsOf, oModN, oIsiI, oOwnB, oOwnE, oOwnN, oOwnG, oTup, oNeg, oI, oI0, insOf_ins, insOf_int, sub_R, rat, lk1, lk2, true_or, or_true, ne_eq, not_false_eq_true, oIntS, oStr0C, T_sm1, oSplit, oNotN, oIsN, T_cmeth, decide_eq_true h]
        rw [decide_eq_true h, Bool.and_true] at z
        exact z
      · simp only [T_seq, T_dic0, T_cut, T_ret, T_asg, T_drop, T_ifS, T_next, T_var, T_c, T_nil, T_cons, T_op, T_un, T_cb, T_t, T_chain, T_and, T_or, T_not, T_andV, T_orV, T_notV, T_if, T_tup, T_lst, T_lstC, T_no, T_part, T_sl, T_slC, S_seq, S_range1, S_range2, T_lc, T_lcC, T_for, T_while, T_setIx, T_call, T_callS, T_start, T_m0, T_yes, T_asgT, vals?, pick_nil, pick_cons, setT, setAll, wipeD, List.getElem?_cons_zero, List.getElem?_cons_succ, List.set_cons_zero, List.set_cons_succ, List.cons_append, List.nil_append, List.append_nil, List.length_cons, List.length_nil, List.map_cons, List.map_nil, oIsi, oLen, oAbs, oInt, oAll, oAny, oAllF, oList, oSum, oIx, oSl, oLt, oLe, oGt, oGe, oSub, oMul, oMod, oFdiv, oPow, oAdd, oAddL, oI, oI0, oIsB, oNotB, oUpper, cellOf?, ren, oIn, oNin, oInF, Nat.reduceSub, Nat.reduceAdd, List.reduceReplicate, true_and, if_true, if_false, Bool.false_eq_true, ite_true, ite_false, eq_self, decide_true, decide_false, Bool.not_true, Bool.not_false, id, oEq, oNe, oEqF, now_val, eqD_str, eqD_int, eqD_nn, T_par, T_par3, T_fld, T_setF, T_make, T_meth, T_isi, T_raise0, T_raise1, T_try, T_tryAs, T_exf, T_asgN, setN, setNs, argsOf, oModN, oIsiI, oOwnB, oOwnE, oOwnN, oOwnG, oTup, oNeg, oI, oI0, insOf_ins, insOf_int, sub_R, rat, lk1, lk2, true_or, or_true, ne_eq, not_false_eq_true, oIntS, oStr0C, T_sm1, oSplit, oNotN, oIsN, T_cmeth, decide_eq_false h]
        rw [decide_eq_false h, Bool.and_false] at z
        exact z
    | rat a' u v hv =>
      simp only [T_seq, T_dic0, T_cut, T_ret, T_asg, T_drop, T_ifS, T_next, T_var, T_c, T_nil, T_cons, T_op, T_un, T_cb, T_t, T_chain, T_and, T_or, T_not, T_andV, T_orV, T_notV, T_if, T_tup, T_lst, T_lstC, T_no, T_part, T_sl, T_slC, S_seq, S_range1, S_range2, T_lc, T_lcC, T_for, T_while, T_setIx, T_call, T_callS, T_start, T_m0, T_yes, T_asgT, vals?, pick_nil, pick_cons, setT, setAll, wipeD, List.getElem?_cons_zero, List.getElem?_cons_succ, List.set_cons_zero, List.set_cons_succ, List.cons_append, List.nil_append, List.append_nil, List.length_cons, List.length_nil, List.map_cons, List.map_nil, oIsi, oLen, oAbs, oInt, oAll, oAny, oAllF, oList, oSum, oIx, oSl, oLt, oLe, oGt, oGe, oSub, oMul, oMod, oFdiv, oPow, oAdd, oAddL, oI, oI0, oIsB, oNotB, oUpper, cellOf?, ren, oIn, oNin, oInF, Nat.reduceSub, Nat.reduceAdd, List.reduceReplicate, true_and, if_true, if_false, Bool.false_eq_true, ite_true, ite_false, eq_self, decide_true, decide_false, Bool.not_true, Bool.not_false, id, oEq, oNe, oEqF, now_val, eqD_str, eqD_int, eqD_nn, T_par, T_par3, T_fld, T_setF, T_make, T_meth, T_isi, T_raise0, T_raise1, T_try, T_tryAs, T_exf, T_asgN, setN, setNs, argsOf, oModN, oIsiI, oOwnB, oOwnE, oOwnN, oOwnG, oTup, oNeg, oI, oI0, insOf_ins, insOf_int, sub_R, rat, lk1, lk2, true_or, or_true, ne_eq, not_false_eq_true, oIntS, oStr0C, T_sm1, oSplit, oNotN, oIsN, T_cmeth]
      unfold t_Ratio_eq_0a_0
      simp only [T_seq, T_dic0, T_cut, T_ret, T_asg, T_drop, T_ifS, T_next, T_var, T_c, T_nil, T_cons, T_op, T_un, T_cb, T_t, T_chain, T_and, T_or, T_not, T_andV, T_orV, T_notV, T_if, T_tup, T_lst, T_lstC, T_no, T_part, T_sl, T_slC, S_seq, S_range1, S_range2, T_lc, T_lcC, T_for, T_while, T_setIx, T_call, T_callS, T_start, T_m0, T_yes, T_asgT, vals?, pick_nil, pick_cons, setT, setAll, wipeD, List.getElem?_cons_zero, List.getElem?_cons_succ, List.set_cons_zero, List.set_cons_succ, List.cons_append, List.nil_append, List.append_nil, List.length_cons, List.length_nil, List.map_cons, List.map_nil, oIsi, oLen, oAbs, oInt, oAll, oAny, oAllF, oList, oSum, oIx, oSl, oLt, oLe, oGt, oGe, oSub, oMul, oMod, oFdiv, oPow, oAdd, oAddL, oI, oI0, oIsB, oNotB, oUpper, cellOf?, ren, oIn, oNin, oInF, Nat.reduceSub, Nat.reduceAdd, List.reduceReplicate, true_and, if_true, if_false, Bool.false_eq_true, ite_true, ite_false, eq_self, decide_true, decide_false, Bool.not_true, Bool.not_false, id, oEq, oNe, oEqF, now_val, eqD_str, eqD_int, eqD_nn, T_par, T_par3, T_fld, T_setF, T_make, T_meth, T_isi, T_raise0, T_raise1, T_try, T_tryAs, T_exf, T_asgN, setN, setNs, argsOf, oModN, oIsiI, oOwnB, oOwnE, oOwnN, oOwnG, oTup, oNeg, oI, oI0, insOf_ins, insOf_int, sub_R, rat, lk1, lk2, true_or, or_true, ne_eq, not_false_eq_true, oIntS, oStr0C, T_sm1, oSplit, oNotN, oIsN, T_cmeth]
      have z := hk []
      by_cases h : t = u
      · simp only [T_seq, T_dic0, T_cut, T_ret, T_asg, T_drop, T_ifS, T_next, T_var, T_c, T_nil, T_cons, T_op, T_un, T_cb, T_t, T_chain, T_and, T_or, T_not, T_andV, T_orV, T_notV, T_if, T_tup, T_lst, T_lstC, T_no, T_part, T_sl, T_slC, S_seq, S_range1, S_range2, T_lc, T_lcC, T_for, T_while, T_setIx, T_call, T_callS, T_start, T_m0, T_yes, T_asgT, vals?, pick_nil, pick_cons, setT, setAll, wipeD, List.getElem?_cons_zero, List.getElem?_cons_succ, List.set_cons_zero, List.set_cons_succ, List.cons_append, List.nil_append, List.append_nil, List.length_cons, List.length_nil, List.map_cons, List.map_nil, oIsi, oLen, oAbs, oInt, oAll, oAny, oAllF, oList, oSum, oIx, oSl, oLt, oLe, oGt, oGe, oSub, oMul, oMod, oFdiv, oPow, oAdd, oAddL, oI, oI0, oIsB, oNotB, oUpper, cellOf?, ren, oIn, oNin, oInF, Nat.reduceSub, Nat.reduceAdd, List.reduceReplicate, true_and, if_true, if_false, Bool.false_eq_true, ite_true, ite_false, eq_self, decide_true, decide_false, Bool.not_true, Bool.not_false, id, oEq, oNe, oEqF, now_val, eqD_str, eqD_int, eqD_nn, T_par, T_par3, T_fld, T_setF, T_make, T_meth, T_isi, T_raise0, T_raise1, T_try, T_tryAs, T_exf, T_asgN, setN, setNs, argsOf, oModN, oIsiI, oOwnB, oOwnE, oOwnN, oOwnG, oTup, oNeg, oI, oI0, insOf_ins, insOf_int, sub_R, rat, lk1, lk2, true_or, or_true, ne_eq, not_false_eq_true, oIntS, oStr0C, T_sm1, oSplit, oNotN, oIsN, T_cmeth, decide_eq_true h]
        rw [decide_eq_true h, Bool.true_and] at z
        exact z
      · simp only [T_seq, T_dic0, T_cut, T_ret, T_asg, T_drop, T_ifS, T_next, T_var, T_c, T_nil, T_cons, T_op, T_un, T_cb, T_t, T_chain, T_and, T_or, T_not, T_andV, T_orV, T_notV, T_if, T_tup, T_lst, T_lstC, T_no, T_part, T_sl, T_slC, S_seq, S_range1, S_range2, T_lc, T_lcC, T_for, T_while, T_setIx, T_call, T_callS, T_start, T_m0, T_yes, T_asgT, vals?, pick_nil, pick_cons, setT, setAll, wipeD, List.getElem?_cons_zero, List.getElem?_cons_succ, List.set_cons_zero, List.set_cons_succ, List.cons_append, List.nil_append, List.append_nil, List.length_cons, List.length_nil, List.map_cons, List.map_nil, oIsi, oLen, oAbs, oInt, oAll, oAny, oAllF, oList, oSum, oIx, oSl, oLt, oLe, oGt, oGe, oSub, oMul, oMod, oFdiv, oPow, oAdd, oAddL, oI, oI0, oIsB, oNotB, oUpper, cellOf?, ren, oIn, oNin, oInF, Nat.reduceSub, Nat.reduceAdd, List.reduceReplicate, true_and, if_true, if_false, Bool.false_eq_true, ite_true, ite_false, eq_self, decide_true, decide_false, Bool.not_true, Bool.not_false, id, oEq, oNe, oEqF, now_val, eqD_str, eqD_int, eqD_nn, T_par, T_par3, T_fld, T_setF, T_make, T_meth, T_isi, T_raise0, T_raise1, T_try, T_tryAs, T_exf, T_asgN, setN, setNs, argsOf, oModN, oIsiI, oOwnB, oOwnE, oOwnN, oOwnG, oTup, oNeg, oI, oI0, insOf_ins, insOf_int, sub_R, rat, lk1, lk2, true_or, or_true, ne_eq, not_false_eq_true, oIntS, oStr0C, T_sm1, oSplit, oNotN, oIsN, T_cmeth, decide_eq_false h]
        rw [decide_eq_false h, Bool.false_and] at z
        exact z
  · simp only [T_seq, T_dic0, T_cut, T_ret, T_asg, T_drop, T_ifS, T_next, T_var, T_c, T_nil, T_cons, T_op, T_un, T_cb, T_t, T_chain, T_and, T_or, T_not, T_andV, T_orV, T_notV, T_if, T_tup, T_lst, T_lstC, T_no, T_part, T_sl, T_slC, S_seq, S_range1, S_range2, T_lc, T_lcC, T_for, T_while, T_setIx, T_call, T_callS, T_start, T_m0, T_yes, T_asgT, vals?, pick_nil, pick_cons, setT, setAll, wipeD, List.getElem?_cons_zero, List.getElem?_cons_succ, List.set_cons_zero, List.set_cons_succ, List.cons_append, List.nil_append, List.append_nil, List.length_cons, List.length_nil, List.map_cons, List.map_nil, oIsi, oLen, oAbs, oInt, oAll, oAny, oAllF, oList, oSum, oIx, oSl, oLt, oLe, oGt, oGe, oSub, oMul, oMod, oFdiv, oPow, oAdd, oAddL, oI, oI0, oIsB, oNotB, oUpper, cellOf?, ren, oIn, oNin, oInF, Nat.reduceSub, Nat.reduceAdd, List.reduceReplicate, true_and, if_true, if_false, Bool.false_eq_true, ite_true, ite_false, eq_self, decide_true, decide_false, Bool.not_true, Bool.not_false, id, oEq, oNe, oEqF, now_val, eqD_str, eqD_int, eqD_nn, T_par, T_par3, T_fld, T_setF, T_make, T_meth, T_isi, T_raise0, T_raise1, T_try, T_tryAs, T_exf, T_asgN, setN, setNs, argsOf, oModN, oIsiI, oOwnB, oOwnE, oOwnN, oOwnG, oTup, oNeg, oI, oI0, insOf_ins, insOf_int, sub_R, rat, lk1, lk2, true_or, or_true, ne_eq, not_false_eq_true, oIntS, oStr0C, T_sm1, oSplit, oNotN, oIsN, T_cmeth, insOf_none ht]
    refine ⟨⟨_, ht⟩, ?_⟩
    unfold t_Ratio_eq_1
    simp only [T_seq, T_dic0, T_cut, T_ret, T_asg, T_drop, T_ifS, T_next, T_var, T_c, T_nil, T_cons, T_op, T_un, T_cb, T_t, T_chain, T_and, T_or, T_not, T_andV, T_orV, T_notV, T_if, T_tup, T_lst, T_lstC, T_no, T_part, T_sl, T_slC, S_seq, S_range1, S_range2, T_lc, T_lcC, T_for, T_while, T_setIx, T_call, T_callS, T_start, T_m0, T_yes, T_asgT, vals?, pick_nil, pick_cons, setT, setAll, wipeD, List.getElem?_cons_zero, List.getElem?_cons_succ, List.set_cons_zero, List.set_cons_succ, List.cons_append, List.nil_append, List.append_nil, List.length_cons, List.length_nil, List.map_cons, List.map_nil, oIsi, oLen, oAbs, oInt, oAll, oAny, oAllF, oList, oSum, oIx, oSl, oLt, oLe, oGt, oGe, oSub, oMul, oMod, oFdiv, oPow, oAdd, oAddL, oI, oI0, oIsB, oNotB, oUpper, cellOf?, ren, oIn, oNin, oInF, Nat.reduceSub, Nat.reduceAdd, List.reduceReplicate, true_and, if_true, if_false, Bool.false_eq_true, ite_true, ite_false, eq_self, decide_true, decide_false, Bool.not_true, Bool.not_false, id, oEq, oNe, oEqF, now_val, eqD_str, eqD_int, eqD_nn, T_par, T_par3, T_fld, T_setF, T_make, T_meth, T_isi, T_raise0, T_raise1, T_try, T_tryAs, T_exf, T_asgN, setN, setNs, argsOf, oModN, oIsiI, oOwnB, oOwnE, oOwnN, oOwnG, oTup, oNeg, oI, oI0, insOf_ins, insOf_int, sub_R, rat, lk1, lk2, true_or, or_true, ne_eq, not_false_eq_true, oIntS, oStr0C, T_sm1, oSplit, oNotN, oIsN, T_cmeth]
    refine ⟨_, rfl, .inl ⟨_, ht⟩, ?_⟩
    simp only [T_seq, T_dic0, T_cut, T_ret, T_asg, T_drop, T_ifS, T_next, T_var, T_c, T_nil, T_cons, T_op, T_un, T_cb, T_t, T_chain, T_and, T_or, T_not, T_andV, T_orV, T_notV, T_if, T_tup, T_lst, T_lstC, T_no, T_part, T_sl, T_slC, S_seq, S_range1, S_range2, T_lc, T_lcC, T_for, T_while, T_setIx, T_call, T_callS, T_start, T_m0, T_yes, T_asgT, vals?, pick_nil, pick_cons, setT, setAll, wipeD, List.getElem?_cons_zero, List.getElem?_cons_succ, List.set_cons_zero, List.set_cons_succ, List.cons_append, List.nil_append, List.append_nil, List.length_cons, List.length_nil, List.map_cons, List.map_nil, oIsi, oLen, oAbs, oInt, oAll, oAny, oAllF, oList, oSum, oIx, oSl, oLt, oLe, oGt, oGe, oSub, oMul, oMod, oFdiv, oPow, oAdd, oAddL, oI, oI0, oIsB, oNotB, oUpper, cellOf?, ren, oIn, oNin, oInF, Nat.reduceSub, Nat.reduceAdd, List.reduceReplicate, true_and, if_true, if_false, Bool.false_eq_true, ite_true, ite_false, eq_self, decide_true, decide_false, Bool.not_true, Bool.not_false, id, oEq, oNe, oEqF, now_val, eqD_str, eqD_int, eqD_nn, T_par, T_par3, T_fld, T_setF, T_make, T_meth, T_isi, T_raise0, T_raise1, T_try, T_tryAs, T_exf, T_asgN, setN, setNs, argsOf, oModN, oIsiI, oOwnB, oOwnE, oOwnN, oOwnG, oTup, oNeg, oI, oI0, insOf_ins, insOf_int, sub_R, rat, lk1, lk2, true_or, or_true, ne_eq, not_false_eq_true, oIntS, oStr0C, T_sm1, oSplit, oNotN, oIsN, T_cmeth, hi]
    exact hk []
theorem NumL.get : ∀ {ds : List D} {ps : List (Int × Int)} {i : Nat} {d : D}, NumL ds ps → ds[i]? = some d → ∃ p, ps[i]? = some p ∧ NumD d p.1 p.2
  | _, _, 0, _, .cons h _, e => by
    cases e
    exact ⟨_, rfl, h⟩
  | _, _, i + 1, _, .cons _ t, e => NumL.get (i := i) t e
theorem NumL.length : ∀ {ds : List D} {ps : List (Int × Int)}, NumL ds ps → ds.length = ps.length
  | _, _, .nil => rfl
  | _, _, .cons _ t => congrArg Nat.succ (NumL.length t)
theorem fold_take {β γ : Type} (f : γ → β → γ) (z : γ) {xs : List β} {i : Nat} {x : β} (h : xs[i]? = some x) : (xs.take (i + 1)).foldl f z = f ((xs.take i).foldl f z) x := by
  rw [List.take_add_one, h, List.foldl_append]
  rfl
theorem min_b4 {m p : Int × Int} (h : B4P m) (h' : B4P p) : B4P (minP m p) := by
  unfold minP
  split <;> assumption
theorem max_b4 {m p : Int × Int} (h : B4P m) (h' : B4P p) : B4P (maxP m p) := by
  unfold maxP
  split <;> assumption
theorem fold_b4 {f : Int × Int → Int × Int → Int × Int} (hf : ∀ m p, B4P m → B4P p → B4P (f m p)) : ∀ {ps : List (Int × Int)} {m : Int × Int}, B4P m → (∀ p ∈ ps, B4P p) → B4P (ps.foldl f m)
  | [], _, h, _ => h
  | p :: ps, m, h, hp => fold_b4 (ps := ps) hf (hf m p h (hp p (List.mem_cons_self ..))) fun q hq => hp q (List.mem_cons_of_mem _ hq)
theorem cps_mk (l : List Nat) : (mkS l).cps.toList = l := by simp [mkS]
theorem mk_cps (z : Str) : mkS z.cps.toList = z := TL.mk_tl z
theorem mk_inj {a b : List Nat} (h : mkS a = mkS b) : a = b := by rw [← cps_mk a, h, cps_mk]
theorem mk_len (l : List Nat) : (mkS l).length = l.length := by
  rw [← cps_len, cps_mk]
theorem mk_app (a b : List Nat) : mkS a ++ mkS b = mkS (a ++ b) := TL.ext_tl (by
  show (mkS a ++ mkS b).cps.toList = _
  rw [str_app, cps_mk, cps_mk]
  exact (cps_mk _).symm)
theorem of_cps {z : Str} {l : List Nat} (h : z.cps.toList = l) : z = mkS l := by rw [← h, mk_cps]
theorem mk_eq {z : Str} {l : List Nat} : z = mkS l ↔ z.cps.toList = l := ⟨fun h => by rw [h, cps_mk], of_cps⟩
theorem ofString_neg (s : String) : (Str.ofString ("-" ++ s)).cps.toList = 45 :: (Str.ofString s).cps.toList := by
  rw [Str.ofString_eq_toList, Str.ofString_eq_toList]
  simp [String.toList_append]
theorem toStr_mk (i : Int) : Str.ofString (toString i) = mkS (sgnL i) := by
  refine of_cps ?_
  unfold sgnL
  cases i with
  | ofNat n =>
    rw [if_neg (by simp)]
    exact TL.tl_num n
  | negSucc n =>
    rw [if_pos (Int.negSucc_lt_zero n)]
    show (Str.ofString ("-" ++ Nat.repr (n + 1))).cps.toList = _
    rw [ofString_neg]
    exact congrArg (45 :: ·) (TL.tl_num (n + 1))
theorem digit_ok {n c : Nat} (h : c ∈ TL.numL n) : 48 ≤ c ∧ c ≤ 57 := TL.numL_digits n c h
theorem sgnL_ok {i : Int} {c : Nat} (h : c ∈ sgnL i) : c = 45 ∨ (48 ≤ c ∧ c ≤ 57) := by
  unfold sgnL at h
  split at h
  · rcases List.mem_cons.mp h with h | h
    · exact .inl h
    · exact .inr (digit_ok h)
  · exact .inr (digit_ok h)
theorem sgnL_free (i : Int) : 47 ∉ sgnL i := fun h => by
  rcases sgnL_ok h with h | h <;> omega
/-- a minus taken away -/
def stripL (l : List Nat) : List Nat := if l.take 1 = [45] then l.drop 1 else l
theorem take1 {l : List Nat} {c : Nat} : l.take 1 = [c] ↔ ∃ r, l = c :: r := by
  cases l with
  | nil => simp
  | cons a r => simp
theorem numL_head (n : Nat) : ∃ c r, TL.numL n = c :: r ∧ 48 ≤ c ∧ c ≤ 57 := by
  cases e : TL.numL n with
  | nil => exact absurd e (TL.numL_ne n)
  | cons c r => exact ⟨c, r, rfl, digit_ok (n := n) (by rw [e]; exact List.mem_cons_self ..)⟩
theorem strip_num (n : Nat) : stripL (TL.numL n) = TL.numL n := by
  obtain ⟨c, r, e, h1, h2⟩ := numL_head n
  unfold stripL
  rw [if_neg]
  intro h
  obtain ⟨r2, h⟩ := take1.mp h
  rw [e] at h
  cases h
  omega
theorem strip_sgn (i : Int) : stripL (sgnL i) = TL.numL i.natAbs := by
  unfold sgnL
  split
  · rfl
  · exact strip_num _
/-- what a text of digits, with a minus or not, is worth -/
def valL (l : List Nat) : Int := if l.take 1 = [45] then -((NumText.digitsVal (l.drop 1) : Nat) : Int) else ((NumText.digitsVal l : Nat) : Int)
theorem val_sgn (i : Int) : valL (sgnL i) = i := by
  unfold sgnL
  by_cases h : i < 0
  · rw [if_pos h]
    unfold valL
    rw [if_pos (show List.take 1 (45 :: TL.numL i.natAbs) = [45] from rfl)]
    show -((NumText.digitsVal (TL.numL i.natAbs) : Nat) : Int) = i
    rw [TL.numL_val]
    omega
  · rw [if_neg h]
    unfold valL
    rw [if_neg, TL.numL_val]
    · omega
    · intro z
      obtain ⟨c, r, e, h1, h2⟩ := numL_head i.natAbs
      obtain ⟨r2, z⟩ := take1.mp z
      rw [e] at z
      cases z
      omega
theorem sgn_inj {i j : Int} (h : sgnL i = sgnL j) : i = j := by rw [← val_sgn i, h, val_sgn]
def digB (l : List Nat) : Bool := !l.isEmpty && l.all fun c => decide (48 ≤ c) && decide (c ≤ 57)
theorem digB_ok {l : List Nat} (h : digB l = true) : NumText.AllDigits l ∧ l ≠ [] := by
  unfold digB at h
  rw [Bool.and_eq_true] at h
  refine ⟨fun c hc => ?_, fun z => by rw [z] at h; exact absurd h.1 (by decide)⟩
  have := List.all_eq_true.mp h.2 c hc
  rw [Bool.and_eq_true, decide_eq_true_eq, decide_eq_true_eq] at this
  exact this
theorem digB_of {l : List Nat} (h : NumText.AllDigits l) (hn : l ≠ []) : digB l = true := by
  unfold digB
  rw [Bool.and_eq_true]
  refine ⟨by cases l with | nil => exact absurd rfl hn | cons => rfl, List.all_eq_true.mpr fun c hc => ?_⟩
  rw [Bool.and_eq_true, decide_eq_true_eq, decide_eq_true_eq]
  exact h c hc
theorem all_both {β : Type} (p q : β → Bool) : ∀ l : List β, (l.all p && l.all q) = l.all fun c => p c && q c
  | [] => rfl
  | c :: r => by
    rw [List.all_cons, List.all_cons, List.all_cons, ← all_both p q r]
    cases p c <;> cases q c <;> cases r.all p <;> rfl
theorem all_same {β : Type} {p q : β → Bool} (h : ∀ c, p c = q c) (l : List β) : l.all p = l.all q := by
  rw [show p = q from funext h]
theorem isdig_eq (l : List Nat) : (Txt.isdigit (mkS l) && Txt.isascii (mkS l)) = digB l := by
  have h1 : Txt.isdigit (mkS l) = (!l.isEmpty && l.all Unicode.isDigit) := by
    show (decide ((mkS l).length > 0) && (mkS l).cps.all Unicode.isDigit) = _
    rw [mk_len]
    congr 1
    · cases l <;> rfl
    · show Array.all l.toArray Unicode.isDigit = _
      simp
  have h2 : Txt.isascii (mkS l) = l.all fun c => decide (c < 128) := by
    show Array.all l.toArray (fun c => decide (c < 128)) = _
    simp
  rw [h1, h2]
  unfold digB
  rw [Bool.and_assoc]
  congr 1
  rw [all_both]
  refine all_same (fun c => ?_) l
  by_cases hc : c < 128
  · rw [decide_eq_true hc, Bool.and_true]
    have k : ∀ n : _root_.Fin 128, Unicode.isDigit n.val = (decide (48 ≤ n.val) && decide (n.val ≤ 57)) := by decide +kernel
    exact k ⟨c, hc⟩
  · rw [decide_eq_false hc, Bool.and_false]
    symm
    rw [Bool.and_eq_false_iff]
    exact .inr (decide_eq_false (by omega))
theorem int_dig {l : List Nat} (h : digB (stripL l) = true) (hl : l.length ≤ 640) : PySem.intText? (mkS l) = some (valL l) := by
  obtain ⟨h1, h2⟩ := digB_ok h
  have hz : (mkS l).length ≤ 4300 := by rw [mk_len]; omega
  unfold stripL at h1 h2
  unfold valL
  by_cases c : l.take 1 = [45]
  · rw [if_pos c] at h1 h2 ⊢
    obtain ⟨r, e⟩ := take1.mp c
    have er : l.drop 1 = r := by rw [e]; rfl
    rw [er] at h1 h2 ⊢
    exact intText_neg (by rw [cps_mk]; exact e) h1 h2 hz
  · rw [if_neg c] at h1 h2 ⊢
    have z := intText_digits (x := mkS l) (by rw [cps_mk]; exact h1) (by rw [cps_mk]; exact h2) hz
    rw [cps_mk] at z
    exact z
theorem dv_lt : ∀ (l : List Nat) (a : Nat), NumText.AllDigits l → l.foldl (fun acc c => acc * 10 + (c - 48)) a < (a + 1) * 10 ^ l.length
  | [], a, _ => by simp
  | c :: r, a, h => by
    have hc := h.head
    have := dv_lt r (a * 10 + (c - 48)) h.tail
    rw [List.foldl_cons, List.length_cons, Nat.pow_succ]
    refine Nat.lt_of_lt_of_le this ?_
    rw [Nat.mul_comm (10 ^ r.length) 10, ← Nat.mul_assoc]
    exact Nat.mul_le_mul_right _ (by omega)
theorem dval_lt {l : List Nat} (h : NumText.AllDigits l) : NumText.digitsVal l < 10 ^ l.length := by
  have := dv_lt l 0 h
  rw [Nat.zero_add, Nat.one_mul] at this
  exact this
theorem valL_lt {l : List Nat} (h : digB (stripL l) = true) {k : Nat} (hl : l.length ≤ k) : (valL l).natAbs < 10 ^ k := by
  obtain ⟨h1, h2⟩ := digB_ok h
  unfold stripL at h1
  unfold valL
  by_cases c : l.take 1 = [45]
  · rw [if_pos c] at h1 ⊢
    rw [Int.natAbs_neg, Int.natAbs_natCast]
    refine Nat.lt_of_lt_of_le (dval_lt h1) (Nat.pow_le_pow_right (by decide) ?_)
    rw [List.length_drop]
    omega
  · rw [if_neg c] at h1 ⊢
    rw [Int.natAbs_natCast]
    exact Nat.lt_of_lt_of_le (dval_lt h1) (Nat.pow_le_pow_right (by decide) hl)
/-! ### cut at the strokes -/
abbrev cutP (l : List Nat) : List (List Nat) := TL.spl [47] 0 [] l
theorem pre1 (c : Nat) (r : List Nat) : TL.pre [47] (c :: r) = (c == 47) := by
  show (([c] : List Nat) == [47]) = (c == 47)
  by_cases h : c = 47
  · subst h; rfl
  · have h2 : ([c] : List Nat) ≠ [47] := fun z => h (by cases z; rfl)
    rw [beq_eq_false_iff_ne.mpr h2, beq_eq_false_iff_ne.mpr h]
theorem spl_ne (l acc : List Nat) : TL.spl [47] 0 acc l ≠ [] := by
  induction l generalizing acc with
  | nil => exact fun z => by cases z
  | cons c r ih =>
    by_cases h : c = 47
    · rw [TL.spl_hit (by rw [pre1, h]; rfl)]
      exact fun z => by cases z
    · rw [TL.spl_miss (by rw [pre1]; exact beq_eq_false_iff_ne.mpr h)]
      exact ih _
theorem spl_back (l acc : List Nat) : TL.joinL [47] (TL.spl [47] 0 acc l) = acc ++ l := by
  induction l generalizing acc with
  | nil => rw [TL.spl_nil, List.append_nil]; rfl
  | cons c r ih =>
    by_cases h : c = 47
    · rw [TL.spl_hit (by rw [pre1, h]; rfl)]
      have e := ih []
      cases q : TL.spl [47] 0 [] r with
      | nil => exact absurd q (spl_ne _ _)
      | cons p ps =>
        rw [q] at e
        have q2 : TL.spl [47] ([47].length - 1) [] r = p :: ps := q
        show acc ++ ([47] ++ TL.joinL [47] (p :: ps)) = _
        rw [e, h]
        rfl
    · rw [TL.spl_miss (by rw [pre1]; exact beq_eq_false_iff_ne.mpr h), ih, List.append_assoc]
      rfl
theorem cut_back (l : List Nat) : TL.joinL [47] (cutP l) = l := spl_back l []
theorem cut_ne (l : List Nat) : cutP l ≠ [] := spl_ne l []
theorem cut_one {p : List Nat} (h : 47 ∉ p) : cutP p = [p] := TL.spl_join (parts := [p]) (by simp) fun q hq => by
  rw [List.mem_singleton.mp hq]
  exact h
theorem cut_two {p q : List Nat} (h : 47 ∉ p) (h' : 47 ∉ q) : cutP (p ++ 47 :: q) = [p, q] := TL.spl_join (parts := [p, q]) (by simp) fun r hr => by
  simp only [List.mem_cons, List.not_mem_nil, or_false] at hr
  rcases hr with rfl | rfl <;> assumption
theorem spl_len (l acc : List Nat) : (TL.spl [47] 0 acc l).length ≤ l.length + 1 := by
  induction l generalizing acc with
  | nil => rw [TL.spl_nil]; simp
  | cons c r ih =>
    by_cases h : c = 47
    · rw [TL.spl_hit (by rw [pre1, h]; rfl)]
      have := ih []
      show (TL.spl [47] 0 [] r).length + 1 ≤ r.length + 1 + 1
      omega
    · rw [TL.spl_miss (by rw [pre1]; exact beq_eq_false_iff_ne.mpr h), List.length_cons]
      have := ih (acc ++ [c])
      omega
theorem spl_part (l acc : List Nat) : ∀ p ∈ TL.spl [47] 0 acc l, p.length ≤ acc.length + l.length := by
  induction l generalizing acc with
  | nil => rw [TL.spl_nil]; intro p hp; rw [List.mem_singleton.mp hp]; simp
  | cons c r ih =>
    intro p hp
    by_cases h : c = 47
    · rw [TL.spl_hit (by rw [pre1, h]; rfl)] at hp
      rcases List.mem_cons.mp hp with hp | hp
      · rw [hp]; simp
      · have := ih [] p hp
        rw [List.length_cons]
        simp at this
        omega
    · rw [TL.spl_miss (by rw [pre1]; exact beq_eq_false_iff_ne.mpr h)] at hp
      have := ih (acc ++ [c]) p hp
      simp at this
      rw [List.length_cons]
      omega
theorem spl_mem (l acc : List Nat) : ∀ p ∈ TL.spl [47] 0 acc l, ∀ c ∈ p, c ∈ acc ∨ c ∈ l := by
  induction l generalizing acc with
  | nil =>
    rw [TL.spl_nil]
    intro p hp c hc
    rw [List.mem_singleton.mp hp] at hc
    exact .inl hc
  | cons d r ih =>
    intro p hp c hc
    by_cases h : d = 47
    · rw [TL.spl_hit (by rw [pre1, h]; rfl)] at hp
      rcases List.mem_cons.mp hp with hp | hp
      · rw [hp] at hc; exact .inl hc
      · rcases ih [] p hp c hc with h | h
        · cases h
        · exact .inr (List.mem_cons_of_mem _ h)
    · rw [TL.spl_miss (by rw [pre1]; exact beq_eq_false_iff_ne.mpr h)] at hp
      rcases ih _ p hp c hc with h | h
      · rcases List.mem_append.mp h with h | h
        · exact .inl h
        · rw [List.mem_singleton.mp h]; exact .inr (List.mem_cons_self ..)
      · exact .inr (List.mem_cons_of_mem _ h)
theorem cut_mem {l p : List Nat} (h : p ∈ cutP l) {c : Nat} (hc : c ∈ p) : c ∈ l := (spl_mem l [] p h c hc).elim (fun z => by cases z) id
theorem cut_part {l p : List Nat} (h : p ∈ cutP l) : p.length ≤ l.length := by
  have := spl_part l [] p h
  simpa using this
theorem cut_len (l : List Nat) : (cutP l).length ≤ l.length + 1 := spl_len l []
theorem split_cut (z : Str) : Txt.split z "/" = (cutP z.cps.toList).map mkS := by
  have e : (("/" : Str)) = mkS [47] := by decide +kernel
  rw [e]
  have := SX.split_S (a := z.cps.toList) (b := [47]) (by simp) (by decide)
  show Txt.split z (SX.S [47]) = List.map SX.S (TL.spl [47] 0 [] z.cps.toList)
  rw [← this]
theorem tx_parts {t b : Int} : cutP (txtL t b) = if b = 1 then [sgnL t] else [sgnL t, sgnL b] := by
  unfold txtL
  split
  · exact cut_one (sgnL_free t)
  · exact cut_two (sgnL_free t) (sgnL_free b)
theorem tx_inj {t b u v : Int} (h : txtR t b = txtR u v) : t = u ∧ b = v := by
  have e := mk_inj h
  have e1 := congrArg cutP e
  rw [tx_parts, tx_parts] at e1
  split at e1 <;> split at e1
  · rename_i h1 h2
    exact ⟨sgn_inj (by injection e1), by rw [h1, h2]⟩
  · simp at e1
  · simp at e1
  · injection e1 with a1 a2
    injection a2 with a2 _
    exact ⟨sgn_inj a1, sgn_inj a2⟩
theorem low_Nf {t b : Int} (h : b ≠ 0) : Nf (low t b).1 (low t b).2 := by
  obtain ⟨g, n1, e1, e2, b1, c1⟩ := low_spec (t := t) h
  exact ⟨b1, c1⟩
theorem cutS_1 (l : List Nat) : cutS (mkS l) none (some 1) = mkS (l.take 1) := by
  refine of_cps ?_
  show (((mkS l).cps.toList.drop (HT.sIx (mkS l).length 0 none)).take (HT.sIx (mkS l).length (mkS l).length (some 1) - HT.sIx (mkS l).length 0 none)).toArray.toList = _
  rw [cps_mk, mk_len, List.toList_toArray]
  exact cutL_head l
theorem cutS_2 (l : List Nat) : cutS (mkS l) (some 1) none = mkS (l.drop 1) := by
  refine of_cps ?_
  show (((mkS l).cps.toList.drop (HT.sIx (mkS l).length 0 (some 1))).take (HT.sIx (mkS l).length (mkS l).length none - HT.sIx (mkS l).length 0 (some 1))).toArray.toList = _
  rw [cps_mk, mk_len, List.toList_toArray]
  cases l with
  | nil => rfl
  | cons c r => exact cutL_tail c r
theorem len_Ratio_str : ∀ ds μ (k : KE) (e : KX), (ctP c_str : Ct) ds μ k e → ds.length = 1 := by
  rintro ds μ k e ⟨rfl, xs, rfl, a, t, b, rfl, _⟩
  rfl
theorem len_Ratio_read : ∀ ds μ (k : KE) (e : KX), (ctP c_read : Ct) ds μ k e → ds.length = 2 := by
  rintro ds μ k e ⟨rfl, xs, rfl, d, rfl, _⟩
  rfl
theorem b15_log {i : Int} (h : B15 i) : i.natAbs.log2 < 1920 := by
  by_cases z : i.natAbs = 0
  · rw [z]; decide
  · exact Nat.lt_trans ((Nat.log2_lt z).mpr h) (by decide)
theorem b15_len {i : Int} (h : B15 i) : (sgnL i).length ≤ 453 := by
  have h2 : i.natAbs < 10 ^ 452 := Nat.lt_of_lt_of_le h (by decide +kernel)
  have := TL.numL_len (by decide) h2
  unfold sgnL
  split
  · rw [List.length_cons]; omega
  · omega
theorem v_Ratio_str : Vc_Ratio_str := vcP fun xs k e h => by
  obtain ⟨a, t, b, rfl, ht, hb, hk⟩ := h
  unfold t_Ratio_str N_Ratio_str t_Ratio_str_0 t_Ratio_str_0a_0
  simp only [T_seq, T_dic0, T_cut, T_ret, T_asg, T_drop, T_ifS, T_next, T_var, T_c, T_nil, T_cons, T_op, T_un, T_cb, T_t, T_chain, T_and, T_or, T_not, T_andV, T_orV, T_notV, T_if, T_tup, T_lst, T_lstC, T_no, T_part, T_sl, T_slC, S_seq, S_range1, S_range2, T_lc, T_lcC, T_for, T_while, T_setIx, T_call, T_callS, T_start, T_m0, T_yes, T_asgT, vals?, pick_nil, pick_cons, setT, setAll, wipeD, List.getElem?_cons_zero, List.getElem?_cons_succ, List.set_cons_zero, List.set_cons_succ, List.cons_append, List.nil_append, List.append_nil, List.length_cons, List.length_nil, List.map_cons, List.map_nil, oIsi, oLen, oAbs, oInt, oAll, oAny, oAllF, oList, oSum, oIx, oSl, oLt, oLe, oGt, oGe, oSub, oMul, oMod, oFdiv, oPow, oAdd, oAddL, oI, oI0, oIsB, oNotB, oUpper, cellOf?, ren, oIn, oNin, oInF, Nat.reduceSub, Nat.reduceAdd, List.reduceReplicate, true_and, if_true, if_false, Bool.false_eq_true, ite_true, ite_false, eq_self, decide_true, decide_false, Bool.not_true, Bool.not_false, id, oEq, oNe, oEqF, now_val, eqD_str, eqD_int, eqD_nn, T_par, T_par3, T_fld, T_setF, T_make, T_meth, T_isi, T_raise0, T_raise1, T_try, T_tryAs, T_exf, T_asgN, setN, setNs, argsOf, oModN, oIsiI, oOwnB, oOwnE, oOwnN, oOwnG, oTup, oNeg, oI, oI0, insOf_ins, insOf_int, sub_R, rat, lk1, lk2, true_or, or_true, ne_eq, not_false_eq_true, oIntS, oStr0C, T_sm1, oSplit, oNotN, oIsN, T_cmeth]
  have z := hk []
  unfold txtR txtL at z
  by_cases c : b = 1
  · subst c
    simp only [T_seq, T_dic0, T_cut, T_ret, T_asg, T_drop, T_ifS, T_next, T_var, T_c, T_nil, T_cons, T_op, T_un, T_cb, T_t, T_chain, T_and, T_or, T_not, T_andV, T_orV, T_notV, T_if, T_tup, T_lst, T_lstC, T_no, T_part, T_sl, T_slC, S_seq, S_range1, S_range2, T_lc, T_lcC, T_for, T_while, T_setIx, T_call, T_callS, T_start, T_m0, T_yes, T_asgT, vals?, pick_nil, pick_cons, setT, setAll, wipeD, List.getElem?_cons_zero, List.getElem?_cons_succ, List.set_cons_zero, List.set_cons_succ, List.cons_append, List.nil_append, List.append_nil, List.length_cons, List.length_nil, List.map_cons, List.map_nil, oIsi, oLen, oAbs, oInt, oAll, oAny, oAllF, oList, oSum, oIx, oSl, oLt, oLe, oGt, oGe, oSub, oMul, oMod, oFdiv, oPow, oAdd, oAddL, oI, oI0, oIsB, oNotB, oUpper, cellOf?, ren, oIn, oNin, oInF, Nat.reduceSub, Nat.reduceAdd, List.reduceReplicate, true_and, if_true, if_false, Bool.false_eq_true, ite_true, ite_false, eq_self, decide_true, decide_false, Bool.not_true, Bool.not_false, id, oEq, oNe, oEqF, now_val, eqD_str, eqD_int, eqD_nn, T_par, T_par3, T_fld, T_setF, T_make, T_meth, T_isi, T_raise0, T_raise1, T_try, T_tryAs, T_exf, T_asgN, setN, setNs, argsOf, oModN, oIsiI, oOwnB, oOwnE, oOwnN, oOwnG, oTup, oNeg, oI, oI0, insOf_ins, insOf_int, sub_R, rat, lk1, lk2, true_or, or_true, ne_eq, not_false_eq_true, oIntS, oStr0C, T_sm1, oSplit, oNotN, oIsN, T_cmeth, oStr0C]
    rw [if_pos rfl] at z
    refine ⟨b15_log ht, ?_⟩
    rw [toStr_mk]
    exact z
  · simp only [T_seq, T_dic0, T_cut, T_ret, T_asg, T_drop, T_ifS, T_next, T_var, T_c, T_nil, T_cons, T_op, T_un, T_cb, T_t, T_chain, T_and, T_or, T_not, T_andV, T_orV, T_notV, T_if, T_tup, T_lst, T_lstC, T_no, T_part, T_sl, T_slC, S_seq, S_range1, S_range2, T_lc, T_lcC, T_for, T_while, T_setIx, T_call, T_callS, T_start, T_m0, T_yes, T_asgT, vals?, pick_nil, pick_cons, setT, setAll, wipeD, List.getElem?_cons_zero, List.getElem?_cons_succ, List.set_cons_zero, List.set_cons_succ, List.cons_append, List.nil_append, List.append_nil, List.length_cons, List.length_nil, List.map_cons, List.map_nil, oIsi, oLen, oAbs, oInt, oAll, oAny, oAllF, oList, oSum, oIx, oSl, oLt, oLe, oGt, oGe, oSub, oMul, oMod, oFdiv, oPow, oAdd, oAddL, oI, oI0, oIsB, oNotB, oUpper, cellOf?, ren, oIn, oNin, oInF, Nat.reduceSub, Nat.reduceAdd, List.reduceReplicate, true_and, if_true, if_false, Bool.false_eq_true, ite_true, ite_false, eq_self, decide_true, decide_false, Bool.not_true, Bool.not_false, id, oEq, oNe, oEqF, now_val, eqD_str, eqD_int, eqD_nn, T_par, T_par3, T_fld, T_setF, T_make, T_meth, T_isi, T_raise0, T_raise1, T_try, T_tryAs, T_exf, T_asgN, setN, setNs, argsOf, oModN, oIsiI, oOwnB, oOwnE, oOwnN, oOwnG, oTup, oNeg, oI, oI0, insOf_ins, insOf_int, sub_R, rat, lk1, lk2, true_or, or_true, ne_eq, not_false_eq_true, oIntS, oStr0C, T_sm1, oSplit, oNotN, oIsN, T_cmeth, decide_eq_false c]
    unfold t_Ratio_str_1
    simp only [T_seq, T_dic0, T_cut, T_ret, T_asg, T_drop, T_ifS, T_next, T_var, T_c, T_nil, T_cons, T_op, T_un, T_cb, T_t, T_chain, T_and, T_or, T_not, T_andV, T_orV, T_notV, T_if, T_tup, T_lst, T_lstC, T_no, T_part, T_sl, T_slC, S_seq, S_range1, S_range2, T_lc, T_lcC, T_for, T_while, T_setIx, T_call, T_callS, T_start, T_m0, T_yes, T_asgT, vals?, pick_nil, pick_cons, setT, setAll, wipeD, List.getElem?_cons_zero, List.getElem?_cons_succ, List.set_cons_zero, List.set_cons_succ, List.cons_append, List.nil_append, List.append_nil, List.length_cons, List.length_nil, List.map_cons, List.map_nil, oIsi, oLen, oAbs, oInt, oAll, oAny, oAllF, oList, oSum, oIx, oSl, oLt, oLe, oGt, oGe, oSub, oMul, oMod, oFdiv, oPow, oAdd, oAddL, oI, oI0, oIsB, oNotB, oUpper, cellOf?, ren, oIn, oNin, oInF, Nat.reduceSub, Nat.reduceAdd, List.reduceReplicate, true_and, if_true, if_false, Bool.false_eq_true, ite_true, ite_false, eq_self, decide_true, decide_false, Bool.not_true, Bool.not_false, id, oEq, oNe, oEqF, now_val, eqD_str, eqD_int, eqD_nn, T_par, T_par3, T_fld, T_setF, T_make, T_meth, T_isi, T_raise0, T_raise1, T_try, T_tryAs, T_exf, T_asgN, setN, setNs, argsOf, oModN, oIsiI, oOwnB, oOwnE, oOwnN, oOwnG, oTup, oNeg, oI, oI0, insOf_ins, insOf_int, sub_R, rat, lk1, lk2, true_or, or_true, ne_eq, not_false_eq_true, oIntS, oStr0C, T_sm1, oSplit, oNotN, oIsN, T_cmeth, T_fj, oFmt]
    rw [if_neg c] at z
    have e0 : (Str.empty : Str) = mkS [] := rfl
    have e1 : ("/" : Str) = mkS [47] := by decide +kernel
    rw [toStr_mk, toStr_mk, e0, e1, mk_app, mk_app, mk_app, mk_len, mk_len, mk_len]
    have l1 := b15_len ht
    have l2 := b15_len hb
    refine ⟨b15_log ht, ?_, ?_, b15_log hb, ?_, ?_⟩
    · exact Nat.le_trans (show _ ≤ 1000 by simp; omega) (by decide)
    · exact Nat.le_trans (show _ ≤ 1000 by simp; omega) (by decide)
    · exact Nat.le_trans (show _ ≤ 1000 by simp; omega) (by decide)
    · have e3 : [] ++ sgnL t ++ [47] ++ sgnL b = sgnL t ++ 47 :: sgnL b := by simp
      rw [e3]
      exact z
theorem txtL_ne (t b : Int) : txtL t b ≠ [] := by
  have h : sgnL t ≠ [] := by
    unfold sgnL
    split
    · exact fun z => by cases z
    · exact TL.numL_ne _
  unfold txtL
  split
  · exact h
  · exact fun z => h (List.append_eq_nil_iff.mp z).1
def pD (p : List Nat) : D := .str (mkS p)
def stripD : D → D
  | .str z => pD (stripL z.cps.toList)
  | d => d
def digD : D → D
  | .str z => .bl (digB z.cps.toList)
  | d => d
def valD : D → D
  | .str z => .int (valL z.cps.toList)
  | d => d
theorem mkS_nil : ("" : Str) = mkS [] := by decide +kernel
theorem mkS_minus : ("-" : Str) = mkS [45] := by decide +kernel
theorem read_go {l : List Nat} {k : KE} {e : KX} (hz : l.length ≤ 400) (hl : l ≠ []) (h1 : ∀ t b, Nf t b → mkS l = txtR t b → ∀ a, ∀ ν, k (.val (rat a t b)) ν) (h2 : ¬ IsTx (mkS l) → ∀ ν, e ⟨5, []⟩ ν) :
    t_Ratio_read_1 ⟨T_seq t_Ratio_read_2 (T_seq t_Ratio_read_3 (T_seq t_Ratio_read_4 (T_seq t_Ratio_read_5 (T_seq t_Ratio_read_6 (T_seq t_Ratio_read_7 t_Ratio_read_8))))) ⟨fun _ μ' => k (.val .non) μ', k, fun _ _ => False, fun _ _ => False, fun x _ μ' => e x μ'⟩, k, fun _ _ => False, fun _ _ => False, fun x _ μ' => e x μ'⟩
      [some (.val (.cls 1)), some (.val (.str (mkS l))), none, none, none, none, none] [] := by
  unfold t_Ratio_read_1
  simp only [T_seq, T_dic0, T_cut, T_ret, T_asg, T_drop, T_ifS, T_next, T_var, T_c, T_nil, T_cons, T_op, T_un, T_cb, T_t, T_chain, T_and, T_or, T_not, T_andV, T_orV, T_notV, T_if, T_tup, T_lst, T_lstC, T_no, T_part, T_sl, T_slC, S_seq, S_range1, S_range2, T_lc, T_lcC, T_for, T_while, T_setIx, T_call, T_callS, T_start, T_m0, T_yes, T_asgT, vals?, pick_nil, pick_cons, setT, setAll, wipeD, List.getElem?_cons_zero, List.getElem?_cons_succ, List.set_cons_zero, List.set_cons_succ, List.cons_append, List.nil_append, List.append_nil, List.length_cons, List.length_nil, List.map_cons, List.map_nil, oIsi, oLen, oAbs, oInt, oAll, oAny, oAllF, oList, oSum, oIx, oSl, oLt, oLe, oGt, oGe, oSub, oMul, oMod, oFdiv, oPow, oAdd, oAddL, oI, oI0, oIsB, oNotB, oUpper, cellOf?, ren, oIn, oNin, oInF, Nat.reduceSub, Nat.reduceAdd, List.reduceReplicate, true_and, if_true, if_false, Bool.false_eq_true, ite_true, ite_false, eq_self, decide_true, decide_false, Bool.not_true, Bool.not_false, id, oEq, oNe, oEqF, now_val, eqD_str, eqD_int, eqD_nn, T_par, T_par3, T_fld, T_setF, T_make, T_meth, T_isi, T_raise0, T_raise1, T_try, T_tryAs, T_exf, T_asgN, setN, setNs, argsOf, oModN, oIsiI, oOwnB, oOwnE, oOwnN, oOwnG, oTup, oNeg, oI, oI0, insOf_ins, insOf_int, sub_R, rat, lk1, lk2, true_or, or_true, ne_eq, not_false_eq_true, oIntS, oStr0C, T_sm1, oSplit, oNotN, oIsN, T_cmeth, T_sm1, oSplit, mk_len]
  refine ⟨by decide, Nat.le_trans (show _ ≤ 402 by omega) (by decide), ?_⟩
  rw [split_cut, cps_mk]
  have tx : ∀ {t b : Int}, Nf t b → mkS l = txtR t b → cutP l = if b = 1 then [sgnL t] else [sgnL t, sgnL b] := fun hn he => by
    rw [← tx_parts, mk_inj he]
  have pl := cut_len l
  have pp := fun p (h : p ∈ cutP l) => cut_part h
  have pn := cut_ne l
  generalize cutP l = P at tx pl pp pn
  rw [List.map_map]
  have eP : P.map (D.str ∘ mkS) = P.map pD := rfl
  rw [eP]
  have lenP : (P.map pD).length < sizeLine := by
    rw [List.length_map]
    exact Nat.lt_of_le_of_lt (show _ ≤ 401 by omega) (by decide)
  unfold t_Ratio_read_2
  simp only [T_seq, T_dic0, T_cut, T_ret, T_asg, T_drop, T_ifS, T_next, T_var, T_c, T_nil, T_cons, T_op, T_un, T_cb, T_t, T_chain, T_and, T_or, T_not, T_andV, T_orV, T_notV, T_if, T_tup, T_lst, T_lstC, T_no, T_part, T_sl, T_slC, S_seq, S_range1, S_range2, T_lc, T_lcC, T_for, T_while, T_setIx, T_call, T_callS, T_start, T_m0, T_yes, T_asgT, vals?, pick_nil, pick_cons, setT, setAll, wipeD, List.getElem?_cons_zero, List.getElem?_cons_succ, List.set_cons_zero, List.set_cons_succ, List.cons_append, List.nil_append, List.append_nil, List.length_cons, List.length_nil, List.map_cons, List.map_nil, oIsi, oLen, oAbs, oInt, oAll, oAny, oAllF, oList, oSum, oIx, oSl, oLt, oLe, oGt, oGe, oSub, oMul, oMod, oFdiv, oPow, oAdd, oAddL, oI, oI0, oIsB, oNotB, oUpper, cellOf?, ren, oIn, oNin, oInF, Nat.reduceSub, Nat.reduceAdd, List.reduceReplicate, true_and, if_true, if_false, Bool.false_eq_true, ite_true, ite_false, eq_self, decide_true, decide_false, Bool.not_true, Bool.not_false, id, oEq, oNe, oEqF, now_val, eqD_str, eqD_int, eqD_nn, T_par, T_par3, T_fld, T_setF, T_make, T_meth, T_isi, T_raise0, T_raise1, T_try, T_tryAs, T_exf, T_asgN, setN, setNs, argsOf, oModN, oIsiI, oOwnB, oOwnE, oOwnN, oOwnG, oTup, oNeg, oI, oI0, insOf_ins, insOf_int, sub_R, rat, lk1, lk2, true_or, or_true, ne_eq, not_false_eq_true, oIntS, oStr0C, T_sm1, oSplit, oNotN, oIsN, T_cmeth]
  refine ⟨IvMap stripD (P.map pD) [], .zero, fun i acc μ' _ q => q.le, lenP, fun i x acc μ' hx q => ?_, fun acc μ' q => ?_⟩
  · have q' := q.step hx
    rw [List.getElem?_map] at hx
    cases c : P[i]? with
    | none => rw [c] at hx; cases hx
    | some p =>
      rw [c] at hx
      cases hx
      have lp := pp p (List.mem_of_getElem? c)
      have hp : (mkS p).length ≤ sizeLine := by
        rw [mk_len]
        exact Nat.le_trans (show _ ≤ 400 by omega) (by decide)
      simp only [T_seq, T_dic0, T_cut, T_ret, T_asg, T_drop, T_ifS, T_next, T_var, T_c, T_nil, T_cons, T_op, T_un, T_cb, T_t, T_chain, T_and, T_or, T_not, T_andV, T_orV, T_notV, T_if, T_tup, T_lst, T_lstC, T_no, T_part, T_sl, T_slC, S_seq, S_range1, S_range2, T_lc, T_lcC, T_for, T_while, T_setIx, T_call, T_callS, T_start, T_m0, T_yes, T_asgT, vals?, pick_nil, pick_cons, setT, setAll, wipeD, List.getElem?_cons_zero, List.getElem?_cons_succ, List.set_cons_zero, List.set_cons_succ, List.cons_append, List.nil_append, List.append_nil, List.length_cons, List.length_nil, List.map_cons, List.map_nil, oIsi, oLen, oAbs, oInt, oAll, oAny, oAllF, oList, oSum, oIx, oSl, oLt, oLe, oGt, oGe, oSub, oMul, oMod, oFdiv, oPow, oAdd, oAddL, oI, oI0, oIsB, oNotB, oUpper, cellOf?, ren, oIn, oNin, oInF, Nat.reduceSub, Nat.reduceAdd, List.reduceReplicate, true_and, if_true, if_false, Bool.false_eq_true, ite_true, ite_false, eq_self, decide_true, decide_false, Bool.not_true, Bool.not_false, id, oEq, oNe, oEqF, now_val, eqD_str, eqD_int, eqD_nn, T_par, T_par3, T_fld, T_setF, T_make, T_meth, T_isi, T_raise0, T_raise1, T_try, T_tryAs, T_exf, T_asgN, setN, setNs, argsOf, oModN, oIsiI, oOwnB, oOwnE, oOwnN, oOwnG, oTup, oNeg, oI, oI0, insOf_ins, insOf_int, sub_R, rat, lk1, lk2, true_or, or_true, ne_eq, not_false_eq_true, oIntS, oStr0C, T_sm1, oSplit, oNotN, oIsN, T_cmeth, pD, cutS_1, cutS_2, mkS_minus]
      refine ⟨hp, ?_⟩
      have es : stripD (pD p) = pD (stripL p) := by
        show pD (stripL (mkS p).cps.toList) = _
        rw [cps_mk]
      rw [es] at q'
      unfold stripL at q'
      by_cases hm : p.take 1 = [45]
      · rw [if_pos hm] at q'
        simp only [T_seq, T_dic0, T_cut, T_ret, T_asg, T_drop, T_ifS, T_next, T_var, T_c, T_nil, T_cons, T_op, T_un, T_cb, T_t, T_chain, T_and, T_or, T_not, T_andV, T_orV, T_notV, T_if, T_tup, T_lst, T_lstC, T_no, T_part, T_sl, T_slC, S_seq, S_range1, S_range2, T_lc, T_lcC, T_for, T_while, T_setIx, T_call, T_callS, T_start, T_m0, T_yes, T_asgT, vals?, pick_nil, pick_cons, setT, setAll, wipeD, List.getElem?_cons_zero, List.getElem?_cons_succ, List.set_cons_zero, List.set_cons_succ, List.cons_append, List.nil_append, List.append_nil, List.length_cons, List.length_nil, List.map_cons, List.map_nil, oIsi, oLen, oAbs, oInt, oAll, oAny, oAllF, oList, oSum, oIx, oSl, oLt, oLe, oGt, oGe, oSub, oMul, oMod, oFdiv, oPow, oAdd, oAddL, oI, oI0, oIsB, oNotB, oUpper, cellOf?, ren, oIn, oNin, oInF, Nat.reduceSub, Nat.reduceAdd, List.reduceReplicate, true_and, if_true, if_false, Bool.false_eq_true, ite_true, ite_false, eq_self, decide_true, decide_false, Bool.not_true, Bool.not_false, id, oEq, oNe, oEqF, now_val, eqD_str, eqD_int, eqD_nn, T_par, T_par3, T_fld, T_setF, T_make, T_meth, T_isi, T_raise0, T_raise1, T_try, T_tryAs, T_exf, T_asgN, setN, setNs, argsOf, oModN, oIsiI, oOwnB, oOwnE, oOwnN, oOwnG, oTup, oNeg, oI, oI0, insOf_ins, insOf_int, sub_R, rat, lk1, lk2, true_or, or_true, ne_eq, not_false_eq_true, oIntS, oStr0C, T_sm1, oSplit, oNotN, oIsN, T_cmeth, decide_eq_true (congrArg mkS hm)]
        exact ⟨hp, q'⟩
      · rw [if_neg hm] at q'
        simp only [T_seq, T_dic0, T_cut, T_ret, T_asg, T_drop, T_ifS, T_next, T_var, T_c, T_nil, T_cons, T_op, T_un, T_cb, T_t, T_chain, T_and, T_or, T_not, T_andV, T_orV, T_notV, T_if, T_tup, T_lst, T_lstC, T_no, T_part, T_sl, T_slC, S_seq, S_range1, S_range2, T_lc, T_lcC, T_for, T_while, T_setIx, T_call, T_callS, T_start, T_m0, T_yes, T_asgT, vals?, pick_nil, pick_cons, setT, setAll, wipeD, List.getElem?_cons_zero, List.getElem?_cons_succ, List.set_cons_zero, List.set_cons_succ, List.cons_append, List.nil_append, List.append_nil, List.length_cons, List.length_nil, List.map_cons, List.map_nil, oIsi, oLen, oAbs, oInt, oAll, oAny, oAllF, oList, oSum, oIx, oSl, oLt, oLe, oGt, oGe, oSub, oMul, oMod, oFdiv, oPow, oAdd, oAddL, oI, oI0, oIsB, oNotB, oUpper, cellOf?, ren, oIn, oNin, oInF, Nat.reduceSub, Nat.reduceAdd, List.reduceReplicate, true_and, if_true, if_false, Bool.false_eq_true, ite_true, ite_false, eq_self, decide_true, decide_false, Bool.not_true, Bool.not_false, id, oEq, oNe, oEqF, now_val, eqD_str, eqD_int, eqD_nn, T_par, T_par3, T_fld, T_setF, T_make, T_meth, T_isi, T_raise0, T_raise1, T_try, T_tryAs, T_exf, T_asgN, setN, setNs, argsOf, oModN, oIsiI, oOwnB, oOwnE, oOwnN, oOwnG, oTup, oNeg, oI, oI0, insOf_ins, insOf_int, sub_R, rat, lk1, lk2, true_or, or_true, ne_eq, not_false_eq_true, oIntS, oStr0C, T_sm1, oSplit, oNotN, oIsN, T_cmeth, decide_eq_false (fun z : mkS (p.take 1) = mkS [45] => hm (mk_inj z))]
        exact q'
  · have e1 := q.done
    obtain ⟨rfl, _⟩ := q
    rw [List.map_map] at e1
    have e2 : P.map (stripD ∘ pD) = (P.map stripL).map pD := by
      rw [List.map_map]
      refine List.map_congr_left fun p _ => ?_
      show pD (stripL (mkS p).cps.toList) = _
      rw [cps_mk]
      rfl
    rw [e1, e2]
    unfold t_Ratio_read_3 t_Ratio_read_3a_0
    simp only [T_seq, T_dic0, T_cut, T_ret, T_asg, T_drop, T_ifS, T_next, T_var, T_c, T_nil, T_cons, T_op, T_un, T_cb, T_t, T_chain, T_and, T_or, T_not, T_andV, T_orV, T_notV, T_if, T_tup, T_lst, T_lstC, T_no, T_part, T_sl, T_slC, S_seq, S_range1, S_range2, T_lc, T_lcC, T_for, T_while, T_setIx, T_call, T_callS, T_start, T_m0, T_yes, T_asgT, vals?, pick_nil, pick_cons, setT, setAll, wipeD, List.getElem?_cons_zero, List.getElem?_cons_succ, List.set_cons_zero, List.set_cons_succ, List.cons_append, List.nil_append, List.append_nil, List.length_cons, List.length_nil, List.map_cons, List.map_nil, oIsi, oLen, oAbs, oInt, oAll, oAny, oAllF, oList, oSum, oIx, oSl, oLt, oLe, oGt, oGe, oSub, oMul, oMod, oFdiv, oPow, oAdd, oAddL, oI, oI0, oIsB, oNotB, oUpper, cellOf?, ren, oIn, oNin, oInF, Nat.reduceSub, Nat.reduceAdd, List.reduceReplicate, true_and, if_true, if_false, Bool.false_eq_true, ite_true, ite_false, eq_self, decide_true, decide_false, Bool.not_true, Bool.not_false, id, oEq, oNe, oEqF, now_val, eqD_str, eqD_int, eqD_nn, T_par, T_par3, T_fld, T_setF, T_make, T_meth, T_isi, T_raise0, T_raise1, T_try, T_tryAs, T_exf, T_asgN, setN, setNs, argsOf, oModN, oIsiI, oOwnB, oOwnE, oOwnN, oOwnG, oTup, oNeg, oI, oI0, insOf_ins, insOf_int, sub_R, rat, lk1, lk2, true_or, or_true, ne_eq, not_false_eq_true, oIntS, oStr0C, T_sm1, oSplit, oNotN, oIsN, T_cmeth, List.length_map]
    have refuse : ¬ ((P.length ≤ 2) ∧ (P.map stripL).all digB = true) → ¬ IsTx (mkS l) := by
      rintro hc ⟨t, b, hn, he⟩
      refine hc ?_
      rw [tx hn he]
      have dg : ∀ i : Int, digB (stripL (sgnL i)) = true := fun i => by
        rw [strip_sgn]
        exact digB_of (TL.numL_digits _) (TL.numL_ne _)
      split
      · exact ⟨by simp, by simp [dg]⟩
      · exact ⟨by simp, by simp [dg]⟩
    by_cases c2 : (2 : Int) < (P.length : Int)
    · simp only [T_seq, T_dic0, T_cut, T_ret, T_asg, T_drop, T_ifS, T_next, T_var, T_c, T_nil, T_cons, T_op, T_un, T_cb, T_t, T_chain, T_and, T_or, T_not, T_andV, T_orV, T_notV, T_if, T_tup, T_lst, T_lstC, T_no, T_part, T_sl, T_slC, S_seq, S_range1, S_range2, T_lc, T_lcC, T_for, T_while, T_setIx, T_call, T_callS, T_start, T_m0, T_yes, T_asgT, vals?, pick_nil, pick_cons, setT, setAll, wipeD, List.getElem?_cons_zero, List.getElem?_cons_succ, List.set_cons_zero, List.set_cons_succ, List.cons_append, List.nil_append, List.append_nil, List.length_cons, List.length_nil, List.map_cons, List.map_nil, oIsi, oLen, oAbs, oInt, oAll, oAny, oAllF, oList, oSum, oIx, oSl, oLt, oLe, oGt, oGe, oSub, oMul, oMod, oFdiv, oPow, oAdd, oAddL, oI, oI0, oIsB, oNotB, oUpper, cellOf?, ren, oIn, oNin, oInF, Nat.reduceSub, Nat.reduceAdd, List.reduceReplicate, true_and, if_true, if_false, Bool.false_eq_true, ite_true, ite_false, eq_self, decide_true, decide_false, Bool.not_true, Bool.not_false, id, oEq, oNe, oEqF, now_val, eqD_str, eqD_int, eqD_nn, T_par, T_par3, T_fld, T_setF, T_make, T_meth, T_isi, T_raise0, T_raise1, T_try, T_tryAs, T_exf, T_asgN, setN, setNs, argsOf, oModN, oIsiI, oOwnB, oOwnE, oOwnN, oOwnG, oTup, oNeg, oI, oI0, insOf_ins, insOf_int, sub_R, rat, lk1, lk2, true_or, or_true, ne_eq, not_false_eq_true, oIntS, oStr0C, T_sm1, oSplit, oNotN, oIsN, T_cmeth, decide_eq_true c2]
      exact h2 (refuse fun z => by omega) _
    · simp only [T_seq, T_dic0, T_cut, T_ret, T_asg, T_drop, T_ifS, T_next, T_var, T_c, T_nil, T_cons, T_op, T_un, T_cb, T_t, T_chain, T_and, T_or, T_not, T_andV, T_orV, T_notV, T_if, T_tup, T_lst, T_lstC, T_no, T_part, T_sl, T_slC, S_seq, S_range1, S_range2, T_lc, T_lcC, T_for, T_while, T_setIx, T_call, T_callS, T_start, T_m0, T_yes, T_asgT, vals?, pick_nil, pick_cons, setT, setAll, wipeD, List.getElem?_cons_zero, List.getElem?_cons_succ, List.set_cons_zero, List.set_cons_succ, List.cons_append, List.nil_append, List.append_nil, List.length_cons, List.length_nil, List.map_cons, List.map_nil, oIsi, oLen, oAbs, oInt, oAll, oAny, oAllF, oList, oSum, oIx, oSl, oLt, oLe, oGt, oGe, oSub, oMul, oMod, oFdiv, oPow, oAdd, oAddL, oI, oI0, oIsB, oNotB, oUpper, cellOf?, ren, oIn, oNin, oInF, Nat.reduceSub, Nat.reduceAdd, List.reduceReplicate, true_and, if_true, if_false, Bool.false_eq_true, ite_true, ite_false, eq_self, decide_true, decide_false, Bool.not_true, Bool.not_false, id, oEq, oNe, oEqF, now_val, eqD_str, eqD_int, eqD_nn, T_par, T_par3, T_fld, T_setF, T_make, T_meth, T_isi, T_raise0, T_raise1, T_try, T_tryAs, T_exf, T_asgN, setN, setNs, argsOf, oModN, oIsiI, oOwnB, oOwnE, oOwnN, oOwnG, oTup, oNeg, oI, oI0, insOf_ins, insOf_int, sub_R, rat, lk1, lk2, true_or, or_true, ne_eq, not_false_eq_true, oIntS, oStr0C, T_sm1, oSplit, oNotN, oIsN, T_cmeth, decide_eq_false c2]
      refine ⟨IvMap digD ((P.map stripL).map pD) [], .zero, fun i acc μ' _ q => q.le, ?_, fun i x acc μ' hx q => ?_, fun acc μ' q => ?_⟩
      · exact Nat.lt_of_le_of_lt (show _ ≤ 401 by omega) (by decide)
      · have q' := q.step hx
        rw [List.getElem?_map] at hx
        cases c : (P.map stripL)[i]? with
        | none => rw [c] at hx; cases hx
        | some p =>
          rw [c] at hx
          cases hx
          have es : digD (pD p) = .bl (digB p) := by
            show D.bl (digB (mkS p).cps.toList) = _
            rw [cps_mk]
          rw [es] at q'
          have hq := isdig_eq p
          simp only [T_seq, T_dic0, T_cut, T_ret, T_asg, T_drop, T_ifS, T_next, T_var, T_c, T_nil, T_cons, T_op, T_un, T_cb, T_t, T_chain, T_and, T_or, T_not, T_andV, T_orV, T_notV, T_if, T_tup, T_lst, T_lstC, T_no, T_part, T_sl, T_slC, S_seq, S_range1, S_range2, T_lc, T_lcC, T_for, T_while, T_setIx, T_call, T_callS, T_start, T_m0, T_yes, T_asgT, vals?, pick_nil, pick_cons, setT, setAll, wipeD, List.getElem?_cons_zero, List.getElem?_cons_succ, List.set_cons_zero, List.set_cons_succ, List.cons_append, List.nil_append, List.append_nil, List.length_cons, List.length_nil, List.map_cons, List.map_nil, oIsi, oLen, oAbs, oInt, oAll, oAny, oAllF, oList, oSum, oIx, oSl, oLt, oLe, oGt, oGe, oSub, oMul, oMod, oFdiv, oPow, oAdd, oAddL, oI, oI0, oIsB, oNotB, oUpper, cellOf?, ren, oIn, oNin, oInF, Nat.reduceSub, Nat.reduceAdd, List.reduceReplicate, true_and, if_true, if_false, Bool.false_eq_true, ite_true, ite_false, eq_self, decide_true, decide_false, Bool.not_true, Bool.not_false, id, oEq, oNe, oEqF, now_val, eqD_str, eqD_int, eqD_nn, T_par, T_par3, T_fld, T_setF, T_make, T_meth, T_isi, T_raise0, T_raise1, T_try, T_tryAs, T_exf, T_asgN, setN, setNs, argsOf, oModN, oIsiI, oOwnB, oOwnE, oOwnN, oOwnG, oTup, oNeg, oI, oI0, insOf_ins, insOf_int, sub_R, rat, lk1, lk2, true_or, or_true, ne_eq, not_false_eq_true, oIntS, oStr0C, T_sm1, oSplit, oNotN, oIsN, T_cmeth, pD, oStr0]
          cases hd : Txt.isdigit (mkS p) with
          | true =>
            rw [hd, Bool.true_and] at hq
            simp only [T_seq, T_dic0, T_cut, T_ret, T_asg, T_drop, T_ifS, T_next, T_var, T_c, T_nil, T_cons, T_op, T_un, T_cb, T_t, T_chain, T_and, T_or, T_not, T_andV, T_orV, T_notV, T_if, T_tup, T_lst, T_lstC, T_no, T_part, T_sl, T_slC, S_seq, S_range1, S_range2, T_lc, T_lcC, T_for, T_while, T_setIx, T_call, T_callS, T_start, T_m0, T_yes, T_asgT, vals?, pick_nil, pick_cons, setT, setAll, wipeD, List.getElem?_cons_zero, List.getElem?_cons_succ, List.set_cons_zero, List.set_cons_succ, List.cons_append, List.nil_append, List.append_nil, List.length_cons, List.length_nil, List.map_cons, List.map_nil, oIsi, oLen, oAbs, oInt, oAll, oAny, oAllF, oList, oSum, oIx, oSl, oLt, oLe, oGt, oGe, oSub, oMul, oMod, oFdiv, oPow, oAdd, oAddL, oI, oI0, oIsB, oNotB, oUpper, cellOf?, ren, oIn, oNin, oInF, Nat.reduceSub, Nat.reduceAdd, List.reduceReplicate, true_and, if_true, if_false, Bool.false_eq_true, ite_true, ite_false, eq_self, decide_true, decide_false, Bool.not_true, Bool.not_false, id, oEq, oNe, oEqF, now_val, eqD_str, eqD_int, eqD_nn, T_par, T_par3, T_fld, T_setF, T_make, T_meth, T_isi, T_raise0, T_raise1, T_try, T_tryAs, T_exf, T_asgN, setN, setNs, argsOf, oModN, oIsiI, oOwnB, oOwnE, oOwnN, oOwnG, oTup, oNeg, oI, oI0, insOf_ins, insOf_int, sub_R, rat, lk1, lk2, true_or, or_true, ne_eq, not_false_eq_true, oIntS, oStr0C, T_sm1, oSplit, oNotN, oIsN, T_cmeth, hq]
            exact q'
          | false =>
            rw [hd, Bool.false_and] at hq
            simp only [T_seq, T_dic0, T_cut, T_ret, T_asg, T_drop, T_ifS, T_next, T_var, T_c, T_nil, T_cons, T_op, T_un, T_cb, T_t, T_chain, T_and, T_or, T_not, T_andV, T_orV, T_notV, T_if, T_tup, T_lst, T_lstC, T_no, T_part, T_sl, T_slC, S_seq, S_range1, S_range2, T_lc, T_lcC, T_for, T_while, T_setIx, T_call, T_callS, T_start, T_m0, T_yes, T_asgT, vals?, pick_nil, pick_cons, setT, setAll, wipeD, List.getElem?_cons_zero, List.getElem?_cons_succ, List.set_cons_zero, List.set_cons_succ, List.cons_append, List.nil_append, List.append_nil, List.length_cons, List.length_nil, List.map_cons, List.map_nil, oIsi, oLen, oAbs, oInt, oAll, oAny, oAllF, oList, oSum, oIx, oSl, oLt, oLe, oGt, oGe, oSub, oMul, oMod, oFdiv, oPow, oAdd, oAddL, oI, oI0, oIsB, oNotB, oUpper, cellOf?, ren, oIn, oNin, oInF, Nat.reduceSub, Nat.reduceAdd, List.reduceReplicate, true_and, if_true, if_false, Bool.false_eq_true, ite_true, ite_false, eq_self, decide_true, decide_false, Bool.not_true, Bool.not_false, id, oEq, oNe, oEqF, now_val, eqD_str, eqD_int, eqD_nn, T_par, T_par3, T_fld, T_setF, T_make, T_meth, T_isi, T_raise0, T_raise1, T_try, T_tryAs, T_exf, T_asgN, setN, setNs, argsOf, oModN, oIsiI, oOwnB, oOwnE, oOwnN, oOwnG, oTup, oNeg, oI, oI0, insOf_ins, insOf_int, sub_R, rat, lk1, lk2, true_or, or_true, ne_eq, not_false_eq_true, oIntS, oStr0C, T_sm1, oSplit, oNotN, oIsN, T_cmeth]
            rw [hq]
            exact q'
      · have q : IvMap digD ((P.map stripL).map pD) [] ((P.map stripL).map pD).length acc μ' := by
          simp only [List.length_map]
          exact q
        have e1 := q.done
        obtain ⟨rfl, _⟩ := q
        have e2 : acc = (P.map stripL).map fun p => D.bl (digB p) := by
          rw [e1, List.map_map]
          refine List.map_congr_left fun p _ => ?_
          show D.bl (digB (mkS p).cps.toList) = _
          rw [cps_mk]
        rw [e2]
        have e3 : ((P.map stripL).map digB).all id = (P.map stripL).all digB := by
          rw [List.all_map]
          rfl
        cases hd : (P.map stripL).all digB with
        | false =>
          simp only [T_seq, T_dic0, T_cut, T_ret, T_asg, T_drop, T_ifS, T_next, T_var, T_c, T_nil, T_cons, T_op, T_un, T_cb, T_t, T_chain, T_and, T_or, T_not, T_andV, T_orV, T_notV, T_if, T_tup, T_lst, T_lstC, T_no, T_part, T_sl, T_slC, S_seq, S_range1, S_range2, T_lc, T_lcC, T_for, T_while, T_setIx, T_call, T_callS, T_start, T_m0, T_yes, T_asgT, vals?, pick_nil, pick_cons, setT, setAll, wipeD, List.getElem?_cons_zero, List.getElem?_cons_succ, List.set_cons_zero, List.set_cons_succ, List.cons_append, List.nil_append, List.append_nil, List.length_cons, List.length_nil, List.map_cons, List.map_nil, oIsi, oLen, oAbs, oInt, oAll, oAny, oAllF, oList, oSum, oIx, oSl, oLt, oLe, oGt, oGe, oSub, oMul, oMod, oFdiv, oPow, oAdd, oAddL, oI, oI0, oIsB, oNotB, oUpper, cellOf?, ren, oIn, oNin, oInF, Nat.reduceSub, Nat.reduceAdd, List.reduceReplicate, true_and, if_true, if_false, Bool.false_eq_true, ite_true, ite_false, eq_self, decide_true, decide_false, Bool.not_true, Bool.not_false, id, oEq, oNe, oEqF, now_val, eqD_str, eqD_int, eqD_nn, T_par, T_par3, T_fld, T_setF, T_make, T_meth, T_isi, T_raise0, T_raise1, T_try, T_tryAs, T_exf, T_asgN, setN, setNs, argsOf, oModN, oIsiI, oOwnB, oOwnE, oOwnN, oOwnG, oTup, oNeg, oI, oI0, insOf_ins, insOf_int, sub_R, rat, lk1, lk2, true_or, or_true, ne_eq, not_false_eq_true, oIntS, oStr0C, T_sm1, oSplit, oNotN, oIsN, T_cmeth, mapM_bl_map, e3.trans hd]
          exact h2 (refuse fun z => by rw [hd] at z; exact absurd z.2 (by decide)) _
        | true =>
          simp only [T_seq, T_dic0, T_cut, T_ret, T_asg, T_drop, T_ifS, T_next, T_var, T_c, T_nil, T_cons, T_op, T_un, T_cb, T_t, T_chain, T_and, T_or, T_not, T_andV, T_orV, T_notV, T_if, T_tup, T_lst, T_lstC, T_no, T_part, T_sl, T_slC, S_seq, S_range1, S_range2, T_lc, T_lcC, T_for, T_while, T_setIx, T_call, T_callS, T_start, T_m0, T_yes, T_asgT, vals?, pick_nil, pick_cons, setT, setAll, wipeD, List.getElem?_cons_zero, List.getElem?_cons_succ, List.set_cons_zero, List.set_cons_succ, List.cons_append, List.nil_append, List.append_nil, List.length_cons, List.length_nil, List.map_cons, List.map_nil, oIsi, oLen, oAbs, oInt, oAll, oAny, oAllF, oList, oSum, oIx, oSl, oLt, oLe, oGt, oGe, oSub, oMul, oMod, oFdiv, oPow, oAdd, oAddL, oI, oI0, oIsB, oNotB, oUpper, cellOf?, ren, oIn, oNin, oInF, Nat.reduceSub, Nat.reduceAdd, List.reduceReplicate, true_and, if_true, if_false, Bool.false_eq_true, ite_true, ite_false, eq_self, decide_true, decide_false, Bool.not_true, Bool.not_false, id, oEq, oNe, oEqF, now_val, eqD_str, eqD_int, eqD_nn, T_par, T_par3, T_fld, T_setF, T_make, T_meth, T_isi, T_raise0, T_raise1, T_try, T_tryAs, T_exf, T_asgN, setN, setNs, argsOf, oModN, oIsiI, oOwnB, oOwnE, oOwnN, oOwnG, oTup, oNeg, oI, oI0, insOf_ins, insOf_int, sub_R, rat, lk1, lk2, true_or, or_true, ne_eq, not_false_eq_true, oIntS, oStr0C, T_sm1, oSplit, oNotN, oIsN, T_cmeth, mapM_bl_map, e3.trans hd]
          have hdig : ∀ p ∈ P, digB (stripL p) = true := fun p hp => List.all_eq_true.mp hd _ (List.mem_map_of_mem hp)
          unfold t_Ratio_read_4
          simp only [T_seq, T_dic0, T_cut, T_ret, T_asg, T_drop, T_ifS, T_next, T_var, T_c, T_nil, T_cons, T_op, T_un, T_cb, T_t, T_chain, T_and, T_or, T_not, T_andV, T_orV, T_notV, T_if, T_tup, T_lst, T_lstC, T_no, T_part, T_sl, T_slC, S_seq, S_range1, S_range2, T_lc, T_lcC, T_for, T_while, T_setIx, T_call, T_callS, T_start, T_m0, T_yes, T_asgT, vals?, pick_nil, pick_cons, setT, setAll, wipeD, List.getElem?_cons_zero, List.getElem?_cons_succ, List.set_cons_zero, List.set_cons_succ, List.cons_append, List.nil_append, List.append_nil, List.length_cons, List.length_nil, List.map_cons, List.map_nil, oIsi, oLen, oAbs, oInt, oAll, oAny, oAllF, oList, oSum, oIx, oSl, oLt, oLe, oGt, oGe, oSub, oMul, oMod, oFdiv, oPow, oAdd, oAddL, oI, oI0, oIsB, oNotB, oUpper, cellOf?, ren, oIn, oNin, oInF, Nat.reduceSub, Nat.reduceAdd, List.reduceReplicate, true_and, if_true, if_false, Bool.false_eq_true, ite_true, ite_false, eq_self, decide_true, decide_false, Bool.not_true, Bool.not_false, id, oEq, oNe, oEqF, now_val, eqD_str, eqD_int, eqD_nn, T_par, T_par3, T_fld, T_setF, T_make, T_meth, T_isi, T_raise0, T_raise1, T_try, T_tryAs, T_exf, T_asgN, setN, setNs, argsOf, oModN, oIsiI, oOwnB, oOwnE, oOwnN, oOwnG, oTup, oNeg, oI, oI0, insOf_ins, insOf_int, sub_R, rat, lk1, lk2, true_or, or_true, ne_eq, not_false_eq_true, oIntS, oStr0C, T_sm1, oSplit, oNotN, oIsN, T_cmeth]
          refine ⟨IvMap valD (P.map pD) [], .zero, fun i acc μ' _ q => q.le, lenP, fun i x acc μ' hx q => ?_, fun acc μ' q => ?_⟩
          · have q' := q.step hx
            rw [List.getElem?_map] at hx
            cases c : P[i]? with
            | none => rw [c] at hx; cases hx
            | some p =>
              rw [c] at hx
              cases hx
              have hpm := List.mem_of_getElem? c
              have lp := pp p hpm
              have es : valD (pD p) = .int (valL p) := by
                show D.int (valL (mkS p).cps.toList) = _
                rw [cps_mk]
              rw [es] at q'
              simp only [T_seq, T_dic0, T_cut, T_ret, T_asg, T_drop, T_ifS, T_next, T_var, T_c, T_nil, T_cons, T_op, T_un, T_cb, T_t, T_chain, T_and, T_or, T_not, T_andV, T_orV, T_notV, T_if, T_tup, T_lst, T_lstC, T_no, T_part, T_sl, T_slC, S_seq, S_range1, S_range2, T_lc, T_lcC, T_for, T_while, T_setIx, T_call, T_callS, T_start, T_m0, T_yes, T_asgT, vals?, pick_nil, pick_cons, setT, setAll, wipeD, List.getElem?_cons_zero, List.getElem?_cons_succ, List.set_cons_zero, List.set_cons_succ, List.cons_append, List.nil_append, List.append_nil, List.length_cons, List.length_nil, List.map_cons, List.map_nil, oIsi, oLen, oAbs, oInt, oAll, oAny, oAllF, oList, oSum, oIx, oSl, oLt, oLe, oGt, oGe, oSub, oMul, oMod, oFdiv, oPow, oAdd, oAddL, oI, oI0, oIsB, oNotB, oUpper, cellOf?, ren, oIn, oNin, oInF, Nat.reduceSub, Nat.reduceAdd, List.reduceReplicate, true_and, if_true, if_false, Bool.false_eq_true, ite_true, ite_false, eq_self, decide_true, decide_false, Bool.not_true, Bool.not_false, id, oEq, oNe, oEqF, now_val, eqD_str, eqD_int, eqD_nn, T_par, T_par3, T_fld, T_setF, T_make, T_meth, T_isi, T_raise0, T_raise1, T_try, T_tryAs, T_exf, T_asgN, setN, setNs, argsOf, oModN, oIsiI, oOwnB, oOwnE, oOwnN, oOwnG, oTup, oNeg, oI, oI0, insOf_ins, insOf_int, sub_R, rat, lk1, lk2, true_or, or_true, ne_eq, not_false_eq_true, oIntS, oStr0C, T_sm1, oSplit, oNotN, oIsN, T_cmeth, pD, oIntS, mk_len, int_dig (hdig p hpm) (by omega)]
              exact ⟨by omega, q'⟩
          · have e1 := q.done
            obtain ⟨rfl, _⟩ := q
            have e2 : acc = (P.map valL).map D.int := by
              rw [e1, List.map_map, List.map_map]
              refine List.map_congr_left fun p _ => ?_
              show D.int (valL (mkS p).cps.toList) = _
              rw [cps_mk]
              rfl
            rw [e2]
            have hb : ∀ p ∈ P, B15 (valL p) := fun p hp => Nat.lt_trans (valL_lt (hdig p hp) (by have := pp p hp; omega : p.length ≤ 400)) (by decide +kernel)
            have fin : ∀ (n m : Int) (o : Option Sl), m ≠ 0 → B15 n → B15 m → (∀ {t b : Int}, Nf t b → mkS l = txtR t b → t = n ∧ b = m) → ∀ a, t_Ratio_read_7 ⟨t_Ratio_read_8 ⟨fun _ μ' => k (.val .non) μ', k, fun _ _ => False, fun _ _ => False, fun x _ μ' => e x μ'⟩, k, fun _ _ => False, fun _ _ => False, fun x _ μ' => e x μ'⟩
                [some (.val (.cls 1)), some (.val (.str (mkS l))), some (.val (.lst (P.map pD))), some (.val (.lst ((P.map stripL).map pD))), some (.val (.lst ((P.map valL).map D.int))), some (.val (rat a (low n m).1 (low n m).2)), o] [] := by
              intro n m o hm bn bm hu a
              have hl2 := low_le (p := n) hm
              unfold t_Ratio_read_7 t_Ratio_read_7a_0
              simp only [T_seq, T_dic0, T_cut, T_ret, T_asg, T_drop, T_ifS, T_next, T_var, T_c, T_nil, T_cons, T_op, T_un, T_cb, T_t, T_chain, T_and, T_or, T_not, T_andV, T_orV, T_notV, T_if, T_tup, T_lst, T_lstC, T_no, T_part, T_sl, T_slC, S_seq, S_range1, S_range2, T_lc, T_lcC, T_for, T_while, T_setIx, T_call, T_callS, T_start, T_m0, T_yes, T_asgT, vals?, pick_nil, pick_cons, setT, setAll, wipeD, List.getElem?_cons_zero, List.getElem?_cons_succ, List.set_cons_zero, List.set_cons_succ, List.cons_append, List.nil_append, List.append_nil, List.length_cons, List.length_nil, List.map_cons, List.map_nil, oIsi, oLen, oAbs, oInt, oAll, oAny, oAllF, oList, oSum, oIx, oSl, oLt, oLe, oGt, oGe, oSub, oMul, oMod, oFdiv, oPow, oAdd, oAddL, oI, oI0, oIsB, oNotB, oUpper, cellOf?, ren, oIn, oNin, oInF, Nat.reduceSub, Nat.reduceAdd, List.reduceReplicate, true_and, if_true, if_false, Bool.false_eq_true, ite_true, ite_false, eq_self, decide_true, decide_false, Bool.not_true, Bool.not_false, id, oEq, oNe, oEqF, now_val, eqD_str, eqD_int, eqD_nn, T_par, T_par3, T_fld, T_setF, T_make, T_meth, T_isi, T_raise0, T_raise1, T_try, T_tryAs, T_exf, T_asgN, setN, setNs, argsOf, oModN, oIsiI, oOwnB, oOwnE, oOwnN, oOwnG, oTup, oNeg, oI, oI0, insOf_ins, insOf_int, sub_R, rat, lk1, lk2, true_or, or_true, ne_eq, not_false_eq_true, oIntS, oStr0C, T_sm1, oSplit, oNotN, oIsN, T_cmeth, oStrS]
              refine ⟨a, _, _, rfl, Nat.lt_of_le_of_lt hl2.1 bn, Nat.lt_of_le_of_lt hl2.2 bm, _, rfl, ?_⟩
              have nf := low_Nf (t := n) hm
              by_cases ce : txtR (low n m).1 (low n m).2 = mkS l
              · simp only [T_seq, T_dic0, T_cut, T_ret, T_asg, T_drop, T_ifS, T_next, T_var, T_c, T_nil, T_cons, T_op, T_un, T_cb, T_t, T_chain, T_and, T_or, T_not, T_andV, T_orV, T_notV, T_if, T_tup, T_lst, T_lstC, T_no, T_part, T_sl, T_slC, S_seq, S_range1, S_range2, T_lc, T_lcC, T_for, T_while, T_setIx, T_call, T_callS, T_start, T_m0, T_yes, T_asgT, vals?, pick_nil, pick_cons, setT, setAll, wipeD, List.getElem?_cons_zero, List.getElem?_cons_succ, List.set_cons_zero, List.set_cons_succ, List.cons_append, List.nil_append, List.append_nil, List.length_cons, List.length_nil, List.map_cons, List.map_nil, oIsi, oLen, oAbs, oInt, oAll, oAny, oAllF, oList, oSum, oIx, oSl, oLt, oLe, oGt, oGe, oSub, oMul, oMod, oFdiv, oPow, oAdd, oAddL, oI, oI0, oIsB, oNotB, oUpper, cellOf?, ren, oIn, oNin, oInF, Nat.reduceSub, Nat.reduceAdd, List.reduceReplicate, true_and, if_true, if_false, Bool.false_eq_true, ite_true, ite_false, eq_self, decide_true, decide_false, Bool.not_true, Bool.not_false, id, oEq, oNe, oEqF, now_val, eqD_str, eqD_int, eqD_nn, T_par, T_par3, T_fld, T_setF, T_make, T_meth, T_isi, T_raise0, T_raise1, T_try, T_tryAs, T_exf, T_asgN, setN, setNs, argsOf, oModN, oIsiI, oOwnB, oOwnE, oOwnN, oOwnG, oTup, oNeg, oI, oI0, insOf_ins, insOf_int, sub_R, rat, lk1, lk2, true_or, or_true, ne_eq, not_false_eq_true, oIntS, oStr0C, T_sm1, oSplit, oNotN, oIsN, T_cmeth, decide_eq_true ce]
                unfold t_Ratio_read_8
                simp only [T_seq, T_dic0, T_cut, T_ret, T_asg, T_drop, T_ifS, T_next, T_var, T_c, T_nil, T_cons, T_op, T_un, T_cb, T_t, T_chain, T_and, T_or, T_not, T_andV, T_orV, T_notV, T_if, T_tup, T_lst, T_lstC, T_no, T_part, T_sl, T_slC, S_seq, S_range1, S_range2, T_lc, T_lcC, T_for, T_while, T_setIx, T_call, T_callS, T_start, T_m0, T_yes, T_asgT, vals?, pick_nil, pick_cons, setT, setAll, wipeD, List.getElem?_cons_zero, List.getElem?_cons_succ, List.set_cons_zero, List.set_cons_succ, List.cons_append, List.nil_append, List.append_nil, List.length_cons, List.length_nil, List.map_cons, List.map_nil, oIsi, oLen, oAbs, oInt, oAll, oAny, oAllF, oList, oSum, oIx, oSl, oLt, oLe, oGt, oGe, oSub, oMul, oMod, oFdiv, oPow, oAdd, oAddL, oI, oI0, oIsB, oNotB, oUpper, cellOf?, ren, oIn, oNin, oInF, Nat.reduceSub, Nat.reduceAdd, List.reduceReplicate, true_and, if_true, if_false, Bool.false_eq_true, ite_true, ite_false, eq_self, decide_true, decide_false, Bool.not_true, Bool.not_false, id, oEq, oNe, oEqF, now_val, eqD_str, eqD_int, eqD_nn, T_par, T_par3, T_fld, T_setF, T_make, T_meth, T_isi, T_raise0, T_raise1, T_try, T_tryAs, T_exf, T_asgN, setN, setNs, argsOf, oModN, oIsiI, oOwnB, oOwnE, oOwnN, oOwnG, oTup, oNeg, oI, oI0, insOf_ins, insOf_int, sub_R, rat, lk1, lk2, true_or, or_true, ne_eq, not_false_eq_true, oIntS, oStr0C, T_sm1, oSplit, oNotN, oIsN, T_cmeth]
                exact h1 _ _ nf ce.symm a _
              · simp only [T_seq, T_dic0, T_cut, T_ret, T_asg, T_drop, T_ifS, T_next, T_var, T_c, T_nil, T_cons, T_op, T_un, T_cb, T_t, T_chain, T_and, T_or, T_not, T_andV, T_orV, T_notV, T_if, T_tup, T_lst, T_lstC, T_no, T_part, T_sl, T_slC, S_seq, S_range1, S_range2, T_lc, T_lcC, T_for, T_while, T_setIx, T_call, T_callS, T_start, T_m0, T_yes, T_asgT, vals?, pick_nil, pick_cons, setT, setAll, wipeD, List.getElem?_cons_zero, List.getElem?_cons_succ, List.set_cons_zero, List.set_cons_succ, List.cons_append, List.nil_append, List.append_nil, List.length_cons, List.length_nil, List.map_cons, List.map_nil, oIsi, oLen, oAbs, oInt, oAll, oAny, oAllF, oList, oSum, oIx, oSl, oLt, oLe, oGt, oGe, oSub, oMul, oMod, oFdiv, oPow, oAdd, oAddL, oI, oI0, oIsB, oNotB, oUpper, cellOf?, ren, oIn, oNin, oInF, Nat.reduceSub, Nat.reduceAdd, List.reduceReplicate, true_and, if_true, if_false, Bool.false_eq_true, ite_true, ite_false, eq_self, decide_true, decide_false, Bool.not_true, Bool.not_false, id, oEq, oNe, oEqF, now_val, eqD_str, eqD_int, eqD_nn, T_par, T_par3, T_fld, T_setF, T_make, T_meth, T_isi, T_raise0, T_raise1, T_try, T_tryAs, T_exf, T_asgN, setN, setNs, argsOf, oModN, oIsiI, oOwnB, oOwnE, oOwnN, oOwnG, oTup, oNeg, oI, oI0, insOf_ins, insOf_int, sub_R, rat, lk1, lk2, true_or, or_true, ne_eq, not_false_eq_true, oIntS, oStr0C, T_sm1, oSplit, oNotN, oIsN, T_cmeth, decide_eq_false ce]
                refine h2 ?_ _
                rintro ⟨t, b, hn, he⟩
                obtain ⟨rfl, rfl⟩ := hu hn he
                rw [low_nf hn.1 hn.2] at ce
                exact ce he.symm
            unfold t_Ratio_read_5 t_Ratio_read_5a_0
            have hP : P.length = 1 ∨ P.length = 2 := by
              have : P.length ≠ 0 := fun z => pn (List.length_eq_zero_iff.mp z)
              omega
            have a1 : ∀ x : D, atI [x] (-1) = some x := fun _ => rfl
            have a2 : ∀ x y : D, atI [x, y] (-1) = some y := fun _ _ => rfl
            rcases hP with hP | hP
            · obtain ⟨p, rfl⟩ := List.length_eq_one_iff.mp hP
              have bp := hb p (by simp)
              have i1 : B15 1 := by show (1 : Nat) < _; decide
              simp only [T_seq, T_dic0, T_cut, T_ret, T_asg, T_drop, T_ifS, T_next, T_var, T_c, T_nil, T_cons, T_op, T_un, T_cb, T_t, T_chain, T_and, T_or, T_not, T_andV, T_orV, T_notV, T_if, T_tup, T_lst, T_lstC, T_no, T_part, T_sl, T_slC, S_seq, S_range1, S_range2, T_lc, T_lcC, T_for, T_while, T_setIx, T_call, T_callS, T_start, T_m0, T_yes, T_asgT, vals?, pick_nil, pick_cons, setT, setAll, wipeD, List.getElem?_cons_zero, List.getElem?_cons_succ, List.set_cons_zero, List.set_cons_succ, List.cons_append, List.nil_append, List.append_nil, List.length_cons, List.length_nil, List.map_cons, List.map_nil, oIsi, oLen, oAbs, oInt, oAll, oAny, oAllF, oList, oSum, oIx, oSl, oLt, oLe, oGt, oGe, oSub, oMul, oMod, oFdiv, oPow, oAdd, oAddL, oI, oI0, oIsB, oNotB, oUpper, cellOf?, ren, oIn, oNin, oInF, Nat.reduceSub, Nat.reduceAdd, List.reduceReplicate, true_and, if_true, if_false, Bool.false_eq_true, ite_true, ite_false, eq_self, decide_true, decide_false, Bool.not_true, Bool.not_false, id, oEq, oNe, oEqF, now_val, eqD_str, eqD_int, eqD_nn, T_par, T_par3, T_fld, T_setF, T_make, T_meth, T_isi, T_raise0, T_raise1, T_try, T_tryAs, T_exf, T_asgN, setN, setNs, argsOf, oModN, oIsiI, oOwnB, oOwnE, oOwnN, oOwnG, oTup, oNeg, oI, oI0, insOf_ins, insOf_int, sub_R, rat, lk1, lk2, true_or, or_true, ne_eq, not_false_eq_true, oIntS, oStr0C, T_sm1, oSplit, oNotN, oIsN, T_cmeth, a1]
              have go : t_Ratio_read_6 ⟨T_seq t_Ratio_read_7 t_Ratio_read_8 ⟨fun _ μ' => k (.val .non) μ', k, fun _ _ => False, fun _ _ => False, fun x _ μ' => e x μ'⟩, k, fun _ _ => False, fun _ _ => False, fun x _ μ' => e x μ'⟩
                  [some (.val (.cls 1)), some (.val (.str (mkS l))), some (.val (.lst [pD p])), some (.val (.lst [pD (stripL p)])), some (.val (.lst [D.int (valL p)])), none, none] [] := by
                unfold t_Ratio_read_6
                simp only [T_seq, T_dic0, T_cut, T_ret, T_asg, T_drop, T_ifS, T_next, T_var, T_c, T_nil, T_cons, T_op, T_un, T_cb, T_t, T_chain, T_and, T_or, T_not, T_andV, T_orV, T_notV, T_if, T_tup, T_lst, T_lstC, T_no, T_part, T_sl, T_slC, S_seq, S_range1, S_range2, T_lc, T_lcC, T_for, T_while, T_setIx, T_call, T_callS, T_start, T_m0, T_yes, T_asgT, vals?, pick_nil, pick_cons, setT, setAll, wipeD, List.getElem?_cons_zero, List.getElem?_cons_succ, List.set_cons_zero, List.set_cons_succ, List.cons_append, List.nil_append, List.append_nil, List.length_cons, List.length_nil, List.map_cons, List.map_nil, oIsi, oLen, oAbs, oInt, oAll, oAny, oAllF, oList, oSum, oIx, oSl, oLt, oLe, oGt, oGe, oSub, oMul, oMod, oFdiv, oPow, oAdd, oAddL, oI, oI0, oIsB, oNotB, oUpper, cellOf?, ren, oIn, oNin, oInF, Nat.reduceSub, Nat.reduceAdd, List.reduceReplicate, true_and, if_true, if_false, Bool.false_eq_true, ite_true, ite_false, eq_self, decide_true, decide_false, Bool.not_true, Bool.not_false, id, oEq, oNe, oEqF, now_val, eqD_str, eqD_int, eqD_nn, T_par, T_par3, T_fld, T_setF, T_make, T_meth, T_isi, T_raise0, T_raise1, T_try, T_tryAs, T_exf, T_asgN, setN, setNs, argsOf, oModN, oIsiI, oOwnB, oOwnE, oOwnN, oOwnG, oTup, oNeg, oI, oI0, insOf_ins, insOf_int, sub_R, rat, lk1, lk2, true_or, or_true, ne_eq, not_false_eq_true, oIntS, oStr0C, T_sm1, oSplit, oNotN, oIsN, T_cmeth, T_makeS, star12]
                refine init_ok (by decide) (by decide) fun a => ?_
                refine fin (valL p) 1 none (by decide) bp i1 (fun {t b} hn he => ?_) a
                have z := tx hn he
                split at z
                · rename_i hb1
                  injection z with z _
                  exact ⟨by rw [z, val_sgn], hb1⟩
                · simp at z
              by_cases c0 : valL p = 0
              · simp only [T_seq, T_dic0, T_cut, T_ret, T_asg, T_drop, T_ifS, T_next, T_var, T_c, T_nil, T_cons, T_op, T_un, T_cb, T_t, T_chain, T_and, T_or, T_not, T_andV, T_orV, T_notV, T_if, T_tup, T_lst, T_lstC, T_no, T_part, T_sl, T_slC, S_seq, S_range1, S_range2, T_lc, T_lcC, T_for, T_while, T_setIx, T_call, T_callS, T_start, T_m0, T_yes, T_asgT, vals?, pick_nil, pick_cons, setT, setAll, wipeD, List.getElem?_cons_zero, List.getElem?_cons_succ, List.set_cons_zero, List.set_cons_succ, List.cons_append, List.nil_append, List.append_nil, List.length_cons, List.length_nil, List.map_cons, List.map_nil, oIsi, oLen, oAbs, oInt, oAll, oAny, oAllF, oList, oSum, oIx, oSl, oLt, oLe, oGt, oGe, oSub, oMul, oMod, oFdiv, oPow, oAdd, oAddL, oI, oI0, oIsB, oNotB, oUpper, cellOf?, ren, oIn, oNin, oInF, Nat.reduceSub, Nat.reduceAdd, List.reduceReplicate, true_and, if_true, if_false, Bool.false_eq_true, ite_true, ite_false, eq_self, decide_true, decide_false, Bool.not_true, Bool.not_false, id, oEq, oNe, oEqF, now_val, eqD_str, eqD_int, eqD_nn, T_par, T_par3, T_fld, T_setF, T_make, T_meth, T_isi, T_raise0, T_raise1, T_try, T_tryAs, T_exf, T_asgN, setN, setNs, argsOf, oModN, oIsiI, oOwnB, oOwnE, oOwnN, oOwnG, oTup, oNeg, oI, oI0, insOf_ins, insOf_int, sub_R, rat, lk1, lk2, true_or, or_true, ne_eq, not_false_eq_true, oIntS, oStr0C, T_sm1, oSplit, oNotN, oIsN, T_cmeth, decide_eq_true c0]
                exact go
              · simp only [T_seq, T_dic0, T_cut, T_ret, T_asg, T_drop, T_ifS, T_next, T_var, T_c, T_nil, T_cons, T_op, T_un, T_cb, T_t, T_chain, T_and, T_or, T_not, T_andV, T_orV, T_notV, T_if, T_tup, T_lst, T_lstC, T_no, T_part, T_sl, T_slC, S_seq, S_range1, S_range2, T_lc, T_lcC, T_for, T_while, T_setIx, T_call, T_callS, T_start, T_m0, T_yes, T_asgT, vals?, pick_nil, pick_cons, setT, setAll, wipeD, List.getElem?_cons_zero, List.getElem?_cons_succ, List.set_cons_zero, List.set_cons_succ, List.cons_append, List.nil_append, List.append_nil, List.length_cons, List.length_nil, List.map_cons, List.map_nil, oIsi, oLen, oAbs, oInt, oAll, oAny, oAllF, oList, oSum, oIx, oSl, oLt, oLe, oGt, oGe, oSub, oMul, oMod, oFdiv, oPow, oAdd, oAddL, oI, oI0, oIsB, oNotB, oUpper, cellOf?, ren, oIn, oNin, oInF, Nat.reduceSub, Nat.reduceAdd, List.reduceReplicate, true_and, if_true, if_false, Bool.false_eq_true, ite_true, ite_false, eq_self, decide_true, decide_false, Bool.not_true, Bool.not_false, id, oEq, oNe, oEqF, now_val, eqD_str, eqD_int, eqD_nn, T_par, T_par3, T_fld, T_setF, T_make, T_meth, T_isi, T_raise0, T_raise1, T_try, T_tryAs, T_exf, T_asgN, setN, setNs, argsOf, oModN, oIsiI, oOwnB, oOwnE, oOwnN, oOwnG, oTup, oNeg, oI, oI0, insOf_ins, insOf_int, sub_R, rat, lk1, lk2, true_or, or_true, ne_eq, not_false_eq_true, oIntS, oStr0C, T_sm1, oSplit, oNotN, oIsN, T_cmeth, decide_eq_false c0]
                exact go
            · obtain ⟨p, p2, rfl⟩ : ∃ p q, P = [p, q] := by
                match P, hP with
                | [p, q], _ => exact ⟨p, q, rfl⟩
              have bp := hb p (by simp)
              have bq := hb p2 (by simp)
              simp only [T_seq, T_dic0, T_cut, T_ret, T_asg, T_drop, T_ifS, T_next, T_var, T_c, T_nil, T_cons, T_op, T_un, T_cb, T_t, T_chain, T_and, T_or, T_not, T_andV, T_orV, T_notV, T_if, T_tup, T_lst, T_lstC, T_no, T_part, T_sl, T_slC, S_seq, S_range1, S_range2, T_lc, T_lcC, T_for, T_while, T_setIx, T_call, T_callS, T_start, T_m0, T_yes, T_asgT, vals?, pick_nil, pick_cons, setT, setAll, wipeD, List.getElem?_cons_zero, List.getElem?_cons_succ, List.set_cons_zero, List.set_cons_succ, List.cons_append, List.nil_append, List.append_nil, List.length_cons, List.length_nil, List.map_cons, List.map_nil, oIsi, oLen, oAbs, oInt, oAll, oAny, oAllF, oList, oSum, oIx, oSl, oLt, oLe, oGt, oGe, oSub, oMul, oMod, oFdiv, oPow, oAdd, oAddL, oI, oI0, oIsB, oNotB, oUpper, cellOf?, ren, oIn, oNin, oInF, Nat.reduceSub, Nat.reduceAdd, List.reduceReplicate, true_and, if_true, if_false, Bool.false_eq_true, ite_true, ite_false, eq_self, decide_true, decide_false, Bool.not_true, Bool.not_false, id, oEq, oNe, oEqF, now_val, eqD_str, eqD_int, eqD_nn, T_par, T_par3, T_fld, T_setF, T_make, T_meth, T_isi, T_raise0, T_raise1, T_try, T_tryAs, T_exf, T_asgN, setN, setNs, argsOf, oModN, oIsiI, oOwnB, oOwnE, oOwnN, oOwnG, oTup, oNeg, oI, oI0, insOf_ins, insOf_int, sub_R, rat, lk1, lk2, true_or, or_true, ne_eq, not_false_eq_true, oIntS, oStr0C, T_sm1, oSplit, oNotN, oIsN, T_cmeth, a2]
              by_cases c0 : valL p2 = 0
              · simp only [T_seq, T_dic0, T_cut, T_ret, T_asg, T_drop, T_ifS, T_next, T_var, T_c, T_nil, T_cons, T_op, T_un, T_cb, T_t, T_chain, T_and, T_or, T_not, T_andV, T_orV, T_notV, T_if, T_tup, T_lst, T_lstC, T_no, T_part, T_sl, T_slC, S_seq, S_range1, S_range2, T_lc, T_lcC, T_for, T_while, T_setIx, T_call, T_callS, T_start, T_m0, T_yes, T_asgT, vals?, pick_nil, pick_cons, setT, setAll, wipeD, List.getElem?_cons_zero, List.getElem?_cons_succ, List.set_cons_zero, List.set_cons_succ, List.cons_append, List.nil_append, List.append_nil, List.length_cons, List.length_nil, List.map_cons, List.map_nil, oIsi, oLen, oAbs, oInt, oAll, oAny, oAllF, oList, oSum, oIx, oSl, oLt, oLe, oGt, oGe, oSub, oMul, oMod, oFdiv, oPow, oAdd, oAddL, oI, oI0, oIsB, oNotB, oUpper, cellOf?, ren, oIn, oNin, oInF, Nat.reduceSub, Nat.reduceAdd, List.reduceReplicate, true_and, if_true, if_false, Bool.false_eq_true, ite_true, ite_false, eq_self, decide_true, decide_false, Bool.not_true, Bool.not_false, id, oEq, oNe, oEqF, now_val, eqD_str, eqD_int, eqD_nn, T_par, T_par3, T_fld, T_setF, T_make, T_meth, T_isi, T_raise0, T_raise1, T_try, T_tryAs, T_exf, T_asgN, setN, setNs, argsOf, oModN, oIsiI, oOwnB, oOwnE, oOwnN, oOwnG, oTup, oNeg, oI, oI0, insOf_ins, insOf_int, sub_R, rat, lk1, lk2, true_or, or_true, ne_eq, not_false_eq_true, oIntS, oStr0C, T_sm1, oSplit, oNotN, oIsN, T_cmeth, decide_eq_true c0]
                refine h2 ?_ _
                rintro ⟨t, b, hn, he⟩
                have z := tx hn he
                split at z
                · simp at z
                · injection z with _ z
                  injection z with z _
                  rw [z, val_sgn] at c0
                  have := hn.1
                  omega
              · simp only [T_seq, T_dic0, T_cut, T_ret, T_asg, T_drop, T_ifS, T_next, T_var, T_c, T_nil, T_cons, T_op, T_un, T_cb, T_t, T_chain, T_and, T_or, T_not, T_andV, T_orV, T_notV, T_if, T_tup, T_lst, T_lstC, T_no, T_part, T_sl, T_slC, S_seq, S_range1, S_range2, T_lc, T_lcC, T_for, T_while, T_setIx, T_call, T_callS, T_start, T_m0, T_yes, T_asgT, vals?, pick_nil, pick_cons, setT, setAll, wipeD, List.getElem?_cons_zero, List.getElem?_cons_succ, List.set_cons_zero, List.set_cons_succ, List.cons_append, List.nil_append, List.append_nil, List.length_cons, List.length_nil, List.map_cons, List.map_nil, oIsi, oLen, oAbs, oInt, oAll, oAny, oAllF, oList, oSum, oIx, oSl, oLt, oLe, oGt, oGe, oSub, oMul, oMod, oFdiv, oPow, oAdd, oAddL, oI, oI0, oIsB, oNotB, oUpper, cellOf?, ren, oIn, oNin, oInF, Nat.reduceSub, Nat.reduceAdd, List.reduceReplicate, true_and, if_true, if_false, Bool.false_eq_true, ite_true, ite_false, eq_self, decide_true, decide_false, Bool.not_true, Bool.not_false, id, oEq, oNe, oEqF, now_val, eqD_str, eqD_int, eqD_nn, T_par, T_par3, T_fld, T_setF, T_make, T_meth, T_isi, T_raise0, T_raise1, T_try, T_tryAs, T_exf, T_asgN, setN, setNs, argsOf, oModN, oIsiI, oOwnB, oOwnE, oOwnN, oOwnG, oTup, oNeg, oI, oI0, insOf_ins, insOf_int, sub_R, rat, lk1, lk2, true_or, or_true, ne_eq, not_false_eq_true, oIntS, oStr0C, T_sm1, oSplit, oNotN, oIsN, T_cmeth, decide_eq_false c0]
                unfold t_Ratio_read_6
                simp only [T_seq, T_dic0, T_cut, T_ret, T_asg, T_drop, T_ifS, T_next, T_var, T_c, T_nil, T_cons, T_op, T_un, T_cb, T_t, T_chain, T_and, T_or, T_not, T_andV, T_orV, T_notV, T_if, T_tup, T_lst, T_lstC, T_no, T_part, T_sl, T_slC, S_seq, S_range1, S_range2, T_lc, T_lcC, T_for, T_while, T_setIx, T_call, T_callS, T_start, T_m0, T_yes, T_asgT, vals?, pick_nil, pick_cons, setT, setAll, wipeD, List.getElem?_cons_zero, List.getElem?_cons_succ, List.set_cons_zero, List.set_cons_succ, List.cons_append, List.nil_append, List.append_nil, List.length_cons, List.length_nil, List.map_cons, List.map_nil, oIsi, oLen, oAbs, oInt, oAll, oAny, oAllF, oList, oSum, oIx, oSl, oLt, oLe, oGt, oGe, oSub, oMul, oMod, oFdiv, oPow, oAdd, oAddL, oI, oI0, oIsB, oNotB, oUpper, cellOf?, ren, oIn, oNin, oInF, Nat.reduceSub, Nat.reduceAdd, List.reduceReplicate, true_and, if_true, if_false, Bool.false_eq_true, ite_true, ite_false, eq_self, decide_true, decide_false, Bool.not_true, Bool.not_false, id, oEq, oNe, oEqF, now_val, eqD_str, eqD_int, eqD_nn, T_par, T_par3, T_fld, T_setF, T_make, T_meth, T_isi, T_raise0, T_raise1, T_try, T_tryAs, T_exf, T_asgN, setN, setNs, argsOf, oModN, oIsiI, oOwnB, oOwnE, oOwnN, oOwnG, oTup, oNeg, oI, oI0, insOf_ins, insOf_int, sub_R, rat, lk1, lk2, true_or, or_true, ne_eq, not_false_eq_true, oIntS, oStr0C, T_sm1, oSplit, oNotN, oIsN, T_cmeth, T_makeS, star12]
                refine init_ok c0 (Nat.lt_trans bq (Nat.pow_lt_pow_right (by decide) (by decide))) fun a => ?_
                refine fin (valL p) (valL p2) none c0 bp bq (fun {t b} hn he => ?_) a
                have z := tx hn he
                split at z
                · simp at z
                · injection z with z1 z
                  injection z with z _
                  exact ⟨by rw [z1, val_sgn], by rw [z, val_sgn]⟩
theorem v_Ratio_read : Vc_Ratio_read := vcP fun xs k e h => by
  obtain ⟨d, rfl, hd⟩ := h
  unfold t_Ratio_read N_Ratio_read t_Ratio_read_0 t_Ratio_read_0a_0
  rcases hd with ⟨z, rfl, hz, h1, h2⟩ | ⟨⟨t, ht⟩, hn, he⟩
  · obtain ⟨l, rfl⟩ : ∃ l, z = mkS l := ⟨_, (mk_cps z).symm⟩
    rw [mk_len] at hz
    have ht : D.kind (.str (mkS l)) = some "str" := rfl
    simp only [T_seq, T_dic0, T_cut, T_ret, T_asg, T_drop, T_ifS, T_next, T_var, T_c, T_nil, T_cons, T_op, T_un, T_cb, T_t, T_chain, T_and, T_or, T_not, T_andV, T_orV, T_notV, T_if, T_tup, T_lst, T_lstC, T_no, T_part, T_sl, T_slC, S_seq, S_range1, S_range2, T_lc, T_lcC, T_for, T_while, T_setIx, T_call, T_callS, T_start, T_m0, T_yes, T_asgT, vals?, pick_nil, pick_cons, setT, setAll, wipeD, List.getElem?_cons_zero, List.getElem?_cons_succ, List.set_cons_zero, List.set_cons_succ, List.cons_append, List.nil_append, List.append_nil, List.length_cons, List.length_nil, List.map_cons, List.map_nil, oIsi, oLen, oAbs, oInt, oAll, oAny, oAllF, oList, oSum, oIx, oSl, oLt, oLe, oGt, oGe, oSub, oMul, oMod, oFdiv, oPow, oAdd, oAddL, oI, oI0, oIsB, oNotB, oUpper, cellOf?, ren, oIn, oNin, oInF, Nat.reduceSub, Nat.reduceAdd, List.reduceReplicate, true_and, if_true, if_false, Bool.false_eq_true, ite_true, ite_false, eq_self, decide_true, decide_false, Bool.not_true, Bool.not_false, id, oEq, oNe, oEqF, now_val, eqD_str, eqD_int, eqD_nn, T_par, T_par3, T_fld, T_setF, T_make, T_meth, T_isi, T_raise0, T_raise1, T_try, T_tryAs, T_exf, T_asgN, setN, setNs, argsOf, oModN, oIsiI, oOwnB, oOwnE, oOwnN, oOwnG, oTup, oNeg, oI, oI0, insOf_ins, insOf_int, sub_R, rat, lk1, lk2, true_or, or_true, ne_eq, not_false_eq_true, oIntS, oStr0C, T_sm1, oSplit, oNotN, oIsN, T_cmeth, ht, isa_str ht]
    by_cases c : mkS l = ""
    · simp only [T_seq, T_dic0, T_cut, T_ret, T_asg, T_drop, T_ifS, T_next, T_var, T_c, T_nil, T_cons, T_op, T_un, T_cb, T_t, T_chain, T_and, T_or, T_not, T_andV, T_orV, T_notV, T_if, T_tup, T_lst, T_lstC, T_no, T_part, T_sl, T_slC, S_seq, S_range1, S_range2, T_lc, T_lcC, T_for, T_while, T_setIx, T_call, T_callS, T_start, T_m0, T_yes, T_asgT, vals?, pick_nil, pick_cons, setT, setAll, wipeD, List.getElem?_cons_zero, List.getElem?_cons_succ, List.set_cons_zero, List.set_cons_succ, List.cons_append, List.nil_append, List.append_nil, List.length_cons, List.length_nil, List.map_cons, List.map_nil, oIsi, oLen, oAbs, oInt, oAll, oAny, oAllF, oList, oSum, oIx, oSl, oLt, oLe, oGt, oGe, oSub, oMul, oMod, oFdiv, oPow, oAdd, oAddL, oI, oI0, oIsB, oNotB, oUpper, cellOf?, ren, oIn, oNin, oInF, Nat.reduceSub, Nat.reduceAdd, List.reduceReplicate, true_and, if_true, if_false, Bool.false_eq_true, ite_true, ite_false, eq_self, decide_true, decide_false, Bool.not_true, Bool.not_false, id, oEq, oNe, oEqF, now_val, eqD_str, eqD_int, eqD_nn, T_par, T_par3, T_fld, T_setF, T_make, T_meth, T_isi, T_raise0, T_raise1, T_try, T_tryAs, T_exf, T_asgN, setN, setNs, argsOf, oModN, oIsiI, oOwnB, oOwnE, oOwnN, oOwnG, oTup, oNeg, oI, oI0, insOf_ins, insOf_int, sub_R, rat, lk1, lk2, true_or, or_true, ne_eq, not_false_eq_true, oIntS, oStr0C, T_sm1, oSplit, oNotN, oIsN, T_cmeth, decide_eq_true c]
      refine h2 ?_ _
      rintro ⟨t, b, hn, he⟩
      rw [c, mkS_nil] at he
      exact txtL_ne t b (mk_inj he).symm
    · simp only [T_seq, T_dic0, T_cut, T_ret, T_asg, T_drop, T_ifS, T_next, T_var, T_c, T_nil, T_cons, T_op, T_un, T_cb, T_t, T_chain, T_and, T_or, T_not, T_andV, T_orV, T_notV, T_if, T_tup, T_lst, T_lstC, T_no, T_part, T_sl, T_slC, S_seq, S_range1, S_range2, T_lc, T_lcC, T_for, T_while, T_setIx, T_call, T_callS, T_start, T_m0, T_yes, T_asgT, vals?, pick_nil, pick_cons, setT, setAll, wipeD, List.getElem?_cons_zero, List.getElem?_cons_succ, List.set_cons_zero, List.set_cons_succ, List.cons_append, List.nil_append, List.append_nil, List.length_cons, List.length_nil, List.map_cons, List.map_nil, oIsi, oLen, oAbs, oInt, oAll, oAny, oAllF, oList, oSum, oIx, oSl, oLt, oLe, oGt, oGe, oSub, oMul, oMod, oFdiv, oPow, oAdd, oAddL, oI, oI0, oIsB, oNotB, oUpper, cellOf?, ren, oIn, oNin, oInF, Nat.reduceSub, Nat.reduceAdd, List.reduceReplicate, true_and, if_true, if_false, Bool.false_eq_true, ite_true, ite_false, eq_self, decide_true, decide_false, Bool.not_true, Bool.not_false, id, oEq, oNe, oEqF, now_val, eqD_str, eqD_int, eqD_nn, T_par, T_par3, T_fld, T_setF, T_make, T_meth, T_isi, T_raise0, T_raise1, T_try, T_tryAs, T_exf, T_asgN, setN, setNs, argsOf, oModN, oIsiI, oOwnB, oOwnE, oOwnN, oOwnG, oTup, oNeg, oI, oI0, insOf_ins, insOf_int, sub_R, rat, lk1, lk2, true_or, or_true, ne_eq, not_false_eq_true, oIntS, oStr0C, T_sm1, oSplit, oNotN, oIsN, T_cmeth, decide_eq_false c]
      exact read_go hz (fun z => c (by rw [z, mkS_nil])) (fun t b hn he a ν => h1 t b hn he a ν) (fun z ν => h2 z ν)
  · cases d with
    | str z => exact absurd rfl (hn z)
    | ins => cases ht
    | exn => cases ht
    | ty => cases ht
    | cls => cases ht
    | obj a o => cases o <;> (first | (cases ht; done) | (simp only [T_seq, T_dic0, T_cut, T_ret, T_asg, T_drop, T_ifS, T_next, T_var, T_c, T_nil, T_cons, T_op, T_un, T_cb, T_t, T_chain, T_and, T_or, T_not, T_andV, T_orV, T_notV, T_if, T_tup, T_lst, T_lstC, T_no, T_part, T_sl, T_slC, S_seq, S_range1, S_range2, T_lc, T_lcC, T_for, T_while, T_setIx, T_call, T_callS, T_start, T_m0, T_yes, T_asgT, vals?, pick_nil, pick_cons, setT, setAll, wipeD, List.getElem?_cons_zero, List.getElem?_cons_succ, List.set_cons_zero, List.set_cons_succ, List.cons_append, List.nil_append, List.append_nil, List.length_cons, List.length_nil, List.map_cons, List.map_nil, oIsi, oLen, oAbs, oInt, oAll, oAny, oAllF, oList, oSum, oIx, oSl, oLt, oLe, oGt, oGe, oSub, oMul, oMod, oFdiv, oPow, oAdd, oAddL, oI, oI0, oIsB, oNotB, oUpper, cellOf?, ren, oIn, oNin, oInF, Nat.reduceSub, Nat.reduceAdd, List.reduceReplicate, true_and, if_true, if_false, Bool.false_eq_true, ite_true, ite_false, eq_self, decide_true, decide_false, Bool.not_true, Bool.not_false, id, oEq, oNe, oEqF, now_val, eqD_str, eqD_int, eqD_nn, T_par, T_par3, T_fld, T_setF, T_make, T_meth, T_isi, T_raise0, T_raise1, T_try, T_tryAs, T_exf, T_asgN, setN, setNs, argsOf, oModN, oIsiI, oOwnB, oOwnE, oOwnN, oOwnG, oTup, oNeg, oI, oI0, insOf_ins, insOf_int, sub_R, rat, lk1, lk2, true_or, or_true, ne_eq, not_false_eq_true, oIntS, oStr0C, T_sm1, oSplit, oNotN, oIsN, T_cmeth, ht, isa_str ht]; exact he []))
    | _ =>
      simp only [T_seq, T_dic0, T_cut, T_ret, T_asg, T_drop, T_ifS, T_next, T_var, T_c, T_nil, T_cons, T_op, T_un, T_cb, T_t, T_chain, T_and, T_or, T_not, T_andV, T_orV, T_notV, T_if, T_tup, T_lst, T_lstC, T_no, T_part, T_sl, T_slC, S_seq, S_range1, S_range2, T_lc, T_lcC, T_for, T_while, T_setIx, T_call, T_callS, T_start, T_m0, T_yes, T_asgT, vals?, pick_nil, pick_cons, setT, setAll, wipeD, List.getElem?_cons_zero, List.getElem?_cons_succ, List.set_cons_zero, List.set_cons_succ, List.cons_append, List.nil_append, List.append_nil, List.length_cons, List.length_nil, List.map_cons, List.map_nil, oIsi, oLen, oAbs, oInt, oAll, oAny, oAllF, oList, oSum, oIx, oSl, oLt, oLe, oGt, oGe, oSub, oMul, oMod, oFdiv, oPow, oAdd, oAddL, oI, oI0, oIsB, oNotB, oUpper, cellOf?, ren, oIn, oNin, oInF, Nat.reduceSub, Nat.reduceAdd, List.reduceReplicate, true_and, if_true, if_false, Bool.false_eq_true, ite_true, ite_false, eq_self, decide_true, decide_false, Bool.not_true, Bool.not_false, id, oEq, oNe, oEqF, now_val, eqD_str, eqD_int, eqD_nn, T_par, T_par3, T_fld, T_setF, T_make, T_meth, T_isi, T_raise0, T_raise1, T_try, T_tryAs, T_exf, T_asgN, setN, setNs, argsOf, oModN, oIsiI, oOwnB, oOwnE, oOwnN, oOwnG, oTup, oNeg, oI, oI0, insOf_ins, insOf_int, sub_R, rat, lk1, lk2, true_or, or_true, ne_eq, not_false_eq_true, oIntS, oStr0C, T_sm1, oSplit, oNotN, oIsN, T_cmeth, ht, isa_str ht]
      exact he []
theorem len_law_divisor : ∀ ds μ (k : KE) (e : KX), (ctP c_divisor : Ct) ds μ k e → ds.length = 2 := by
  rintro ds μ k e ⟨rfl, xs, rfl, a, b, rfl, _⟩
  rfl
def IvD (a b : Int) : Nat → Rho → Sto → Prop := fun i ρ μ => ∃ (x y : Int) (o : Option Sl), ρ = [some (.val (.int x)), some (.val (.int y)), o] ∧ μ = [] ∧ 0 ≤ x ∧ 0 ≤ y ∧ Int.gcd x y = Int.gcd a b ∧
  (y = 0 ∨ (∃ k : Nat, y < 2 ^ k ∧ 2 * k + i ≤ 300) ∨ (∃ k : Nat, y < x ∧ x < 2 ^ (k + 1) ∧ 2 * k + 1 + i ≤ 300) ∨ (x < 2 ^ 140 ∧ x < y ∧ i = 0))
theorem half_mod {x y : Int} (h : y < x) (h0 : 0 < y) : 2 * (x % y) < x := by
  have h1 := Int.emod_add_mul_ediv x y
  have h2 := Int.emod_lt_of_pos x h0
  have h3 : 1 ≤ x / y := by
    have : 1 * y ≤ x := by omega
    exact (Int.le_ediv_iff_mul_le h0).mpr this
  have h4 : y * 1 ≤ y * (x / y) := Int.mul_le_mul_of_nonneg_left h3 (by omega)
  omega
theorem v_law_divisor : Vc_law_divisor := vcP fun xs k e h => by
  obtain ⟨a, b, rfl, ha, hb, hab, hk⟩ := h
  unfold t_law_divisor N_law_divisor t_law_divisor_0 t_law_divisor_0a_0 t_law_divisor_0a_0a_0
  simp only [T_seq, T_dic0, T_cut, T_ret, T_asg, T_drop, T_ifS, T_next, T_var, T_c, T_nil, T_cons, T_op, T_un, T_cb, T_t, T_chain, T_and, T_or, T_not, T_andV, T_orV, T_notV, T_if, T_tup, T_lst, T_lstC, T_no, T_part, T_sl, T_slC, S_seq, S_range1, S_range2, T_lc, T_lcC, T_for, T_while, T_setIx, T_call, T_callS, T_start, T_m0, T_yes, T_asgT, vals?, pick_nil, pick_cons, setT, setAll, wipeD, List.getElem?_cons_zero, List.getElem?_cons_succ, List.set_cons_zero, List.set_cons_succ, List.cons_append, List.nil_append, List.append_nil, List.length_cons, List.length_nil, List.map_cons, List.map_nil, oIsi, oLen, oAbs, oInt, oAll, oAny, oAllF, oList, oSum, oIx, oSl, oLt, oLe, oGt, oGe, oSub, oMul, oMod, oFdiv, oPow, oAdd, oAddL, oI, oI0, oIsB, oNotB, oUpper, cellOf?, ren, oIn, oNin, oInF, Nat.reduceSub, Nat.reduceAdd, List.reduceReplicate, true_and, if_true, if_false, Bool.false_eq_true, ite_true, ite_false, eq_self, decide_true, decide_false, Bool.not_true, Bool.not_false, id, oEq, oNe, oEqF, now_val, eqD_str, eqD_int, eqD_nn, T_par, T_par3, T_fld, T_setF, T_make, T_meth, T_isi, T_raise0, T_raise1, T_try, T_tryAs, T_exf, T_asgN, setN, setNs, argsOf, oModN, oIsiI, oOwnB, oOwnE, oOwnN, oOwnG, oTup, oNeg, oI, oI0, insOf_ins, insOf_int, sub_R, rat, lk1, lk2, true_or, or_true, ne_eq, not_false_eq_true, oIntS, oStr0C, T_sm1, oSplit, oNotN, oIsN, T_cmeth]
  refine ⟨⟨by decide, by decide⟩, ?_⟩
  refine ⟨IvD a b, ⟨a, b, _, rfl, rfl, ha, hb, rfl, ?_⟩, fun _ _ _ _ _ => trivial, ?_, ?_⟩
  · rcases hab with h | h
    · by_cases c : b < 2 ^ 140
      · exact .inr (.inl ⟨140, c, by decide⟩)
      · exact .inr (.inr (.inr ⟨h, by omega, rfl⟩))
    · exact .inr (.inl ⟨140, h, by decide⟩)
  · rintro i c ρ μ hc ⟨x, y, o, rfl, rfl, hx, hy, hg, hcs⟩
    simp only [T_seq, T_dic0, T_cut, T_ret, T_asg, T_drop, T_ifS, T_next, T_var, T_c, T_nil, T_cons, T_op, T_un, T_cb, T_t, T_chain, T_and, T_or, T_not, T_andV, T_orV, T_notV, T_if, T_tup, T_lst, T_lstC, T_no, T_part, T_sl, T_slC, S_seq, S_range1, S_range2, T_lc, T_lcC, T_for, T_while, T_setIx, T_call, T_callS, T_start, T_m0, T_yes, T_asgT, vals?, pick_nil, pick_cons, setT, setAll, wipeD, List.getElem?_cons_zero, List.getElem?_cons_succ, List.set_cons_zero, List.set_cons_succ, List.cons_append, List.nil_append, List.append_nil, List.length_cons, List.length_nil, List.map_cons, List.map_nil, oIsi, oLen, oAbs, oInt, oAll, oAny, oAllF, oList, oSum, oIx, oSl, oLt, oLe, oGt, oGe, oSub, oMul, oMod, oFdiv, oPow, oAdd, oAddL, oI, oI0, oIsB, oNotB, oUpper, cellOf?, ren, oIn, oNin, oInF, Nat.reduceSub, Nat.reduceAdd, List.reduceReplicate, true_and, if_true, if_false, Bool.false_eq_true, ite_true, ite_false, eq_self, decide_true, decide_false, Bool.not_true, Bool.not_false, id, oEq, oNe, oEqF, now_val, eqD_str, eqD_int, eqD_nn, T_par, T_par3, T_fld, T_setF, T_make, T_meth, T_isi, T_raise0, T_raise1, T_try, T_tryAs, T_exf, T_asgN, setN, setNs, argsOf, oModN, oIsiI, oOwnB, oOwnE, oOwnN, oOwnG, oTup, oNeg, oI, oI0, insOf_ins, insOf_int, sub_R, rat, lk1, lk2, true_or, or_true, ne_eq, not_false_eq_true, oIntS, oStr0C, T_sm1, oSplit, oNotN, oIsN, T_cmeth]
    by_cases c0 : y = 0
    · subst c0
      simp only [T_seq, T_dic0, T_cut, T_ret, T_asg, T_drop, T_ifS, T_next, T_var, T_c, T_nil, T_cons, T_op, T_un, T_cb, T_t, T_chain, T_and, T_or, T_not, T_andV, T_orV, T_notV, T_if, T_tup, T_lst, T_lstC, T_no, T_part, T_sl, T_slC, S_seq, S_range1, S_range2, T_lc, T_lcC, T_for, T_while, T_setIx, T_call, T_callS, T_start, T_m0, T_yes, T_asgT, vals?, pick_nil, pick_cons, setT, setAll, wipeD, List.getElem?_cons_zero, List.getElem?_cons_succ, List.set_cons_zero, List.set_cons_succ, List.cons_append, List.nil_append, List.append_nil, List.length_cons, List.length_nil, List.map_cons, List.map_nil, oIsi, oLen, oAbs, oInt, oAll, oAny, oAllF, oList, oSum, oIx, oSl, oLt, oLe, oGt, oGe, oSub, oMul, oMod, oFdiv, oPow, oAdd, oAddL, oI, oI0, oIsB, oNotB, oUpper, cellOf?, ren, oIn, oNin, oInF, Nat.reduceSub, Nat.reduceAdd, List.reduceReplicate, true_and, if_true, if_false, Bool.false_eq_true, ite_true, ite_false, eq_self, decide_true, decide_false, Bool.not_true, Bool.not_false, id, oEq, oNe, oEqF, now_val, eqD_str, eqD_int, eqD_nn, T_par, T_par3, T_fld, T_setF, T_make, T_meth, T_isi, T_raise0, T_raise1, T_try, T_tryAs, T_exf, T_asgN, setN, setNs, argsOf, oModN, oIsiI, oOwnB, oOwnE, oOwnN, oOwnG, oTup, oNeg, oI, oI0, insOf_ins, insOf_int, sub_R, rat, lk1, lk2, true_or, or_true, ne_eq, not_false_eq_true, oIntS, oStr0C, T_sm1, oSplit, oNotN, oIsN, T_cmeth]
      exact ⟨x, 0, _, rfl, rfl, hx, hy, hg, .inl rfl⟩
    · simp only [T_seq, T_dic0, T_cut, T_ret, T_asg, T_drop, T_ifS, T_next, T_var, T_c, T_nil, T_cons, T_op, T_un, T_cb, T_t, T_chain, T_and, T_or, T_not, T_andV, T_orV, T_notV, T_if, T_tup, T_lst, T_lstC, T_no, T_part, T_sl, T_slC, S_seq, S_range1, S_range2, T_lc, T_lcC, T_for, T_while, T_setIx, T_call, T_callS, T_start, T_m0, T_yes, T_asgT, vals?, pick_nil, pick_cons, setT, setAll, wipeD, List.getElem?_cons_zero, List.getElem?_cons_succ, List.set_cons_zero, List.set_cons_succ, List.cons_append, List.nil_append, List.append_nil, List.length_cons, List.length_nil, List.map_cons, List.map_nil, oIsi, oLen, oAbs, oInt, oAll, oAny, oAllF, oList, oSum, oIx, oSl, oLt, oLe, oGt, oGe, oSub, oMul, oMod, oFdiv, oPow, oAdd, oAddL, oI, oI0, oIsB, oNotB, oUpper, cellOf?, ren, oIn, oNin, oInF, Nat.reduceSub, Nat.reduceAdd, List.reduceReplicate, true_and, if_true, if_false, Bool.false_eq_true, ite_true, ite_false, eq_self, decide_true, decide_false, Bool.not_true, Bool.not_false, id, oEq, oNe, oEqF, now_val, eqD_str, eqD_int, eqD_nn, T_par, T_par3, T_fld, T_setF, T_make, T_meth, T_isi, T_raise0, T_raise1, T_try, T_tryAs, T_exf, T_asgN, setN, setNs, argsOf, oModN, oIsiI, oOwnB, oOwnE, oOwnN, oOwnG, oTup, oNeg, oI, oI0, insOf_ins, insOf_int, sub_R, rat, lk1, lk2, true_or, or_true, ne_eq, not_false_eq_true, oIntS, oStr0C, T_sm1, oSplit, oNotN, oIsN, T_cmeth, decide_eq_false c0]
      have hy2 : 0 < y := by omega
      have e1 : x % y = x.fmod y := (Int.fmod_eq_emod_of_nonneg x hy).symm
      have e3 := Int.emod_nonneg x c0
      have e4 := Int.emod_lt_of_pos x hy2
      refine ⟨hy2, y, x % y, _, rfl, rfl, hy, e3, by rw [e1, gcd_fmod, hg], ?_⟩
      rcases hcs with h | ⟨k, h, h2⟩ | ⟨k, h, h2, h3⟩ | ⟨h, h2, rfl⟩
      · exact absurd h c0
      · cases k with
        | zero => exact absurd h (by omega)
        | succ k => exact .inr (.inr (.inl ⟨k, e4, h, by omega⟩))
      · refine .inr (.inl ⟨k, ?_, by omega⟩)
        have := half_mod h hy2
        rw [Int.pow_succ] at h2
        omega
      · refine .inr (.inl ⟨140, ?_, by decide⟩)
        rw [Int.emod_eq_of_lt hx h2]
        exact h
  · rintro ρ μ ⟨x, y, o, rfl, rfl, hx, hy, hg, hcs⟩
    rw [range_len] at hcs
    have hy0 : y = 0 := by
      rcases hcs with h | ⟨k, h, h2⟩ | ⟨k, h, h2, h3⟩ | ⟨h, h2, h3⟩
      · exact h
      · have : k = 0 := by have : (300 : Int).toNat = 300 := rfl; omega
        subst this
        have h : y < 1 := h
        omega
      · have : (300 : Int).toNat = 300 := rfl
        omega
      · exact absurd h3 (by decide)
    subst hy0
    unfold t_law_divisor_1
    simp only [T_seq, T_dic0, T_cut, T_ret, T_asg, T_drop, T_ifS, T_next, T_var, T_c, T_nil, T_cons, T_op, T_un, T_cb, T_t, T_chain, T_and, T_or, T_not, T_andV, T_orV, T_notV, T_if, T_tup, T_lst, T_lstC, T_no, T_part, T_sl, T_slC, S_seq, S_range1, S_range2, T_lc, T_lcC, T_for, T_while, T_setIx, T_call, T_callS, T_start, T_m0, T_yes, T_asgT, vals?, pick_nil, pick_cons, setT, setAll, wipeD, List.getElem?_cons_zero, List.getElem?_cons_succ, List.set_cons_zero, List.set_cons_succ, List.cons_append, List.nil_append, List.append_nil, List.length_cons, List.length_nil, List.map_cons, List.map_nil, oIsi, oLen, oAbs, oInt, oAll, oAny, oAllF, oList, oSum, oIx, oSl, oLt, oLe, oGt, oGe, oSub, oMul, oMod, oFdiv, oPow, oAdd, oAddL, oI, oI0, oIsB, oNotB, oUpper, cellOf?, ren, oIn, oNin, oInF, Nat.reduceSub, Nat.reduceAdd, List.reduceReplicate, true_and, if_true, if_false, Bool.false_eq_true, ite_true, ite_false, eq_self, decide_true, decide_false, Bool.not_true, Bool.not_false, id, oEq, oNe, oEqF, now_val, eqD_str, eqD_int, eqD_nn, T_par, T_par3, T_fld, T_setF, T_make, T_meth, T_isi, T_raise0, T_raise1, T_try, T_tryAs, T_exf, T_asgN, setN, setNs, argsOf, oModN, oIsiI, oOwnB, oOwnE, oOwnN, oOwnG, oTup, oNeg, oI, oI0, insOf_ins, insOf_int, sub_R, rat, lk1, lk2, true_or, or_true, ne_eq, not_false_eq_true, oIntS, oStr0C, T_sm1, oSplit, oNotN, oIsN, T_cmeth]
    rw [Int.gcd_zero_right] at hg
    clear hcs
    have : x = (Int.gcd a b : Int) := by omega
    rw [this]
    exact hk []
theorem len_law_text : ∀ ds μ (k : KE) (e : KX), (ctP c_ltext : Ct) ds μ k e → ds.length = 2 := by
  rintro ds μ k e ⟨rfl, xs, rfl, a, b, rfl, _⟩
  rfl
theorem small_log {i : Int} (h : i.natAbs < 2 ^ 140) : i.natAbs.log2 < 1920 := b15_log (Nat.lt_of_lt_of_le h (Nat.pow_le_pow_right (by decide) (by decide)))
theorem v_law_text : Vc_law_text := vcP fun xs k e h => by
  obtain ⟨a, b, rfl, hb, qa, qb, hk⟩ := h
  unfold t_law_text N_law_text t_law_text_0
  simp only [T_seq, T_dic0, T_cut, T_ret, T_asg, T_drop, T_ifS, T_next, T_var, T_c, T_nil, T_cons, T_op, T_un, T_cb, T_t, T_chain, T_and, T_or, T_not, T_andV, T_orV, T_notV, T_if, T_tup, T_lst, T_lstC, T_no, T_part, T_sl, T_slC, S_seq, S_range1, S_range2, T_lc, T_lcC, T_for, T_while, T_setIx, T_call, T_callS, T_start, T_m0, T_yes, T_asgT, vals?, pick_nil, pick_cons, setT, setAll, wipeD, List.getElem?_cons_zero, List.getElem?_cons_succ, List.set_cons_zero, List.set_cons_succ, List.cons_append, List.nil_append, List.append_nil, List.length_cons, List.length_nil, List.map_cons, List.map_nil, oIsi, oLen, oAbs, oInt, oAll, oAny, oAllF, oList, oSum, oIx, oSl, oLt, oLe, oGt, oGe, oSub, oMul, oMod, oFdiv, oPow, oAdd, oAddL, oI, oI0, oIsB, oNotB, oUpper, cellOf?, ren, oIn, oNin, oInF, Nat.reduceSub, Nat.reduceAdd, List.reduceReplicate, true_and, if_true, if_false, Bool.false_eq_true, ite_true, ite_false, eq_self, decide_true, decide_false, Bool.not_true, Bool.not_false, id, oEq, oNe, oEqF, now_val, eqD_str, eqD_int, eqD_nn, T_par, T_par3, T_fld, T_setF, T_make, T_meth, T_isi, T_raise0, T_raise1, T_try, T_tryAs, T_exf, T_asgN, setN, setNs, argsOf, oModN, oIsiI, oOwnB, oOwnE, oOwnN, oOwnG, oTup, oNeg, oI, oI0, insOf_ins, insOf_int, sub_R, rat, lk1, lk2, true_or, or_true, ne_eq, not_false_eq_true, oIntS, oStr0C, T_sm1, oSplit, oNotN, oIsN, T_cmeth]
  have habs : (if a < 0 then -a else a) = (a.natAbs : Int) := by split <;> omega
  refine ⟨_, b, rfl, by split <;> omega, by omega, .inr (by omega), ?_⟩
  rw [habs]
  have hg : (Int.gcd (a.natAbs : Int) b) = Int.gcd a b := by simp [Int.gcd]
  rw [hg]
  have hgz : Int.gcd a b ≠ 0 := fun z => by have := (Int.gcd_eq_zero_iff.mp z).2; omega
  have hgp : (0 : Int) < Int.gcd a b := by omega
  have d0 := low_b9 (t := a) (b := b) (by omega) (Nat.lt_of_lt_of_le qb (Nat.pow_le_pow_right (by decide) (by decide)))
  have hl : low a b = (a / (Int.gcd a b : Int), b / (Int.gcd a b : Int)) := by
    unfold low sgn
    rw [if_pos hb, Int.one_mul, Int.one_mul]
  have hle := low_le (p := a) (q := b) (by omega)
  rw [hl] at hle hk
  have q1 : (a / (Int.gcd a b : Int)).natAbs < 2 ^ 140 := Nat.lt_of_le_of_lt hle.1 qa
  have q2 : (b / (Int.gcd a b : Int)).natAbs < 2 ^ 140 := Nat.lt_of_le_of_lt hle.2 qb
  have z := hk []
  unfold txtR txtL at z
  dsimp only at z
  unfold t_law_text_1
  simp only [T_seq, T_dic0, T_cut, T_ret, T_asg, T_drop, T_ifS, T_next, T_var, T_c, T_nil, T_cons, T_op, T_un, T_cb, T_t, T_chain, T_and, T_or, T_not, T_andV, T_orV, T_notV, T_if, T_tup, T_lst, T_lstC, T_no, T_part, T_sl, T_slC, S_seq, S_range1, S_range2, T_lc, T_lcC, T_for, T_while, T_setIx, T_call, T_callS, T_start, T_m0, T_yes, T_asgT, vals?, pick_nil, pick_cons, setT, setAll, wipeD, List.getElem?_cons_zero, List.getElem?_cons_succ, List.set_cons_zero, List.set_cons_succ, List.cons_append, List.nil_append, List.append_nil, List.length_cons, List.length_nil, List.map_cons, List.map_nil, oIsi, oLen, oAbs, oInt, oAll, oAny, oAllF, oList, oSum, oIx, oSl, oLt, oLe, oGt, oGe, oSub, oMul, oMod, oFdiv, oPow, oAdd, oAddL, oI, oI0, oIsB, oNotB, oUpper, cellOf?, ren, oIn, oNin, oInF, Nat.reduceSub, Nat.reduceAdd, List.reduceReplicate, true_and, if_true, if_false, Bool.false_eq_true, ite_true, ite_false, eq_self, decide_true, decide_false, Bool.not_true, Bool.not_false, id, oEq, oNe, oEqF, now_val, eqD_str, eqD_int, eqD_nn, T_par, T_par3, T_fld, T_setF, T_make, T_meth, T_isi, T_raise0, T_raise1, T_try, T_tryAs, T_exf, T_asgN, setN, setNs, argsOf, oModN, oIsiI, oOwnB, oOwnE, oOwnN, oOwnG, oTup, oNeg, oI, oI0, insOf_ins, insOf_int, sub_R, rat, lk1, lk2, true_or, or_true, ne_eq, not_false_eq_true, oIntS, oStr0C, T_sm1, oSplit, oNotN, oIsN, T_cmeth, oStrS]
  by_cases c : b = (Int.gcd a b : Int)
  · simp only [T_seq, T_dic0, T_cut, T_ret, T_asg, T_drop, T_ifS, T_next, T_var, T_c, T_nil, T_cons, T_op, T_un, T_cb, T_t, T_chain, T_and, T_or, T_not, T_andV, T_orV, T_notV, T_if, T_tup, T_lst, T_lstC, T_no, T_part, T_sl, T_slC, S_seq, S_range1, S_range2, T_lc, T_lcC, T_for, T_while, T_setIx, T_call, T_callS, T_start, T_m0, T_yes, T_asgT, vals?, pick_nil, pick_cons, setT, setAll, wipeD, List.getElem?_cons_zero, List.getElem?_cons_succ, List.set_cons_zero, List.set_cons_succ, List.cons_append, List.nil_append, List.append_nil, List.length_cons, List.length_nil, List.map_cons, List.map_nil, oIsi, oLen, oAbs, oInt, oAll, oAny, oAllF, oList, oSum, oIx, oSl, oLt, oLe, oGt, oGe, oSub, oMul, oMod, oFdiv, oPow, oAdd, oAddL, oI, oI0, oIsB, oNotB, oUpper, cellOf?, ren, oIn, oNin, oInF, Nat.reduceSub, Nat.reduceAdd, List.reduceReplicate, true_and, if_true, if_false, Bool.false_eq_true, ite_true, ite_false, eq_self, decide_true, decide_false, Bool.not_true, Bool.not_false, id, oEq, oNe, oEqF, now_val, eqD_str, eqD_int, eqD_nn, T_par, T_par3, T_fld, T_setF, T_make, T_meth, T_isi, T_raise0, T_raise1, T_try, T_tryAs, T_exf, T_asgN, setN, setNs, argsOf, oModN, oIsiI, oOwnB, oOwnE, oOwnN, oOwnG, oTup, oNeg, oI, oI0, insOf_ins, insOf_int, sub_R, rat, lk1, lk2, true_or, or_true, ne_eq, not_false_eq_true, oIntS, oStr0C, T_sm1, oSplit, oNotN, oIsN, T_cmeth, decide_eq_true c]
    have e1 : b / (Int.gcd a b : Int) = 1 := by
      rw [← c]
      exact Int.ediv_self (by omega)
    rw [e1, if_pos rfl] at z
    refine ⟨d0, small_log q1, ?_⟩
    rw [toStr_mk]
    exact z
  · simp only [T_seq, T_dic0, T_cut, T_ret, T_asg, T_drop, T_ifS, T_next, T_var, T_c, T_nil, T_cons, T_op, T_un, T_cb, T_t, T_chain, T_and, T_or, T_not, T_andV, T_orV, T_notV, T_if, T_tup, T_lst, T_lstC, T_no, T_part, T_sl, T_slC, S_seq, S_range1, S_range2, T_lc, T_lcC, T_for, T_while, T_setIx, T_call, T_callS, T_start, T_m0, T_yes, T_asgT, vals?, pick_nil, pick_cons, setT, setAll, wipeD, List.getElem?_cons_zero, List.getElem?_cons_succ, List.set_cons_zero, List.set_cons_succ, List.cons_append, List.nil_append, List.append_nil, List.length_cons, List.length_nil, List.map_cons, List.map_nil, oIsi, oLen, oAbs, oInt, oAll, oAny, oAllF, oList, oSum, oIx, oSl, oLt, oLe, oGt, oGe, oSub, oMul, oMod, oFdiv, oPow, oAdd, oAddL, oI, oI0, oIsB, oNotB, oUpper, cellOf?, ren, oIn, oNin, oInF, Nat.reduceSub, Nat.reduceAdd, List.reduceReplicate, true_and, if_true, if_false, Bool.false_eq_true, ite_true, ite_false, eq_self, decide_true, decide_false, Bool.not_true, Bool.not_false, id, oEq, oNe, oEqF, now_val, eqD_str, eqD_int, eqD_nn, T_par, T_par3, T_fld, T_setF, T_make, T_meth, T_isi, T_raise0, T_raise1, T_try, T_tryAs, T_exf, T_asgN, setN, setNs, argsOf, oModN, oIsiI, oOwnB, oOwnE, oOwnN, oOwnG, oTup, oNeg, oI, oI0, insOf_ins, insOf_int, sub_R, rat, lk1, lk2, true_or, or_true, ne_eq, not_false_eq_true, oIntS, oStr0C, T_sm1, oSplit, oNotN, oIsN, T_cmeth, decide_eq_false c]
    have e1 : b / (Int.gcd a b : Int) ≠ 1 := by
      intro h
      have h2 := Int.ediv_mul_cancel (Int.gcd_dvd_right a b)
      rw [h, Int.one_mul] at h2
      exact c h2.symm
    rw [if_neg e1] at z
    have e2 : ("/" : Str) = mkS [47] := by decide +kernel
    have l1 := b15_len (i := a / (Int.gcd a b : Int)) (Nat.lt_of_lt_of_le q1 (Nat.pow_le_pow_right (by decide) (by decide)))
    have l2 := b15_len (i := b / (Int.gcd a b : Int)) (Nat.lt_of_lt_of_le q2 (Nat.pow_le_pow_right (by decide) (by decide)))
    rw [toStr_mk, toStr_mk, e2, mk_app, mk_app, mk_len, mk_len, mk_len, mk_len]
    refine ⟨d0, small_log q1, ?_, d0, small_log q2, ?_, ?_⟩
    · exact Nat.le_trans (show _ ≤ 1000 by simp; omega) (by decide)
    · exact Nat.le_trans (show _ ≤ 1000 by simp; omega) (by decide)
    · have e3 : sgnL (a / (Int.gcd a b : Int)) ++ [47] ++ sgnL (b / (Int.gcd a b : Int)) = sgnL (a / (Int.gcd a b : Int)) ++ 47 :: sgnL (b / (Int.gcd a b : Int)) := by simp
      rw [e3]
      exact z
theorem eqD_strs (f : Bool → Bool) (zs : List Str) (hzs : ∀ z ∈ zs, okS z) (k : Bool → Prop) : eqD f (.lst (zs.map D.str)) (.lst []) k = k (f zs.isEmpty) := by
  have e0 : (D.lst (zs.map D.str)).py = some (.list (zs.map PyData.str)) := by
    show (D.pyL (zs.map D.str)).map PyData.list = _
    have : D.pyL (zs.map D.str) = some (zs.map PyData.str) := by
      clear hzs
      induction zs with
      | nil => rfl
      | cons z r ih =>
        show (match D.py (.str z), D.pyL (r.map D.str) with | some a, some b => some (a :: b) | _, _ => none) = _
        rw [ih]
        rfl
    rw [this]
    rfl
  have sh : SeqAt.shaped (.list (zs.map PyData.str)) = true := by
    have h1 : PyData.canLayAll0 (zs.map PyData.str) = true := by
      clear e0
      induction zs with
      | nil => rfl
      | cons n r ih =>
        show (PyData.canLay0 (.str n) && PyData.canLayAll0 (r.map PyData.str)) = true
        rw [ih fun z hz => hzs z (List.mem_cons_of_mem _ hz), Bool.and_true]
        have := hzs n (List.mem_cons_self ..)
        show PyData.strOk n = true
        unfold PyData.strOk
        rw [← Array.all_toList]
        exact List.all_eq_true.mpr fun c hc => decide_eq_true (this c hc)
    have h2 : ∀ zs : List Str, PyData.depthAll (zs.map PyData.str) = 0 := fun zs => by
      induction zs with
      | nil => rfl
      | cons n r ih =>
        show max 0 (PyData.depthAll (r.map PyData.str)) = 0
        rw [ih]
        rfl
    show (PyData.canLayAll0 (zs.map PyData.str) && decide (PyData.depthAll (zs.map PyData.str) + 1 ≤ 64)) = true
    rw [h1, h2]
    rfl
  show (match (D.lst (zs.map D.str)).py, (D.lst []).py with | some p, some q => SeqAt.shaped p = true ∧ SeqAt.shaped q = true ∧ k (f (PyData.eqv p q)) | _, _ => False) = _
  rw [e0]
  show (SeqAt.shaped (.list (zs.map PyData.str)) = true ∧ SeqAt.shaped (.list []) = true ∧ k (f (PyData.eqvAll (zs.map PyData.str) []))) = _
  have e : PyData.eqvAll (zs.map PyData.str) [] = zs.isEmpty := by cases zs <;> rfl
  rw [e]
  exact propext ⟨fun z => z.2.2, fun z => ⟨sh, rfl, z⟩⟩
theorem len_law_whole : ∀ ds μ (k : KE) (e : KX), (ctP c_whole : Ct) ds μ k e → ds.length = 1 := by
  rintro ds μ k e ⟨rfl, xs, rfl, z, rfl, _⟩
  rfl
def noDig (d : D) : Bool := match d with
  | .str z => match z.cps.toList with
    | [c] => !(decide (48 ≤ c) && decide (c ≤ 57))
    | _ => false
  | _ => false
theorem digs_mem (c : Nat) : decide (c ∈ ("0123456789" : Str).cps.toList) = (decide (48 ≤ c) && decide (c ≤ 57)) := by
  have e : ("0123456789" : Str).cps.toList = [48, 49, 50, 51, 52, 53, 54, 55, 56, 57] := by decide +kernel
  rw [e]
  by_cases h : 48 ≤ c ∧ c ≤ 57
  · obtain ⟨h1, h2⟩ := h
    rw [decide_eq_true h1, decide_eq_true h2]
    have : c = 48 ∨ c = 49 ∨ c = 50 ∨ c = 51 ∨ c = 52 ∨ c = 53 ∨ c = 54 ∨ c = 55 ∨ c = 56 ∨ c = 57 := by omega
    rcases this with rfl | rfl | rfl | rfl | rfl | rfl | rfl | rfl | rfl | rfl <;> rfl
  · have : c ∉ [48, 49, 50, 51, 52, 53, 54, 55, 56, 57] := by
      intro z
      simp only [List.mem_cons, List.not_mem_nil, or_false] at z
      omega
    rw [decide_eq_false this]
    symm
    rw [Bool.and_eq_false_iff, decide_eq_false_iff_not, decide_eq_false_iff_not]
    omega
theorem v_law_whole : Vc_law_whole := vcP fun xs k e h => by
  obtain ⟨z, rfl, hz, ho, hk⟩ := h
  obtain ⟨l, rfl⟩ : ∃ l, z = mkS l := ⟨_, (mk_cps z).symm⟩
  rw [mk_len] at hz
  unfold okS at ho
  rw [cps_mk] at hk ho
  have hk := hk []
  unfold t_law_whole N_law_whole t_law_whole_0 t_law_whole_0a_0
  simp only [T_seq, T_dic0, T_cut, T_ret, T_asg, T_drop, T_ifS, T_next, T_var, T_c, T_nil, T_cons, T_op, T_un, T_cb, T_t, T_chain, T_and, T_or, T_not, T_andV, T_orV, T_notV, T_if, T_tup, T_lst, T_lstC, T_no, T_part, T_sl, T_slC, S_seq, S_range1, S_range2, T_lc, T_lcC, T_for, T_while, T_setIx, T_call, T_callS, T_start, T_m0, T_yes, T_asgT, vals?, pick_nil, pick_cons, setT, setAll, wipeD, List.getElem?_cons_zero, List.getElem?_cons_succ, List.set_cons_zero, List.set_cons_succ, List.cons_append, List.nil_append, List.append_nil, List.length_cons, List.length_nil, List.map_cons, List.map_nil, oIsi, oLen, oAbs, oInt, oAll, oAny, oAllF, oList, oSum, oIx, oSl, oLt, oLe, oGt, oGe, oSub, oMul, oMod, oFdiv, oPow, oAdd, oAddL, oI, oI0, oIsB, oNotB, oUpper, cellOf?, ren, oIn, oNin, oInF, Nat.reduceSub, Nat.reduceAdd, List.reduceReplicate, true_and, if_true, if_false, Bool.false_eq_true, ite_true, ite_false, eq_self, decide_true, decide_false, Bool.not_true, Bool.not_false, id, oEq, oNe, oEqF, now_val, eqD_str, eqD_int, eqD_nn, T_par, T_par3, T_fld, T_setF, T_make, T_meth, T_isi, T_raise0, T_raise1, T_try, T_tryAs, T_exf, T_asgN, setN, setNs, argsOf, oModN, oIsiI, oOwnB, oOwnE, oOwnN, oOwnG, oTup, oNeg, oI, oI0, insOf_ins, insOf_int, sub_R, rat, lk1, lk2, true_or, or_true, ne_eq, not_false_eq_true, oIntS, oStr0C, T_sm1, oSplit, oNotN, oIsN, T_cmeth, mkS_nil]
  by_cases c : l = []
  · subst c
    simp only [T_seq, T_dic0, T_cut, T_ret, T_asg, T_drop, T_ifS, T_next, T_var, T_c, T_nil, T_cons, T_op, T_un, T_cb, T_t, T_chain, T_and, T_or, T_not, T_andV, T_orV, T_notV, T_if, T_tup, T_lst, T_lstC, T_no, T_part, T_sl, T_slC, S_seq, S_range1, S_range2, T_lc, T_lcC, T_for, T_while, T_setIx, T_call, T_callS, T_start, T_m0, T_yes, T_asgT, vals?, pick_nil, pick_cons, setT, setAll, wipeD, List.getElem?_cons_zero, List.getElem?_cons_succ, List.set_cons_zero, List.set_cons_succ, List.cons_append, List.nil_append, List.append_nil, List.length_cons, List.length_nil, List.map_cons, List.map_nil, oIsi, oLen, oAbs, oInt, oAll, oAny, oAllF, oList, oSum, oIx, oSl, oLt, oLe, oGt, oGe, oSub, oMul, oMod, oFdiv, oPow, oAdd, oAddL, oI, oI0, oIsB, oNotB, oUpper, cellOf?, ren, oIn, oNin, oInF, Nat.reduceSub, Nat.reduceAdd, List.reduceReplicate, true_and, if_true, if_false, Bool.false_eq_true, ite_true, ite_false, eq_self, decide_true, decide_false, Bool.not_true, Bool.not_false, id, oEq, oNe, oEqF, now_val, eqD_str, eqD_int, eqD_nn, T_par, T_par3, T_fld, T_setF, T_make, T_meth, T_isi, T_raise0, T_raise1, T_try, T_tryAs, T_exf, T_asgN, setN, setNs, argsOf, oModN, oIsiI, oOwnB, oOwnE, oOwnN, oOwnG, oTup, oNeg, oI, oI0, insOf_ins, insOf_int, sub_R, rat, lk1, lk2, true_or, or_true, ne_eq, not_false_eq_true, oIntS, oStr0C, T_sm1, oSplit, oNotN, oIsN, T_cmeth]
    exact hk
  · simp only [T_seq, T_dic0, T_cut, T_ret, T_asg, T_drop, T_ifS, T_next, T_var, T_c, T_nil, T_cons, T_op, T_un, T_cb, T_t, T_chain, T_and, T_or, T_not, T_andV, T_orV, T_notV, T_if, T_tup, T_lst, T_lstC, T_no, T_part, T_sl, T_slC, S_seq, S_range1, S_range2, T_lc, T_lcC, T_for, T_while, T_setIx, T_call, T_callS, T_start, T_m0, T_yes, T_asgT, vals?, pick_nil, pick_cons, setT, setAll, wipeD, List.getElem?_cons_zero, List.getElem?_cons_succ, List.set_cons_zero, List.set_cons_succ, List.cons_append, List.nil_append, List.append_nil, List.length_cons, List.length_nil, List.map_cons, List.map_nil, oIsi, oLen, oAbs, oInt, oAll, oAny, oAllF, oList, oSum, oIx, oSl, oLt, oLe, oGt, oGe, oSub, oMul, oMod, oFdiv, oPow, oAdd, oAddL, oI, oI0, oIsB, oNotB, oUpper, cellOf?, ren, oIn, oNin, oInF, Nat.reduceSub, Nat.reduceAdd, List.reduceReplicate, true_and, if_true, if_false, Bool.false_eq_true, ite_true, ite_false, eq_self, decide_true, decide_false, Bool.not_true, Bool.not_false, id, oEq, oNe, oEqF, now_val, eqD_str, eqD_int, eqD_nn, T_par, T_par3, T_fld, T_setF, T_make, T_meth, T_isi, T_raise0, T_raise1, T_try, T_tryAs, T_exf, T_asgN, setN, setNs, argsOf, oModN, oIsiI, oOwnB, oOwnE, oOwnN, oOwnG, oTup, oNeg, oI, oI0, insOf_ins, insOf_int, sub_R, rat, lk1, lk2, true_or, or_true, ne_eq, not_false_eq_true, oIntS, oStr0C, T_sm1, oSplit, oNotN, oIsN, T_cmeth, decide_eq_false (fun z : mkS l = mkS [] => c (mk_inj z)), cps_mk]
    refine ⟨IvFil noDig id (l.map fun c => D.str ⟨#[c]⟩) [], .zero, fun i acc μ' _ q => q.le, ?_, fun i x acc μ' hx q => ?_, fun acc μ' q => ?_⟩
    · rw [List.length_map]
      exact Nat.lt_of_le_of_lt hz (by decide)
    · have hx2 := hx
      rw [List.getElem?_map] at hx2
      cases e : l[i]? with
      | none => rw [e] at hx2; cases hx2
      | some d =>
        rw [e] at hx2
        cases hx2
        have q1 := fun h => q.yes (p := noDig) (f := id) hx h
        have q2 := fun h => q.no (p := noDig) (f := id) hx h
        have e1 : noDig (D.str ⟨#[d]⟩) = !(decide (48 ≤ d) && decide (d ≤ 57)) := rfl
        simp only [T_seq, T_dic0, T_cut, T_ret, T_asg, T_drop, T_ifS, T_next, T_var, T_c, T_nil, T_cons, T_op, T_un, T_cb, T_t, T_chain, T_and, T_or, T_not, T_andV, T_orV, T_notV, T_if, T_tup, T_lst, T_lstC, T_no, T_part, T_sl, T_slC, S_seq, S_range1, S_range2, T_lc, T_lcC, T_for, T_while, T_setIx, T_call, T_callS, T_start, T_m0, T_yes, T_asgT, vals?, pick_nil, pick_cons, setT, setAll, wipeD, List.getElem?_cons_zero, List.getElem?_cons_succ, List.set_cons_zero, List.set_cons_succ, List.cons_append, List.nil_append, List.append_nil, List.length_cons, List.length_nil, List.map_cons, List.map_nil, oIsi, oLen, oAbs, oInt, oAll, oAny, oAllF, oList, oSum, oIx, oSl, oLt, oLe, oGt, oGe, oSub, oMul, oMod, oFdiv, oPow, oAdd, oAddL, oI, oI0, oIsB, oNotB, oUpper, cellOf?, ren, oIn, oNin, oInF, Nat.reduceSub, Nat.reduceAdd, List.reduceReplicate, true_and, if_true, if_false, Bool.false_eq_true, ite_true, ite_false, eq_self, decide_true, decide_false, Bool.not_true, Bool.not_false, id, oEq, oNe, oEqF, now_val, eqD_str, eqD_int, eqD_nn, T_par, T_par3, T_fld, T_setF, T_make, T_meth, T_isi, T_raise0, T_raise1, T_try, T_tryAs, T_exf, T_asgN, setN, setNs, argsOf, oModN, oIsiI, oOwnB, oOwnE, oOwnN, oOwnG, oTup, oNeg, oI, oI0, insOf_ins, insOf_int, sub_R, rat, lk1, lk2, true_or, or_true, ne_eq, not_false_eq_true, oIntS, oStr0C, T_sm1, oSplit, oNotN, oIsN, T_cmeth]
        rw [digs_mem]
        by_cases h : (!(decide (48 ≤ d) && decide (d ≤ 57))) = true
        · rw [if_pos h]
          exact q1 (e1.trans h)
        · rw [if_neg h]
          exact q2 (e1.trans (Bool.eq_false_iff.mpr h))
    · have e1 := q.done
      obtain ⟨rfl, _⟩ := q
      have e2 : acc = ((l.filter fun c => !(decide (48 ≤ c) && decide (c ≤ 57))).map fun c => (⟨#[c]⟩ : Str)).map D.str := by
        rw [e1, List.filter_map, List.map_map, List.map_map]
        rfl
      rw [e2]
      rw [eqD_strs not _ (fun z hz => by
        obtain ⟨c, hc, rfl⟩ := List.mem_map.mp hz
        intro c' hc'
        have : c' = c := List.mem_singleton.mp hc'
        rw [this]
        exact ho c (List.mem_filter.mp hc).1)]
      have e3 : (((l.filter fun c => !(decide (48 ≤ c) && decide (c ≤ 57))).map fun c => (⟨#[c]⟩ : Str)).isEmpty) = l.all fun c => decide (48 ≤ c) && decide (c ≤ 57) := by
        rw [List.isEmpty_map]
        have filt : ∀ l : List Nat, (l.filter fun c => !(decide (48 ≤ c) && decide (c ≤ 57))).isEmpty = l.all fun c => decide (48 ≤ c) && decide (c ≤ 57) := by
          intro l
          induction l with
          | nil => rfl
          | cons a r ih =>
            rw [List.filter_cons, List.all_cons]
            cases hh : (decide (48 ≤ a) && decide (a ≤ 57)) with
            | true =>
              rw [Bool.true_and]
              exact ih
            | false => rfl
        exact filt l
      rw [e3]
      have hne : (!l.isEmpty) = true := by cases l with | nil => exact absurd rfl c | cons => rfl
      unfold wholeB at hk
      rw [hne, Bool.true_and] at hk
      cases ha : (l.all fun c => decide (48 ≤ c) && decide (c ≤ 57)) with
      | false =>
        rw [ha] at hk
        simp only [T_seq, T_dic0, T_cut, T_ret, T_asg, T_drop, T_ifS, T_next, T_var, T_c, T_nil, T_cons, T_op, T_un, T_cb, T_t, T_chain, T_and, T_or, T_not, T_andV, T_orV, T_notV, T_if, T_tup, T_lst, T_lstC, T_no, T_part, T_sl, T_slC, S_seq, S_range1, S_range2, T_lc, T_lcC, T_for, T_while, T_setIx, T_call, T_callS, T_start, T_m0, T_yes, T_asgT, vals?, pick_nil, pick_cons, setT, setAll, wipeD, List.getElem?_cons_zero, List.getElem?_cons_succ, List.set_cons_zero, List.set_cons_succ, List.cons_append, List.nil_append, List.append_nil, List.length_cons, List.length_nil, List.map_cons, List.map_nil, oIsi, oLen, oAbs, oInt, oAll, oAny, oAllF, oList, oSum, oIx, oSl, oLt, oLe, oGt, oGe, oSub, oMul, oMod, oFdiv, oPow, oAdd, oAddL, oI, oI0, oIsB, oNotB, oUpper, cellOf?, ren, oIn, oNin, oInF, Nat.reduceSub, Nat.reduceAdd, List.reduceReplicate, true_and, if_true, if_false, Bool.false_eq_true, ite_true, ite_false, eq_self, decide_true, decide_false, Bool.not_true, Bool.not_false, id, oEq, oNe, oEqF, now_val, eqD_str, eqD_int, eqD_nn, T_par, T_par3, T_fld, T_setF, T_make, T_meth, T_isi, T_raise0, T_raise1, T_try, T_tryAs, T_exf, T_asgN, setN, setNs, argsOf, oModN, oIsiI, oOwnB, oOwnE, oOwnN, oOwnG, oTup, oNeg, oI, oI0, insOf_ins, insOf_int, sub_R, rat, lk1, lk2, true_or, or_true, ne_eq, not_false_eq_true, oIntS, oStr0C, T_sm1, oSplit, oNotN, oIsN, T_cmeth]
        exact ⟨by decide, hk⟩
      | true =>
        rw [ha, Bool.true_and] at hk
        simp only [T_seq, T_dic0, T_cut, T_ret, T_asg, T_drop, T_ifS, T_next, T_var, T_c, T_nil, T_cons, T_op, T_un, T_cb, T_t, T_chain, T_and, T_or, T_not, T_andV, T_orV, T_notV, T_if, T_tup, T_lst, T_lstC, T_no, T_part, T_sl, T_slC, S_seq, S_range1, S_range2, T_lc, T_lcC, T_for, T_while, T_setIx, T_call, T_callS, T_start, T_m0, T_yes, T_asgT, vals?, pick_nil, pick_cons, setT, setAll, wipeD, List.getElem?_cons_zero, List.getElem?_cons_succ, List.set_cons_zero, List.set_cons_succ, List.cons_append, List.nil_append, List.append_nil, List.length_cons, List.length_nil, List.map_cons, List.map_nil, oIsi, oLen, oAbs, oInt, oAll, oAny, oAllF, oList, oSum, oIx, oSl, oLt, oLe, oGt, oGe, oSub, oMul, oMod, oFdiv, oPow, oAdd, oAddL, oI, oI0, oIsB, oNotB, oUpper, cellOf?, ren, oIn, oNin, oInF, Nat.reduceSub, Nat.reduceAdd, List.reduceReplicate, true_and, if_true, if_false, Bool.false_eq_true, ite_true, ite_false, eq_self, decide_true, decide_false, Bool.not_true, Bool.not_false, id, oEq, oNe, oEqF, now_val, eqD_str, eqD_int, eqD_nn, T_par, T_par3, T_fld, T_setF, T_make, T_meth, T_isi, T_raise0, T_raise1, T_try, T_tryAs, T_exf, T_asgN, setN, setNs, argsOf, oModN, oIsiI, oOwnB, oOwnE, oOwnN, oOwnG, oTup, oNeg, oI, oI0, insOf_ins, insOf_int, sub_R, rat, lk1, lk2, true_or, or_true, ne_eq, not_false_eq_true, oIntS, oStr0C, T_sm1, oSplit, oNotN, oIsN, T_cmeth]
        unfold t_law_whole_1
        have e0 : ("0" : Str) = mkS [48] := by decide +kernel
        obtain ⟨a, r, rfl⟩ : ∃ a r, l = a :: r := by cases l with | nil => exact absurd rfl c | cons a r => exact ⟨a, r, rfl⟩
        simp only [T_seq, T_dic0, T_cut, T_ret, T_asg, T_drop, T_ifS, T_next, T_var, T_c, T_nil, T_cons, T_op, T_un, T_cb, T_t, T_chain, T_and, T_or, T_not, T_andV, T_orV, T_notV, T_if, T_tup, T_lst, T_lstC, T_no, T_part, T_sl, T_slC, S_seq, S_range1, S_range2, T_lc, T_lcC, T_for, T_while, T_setIx, T_call, T_callS, T_start, T_m0, T_yes, T_asgT, vals?, pick_nil, pick_cons, setT, setAll, wipeD, List.getElem?_cons_zero, List.getElem?_cons_succ, List.set_cons_zero, List.set_cons_succ, List.cons_append, List.nil_append, List.append_nil, List.length_cons, List.length_nil, List.map_cons, List.map_nil, oIsi, oLen, oAbs, oInt, oAll, oAny, oAllF, oList, oSum, oIx, oSl, oLt, oLe, oGt, oGe, oSub, oMul, oMod, oFdiv, oPow, oAdd, oAddL, oI, oI0, oIsB, oNotB, oUpper, cellOf?, ren, oIn, oNin, oInF, Nat.reduceSub, Nat.reduceAdd, List.reduceReplicate, true_and, if_true, if_false, Bool.false_eq_true, ite_true, ite_false, eq_self, decide_true, decide_false, Bool.not_true, Bool.not_false, id, oEq, oNe, oEqF, now_val, eqD_str, eqD_int, eqD_nn, T_par, T_par3, T_fld, T_setF, T_make, T_meth, T_isi, T_raise0, T_raise1, T_try, T_tryAs, T_exf, T_asgN, setN, setNs, argsOf, oModN, oIsiI, oOwnB, oOwnE, oOwnN, oOwnG, oTup, oNeg, oI, oI0, insOf_ins, insOf_int, sub_R, rat, lk1, lk2, true_or, or_true, ne_eq, not_false_eq_true, oIntS, oStr0C, T_sm1, oSplit, oNotN, oIsN, T_cmeth, e0]
        by_cases h0 : a :: r = [48]
        · simp only [T_seq, T_dic0, T_cut, T_ret, T_asg, T_drop, T_ifS, T_next, T_var, T_c, T_nil, T_cons, T_op, T_un, T_cb, T_t, T_chain, T_and, T_or, T_not, T_andV, T_orV, T_notV, T_if, T_tup, T_lst, T_lstC, T_no, T_part, T_sl, T_slC, S_seq, S_range1, S_range2, T_lc, T_lcC, T_for, T_while, T_setIx, T_call, T_callS, T_start, T_m0, T_yes, T_asgT, vals?, pick_nil, pick_cons, setT, setAll, wipeD, List.getElem?_cons_zero, List.getElem?_cons_succ, List.set_cons_zero, List.set_cons_succ, List.cons_append, List.nil_append, List.append_nil, List.length_cons, List.length_nil, List.map_cons, List.map_nil, oIsi, oLen, oAbs, oInt, oAll, oAny, oAllF, oList, oSum, oIx, oSl, oLt, oLe, oGt, oGe, oSub, oMul, oMod, oFdiv, oPow, oAdd, oAddL, oI, oI0, oIsB, oNotB, oUpper, cellOf?, ren, oIn, oNin, oInF, Nat.reduceSub, Nat.reduceAdd, List.reduceReplicate, true_and, if_true, if_false, Bool.false_eq_true, ite_true, ite_false, eq_self, decide_true, decide_false, Bool.not_true, Bool.not_false, id, oEq, oNe, oEqF, now_val, eqD_str, eqD_int, eqD_nn, T_par, T_par3, T_fld, T_setF, T_make, T_meth, T_isi, T_raise0, T_raise1, T_try, T_tryAs, T_exf, T_asgN, setN, setNs, argsOf, oModN, oIsiI, oOwnB, oOwnE, oOwnN, oOwnG, oTup, oNeg, oI, oI0, insOf_ins, insOf_int, sub_R, rat, lk1, lk2, true_or, or_true, ne_eq, not_false_eq_true, oIntS, oStr0C, T_sm1, oSplit, oNotN, oIsN, T_cmeth, decide_eq_true (congrArg mkS h0)]
          rw [decide_eq_true h0, Bool.true_or] at hk
          exact ⟨by decide, hk⟩
        · simp only [T_seq, T_dic0, T_cut, T_ret, T_asg, T_drop, T_ifS, T_next, T_var, T_c, T_nil, T_cons, T_op, T_un, T_cb, T_t, T_chain, T_and, T_or, T_not, T_andV, T_orV, T_notV, T_if, T_tup, T_lst, T_lstC, T_no, T_part, T_sl, T_slC, S_seq, S_range1, S_range2, T_lc, T_lcC, T_for, T_while, T_setIx, T_call, T_callS, T_start, T_m0, T_yes, T_asgT, vals?, pick_nil, pick_cons, setT, setAll, wipeD, List.getElem?_cons_zero, List.getElem?_cons_succ, List.set_cons_zero, List.set_cons_succ, List.cons_append, List.nil_append, List.append_nil, List.length_cons, List.length_nil, List.map_cons, List.map_nil, oIsi, oLen, oAbs, oInt, oAll, oAny, oAllF, oList, oSum, oIx, oSl, oLt, oLe, oGt, oGe, oSub, oMul, oMod, oFdiv, oPow, oAdd, oAddL, oI, oI0, oIsB, oNotB, oUpper, cellOf?, ren, oIn, oNin, oInF, Nat.reduceSub, Nat.reduceAdd, List.reduceReplicate, true_and, if_true, if_false, Bool.false_eq_true, ite_true, ite_false, eq_self, decide_true, decide_false, Bool.not_true, Bool.not_false, id, oEq, oNe, oEqF, now_val, eqD_str, eqD_int, eqD_nn, T_par, T_par3, T_fld, T_setF, T_make, T_meth, T_isi, T_raise0, T_raise1, T_try, T_tryAs, T_exf, T_asgN, setN, setNs, argsOf, oModN, oIsiI, oOwnB, oOwnE, oOwnN, oOwnG, oTup, oNeg, oI, oI0, insOf_ins, insOf_int, sub_R, rat, lk1, lk2, true_or, or_true, ne_eq, not_false_eq_true, oIntS, oStr0C, T_sm1, oSplit, oNotN, oIsN, T_cmeth, decide_eq_false (fun z : mkS (a :: r) = mkS [48] => h0 (mk_inj z)), cps_mk, atI_hd, mk_len]
          rw [decide_eq_false h0, Bool.false_or] at hk
          refine ⟨by decide, Nat.le_trans hz (by decide), ?_⟩
          have e4 : (⟨#[a]⟩ : Str) = mkS [48] ↔ a = 48 := ⟨fun z => by
            have := mk_inj (a := [a]) z
            injection this, fun z => by rw [z]; rfl⟩
          have e5 : (!decide ((⟨#[a]⟩ : Str) = mkS [48])) = decide ((a :: r).head? ≠ some 48) := by
            by_cases h : a = 48
            · rw [decide_eq_true (e4.mpr h), decide_eq_false (by rw [h]; exact fun z => z rfl)]
              rfl
            · rw [decide_eq_false (fun z => h (e4.mp z)), decide_eq_true (p := (a :: r).head? ≠ some 48) (fun z => h (by injection z))]
              rfl
          rw [e5]
          exact hk
theorem len_law_is_text : ∀ ds μ (k : KE) (e : KX), (ctP c_istext : Ct) ds μ k e → ds.length = 1 := by
  rintro ds μ k e ⟨rfl, xs, rfl, z, rfl, _⟩
  rfl
theorem whole_cases {p : List Nat} (h : wholeB p = true) : NumText.AllDigits p ∧ p ≠ [] ∧ (p = [48] ∨ p.head? ≠ some 48) := by
  unfold wholeB at h
  rw [Bool.and_eq_true, Bool.or_eq_true, decide_eq_true_eq, decide_eq_true_eq] at h
  have := digB_ok (l := p) h.1
  exact ⟨this.1, this.2, h.2⟩
theorem whole_mk {p : List Nat} (h1 : NumText.AllDigits p) (h2 : p ≠ []) (h3 : p = [48] ∨ p.head? ≠ some 48) : wholeB p = true := by
  unfold wholeB
  rw [Bool.and_eq_true, Bool.or_eq_true, decide_eq_true_eq, decide_eq_true_eq]
  exact ⟨digB_of h1 h2, h3⟩
theorem dval_snoc (q : List Nat) (c : Nat) : NumText.digitsVal (q ++ [c]) = NumText.digitsVal q * 10 + (c - 48) := by
  unfold NumText.digitsVal
  rw [List.foldl_append]
  rfl
theorem whole_num' : ∀ (n : Nat) (p : List Nat), p.length = n → wholeB p = true → p = TL.numL (NumText.digitsVal p)
  | 0, p, hn, h => by
    obtain ⟨_, h2, _⟩ := whole_cases h
    exact absurd (List.length_eq_zero_iff.mp hn) h2
  | n + 1, p, hn, h => by
    obtain ⟨h1, h2, h3⟩ := whole_cases h
    obtain ⟨q, c, rfl⟩ : ∃ q c, p = q ++ [c] := ⟨_, _, (List.dropLast_concat_getLast h2).symm⟩
    rw [List.length_append] at hn
    have hq : q.length = n := by simpa using hn
    have hc := h1 c (List.mem_append_right _ (List.mem_singleton.mpr rfl))
    rw [dval_snoc]
    by_cases hqe : q = []
    · subst hqe
      show [c] = TL.numL (0 * 10 + (c - 48))
      rw [TL.numL_lt (by omega)]
      congr 1
      omega
    · have hh : q.head? ≠ some 48 := by
        rcases h3 with h3 | h3
        · exfalso
          have := congrArg List.length h3
          rw [List.length_append] at this
          have : q.length = 0 := by simpa using this
          exact hqe (List.length_eq_zero_iff.mp this)
        · intro z
          refine h3 ?_
          cases q with
          | nil => exact absurd rfl hqe
          | cons a r => exact z
      have ih := whole_num' n q hq (whole_mk (fun d hd => h1 d (List.mem_append_left _ hd)) hqe (.inr hh))
      have hv : NumText.digitsVal q ≠ 0 := by
        intro z
        rw [z] at ih
        rw [ih] at hh
        exact hh rfl
      rw [TL.numL_step (by omega)]
      have e1 : (NumText.digitsVal q * 10 + (c - 48)) / 10 = NumText.digitsVal q := by omega
      have e2 : 48 + (NumText.digitsVal q * 10 + (c - 48)) % 10 = c := by omega
      rw [e1, e2, ← ih]
theorem whole_num {p : List Nat} (h : wholeB p = true) : p = TL.numL (NumText.digitsVal p) := whole_num' _ p rfl h
theorem num_head (n : Nat) : 1 ≤ n → (TL.numL n).head? ≠ some 48 := by
  induction n using Nat.strongRecOn with
  | _ n ih =>
    intro h1
    by_cases h : n < 10
    · rw [TL.numL_lt h]
      intro z
      injection z
      omega
    · rw [TL.numL_step (by omega)]
      have := ih (n / 10) (by omega) (by omega)
      cases e : TL.numL (n / 10) with
      | nil => exact absurd e (TL.numL_ne _)
      | cons a r =>
        rw [e] at this
        exact this
theorem whole_of (n : Nat) : wholeB (TL.numL n) = true := by
  refine whole_mk (TL.numL_digits n) (TL.numL_ne n) ?_
  by_cases h : n = 0
  · subst h
    exact .inl rfl
  · exact .inr (num_head n (by omega))
theorem strip_tx (t b : Int) : stripL (txtL t b) = if b = 1 then TL.numL t.natAbs else TL.numL t.natAbs ++ 47 :: sgnL b := by
  unfold txtL
  split
  · exact strip_sgn t
  · obtain ⟨c, r, e, h1, h2⟩ := numL_head t.natAbs
    unfold sgnL
    by_cases ht : t < 0
    · rw [if_pos ht]
      rfl
    · rw [if_neg ht]
      unfold stripL
      rw [if_neg]
      intro z
      obtain ⟨r2, z⟩ := take1.mp z
      rw [e] at z
      injection z with z _
      omega
theorem num_free (n : Nat) : 47 ∉ TL.numL n := TL.numL_free (.inl (by decide))
theorem strip_parts (t b : Int) : cutP (stripL (txtL t b)) = if b = 1 then [TL.numL t.natAbs] else [TL.numL t.natAbs, sgnL b] := by
  rw [strip_tx]
  split
  · exact cut_one (num_free _)
  · exact cut_two (num_free _) (sgnL_free b)
theorem un_strip {l rest : List Nat} {a : Nat} (ha : a ≠ 0) (h : stripL l = TL.numL a ++ rest) : ∃ t : Int, t.natAbs = a ∧ l = sgnL t ++ rest := by
  unfold stripL at h
  by_cases c : l.take 1 = [45]
  · rw [if_pos c] at h
    obtain ⟨r, e⟩ := take1.mp c
    refine ⟨-(a : Int), by simp, ?_⟩
    unfold sgnL
    rw [if_pos (by omega), Int.natAbs_neg, Int.natAbs_natCast, List.cons_append, ← h, e]
    rfl
  · rw [if_neg c] at h
    refine ⟨(a : Int), by simp, ?_⟩
    unfold sgnL
    rw [if_neg (by omega), Int.natAbs_natCast]
    exact h
theorem sgn_nat (n : Nat) : sgnL (n : Int) = TL.numL n := by
  unfold sgnL
  rw [if_neg (by omega), Int.natAbs_natCast]
theorem val_num (n : Nat) : valL (TL.numL n) = (n : Int) := by
  rw [← sgn_nat, val_sgn]
theorem dig_num (n : Nat) : digB (stripL (TL.numL n)) = true := by
  rw [strip_num]
  exact digB_of (TL.numL_digits n) (TL.numL_ne n)
def noWhole (d : D) : Bool := match d with
  | .str z => !wholeB z.cps.toList
  | _ => false
theorem v_law_is_text : Vc_law_is_text := vcP fun xs k e h => by
  obtain ⟨z, rfl, hz, ho, hk⟩ := h
  obtain ⟨l, rfl⟩ : ∃ l, z = mkS l := ⟨_, (mk_cps z).symm⟩
  rw [mk_len] at hz
  unfold okS at ho
  rw [cps_mk] at ho
  have hk := fun r h => hk r h []
  unfold t_law_is_text N_law_is_text t_law_is_text_0
  have hzs : (mkS l).length ≤ sizeLine := by
    rw [mk_len]
    exact Nat.le_trans hz (by decide)
  simp only [T_seq, T_dic0, T_cut, T_ret, T_asg, T_drop, T_ifS, T_next, T_var, T_c, T_nil, T_cons, T_op, T_un, T_cb, T_t, T_chain, T_and, T_or, T_not, T_andV, T_orV, T_notV, T_if, T_tup, T_lst, T_lstC, T_no, T_part, T_sl, T_slC, S_seq, S_range1, S_range2, T_lc, T_lcC, T_for, T_while, T_setIx, T_call, T_callS, T_start, T_m0, T_yes, T_asgT, vals?, pick_nil, pick_cons, setT, setAll, wipeD, List.getElem?_cons_zero, List.getElem?_cons_succ, List.set_cons_zero, List.set_cons_succ, List.cons_append, List.nil_append, List.append_nil, List.length_cons, List.length_nil, List.map_cons, List.map_nil, oIsi, oLen, oAbs, oInt, oAll, oAny, oAllF, oList, oSum, oIx, oSl, oLt, oLe, oGt, oGe, oSub, oMul, oMod, oFdiv, oPow, oAdd, oAddL, oI, oI0, oIsB, oNotB, oUpper, cellOf?, ren, oIn, oNin, oInF, Nat.reduceSub, Nat.reduceAdd, List.reduceReplicate, true_and, if_true, if_false, Bool.false_eq_true, ite_true, ite_false, eq_self, decide_true, decide_false, Bool.not_true, Bool.not_false, id, oEq, oNe, oEqF, now_val, eqD_str, eqD_int, eqD_nn, T_par, T_par3, T_fld, T_setF, T_make, T_meth, T_isi, T_raise0, T_raise1, T_try, T_tryAs, T_exf, T_asgN, setN, setNs, argsOf, oModN, oIsiI, oOwnB, oOwnE, oOwnN, oOwnG, oTup, oNeg, oI, oI0, insOf_ins, insOf_int, sub_R, rat, lk1, lk2, true_or, or_true, ne_eq, not_false_eq_true, oIntS, oStr0C, T_sm1, oSplit, oNotN, oIsN, T_cmeth, cutS_1, cutS_2, mkS_minus]
  refine ⟨hzs, ?_⟩
  have go : t_law_is_text_1 ⟨T_seq t_law_is_text_2 (T_seq t_law_is_text_3 t_law_is_text_4) ⟨fun _ μ' => k (.val .non) μ', k, fun _ _ => False, fun _ _ => False, fun x _ μ' => e x μ'⟩, k, fun _ _ => False, fun _ _ => False, fun x _ μ' => e x μ'⟩
      [some (.val (.str (mkS l))), some (.val (.str (mkS (stripL l)))), none, none] [] := by
    have hs : (stripL l).length ≤ 78 := by
      unfold stripL
      split
      · rw [List.length_drop]; omega
      · exact hz
    have hso : ∀ c ∈ stripL l, c < 1114112 := by
      unfold stripL
      split
      · exact fun c hc => ho c (List.mem_of_mem_drop hc)
      · exact ho
    unfold t_law_is_text_1
    simp only [T_seq, T_dic0, T_cut, T_ret, T_asg, T_drop, T_ifS, T_next, T_var, T_c, T_nil, T_cons, T_op, T_un, T_cb, T_t, T_chain, T_and, T_or, T_not, T_andV, T_orV, T_notV, T_if, T_tup, T_lst, T_lstC, T_no, T_part, T_sl, T_slC, S_seq, S_range1, S_range2, T_lc, T_lcC, T_for, T_while, T_setIx, T_call, T_callS, T_start, T_m0, T_yes, T_asgT, vals?, pick_nil, pick_cons, setT, setAll, wipeD, List.getElem?_cons_zero, List.getElem?_cons_succ, List.set_cons_zero, List.set_cons_succ, List.cons_append, List.nil_append, List.append_nil, List.length_cons, List.length_nil, List.map_cons, List.map_nil, oIsi, oLen, oAbs, oInt, oAll, oAny, oAllF, oList, oSum, oIx, oSl, oLt, oLe, oGt, oGe, oSub, oMul, oMod, oFdiv, oPow, oAdd, oAddL, oI, oI0, oIsB, oNotB, oUpper, cellOf?, ren, oIn, oNin, oInF, Nat.reduceSub, Nat.reduceAdd, List.reduceReplicate, true_and, if_true, if_false, Bool.false_eq_true, ite_true, ite_false, eq_self, decide_true, decide_false, Bool.not_true, Bool.not_false, id, oEq, oNe, oEqF, now_val, eqD_str, eqD_int, eqD_nn, T_par, T_par3, T_fld, T_setF, T_make, T_meth, T_isi, T_raise0, T_raise1, T_try, T_tryAs, T_exf, T_asgN, setN, setNs, argsOf, oModN, oIsiI, oOwnB, oOwnE, oOwnN, oOwnG, oTup, oNeg, oI, oI0, insOf_ins, insOf_int, sub_R, rat, lk1, lk2, true_or, or_true, ne_eq, not_false_eq_true, oIntS, oStr0C, T_sm1, oSplit, oNotN, oIsN, T_cmeth, T_sm1, oSplit, mk_len]
    refine ⟨by decide, Nat.le_trans (show _ ≤ 402 by omega) (by decide), ?_⟩
    rw [split_cut, cps_mk]
    have tx : ∀ {t b : Int}, Nf t b → mkS l = txtR t b → cutP (stripL l) = if b = 1 then [TL.numL t.natAbs] else [TL.numL t.natAbs, sgnL b] := fun {t b} hn he => by
      have e1 : l = txtL t b := mk_inj he
      rw [e1]
      exact strip_parts t b
    have back := cut_back (stripL l)
    have pl := cut_len (stripL l)
    have pp := fun p (h : p ∈ cutP (stripL l)) => cut_part h
    have pn := cut_ne (stripL l)
    have pm := fun p (h : p ∈ cutP (stripL l)) c (hc : c ∈ p) => cut_mem h hc
    generalize cutP (stripL l) = P at tx back pl pp pn pm
    have pos_sgn : ∀ b : Int, 0 < b → sgnL b = TL.numL b.natAbs := fun b hb => by
      unfold sgnL
      rw [if_neg (by omega)]
    have allw : ¬ (P.length ≤ 2 ∧ P.all wholeB = true) → ¬ IsTx (mkS l) := by
      rintro hc ⟨t, b, hn, he⟩
      refine hc ?_
      rw [tx hn he]
      split
      · exact ⟨by simp, by simp [whole_of]⟩
      · rw [pos_sgn b hn.1]
        exact ⟨by simp, by simp [whole_of]⟩
    have no : ¬ IsTx (mkS l) → k (.val (.bl false)) [] := fun h => hk false ⟨fun z => absurd z Bool.false_ne_true, fun z => absurd z h⟩
    rw [List.map_map]
    have eP : P.map (D.str ∘ mkS) = P.map pD := rfl
    rw [eP]
    unfold t_law_is_text_2 t_law_is_text_2a_0
    simp only [T_seq, T_dic0, T_cut, T_ret, T_asg, T_drop, T_ifS, T_next, T_var, T_c, T_nil, T_cons, T_op, T_un, T_cb, T_t, T_chain, T_and, T_or, T_not, T_andV, T_orV, T_notV, T_if, T_tup, T_lst, T_lstC, T_no, T_part, T_sl, T_slC, S_seq, S_range1, S_range2, T_lc, T_lcC, T_for, T_while, T_setIx, T_call, T_callS, T_start, T_m0, T_yes, T_asgT, vals?, pick_nil, pick_cons, setT, setAll, wipeD, List.getElem?_cons_zero, List.getElem?_cons_succ, List.set_cons_zero, List.set_cons_succ, List.cons_append, List.nil_append, List.append_nil, List.length_cons, List.length_nil, List.map_cons, List.map_nil, oIsi, oLen, oAbs, oInt, oAll, oAny, oAllF, oList, oSum, oIx, oSl, oLt, oLe, oGt, oGe, oSub, oMul, oMod, oFdiv, oPow, oAdd, oAddL, oI, oI0, oIsB, oNotB, oUpper, cellOf?, ren, oIn, oNin, oInF, Nat.reduceSub, Nat.reduceAdd, List.reduceReplicate, true_and, if_true, if_false, Bool.false_eq_true, ite_true, ite_false, eq_self, decide_true, decide_false, Bool.not_true, Bool.not_false, id, oEq, oNe, oEqF, now_val, eqD_str, eqD_int, eqD_nn, T_par, T_par3, T_fld, T_setF, T_make, T_meth, T_isi, T_raise0, T_raise1, T_try, T_tryAs, T_exf, T_asgN, setN, setNs, argsOf, oModN, oIsiI, oOwnB, oOwnE, oOwnN, oOwnG, oTup, oNeg, oI, oI0, insOf_ins, insOf_int, sub_R, rat, lk1, lk2, true_or, or_true, ne_eq, not_false_eq_true, oIntS, oStr0C, T_sm1, oSplit, oNotN, oIsN, T_cmeth, List.length_map]
    by_cases c2 : (2 : Int) < (P.length : Int)
    · simp only [T_seq, T_dic0, T_cut, T_ret, T_asg, T_drop, T_ifS, T_next, T_var, T_c, T_nil, T_cons, T_op, T_un, T_cb, T_t, T_chain, T_and, T_or, T_not, T_andV, T_orV, T_notV, T_if, T_tup, T_lst, T_lstC, T_no, T_part, T_sl, T_slC, S_seq, S_range1, S_range2, T_lc, T_lcC, T_for, T_while, T_setIx, T_call, T_callS, T_start, T_m0, T_yes, T_asgT, vals?, pick_nil, pick_cons, setT, setAll, wipeD, List.getElem?_cons_zero, List.getElem?_cons_succ, List.set_cons_zero, List.set_cons_succ, List.cons_append, List.nil_append, List.append_nil, List.length_cons, List.length_nil, List.map_cons, List.map_nil, oIsi, oLen, oAbs, oInt, oAll, oAny, oAllF, oList, oSum, oIx, oSl, oLt, oLe, oGt, oGe, oSub, oMul, oMod, oFdiv, oPow, oAdd, oAddL, oI, oI0, oIsB, oNotB, oUpper, cellOf?, ren, oIn, oNin, oInF, Nat.reduceSub, Nat.reduceAdd, List.reduceReplicate, true_and, if_true, if_false, Bool.false_eq_true, ite_true, ite_false, eq_self, decide_true, decide_false, Bool.not_true, Bool.not_false, id, oEq, oNe, oEqF, now_val, eqD_str, eqD_int, eqD_nn, T_par, T_par3, T_fld, T_setF, T_make, T_meth, T_isi, T_raise0, T_raise1, T_try, T_tryAs, T_exf, T_asgN, setN, setNs, argsOf, oModN, oIsiI, oOwnB, oOwnE, oOwnN, oOwnG, oTup, oNeg, oI, oI0, insOf_ins, insOf_int, sub_R, rat, lk1, lk2, true_or, or_true, ne_eq, not_false_eq_true, oIntS, oStr0C, T_sm1, oSplit, oNotN, oIsN, T_cmeth, decide_eq_true c2]
      exact no (allw fun z => by omega)
    · simp only [T_seq, T_dic0, T_cut, T_ret, T_asg, T_drop, T_ifS, T_next, T_var, T_c, T_nil, T_cons, T_op, T_un, T_cb, T_t, T_chain, T_and, T_or, T_not, T_andV, T_orV, T_notV, T_if, T_tup, T_lst, T_lstC, T_no, T_part, T_sl, T_slC, S_seq, S_range1, S_range2, T_lc, T_lcC, T_for, T_while, T_setIx, T_call, T_callS, T_start, T_m0, T_yes, T_asgT, vals?, pick_nil, pick_cons, setT, setAll, wipeD, List.getElem?_cons_zero, List.getElem?_cons_succ, List.set_cons_zero, List.set_cons_succ, List.cons_append, List.nil_append, List.append_nil, List.length_cons, List.length_nil, List.map_cons, List.map_nil, oIsi, oLen, oAbs, oInt, oAll, oAny, oAllF, oList, oSum, oIx, oSl, oLt, oLe, oGt, oGe, oSub, oMul, oMod, oFdiv, oPow, oAdd, oAddL, oI, oI0, oIsB, oNotB, oUpper, cellOf?, ren, oIn, oNin, oInF, Nat.reduceSub, Nat.reduceAdd, List.reduceReplicate, true_and, if_true, if_false, Bool.false_eq_true, ite_true, ite_false, eq_self, decide_true, decide_false, Bool.not_true, Bool.not_false, id, oEq, oNe, oEqF, now_val, eqD_str, eqD_int, eqD_nn, T_par, T_par3, T_fld, T_setF, T_make, T_meth, T_isi, T_raise0, T_raise1, T_try, T_tryAs, T_exf, T_asgN, setN, setNs, argsOf, oModN, oIsiI, oOwnB, oOwnE, oOwnN, oOwnG, oTup, oNeg, oI, oI0, insOf_ins, insOf_int, sub_R, rat, lk1, lk2, true_or, or_true, ne_eq, not_false_eq_true, oIntS, oStr0C, T_sm1, oSplit, oNotN, oIsN, T_cmeth, decide_eq_false c2]
      refine ⟨IvFil noWhole id (P.map pD) [], .zero, fun i acc μ' _ q => q.le, Nat.lt_of_le_of_lt (show _ ≤ 2 by omega) (by decide), fun i x acc μ' hx q => ?_, fun acc μ' q => ?_⟩
      · have hx2 := hx
        rw [List.getElem?_map] at hx2
        cases c : P[i]? with
        | none => rw [c] at hx2; cases hx2
        | some p =>
          rw [c] at hx2
          cases hx2
          have q1 := fun h => q.yes (p := noWhole) (f := id) hx h
          have q2 := fun h => q.no (p := noWhole) (f := id) hx h
          have hpm := List.mem_of_getElem? c
          have e1 : noWhole (pD p) = !wholeB p := by
            show (!wholeB (mkS p).cps.toList) = _
            rw [cps_mk]
          simp only [T_seq, T_dic0, T_cut, T_ret, T_asg, T_drop, T_ifS, T_next, T_var, T_c, T_nil, T_cons, T_op, T_un, T_cb, T_t, T_chain, T_and, T_or, T_not, T_andV, T_orV, T_notV, T_if, T_tup, T_lst, T_lstC, T_no, T_part, T_sl, T_slC, S_seq, S_range1, S_range2, T_lc, T_lcC, T_for, T_while, T_setIx, T_call, T_callS, T_start, T_m0, T_yes, T_asgT, vals?, pick_nil, pick_cons, setT, setAll, wipeD, List.getElem?_cons_zero, List.getElem?_cons_succ, List.set_cons_zero, List.set_cons_succ, List.cons_append, List.nil_append, List.append_nil, List.length_cons, List.length_nil, List.map_cons, List.map_nil, oIsi, oLen, oAbs, oInt, oAll, oAny, oAllF, oList, oSum, oIx, oSl, oLt, oLe, oGt, oGe, oSub, oMul, oMod, oFdiv, oPow, oAdd, oAddL, oI, oI0, oIsB, oNotB, oUpper, cellOf?, ren, oIn, oNin, oInF, Nat.reduceSub, Nat.reduceAdd, List.reduceReplicate, true_and, if_true, if_false, Bool.false_eq_true, ite_true, ite_false, eq_self, decide_true, decide_false, Bool.not_true, Bool.not_false, id, oEq, oNe, oEqF, now_val, eqD_str, eqD_int, eqD_nn, T_par, T_par3, T_fld, T_setF, T_make, T_meth, T_isi, T_raise0, T_raise1, T_try, T_tryAs, T_exf, T_asgN, setN, setNs, argsOf, oModN, oIsiI, oOwnB, oOwnE, oOwnN, oOwnG, oTup, oNeg, oI, oI0, insOf_ins, insOf_int, sub_R, rat, lk1, lk2, true_or, or_true, ne_eq, not_false_eq_true, oIntS, oStr0C, T_sm1, oSplit, oNotN, oIsN, T_cmeth, pD]
          refine ⟨mkS p, rfl, by rw [mk_len]; have := pp p hpm; omega, fun c hc => ?_, ?_⟩
          · rw [cps_mk] at hc
            exact hso c (pm p hpm c hc)
          · rw [cps_mk]
            simp only [T_seq, T_dic0, T_cut, T_ret, T_asg, T_drop, T_ifS, T_next, T_var, T_c, T_nil, T_cons, T_op, T_un, T_cb, T_t, T_chain, T_and, T_or, T_not, T_andV, T_orV, T_notV, T_if, T_tup, T_lst, T_lstC, T_no, T_part, T_sl, T_slC, S_seq, S_range1, S_range2, T_lc, T_lcC, T_for, T_while, T_setIx, T_call, T_callS, T_start, T_m0, T_yes, T_asgT, vals?, pick_nil, pick_cons, setT, setAll, wipeD, List.getElem?_cons_zero, List.getElem?_cons_succ, List.set_cons_zero, List.set_cons_succ, List.cons_append, List.nil_append, List.append_nil, List.length_cons, List.length_nil, List.map_cons, List.map_nil, oIsi, oLen, oAbs, oInt, oAll, oAny, oAllF, oList, oSum, oIx, oSl, oLt, oLe, oGt, oGe, oSub, oMul, oMod, oFdiv, oPow, oAdd, oAddL, oI, oI0, oIsB, oNotB, oUpper, cellOf?, ren, oIn, oNin, oInF, Nat.reduceSub, Nat.reduceAdd, List.reduceReplicate, true_and, if_true, if_false, Bool.false_eq_true, ite_true, ite_false, eq_self, decide_true, decide_false, Bool.not_true, Bool.not_false, id, oEq, oNe, oEqF, now_val, eqD_str, eqD_int, eqD_nn, T_par, T_par3, T_fld, T_setF, T_make, T_meth, T_isi, T_raise0, T_raise1, T_try, T_tryAs, T_exf, T_asgN, setN, setNs, argsOf, oModN, oIsiI, oOwnB, oOwnE, oOwnN, oOwnG, oTup, oNeg, oI, oI0, insOf_ins, insOf_int, sub_R, rat, lk1, lk2, true_or, or_true, ne_eq, not_false_eq_true, oIntS, oStr0C, T_sm1, oSplit, oNotN, oIsN, T_cmeth]
            by_cases h : (!wholeB p) = true
            · rw [if_pos h]
              exact q1 (e1.trans h)
            · rw [if_neg h]
              exact q2 (e1.trans (Bool.eq_false_iff.mpr h))
      · have q : IvFil noWhole id (P.map pD) [] (P.map pD).length acc μ' := by
          rw [List.length_map]
          exact q
        have e1 := q.done
        obtain ⟨rfl, _⟩ := q
        have e2 : acc = ((P.filter fun p => !wholeB p).map mkS).map D.str := by
          rw [e1, List.filter_map, List.map_map, List.map_map]
          have : (noWhole ∘ pD) = fun p => !wholeB p := by
            funext p
            show (!wholeB (mkS p).cps.toList) = _
            rw [cps_mk]
          rw [this]
          rfl
        rw [e2]
        rw [eqD_strs not _ (fun z hz => by
          obtain ⟨p, hp, rfl⟩ := List.mem_map.mp hz
          intro c hc
          rw [cps_mk] at hc
          exact hso c (pm p (List.mem_filter.mp hp).1 c hc))]
        have e3 : (((P.filter fun p => !wholeB p).map mkS).isEmpty) = P.all wholeB := by
          rw [List.isEmpty_map]
          have filt : ∀ P : List (List Nat), (P.filter fun p => !wholeB p).isEmpty = P.all wholeB := by
            intro P
            induction P with
            | nil => rfl
            | cons a r ih =>
              rw [List.filter_cons, List.all_cons]
              cases hh : wholeB a with
              | true =>
                rw [Bool.true_and]
                exact ih
              | false => rfl
          exact filt P
        rw [e3]
        cases ha : P.all wholeB with
        | false =>
          simp only [T_seq, T_dic0, T_cut, T_ret, T_asg, T_drop, T_ifS, T_next, T_var, T_c, T_nil, T_cons, T_op, T_un, T_cb, T_t, T_chain, T_and, T_or, T_not, T_andV, T_orV, T_notV, T_if, T_tup, T_lst, T_lstC, T_no, T_part, T_sl, T_slC, S_seq, S_range1, S_range2, T_lc, T_lcC, T_for, T_while, T_setIx, T_call, T_callS, T_start, T_m0, T_yes, T_asgT, vals?, pick_nil, pick_cons, setT, setAll, wipeD, List.getElem?_cons_zero, List.getElem?_cons_succ, List.set_cons_zero, List.set_cons_succ, List.cons_append, List.nil_append, List.append_nil, List.length_cons, List.length_nil, List.map_cons, List.map_nil, oIsi, oLen, oAbs, oInt, oAll, oAny, oAllF, oList, oSum, oIx, oSl, oLt, oLe, oGt, oGe, oSub, oMul, oMod, oFdiv, oPow, oAdd, oAddL, oI, oI0, oIsB, oNotB, oUpper, cellOf?, ren, oIn, oNin, oInF, Nat.reduceSub, Nat.reduceAdd, List.reduceReplicate, true_and, if_true, if_false, Bool.false_eq_true, ite_true, ite_false, eq_self, decide_true, decide_false, Bool.not_true, Bool.not_false, id, oEq, oNe, oEqF, now_val, eqD_str, eqD_int, eqD_nn, T_par, T_par3, T_fld, T_setF, T_make, T_meth, T_isi, T_raise0, T_raise1, T_try, T_tryAs, T_exf, T_asgN, setN, setNs, argsOf, oModN, oIsiI, oOwnB, oOwnE, oOwnN, oOwnG, oTup, oNeg, oI, oI0, insOf_ins, insOf_int, sub_R, rat, lk1, lk2, true_or, or_true, ne_eq, not_false_eq_true, oIntS, oStr0C, T_sm1, oSplit, oNotN, oIsN, T_cmeth]
          exact ⟨by decide, no (allw fun z => by rw [ha] at z; exact absurd z.2 (by decide))⟩
        | true =>
          simp only [T_seq, T_dic0, T_cut, T_ret, T_asg, T_drop, T_ifS, T_next, T_var, T_c, T_nil, T_cons, T_op, T_un, T_cb, T_t, T_chain, T_and, T_or, T_not, T_andV, T_orV, T_notV, T_if, T_tup, T_lst, T_lstC, T_no, T_part, T_sl, T_slC, S_seq, S_range1, S_range2, T_lc, T_lcC, T_for, T_while, T_setIx, T_call, T_callS, T_start, T_m0, T_yes, T_asgT, vals?, pick_nil, pick_cons, setT, setAll, wipeD, List.getElem?_cons_zero, List.getElem?_cons_succ, List.set_cons_zero, List.set_cons_succ, List.cons_append, List.nil_append, List.append_nil, List.length_cons, List.length_nil, List.map_cons, List.map_nil, oIsi, oLen, oAbs, oInt, oAll, oAny, oAllF, oList, oSum, oIx, oSl, oLt, oLe, oGt, oGe, oSub, oMul, oMod, oFdiv, oPow, oAdd, oAddL, oI, oI0, oIsB, oNotB, oUpper, cellOf?, ren, oIn, oNin, oInF, Nat.reduceSub, Nat.reduceAdd, List.reduceReplicate, true_and, if_true, if_false, Bool.false_eq_true, ite_true, ite_false, eq_self, decide_true, decide_false, Bool.not_true, Bool.not_false, id, oEq, oNe, oEqF, now_val, eqD_str, eqD_int, eqD_nn, T_par, T_par3, T_fld, T_setF, T_make, T_meth, T_isi, T_raise0, T_raise1, T_try, T_tryAs, T_exf, T_asgN, setN, setNs, argsOf, oModN, oIsiI, oOwnB, oOwnE, oOwnN, oOwnG, oTup, oNeg, oI, oI0, insOf_ins, insOf_int, sub_R, rat, lk1, lk2, true_or, or_true, ne_eq, not_false_eq_true, oIntS, oStr0C, T_sm1, oSplit, oNotN, oIsN, T_cmeth]
          refine ⟨by decide, ?_⟩
          have hw : ∀ p ∈ P, wholeB p = true := fun p hp => List.all_eq_true.mp ha p hp
          unfold t_law_is_text_3 t_law_is_text_3a_0
          have e0 : ("0" : Str) = mkS [48] := by decide +kernel
          have hP : P.length = 1 ∨ P.length = 2 := by
            have : P.length ≠ 0 := fun z => pn (List.length_eq_zero_iff.mp z)
            omega
          have num0 : ([48] : List Nat) = TL.numL 0 := rfl
          have zero : ∀ p r, P = p :: r → p = [48] → (mkS l = mkS [48] ↔ IsTx (mkS l)) := by
            intro p r hpr hp0
            constructor
            · intro z
              exact ⟨0, 1, ⟨by decide, by decide⟩, by rw [z]; rfl⟩
            · rintro ⟨t, b, hn, he⟩
              have z := tx hn he
              have ht : TL.numL t.natAbs = [48] := by
                rw [hpr, hp0] at z
                split at z <;> (injection z with z _; exact z.symm)
              have ht0 : t = 0 := by
                rw [num0] at ht
                have := TL.numL_inj ht
                omega
              have hb1 : b = 1 := by
                have h2 := hn.2
                have h1 := hn.1
                rw [ht0, Int.gcd_zero_left] at h2
                omega
              rw [he, ht0, hb1]
              rfl
          rcases hP with hP | hP
          · obtain ⟨p, rfl⟩ := List.length_eq_one_iff.mp hP
            have hp := whole_num (hw p (by simp))
            simp only [T_seq, T_dic0, T_cut, T_ret, T_asg, T_drop, T_ifS, T_next, T_var, T_c, T_nil, T_cons, T_op, T_un, T_cb, T_t, T_chain, T_and, T_or, T_not, T_andV, T_orV, T_notV, T_if, T_tup, T_lst, T_lstC, T_no, T_part, T_sl, T_slC, S_seq, S_range1, S_range2, T_lc, T_lcC, T_for, T_while, T_setIx, T_call, T_callS, T_start, T_m0, T_yes, T_asgT, vals?, pick_nil, pick_cons, setT, setAll, wipeD, List.getElem?_cons_zero, List.getElem?_cons_succ, List.set_cons_zero, List.set_cons_succ, List.cons_append, List.nil_append, List.append_nil, List.length_cons, List.length_nil, List.map_cons, List.map_nil, oIsi, oLen, oAbs, oInt, oAll, oAny, oAllF, oList, oSum, oIx, oSl, oLt, oLe, oGt, oGe, oSub, oMul, oMod, oFdiv, oPow, oAdd, oAddL, oI, oI0, oIsB, oNotB, oUpper, cellOf?, ren, oIn, oNin, oInF, Nat.reduceSub, Nat.reduceAdd, List.reduceReplicate, true_and, if_true, if_false, Bool.false_eq_true, ite_true, ite_false, eq_self, decide_true, decide_false, Bool.not_true, Bool.not_false, id, oEq, oNe, oEqF, now_val, eqD_str, eqD_int, eqD_nn, T_par, T_par3, T_fld, T_setF, T_make, T_meth, T_isi, T_raise0, T_raise1, T_try, T_tryAs, T_exf, T_asgN, setN, setNs, argsOf, oModN, oIsiI, oOwnB, oOwnE, oOwnN, oOwnG, oTup, oNeg, oI, oI0, insOf_ins, insOf_int, sub_R, rat, lk1, lk2, true_or, or_true, ne_eq, not_false_eq_true, oIntS, oStr0C, T_sm1, oSplit, oNotN, oIsN, T_cmeth, pD, e0, atI_hd]
            by_cases hp0 : p = [48]
            · simp only [T_seq, T_dic0, T_cut, T_ret, T_asg, T_drop, T_ifS, T_next, T_var, T_c, T_nil, T_cons, T_op, T_un, T_cb, T_t, T_chain, T_and, T_or, T_not, T_andV, T_orV, T_notV, T_if, T_tup, T_lst, T_lstC, T_no, T_part, T_sl, T_slC, S_seq, S_range1, S_range2, T_lc, T_lcC, T_for, T_while, T_setIx, T_call, T_callS, T_start, T_m0, T_yes, T_asgT, vals?, pick_nil, pick_cons, setT, setAll, wipeD, List.getElem?_cons_zero, List.getElem?_cons_succ, List.set_cons_zero, List.set_cons_succ, List.cons_append, List.nil_append, List.append_nil, List.length_cons, List.length_nil, List.map_cons, List.map_nil, oIsi, oLen, oAbs, oInt, oAll, oAny, oAllF, oList, oSum, oIx, oSl, oLt, oLe, oGt, oGe, oSub, oMul, oMod, oFdiv, oPow, oAdd, oAddL, oI, oI0, oIsB, oNotB, oUpper, cellOf?, ren, oIn, oNin, oInF, Nat.reduceSub, Nat.reduceAdd, List.reduceReplicate, true_and, if_true, if_false, Bool.false_eq_true, ite_true, ite_false, eq_self, decide_true, decide_false, Bool.not_true, Bool.not_false, id, oEq, oNe, oEqF, now_val, eqD_str, eqD_int, eqD_nn, T_par, T_par3, T_fld, T_setF, T_make, T_meth, T_isi, T_raise0, T_raise1, T_try, T_tryAs, T_exf, T_asgN, setN, setNs, argsOf, oModN, oIsiI, oOwnB, oOwnE, oOwnN, oOwnG, oTup, oNeg, oI, oI0, insOf_ins, insOf_int, sub_R, rat, lk1, lk2, true_or, or_true, ne_eq, not_false_eq_true, oIntS, oStr0C, T_sm1, oSplit, oNotN, oIsN, T_cmeth, decide_eq_true (congrArg mkS hp0)]
              have z := hk (decide (mkS l = mkS [48])) ⟨fun z => (zero p [] rfl hp0).mp (of_decide_eq_true z), fun z => decide_eq_true ((zero p [] rfl hp0).mpr z)⟩
              exact z
            · simp only [T_seq, T_dic0, T_cut, T_ret, T_asg, T_drop, T_ifS, T_next, T_var, T_c, T_nil, T_cons, T_op, T_un, T_cb, T_t, T_chain, T_and, T_or, T_not, T_andV, T_orV, T_notV, T_if, T_tup, T_lst, T_lstC, T_no, T_part, T_sl, T_slC, S_seq, S_range1, S_range2, T_lc, T_lcC, T_for, T_while, T_setIx, T_call, T_callS, T_start, T_m0, T_yes, T_asgT, vals?, pick_nil, pick_cons, setT, setAll, wipeD, List.getElem?_cons_zero, List.getElem?_cons_succ, List.set_cons_zero, List.set_cons_succ, List.cons_append, List.nil_append, List.append_nil, List.length_cons, List.length_nil, List.map_cons, List.map_nil, oIsi, oLen, oAbs, oInt, oAll, oAny, oAllF, oList, oSum, oIx, oSl, oLt, oLe, oGt, oGe, oSub, oMul, oMod, oFdiv, oPow, oAdd, oAddL, oI, oI0, oIsB, oNotB, oUpper, cellOf?, ren, oIn, oNin, oInF, Nat.reduceSub, Nat.reduceAdd, List.reduceReplicate, true_and, if_true, if_false, Bool.false_eq_true, ite_true, ite_false, eq_self, decide_true, decide_false, Bool.not_true, Bool.not_false, id, oEq, oNe, oEqF, now_val, eqD_str, eqD_int, eqD_nn, T_par, T_par3, T_fld, T_setF, T_make, T_meth, T_isi, T_raise0, T_raise1, T_try, T_tryAs, T_exf, T_asgN, setN, setNs, argsOf, oModN, oIsiI, oOwnB, oOwnE, oOwnN, oOwnG, oTup, oNeg, oI, oI0, insOf_ins, insOf_int, sub_R, rat, lk1, lk2, true_or, or_true, ne_eq, not_false_eq_true, oIntS, oStr0C, T_sm1, oSplit, oNotN, oIsN, T_cmeth, decide_eq_false (fun z : mkS p = mkS [48] => hp0 (mk_inj z))]
              unfold t_law_is_text_4
              simp only [T_seq, T_dic0, T_cut, T_ret, T_asg, T_drop, T_ifS, T_next, T_var, T_c, T_nil, T_cons, T_op, T_un, T_cb, T_t, T_chain, T_and, T_or, T_not, T_andV, T_orV, T_notV, T_if, T_tup, T_lst, T_lstC, T_no, T_part, T_sl, T_slC, S_seq, S_range1, S_range2, T_lc, T_lcC, T_for, T_while, T_setIx, T_call, T_callS, T_start, T_m0, T_yes, T_asgT, vals?, pick_nil, pick_cons, setT, setAll, wipeD, List.getElem?_cons_zero, List.getElem?_cons_succ, List.set_cons_zero, List.set_cons_succ, List.cons_append, List.nil_append, List.append_nil, List.length_cons, List.length_nil, List.map_cons, List.map_nil, oIsi, oLen, oAbs, oInt, oAll, oAny, oAllF, oList, oSum, oIx, oSl, oLt, oLe, oGt, oGe, oSub, oMul, oMod, oFdiv, oPow, oAdd, oAddL, oI, oI0, oIsB, oNotB, oUpper, cellOf?, ren, oIn, oNin, oInF, Nat.reduceSub, Nat.reduceAdd, List.reduceReplicate, true_and, if_true, if_false, Bool.false_eq_true, ite_true, ite_false, eq_self, decide_true, decide_false, Bool.not_true, Bool.not_false, id, oEq, oNe, oEqF, now_val, eqD_str, eqD_int, eqD_nn, T_par, T_par3, T_fld, T_setF, T_make, T_meth, T_isi, T_raise0, T_raise1, T_try, T_tryAs, T_exf, T_asgN, setN, setNs, argsOf, oModN, oIsiI, oOwnB, oOwnE, oOwnN, oOwnG, oTup, oNeg, oI, oI0, insOf_ins, insOf_int, sub_R, rat, lk1, lk2, true_or, or_true, ne_eq, not_false_eq_true, oIntS, oStr0C, T_sm1, oSplit, oNotN, oIsN, T_cmeth]
              refine hk true ⟨fun _ => ?_, fun _ => rfl⟩
              have ha : NumText.digitsVal p ≠ 0 := fun z => hp0 (by rw [hp, z]; rfl)
              obtain ⟨t, h1, h2⟩ := un_strip (rest := []) ha (by rw [List.append_nil, ← hp]; exact back.symm)
              rw [List.append_nil] at h2
              exact ⟨t, 1, ⟨by decide, by simp⟩, by rw [h2]; rfl⟩
          · obtain ⟨p, p2, rfl⟩ : ∃ p q, P = [p, q] := by
              match P, hP with
              | [p, q], _ => exact ⟨p, q, rfl⟩
            have hp := whole_num (hw p (by simp))
            have hq := whole_num (hw p2 (by simp))
            simp only [T_seq, T_dic0, T_cut, T_ret, T_asg, T_drop, T_ifS, T_next, T_var, T_c, T_nil, T_cons, T_op, T_un, T_cb, T_t, T_chain, T_and, T_or, T_not, T_andV, T_orV, T_notV, T_if, T_tup, T_lst, T_lstC, T_no, T_part, T_sl, T_slC, S_seq, S_range1, S_range2, T_lc, T_lcC, T_for, T_while, T_setIx, T_call, T_callS, T_start, T_m0, T_yes, T_asgT, vals?, pick_nil, pick_cons, setT, setAll, wipeD, List.getElem?_cons_zero, List.getElem?_cons_succ, List.set_cons_zero, List.set_cons_succ, List.cons_append, List.nil_append, List.append_nil, List.length_cons, List.length_nil, List.map_cons, List.map_nil, oIsi, oLen, oAbs, oInt, oAll, oAny, oAllF, oList, oSum, oIx, oSl, oLt, oLe, oGt, oGe, oSub, oMul, oMod, oFdiv, oPow, oAdd, oAddL, oI, oI0, oIsB, oNotB, oUpper, cellOf?, ren, oIn, oNin, oInF, Nat.reduceSub, Nat.reduceAdd, List.reduceReplicate, true_and, if_true, if_false, Bool.false_eq_true, ite_true, ite_false, eq_self, decide_true, decide_false, Bool.not_true, Bool.not_false, id, oEq, oNe, oEqF, now_val, eqD_str, eqD_int, eqD_nn, T_par, T_par3, T_fld, T_setF, T_make, T_meth, T_isi, T_raise0, T_raise1, T_try, T_tryAs, T_exf, T_asgN, setN, setNs, argsOf, oModN, oIsiI, oOwnB, oOwnE, oOwnN, oOwnG, oTup, oNeg, oI, oI0, insOf_ins, insOf_int, sub_R, rat, lk1, lk2, true_or, or_true, ne_eq, not_false_eq_true, oIntS, oStr0C, T_sm1, oSplit, oNotN, oIsN, T_cmeth, pD, e0, atI_hd]
            by_cases hp0 : p = [48]
            · simp only [T_seq, T_dic0, T_cut, T_ret, T_asg, T_drop, T_ifS, T_next, T_var, T_c, T_nil, T_cons, T_op, T_un, T_cb, T_t, T_chain, T_and, T_or, T_not, T_andV, T_orV, T_notV, T_if, T_tup, T_lst, T_lstC, T_no, T_part, T_sl, T_slC, S_seq, S_range1, S_range2, T_lc, T_lcC, T_for, T_while, T_setIx, T_call, T_callS, T_start, T_m0, T_yes, T_asgT, vals?, pick_nil, pick_cons, setT, setAll, wipeD, List.getElem?_cons_zero, List.getElem?_cons_succ, List.set_cons_zero, List.set_cons_succ, List.cons_append, List.nil_append, List.append_nil, List.length_cons, List.length_nil, List.map_cons, List.map_nil, oIsi, oLen, oAbs, oInt, oAll, oAny, oAllF, oList, oSum, oIx, oSl, oLt, oLe, oGt, oGe, oSub, oMul, oMod, oFdiv, oPow, oAdd, oAddL, oI, oI0, oIsB, oNotB, oUpper, cellOf?, ren, oIn, oNin, oInF, Nat.reduceSub, Nat.reduceAdd, List.reduceReplicate, true_and, if_true, if_false, Bool.false_eq_true, ite_true, ite_false, eq_self, decide_true, decide_false, Bool.not_true, Bool.not_false, id, oEq, oNe, oEqF, now_val, eqD_str, eqD_int, eqD_nn, T_par, T_par3, T_fld, T_setF, T_make, T_meth, T_isi, T_raise0, T_raise1, T_try, T_tryAs, T_exf, T_asgN, setN, setNs, argsOf, oModN, oIsiI, oOwnB, oOwnE, oOwnN, oOwnG, oTup, oNeg, oI, oI0, insOf_ins, insOf_int, sub_R, rat, lk1, lk2, true_or, or_true, ne_eq, not_false_eq_true, oIntS, oStr0C, T_sm1, oSplit, oNotN, oIsN, T_cmeth, decide_eq_true (congrArg mkS hp0)]
              have z := hk (decide (mkS l = mkS [48])) ⟨fun z => (zero p _ rfl hp0).mp (of_decide_eq_true z), fun z => decide_eq_true ((zero p _ rfl hp0).mpr z)⟩
              exact z
            · simp only [T_seq, T_dic0, T_cut, T_ret, T_asg, T_drop, T_ifS, T_next, T_var, T_c, T_nil, T_cons, T_op, T_un, T_cb, T_t, T_chain, T_and, T_or, T_not, T_andV, T_orV, T_notV, T_if, T_tup, T_lst, T_lstC, T_no, T_part, T_sl, T_slC, S_seq, S_range1, S_range2, T_lc, T_lcC, T_for, T_while, T_setIx, T_call, T_callS, T_start, T_m0, T_yes, T_asgT, vals?, pick_nil, pick_cons, setT, setAll, wipeD, List.getElem?_cons_zero, List.getElem?_cons_succ, List.set_cons_zero, List.set_cons_succ, List.cons_append, List.nil_append, List.append_nil, List.length_cons, List.length_nil, List.map_cons, List.map_nil, oIsi, oLen, oAbs, oInt, oAll, oAny, oAllF, oList, oSum, oIx, oSl, oLt, oLe, oGt, oGe, oSub, oMul, oMod, oFdiv, oPow, oAdd, oAddL, oI, oI0, oIsB, oNotB, oUpper, cellOf?, ren, oIn, oNin, oInF, Nat.reduceSub, Nat.reduceAdd, List.reduceReplicate, true_and, if_true, if_false, Bool.false_eq_true, ite_true, ite_false, eq_self, decide_true, decide_false, Bool.not_true, Bool.not_false, id, oEq, oNe, oEqF, now_val, eqD_str, eqD_int, eqD_nn, T_par, T_par3, T_fld, T_setF, T_make, T_meth, T_isi, T_raise0, T_raise1, T_try, T_tryAs, T_exf, T_asgN, setN, setNs, argsOf, oModN, oIsiI, oOwnB, oOwnE, oOwnN, oOwnG, oTup, oNeg, oI, oI0, insOf_ins, insOf_int, sub_R, rat, lk1, lk2, true_or, or_true, ne_eq, not_false_eq_true, oIntS, oStr0C, T_sm1, oSplit, oNotN, oIsN, T_cmeth, decide_eq_false (fun z : mkS p = mkS [48] => hp0 (mk_inj z))]
              have ha : NumText.digitsVal p ≠ 0 := fun z => hp0 (by rw [hp, z]; rfl)
              have lp := pp p (by simp)
              have lq := pp p2 (by simp)
              have lpq : p.length + p2.length + 1 ≤ 78 := by
                have e1 : p ++ (47 :: p2) = stripL l := back
                have := congrArg List.length e1
                rw [List.length_append, List.length_cons] at this
                omega
              have dq : digB (stripL p2) = true := by rw [hq]; exact dig_num _
              have dp : digB (stripL p) = true := by rw [hp]; exact dig_num _
              have iq := int_dig dq (by omega)
              have ip := int_dig dp (by omega)
              have vq : valL p2 = (NumText.digitsVal p2 : Int) := by rw [hq, val_num, TL.numL_val]
              have vp : valL p = (NumText.digitsVal p : Int) := by rw [hp, val_num, TL.numL_val]
              rw [vq] at iq
              rw [vp] at ip
              have bq := dval_lt (digB_ok (l := p2) (by rw [hq]; exact digB_of (TL.numL_digits _) (TL.numL_ne _))).1
              have bp := dval_lt (digB_ok (l := p) (by rw [hp]; exact digB_of (TL.numL_digits _) (TL.numL_ne _))).1
              have fwd : ∀ {t b : Int}, Nf t b → mkS l = txtR t b → t.natAbs = NumText.digitsVal p ∧ b = NumText.digitsVal p2 ∧ b ≠ 1 := by
                intro t b hn he
                have z := tx hn he
                split at z
                · simp at z
                · rename_i hb1
                  injection z with z1 z
                  injection z with z2 _
                  rw [pos_sgn b hn.1] at z2
                  refine ⟨by rw [z1, TL.numL_val], ?_, hb1⟩
                  have := hn.1
                  rw [z2, TL.numL_val]
                  omega
              have a21 : ∀ x y : D, atI [x, y] 1 = some y := fun _ _ => rfl
              unfold t_law_is_text_4
              simp only [T_seq, T_dic0, T_cut, T_ret, T_asg, T_drop, T_ifS, T_next, T_var, T_c, T_nil, T_cons, T_op, T_un, T_cb, T_t, T_chain, T_and, T_or, T_not, T_andV, T_orV, T_notV, T_if, T_tup, T_lst, T_lstC, T_no, T_part, T_sl, T_slC, S_seq, S_range1, S_range2, T_lc, T_lcC, T_for, T_while, T_setIx, T_call, T_callS, T_start, T_m0, T_yes, T_asgT, vals?, pick_nil, pick_cons, setT, setAll, wipeD, List.getElem?_cons_zero, List.getElem?_cons_succ, List.set_cons_zero, List.set_cons_succ, List.cons_append, List.nil_append, List.append_nil, List.length_cons, List.length_nil, List.map_cons, List.map_nil, oIsi, oLen, oAbs, oInt, oAll, oAny, oAllF, oList, oSum, oIx, oSl, oLt, oLe, oGt, oGe, oSub, oMul, oMod, oFdiv, oPow, oAdd, oAddL, oI, oI0, oIsB, oNotB, oUpper, cellOf?, ren, oIn, oNin, oInF, Nat.reduceSub, Nat.reduceAdd, List.reduceReplicate, true_and, if_true, if_false, Bool.false_eq_true, ite_true, ite_false, eq_self, decide_true, decide_false, Bool.not_true, Bool.not_false, id, oEq, oNe, oEqF, now_val, eqD_str, eqD_int, eqD_nn, T_par, T_par3, T_fld, T_setF, T_make, T_meth, T_isi, T_raise0, T_raise1, T_try, T_tryAs, T_exf, T_asgN, setN, setNs, argsOf, oModN, oIsiI, oOwnB, oOwnE, oOwnN, oOwnG, oTup, oNeg, oI, oI0, insOf_ins, insOf_int, sub_R, rat, lk1, lk2, true_or, or_true, ne_eq, not_false_eq_true, oIntS, oStr0C, T_sm1, oSplit, oNotN, oIsN, T_cmeth, oIntS, a21, atI_hd, mk_len, iq, ip]
              refine ⟨by omega, ?_⟩
              by_cases hm : (1 : Int) < (NumText.digitsVal p2 : Int)
              · simp only [T_seq, T_dic0, T_cut, T_ret, T_asg, T_drop, T_ifS, T_next, T_var, T_c, T_nil, T_cons, T_op, T_un, T_cb, T_t, T_chain, T_and, T_or, T_not, T_andV, T_orV, T_notV, T_if, T_tup, T_lst, T_lstC, T_no, T_part, T_sl, T_slC, S_seq, S_range1, S_range2, T_lc, T_lcC, T_for, T_while, T_setIx, T_call, T_callS, T_start, T_m0, T_yes, T_asgT, vals?, pick_nil, pick_cons, setT, setAll, wipeD, List.getElem?_cons_zero, List.getElem?_cons_succ, List.set_cons_zero, List.set_cons_succ, List.cons_append, List.nil_append, List.append_nil, List.length_cons, List.length_nil, List.map_cons, List.map_nil, oIsi, oLen, oAbs, oInt, oAll, oAny, oAllF, oList, oSum, oIx, oSl, oLt, oLe, oGt, oGe, oSub, oMul, oMod, oFdiv, oPow, oAdd, oAddL, oI, oI0, oIsB, oNotB, oUpper, cellOf?, ren, oIn, oNin, oInF, Nat.reduceSub, Nat.reduceAdd, List.reduceReplicate, true_and, if_true, if_false, Bool.false_eq_true, ite_true, ite_false, eq_self, decide_true, decide_false, Bool.not_true, Bool.not_false, id, oEq, oNe, oEqF, now_val, eqD_str, eqD_int, eqD_nn, T_par, T_par3, T_fld, T_setF, T_make, T_meth, T_isi, T_raise0, T_raise1, T_try, T_tryAs, T_exf, T_asgN, setN, setNs, argsOf, oModN, oIsiI, oOwnB, oOwnE, oOwnN, oOwnG, oTup, oNeg, oI, oI0, insOf_ins, insOf_int, sub_R, rat, lk1, lk2, true_or, or_true, ne_eq, not_false_eq_true, oIntS, oStr0C, T_sm1, oSplit, oNotN, oIsN, T_cmeth, decide_eq_true hm]
                refine ⟨by omega, by omega, _, _, rfl, by omega, by omega, ?_, ?_⟩
                · by_cases hlen : p.length ≤ 38
                  · exact .inl (Int.ofNat_lt.mpr (Nat.lt_of_lt_of_le bp (Nat.le_trans (Nat.pow_le_pow_right (by decide) hlen) (by decide +kernel))))
                  · exact .inr (Int.ofNat_lt.mpr (Nat.lt_of_lt_of_le bq (Nat.le_trans (Nat.pow_le_pow_right (by decide) (by omega : p2.length ≤ 38)) (by decide +kernel))))
                · simp only [T_seq, T_dic0, T_cut, T_ret, T_asg, T_drop, T_ifS, T_next, T_var, T_c, T_nil, T_cons, T_op, T_un, T_cb, T_t, T_chain, T_and, T_or, T_not, T_andV, T_orV, T_notV, T_if, T_tup, T_lst, T_lstC, T_no, T_part, T_sl, T_slC, S_seq, S_range1, S_range2, T_lc, T_lcC, T_for, T_while, T_setIx, T_call, T_callS, T_start, T_m0, T_yes, T_asgT, vals?, pick_nil, pick_cons, setT, setAll, wipeD, List.getElem?_cons_zero, List.getElem?_cons_succ, List.set_cons_zero, List.set_cons_succ, List.cons_append, List.nil_append, List.append_nil, List.length_cons, List.length_nil, List.map_cons, List.map_nil, oIsi, oLen, oAbs, oInt, oAll, oAny, oAllF, oList, oSum, oIx, oSl, oLt, oLe, oGt, oGe, oSub, oMul, oMod, oFdiv, oPow, oAdd, oAddL, oI, oI0, oIsB, oNotB, oUpper, cellOf?, ren, oIn, oNin, oInF, Nat.reduceSub, Nat.reduceAdd, List.reduceReplicate, true_and, if_true, if_false, Bool.false_eq_true, ite_true, ite_false, eq_self, decide_true, decide_false, Bool.not_true, Bool.not_false, id, oEq, oNe, oEqF, now_val, eqD_str, eqD_int, eqD_nn, T_par, T_par3, T_fld, T_setF, T_make, T_meth, T_isi, T_raise0, T_raise1, T_try, T_tryAs, T_exf, T_asgN, setN, setNs, argsOf, oModN, oIsiI, oOwnB, oOwnE, oOwnN, oOwnG, oTup, oNeg, oI, oI0, insOf_ins, insOf_int, sub_R, rat, lk1, lk2, true_or, or_true, ne_eq, not_false_eq_true, oIntS, oStr0C, T_sm1, oSplit, oNotN, oIsN, T_cmeth]
                  refine hk _ ⟨fun z => ?_, fun z => ?_⟩
                  · have hg := of_decide_eq_true z
                    obtain ⟨t, h1, h2⟩ := un_strip (rest := 47 :: p2) ha (by rw [← hp]; exact back.symm)
                    refine ⟨t, (NumText.digitsVal p2 : Int), ⟨by omega, ?_⟩, ?_⟩
                    · have e1 : Int.gcd t (NumText.digitsVal p2 : Int) = Int.gcd (NumText.digitsVal p : Int) (NumText.digitsVal p2 : Int) := by
                        rw [← h1]
                        simp [Int.gcd]
                      omega
                    · rw [h2]
                      unfold txtR txtL
                      rw [if_neg (by omega), sgn_nat, ← hq]
                  · obtain ⟨t, b, hn, he⟩ := z
                    obtain ⟨e1, e2, e3⟩ := fwd hn he
                    refine decide_eq_true ?_
                    have := hn.2
                    rw [← e1, ← e2]
                    have e4 : Int.gcd ((t.natAbs : Nat) : Int) b = Int.gcd t b := by simp [Int.gcd]
                    rw [e4, this]
                    rfl
              · simp only [T_seq, T_dic0, T_cut, T_ret, T_asg, T_drop, T_ifS, T_next, T_var, T_c, T_nil, T_cons, T_op, T_un, T_cb, T_t, T_chain, T_and, T_or, T_not, T_andV, T_orV, T_notV, T_if, T_tup, T_lst, T_lstC, T_no, T_part, T_sl, T_slC, S_seq, S_range1, S_range2, T_lc, T_lcC, T_for, T_while, T_setIx, T_call, T_callS, T_start, T_m0, T_yes, T_asgT, vals?, pick_nil, pick_cons, setT, setAll, wipeD, List.getElem?_cons_zero, List.getElem?_cons_succ, List.set_cons_zero, List.set_cons_succ, List.cons_append, List.nil_append, List.append_nil, List.length_cons, List.length_nil, List.map_cons, List.map_nil, oIsi, oLen, oAbs, oInt, oAll, oAny, oAllF, oList, oSum, oIx, oSl, oLt, oLe, oGt, oGe, oSub, oMul, oMod, oFdiv, oPow, oAdd, oAddL, oI, oI0, oIsB, oNotB, oUpper, cellOf?, ren, oIn, oNin, oInF, Nat.reduceSub, Nat.reduceAdd, List.reduceReplicate, true_and, if_true, if_false, Bool.false_eq_true, ite_true, ite_false, eq_self, decide_true, decide_false, Bool.not_true, Bool.not_false, id, oEq, oNe, oEqF, now_val, eqD_str, eqD_int, eqD_nn, T_par, T_par3, T_fld, T_setF, T_make, T_meth, T_isi, T_raise0, T_raise1, T_try, T_tryAs, T_exf, T_asgN, setN, setNs, argsOf, oModN, oIsiI, oOwnB, oOwnE, oOwnN, oOwnG, oTup, oNeg, oI, oI0, insOf_ins, insOf_int, sub_R, rat, lk1, lk2, true_or, or_true, ne_eq, not_false_eq_true, oIntS, oStr0C, T_sm1, oSplit, oNotN, oIsN, T_cmeth, decide_eq_false hm]
                refine no ?_
                rintro ⟨t, b, hn, he⟩
                obtain ⟨e1, e2, e3⟩ := fwd hn he
                have := hn.1
                omega
  by_cases hm : l.take 1 = [45]
  · simp only [T_seq, T_dic0, T_cut, T_ret, T_asg, T_drop, T_ifS, T_next, T_var, T_c, T_nil, T_cons, T_op, T_un, T_cb, T_t, T_chain, T_and, T_or, T_not, T_andV, T_orV, T_notV, T_if, T_tup, T_lst, T_lstC, T_no, T_part, T_sl, T_slC, S_seq, S_range1, S_range2, T_lc, T_lcC, T_for, T_while, T_setIx, T_call, T_callS, T_start, T_m0, T_yes, T_asgT, vals?, pick_nil, pick_cons, setT, setAll, wipeD, List.getElem?_cons_zero, List.getElem?_cons_succ, List.set_cons_zero, List.set_cons_succ, List.cons_append, List.nil_append, List.append_nil, List.length_cons, List.length_nil, List.map_cons, List.map_nil, oIsi, oLen, oAbs, oInt, oAll, oAny, oAllF, oList, oSum, oIx, oSl, oLt, oLe, oGt, oGe, oSub, oMul, oMod, oFdiv, oPow, oAdd, oAddL, oI, oI0, oIsB, oNotB, oUpper, cellOf?, ren, oIn, oNin, oInF, Nat.reduceSub, Nat.reduceAdd, List.reduceReplicate, true_and, if_true, if_false, Bool.false_eq_true, ite_true, ite_false, eq_self, decide_true, decide_false, Bool.not_true, Bool.not_false, id, oEq, oNe, oEqF, now_val, eqD_str, eqD_int, eqD_nn, T_par, T_par3, T_fld, T_setF, T_make, T_meth, T_isi, T_raise0, T_raise1, T_try, T_tryAs, T_exf, T_asgN, setN, setNs, argsOf, oModN, oIsiI, oOwnB, oOwnE, oOwnN, oOwnG, oTup, oNeg, oI, oI0, insOf_ins, insOf_int, sub_R, rat, lk1, lk2, true_or, or_true, ne_eq, not_false_eq_true, oIntS, oStr0C, T_sm1, oSplit, oNotN, oIsN, T_cmeth, decide_eq_true (congrArg mkS hm)]
    unfold stripL at go
    rw [if_pos hm] at go
    exact ⟨hzs, go⟩
  · simp only [T_seq, T_dic0, T_cut, T_ret, T_asg, T_drop, T_ifS, T_next, T_var, T_c, T_nil, T_cons, T_op, T_un, T_cb, T_t, T_chain, T_and, T_or, T_not, T_andV, T_orV, T_notV, T_if, T_tup, T_lst, T_lstC, T_no, T_part, T_sl, T_slC, S_seq, S_range1, S_range2, T_lc, T_lcC, T_for, T_while, T_setIx, T_call, T_callS, T_start, T_m0, T_yes, T_asgT, vals?, pick_nil, pick_cons, setT, setAll, wipeD, List.getElem?_cons_zero, List.getElem?_cons_succ, List.set_cons_zero, List.set_cons_succ, List.cons_append, List.nil_append, List.append_nil, List.length_cons, List.length_nil, List.map_cons, List.map_nil, oIsi, oLen, oAbs, oInt, oAll, oAny, oAllF, oList, oSum, oIx, oSl, oLt, oLe, oGt, oGe, oSub, oMul, oMod, oFdiv, oPow, oAdd, oAddL, oI, oI0, oIsB, oNotB, oUpper, cellOf?, ren, oIn, oNin, oInF, Nat.reduceSub, Nat.reduceAdd, List.reduceReplicate, true_and, if_true, if_false, Bool.false_eq_true, ite_true, ite_false, eq_self, decide_true, decide_false, Bool.not_true, Bool.not_false, id, oEq, oNe, oEqF, now_val, eqD_str, eqD_int, eqD_nn, T_par, T_par3, T_fld, T_setF, T_make, T_meth, T_isi, T_raise0, T_raise1, T_try, T_tryAs, T_exf, T_asgN, setN, setNs, argsOf, oModN, oIsiI, oOwnB, oOwnE, oOwnN, oOwnG, oTup, oNeg, oI, oI0, insOf_ins, insOf_int, sub_R, rat, lk1, lk2, true_or, or_true, ne_eq, not_false_eq_true, oIntS, oStr0C, T_sm1, oSplit, oNotN, oIsN, T_cmeth, decide_eq_false (fun z : mkS (l.take 1) = mkS [45] => hm (mk_inj z))]
    unfold stripL at go
    rw [if_neg hm] at go
    exact go
theorem len_law_read : ∀ ds μ (k : KE) (e : KX), (ctP c_lread : Ct) ds μ k e → ds.length = 1 := by
  rintro ds μ k e ⟨rfl, xs, rfl, z, rfl, _⟩
  rfl
theorem num_b15 {n : Nat} (h : (TL.numL n).length ≤ 400) : n < 2 ^ 1500 := by
  have := dval_lt (TL.numL_digits n)
  rw [TL.numL_val] at this
  refine Nat.lt_trans (Nat.lt_of_lt_of_le this (Nat.pow_le_pow_right (by decide) h)) (by decide +kernel)
theorem sgn_b15 {i : Int} (h : (sgnL i).length ≤ 400) : B15 i := by
  refine num_b15 ?_
  unfold sgnL at h
  split at h
  · rw [List.length_cons] at h
    omega
  · exact h
theorem tx_b15 {t b : Int} (h : (txtL t b).length ≤ 400) : B15 t ∧ B15 b := by
  unfold txtL at h
  split at h
  · rename_i c
    subst c
    exact ⟨sgn_b15 h, by show (1 : Nat) < _; decide⟩
  · rw [List.length_append, List.length_cons] at h
    exact ⟨sgn_b15 (by omega), sgn_b15 (by omega)⟩
theorem v_law_read : Vc_law_read := vcP fun xs k e h => by
  obtain ⟨d, rfl, hd⟩ := h
  unfold N_law_read t_law_read_0 t_law_read_0a_0
  simp only [T_seq, T_dic0, T_cut, T_ret, T_asg, T_drop, T_ifS, T_next, T_var, T_c, T_nil, T_cons, T_op, T_un, T_cb, T_t, T_chain, T_and, T_or, T_not, T_andV, T_orV, T_notV, T_if, T_tup, T_lst, T_lstC, T_no, T_part, T_sl, T_slC, S_seq, S_range1, S_range2, T_lc, T_lcC, T_for, T_while, T_setIx, T_call, T_callS, T_start, T_m0, T_yes, T_asgT, vals?, pick_nil, pick_cons, setT, setAll, wipeD, List.getElem?_cons_zero, List.getElem?_cons_succ, List.set_cons_zero, List.set_cons_succ, List.cons_append, List.nil_append, List.append_nil, List.length_cons, List.length_nil, List.map_cons, List.map_nil, oIsi, oLen, oAbs, oInt, oAll, oAny, oAllF, oList, oSum, oIx, oSl, oLt, oLe, oGt, oGe, oSub, oMul, oMod, oFdiv, oPow, oAdd, oAddL, oI, oI0, oIsB, oNotB, oUpper, cellOf?, ren, oIn, oNin, oInF, Nat.reduceSub, Nat.reduceAdd, List.reduceReplicate, true_and, if_true, if_false, Bool.false_eq_true, ite_true, ite_false, eq_self, decide_true, decide_false, Bool.not_true, Bool.not_false, id, oEq, oNe, oEqF, now_val, eqD_str, eqD_int, eqD_nn, T_par, T_par3, T_fld, T_setF, T_make, T_meth, T_isi, T_raise0, T_raise1, T_try, T_tryAs, T_exf, T_asgN, setN, setNs, argsOf, oModN, oIsiI, oOwnB, oOwnE, oOwnN, oOwnG, oTup, oNeg, oI, oI0, insOf_ins, insOf_int, sub_R, rat, lk1, lk2, true_or, or_true, ne_eq, not_false_eq_true, oIntS, oStr0C, T_sm1, oSplit, oNotN, oIsN, T_cmeth, T_cmeth]
  rcases hd with ⟨z, rfl, hz, h1, h2⟩ | ⟨ht, hn, he⟩
  · refine ⟨_, rfl, .inl ⟨z, rfl, hz, fun t b hn he a => ?_, fun hn => ?_⟩⟩
    · simp only [T_seq, T_dic0, T_cut, T_ret, T_asg, T_drop, T_ifS, T_next, T_var, T_c, T_nil, T_cons, T_op, T_un, T_cb, T_t, T_chain, T_and, T_or, T_not, T_andV, T_orV, T_notV, T_if, T_tup, T_lst, T_lstC, T_no, T_part, T_sl, T_slC, S_seq, S_range1, S_range2, T_lc, T_lcC, T_for, T_while, T_setIx, T_call, T_callS, T_start, T_m0, T_yes, T_asgT, vals?, pick_nil, pick_cons, setT, setAll, wipeD, List.getElem?_cons_zero, List.getElem?_cons_succ, List.set_cons_zero, List.set_cons_succ, List.cons_append, List.nil_append, List.append_nil, List.length_cons, List.length_nil, List.map_cons, List.map_nil, oIsi, oLen, oAbs, oInt, oAll, oAny, oAllF, oList, oSum, oIx, oSl, oLt, oLe, oGt, oGe, oSub, oMul, oMod, oFdiv, oPow, oAdd, oAddL, oI, oI0, oIsB, oNotB, oUpper, cellOf?, ren, oIn, oNin, oInF, Nat.reduceSub, Nat.reduceAdd, List.reduceReplicate, true_and, if_true, if_false, Bool.false_eq_true, ite_true, ite_false, eq_self, decide_true, decide_false, Bool.not_true, Bool.not_false, id, oEq, oNe, oEqF, now_val, eqD_str, eqD_int, eqD_nn, T_par, T_par3, T_fld, T_setF, T_make, T_meth, T_isi, T_raise0, T_raise1, T_try, T_tryAs, T_exf, T_asgN, setN, setNs, argsOf, oModN, oIsiI, oOwnB, oOwnE, oOwnN, oOwnG, oTup, oNeg, oI, oI0, insOf_ins, insOf_int, sub_R, rat, lk1, lk2, true_or, or_true, ne_eq, not_false_eq_true, oIntS, oStr0C, T_sm1, oSplit, oNotN, oIsN, T_cmeth, oStrS]
      subst he
      have hb := tx_b15 (t := t) (b := b) (by rw [← mk_len]; exact hz)
      exact ⟨a, t, b, rfl, hb.1, hb.2, _, rfl, h1 ⟨t, b, hn, rfl⟩ []⟩
    · show t_law_read_0b_0 _ _ _
      unfold t_law_read_0b_0
      simp only [T_seq, T_dic0, T_cut, T_ret, T_asg, T_drop, T_ifS, T_next, T_var, T_c, T_nil, T_cons, T_op, T_un, T_cb, T_t, T_chain, T_and, T_or, T_not, T_andV, T_orV, T_notV, T_if, T_tup, T_lst, T_lstC, T_no, T_part, T_sl, T_slC, S_seq, S_range1, S_range2, T_lc, T_lcC, T_for, T_while, T_setIx, T_call, T_callS, T_start, T_m0, T_yes, T_asgT, vals?, pick_nil, pick_cons, setT, setAll, wipeD, List.getElem?_cons_zero, List.getElem?_cons_succ, List.set_cons_zero, List.set_cons_succ, List.cons_append, List.nil_append, List.append_nil, List.length_cons, List.length_nil, List.map_cons, List.map_nil, oIsi, oLen, oAbs, oInt, oAll, oAny, oAllF, oList, oSum, oIx, oSl, oLt, oLe, oGt, oGe, oSub, oMul, oMod, oFdiv, oPow, oAdd, oAddL, oI, oI0, oIsB, oNotB, oUpper, cellOf?, ren, oIn, oNin, oInF, Nat.reduceSub, Nat.reduceAdd, List.reduceReplicate, true_and, if_true, if_false, Bool.false_eq_true, ite_true, ite_false, eq_self, decide_true, decide_false, Bool.not_true, Bool.not_false, id, oEq, oNe, oEqF, now_val, eqD_str, eqD_int, eqD_nn, T_par, T_par3, T_fld, T_setF, T_make, T_meth, T_isi, T_raise0, T_raise1, T_try, T_tryAs, T_exf, T_asgN, setN, setNs, argsOf, oModN, oIsiI, oOwnB, oOwnE, oOwnN, oOwnG, oTup, oNeg, oI, oI0, insOf_ins, insOf_int, sub_R, rat, lk1, lk2, true_or, or_true, ne_eq, not_false_eq_true, oIntS, oStr0C, T_sm1, oSplit, oNotN, oIsN, T_cmeth]
      exact h2 hn []
  · refine ⟨_, rfl, .inr ⟨ht, hn, ?_⟩⟩
    show t_law_read_0b_0 _ _ _
    unfold t_law_read_0b_0
    simp only [T_seq, T_dic0, T_cut, T_ret, T_asg, T_drop, T_ifS, T_next, T_var, T_c, T_nil, T_cons, T_op, T_un, T_cb, T_t, T_chain, T_and, T_or, T_not, T_andV, T_orV, T_notV, T_if, T_tup, T_lst, T_lstC, T_no, T_part, T_sl, T_slC, S_seq, S_range1, S_range2, T_lc, T_lcC, T_for, T_while, T_setIx, T_call, T_callS, T_start, T_m0, T_yes, T_asgT, vals?, pick_nil, pick_cons, setT, setAll, wipeD, List.getElem?_cons_zero, List.getElem?_cons_succ, List.set_cons_zero, List.set_cons_succ, List.cons_append, List.nil_append, List.append_nil, List.length_cons, List.length_nil, List.map_cons, List.map_nil, oIsi, oLen, oAbs, oInt, oAll, oAny, oAllF, oList, oSum, oIx, oSl, oLt, oLe, oGt, oGe, oSub, oMul, oMod, oFdiv, oPow, oAdd, oAddL, oI, oI0, oIsB, oNotB, oUpper, cellOf?, ren, oIn, oNin, oInF, Nat.reduceSub, Nat.reduceAdd, List.reduceReplicate, true_and, if_true, if_false, Bool.false_eq_true, ite_true, ite_false, eq_self, decide_true, decide_false, Bool.not_true, Bool.not_false, id, oEq, oNe, oEqF, now_val, eqD_str, eqD_int, eqD_nn, T_par, T_par3, T_fld, T_setF, T_make, T_meth, T_isi, T_raise0, T_raise1, T_try, T_tryAs, T_exf, T_asgN, setN, setNs, argsOf, oModN, oIsiI, oOwnB, oOwnE, oOwnN, oOwnG, oTup, oNeg, oI, oI0, insOf_ins, insOf_int, sub_R, rat, lk1, lk2, true_or, or_true, ne_eq, not_false_eq_true, oIntS, oStr0C, T_sm1, oSplit, oNotN, oIsN, T_cmeth]
    exact he []
theorem len_law_near : ∀ ds μ (k : KE) (e : KX), (ctS c_near : Ct) ds μ k e → ds.length = 2 := by
  rintro ds μ k e ⟨m, rfl, z, n, rfl, _⟩
  rfl
theorem cutS_to (z : Str) (n : Nat) : (cutS z none (some (n : Int))).cps.toList = z.cps.toList.take n := by
  show ((z.cps.toList.drop (HT.sIx z.length 0 none)).take (HT.sIx z.length z.length (some (n : Int)) - HT.sIx z.length 0 none)).toArray.toList = _
  rw [HT.sIx_nat, HT.sIx_none, List.toList_toArray, List.drop_zero, Nat.sub_zero, ← cps_len]
  by_cases h : n ≤ z.cps.toList.length
  · rw [Nat.min_eq_left h]
  · rw [Nat.min_eq_right (by omega), List.take_length, List.take_of_length_le (by omega)]
theorem cutS_from (z : Str) (n : Nat) : (cutS z (some (n : Int)) none).cps.toList = z.cps.toList.drop n := by
  show ((z.cps.toList.drop (HT.sIx z.length 0 (some (n : Int)))).take (HT.sIx z.length z.length none - HT.sIx z.length 0 (some (n : Int)))).toArray.toList = _
  rw [HT.sIx_nat, HT.sIx_none, List.toList_toArray, ← cps_len]
  by_cases h : n ≤ z.cps.toList.length
  · rw [Nat.min_eq_left h]
    exact List.take_of_length_le (by rw [List.length_drop]; omega)
  · rw [Nat.min_eq_right (by omega), List.drop_eq_nil_of_le (Nat.le_refl _), List.drop_eq_nil_of_le (by omega), List.take_nil]
theorem okS_app {a b : Str} (h : okS a) (h' : okS b) : okS (a ++ b) := by
  intro c hc
  rw [str_app] at hc
  exact (List.mem_append.mp hc).elim (h c) (h' c)
theorem v_law_near : Vc_law_near := by
  rintro ds μ k e ⟨m, rfl, z, n, rfl, rfl, hz, ho, hn, hk⟩
  unfold t_law_near N_law_near t_law_near_0
  have hzs : z.length ≤ sizeLine := Nat.le_trans hz (by decide)
  simp only [T_seq, T_dic0, T_cut, T_ret, T_asg, T_drop, T_ifS, T_next, T_var, T_c, T_nil, T_cons, T_op, T_un, T_cb, T_t, T_chain, T_and, T_or, T_not, T_andV, T_orV, T_notV, T_if, T_tup, T_lst, T_lstC, T_no, T_part, T_sl, T_slC, S_seq, S_range1, S_range2, T_lc, T_lcC, T_for, T_while, T_setIx, T_call, T_callS, T_start, T_m0, T_yes, T_asgT, vals?, pick_nil, pick_cons, setT, setAll, wipeD, List.getElem?_cons_zero, List.getElem?_cons_succ, List.set_cons_zero, List.set_cons_succ, List.cons_append, List.nil_append, List.append_nil, List.length_cons, List.length_nil, List.map_cons, List.map_nil, oIsi, oLen, oAbs, oInt, oAll, oAny, oAllF, oList, oSum, oIx, oSl, oLt, oLe, oGt, oGe, oSub, oMul, oMod, oFdiv, oPow, oAdd, oAddL, oI, oI0, oIsB, oNotB, oUpper, cellOf?, ren, oIn, oNin, oInF, Nat.reduceSub, Nat.reduceAdd, List.reduceReplicate, true_and, if_true, if_false, Bool.false_eq_true, ite_true, ite_false, eq_self, decide_true, decide_false, Bool.not_true, Bool.not_false, id, oEq, oNe, oEqF, now_val, eqD_str, eqD_int, eqD_nn, T_par, T_par3, T_fld, T_setF, T_make, T_meth, T_isi, T_raise0, T_raise1, T_try, T_tryAs, T_exf, T_asgN, setN, setNs, argsOf, oModN, oIsiI, oOwnB, oOwnE, oOwnN, oOwnG, oTup, oNeg, oI, oI0, insOf_ins, insOf_int, sub_R, rat, lk1, lk2, true_or, or_true, ne_eq, not_false_eq_true, oIntS, oStr0C, T_sm1, oSplit, oNotN, oIsN, T_cmeth]
  refine ⟨hzs, ?_⟩
  refine ⟨rfl, _, _, rfl, rfl, by first | decide | omega, by first | decide | exact lg9 (by omega) (by omega), by omega, fun r r_0 r_1 => ⟨rfl, ?_⟩⟩
  unfold t_law_near_1
  simp only [T_seq, T_dic0, T_cut, T_ret, T_asg, T_drop, T_ifS, T_next, T_var, T_c, T_nil, T_cons, T_op, T_un, T_cb, T_t, T_chain, T_and, T_or, T_not, T_andV, T_orV, T_notV, T_if, T_tup, T_lst, T_lstC, T_no, T_part, T_sl, T_slC, S_seq, S_range1, S_range2, T_lc, T_lcC, T_for, T_while, T_setIx, T_call, T_callS, T_start, T_m0, T_yes, T_asgT, vals?, pick_nil, pick_cons, setT, setAll, wipeD, List.getElem?_cons_zero, List.getElem?_cons_succ, List.set_cons_zero, List.set_cons_succ, List.cons_append, List.nil_append, List.append_nil, List.length_cons, List.length_nil, List.map_cons, List.map_nil, oIsi, oLen, oAbs, oInt, oAll, oAny, oAllF, oList, oSum, oIx, oSl, oLt, oLe, oGt, oGe, oSub, oMul, oMod, oFdiv, oPow, oAdd, oAddL, oI, oI0, oIsB, oNotB, oUpper, cellOf?, ren, oIn, oNin, oInF, Nat.reduceSub, Nat.reduceAdd, List.reduceReplicate, true_and, if_true, if_false, Bool.false_eq_true, ite_true, ite_false, eq_self, decide_true, decide_false, Bool.not_true, Bool.not_false, id, oEq, oNe, oEqF, now_val, eqD_str, eqD_int, eqD_nn, T_par, T_par3, T_fld, T_setF, T_make, T_meth, T_isi, T_raise0, T_raise1, T_try, T_tryAs, T_exf, T_asgN, setN, setNs, argsOf, oModN, oIsiI, oOwnB, oOwnE, oOwnN, oOwnG, oTup, oNeg, oI, oI0, insOf_ins, insOf_int, sub_R, rat, lk1, lk2, true_or, or_true, ne_eq, not_false_eq_true, oIntS, oStr0C, T_sm1, oSplit, oNotN, oIsN, T_cmeth]
  refine ⟨by decide, ?_⟩
  refine ⟨rfl, _, _, rfl, rfl, by first | decide | omega, by first | decide | exact lg9 (by omega) (by omega), by omega, fun s s_0 s_1 => ⟨rfl, ?_⟩⟩
  have signs : ∀ x ∈ [D.str "", .str "0", .str "1", .str "-", .str "/", .str "+", .str " ", .str "2", .str "7", .str "a", .str "\n", .str "."], ∃ s : Str, x = .str s ∧ s.length ≤ 1 ∧ okS s := by
    have go : ∀ s : Str, (decide (s.length ≤ 1) && s.cps.toList.all fun c => decide (c < 1114112)) = true → ∃ s' : Str, D.str s = .str s' ∧ s'.length ≤ 1 ∧ okS s' := by
      intro s h
      rw [Bool.and_eq_true, decide_eq_true_eq] at h
      exact ⟨s, rfl, h.1, fun c hc => of_decide_eq_true (List.all_eq_true.mp h.2 c hc)⟩
    intro x hx
    simp only [List.mem_cons, List.not_mem_nil, or_false] at hx
    rcases hx with rfl | rfl | rfl | rfl | rfl | rfl | rfl | rfl | rfl | rfl | rfl | rfl <;> exact go _ (by decide +kernel)
  obtain ⟨_, hx, sg, rfl, hs1, hs2⟩ := ix_some _ signs s_0 s_1
  simp only [T_seq, T_dic0, T_cut, T_ret, T_asg, T_drop, T_ifS, T_next, T_var, T_c, T_nil, T_cons, T_op, T_un, T_cb, T_t, T_chain, T_and, T_or, T_not, T_andV, T_orV, T_notV, T_if, T_tup, T_lst, T_lstC, T_no, T_part, T_sl, T_slC, S_seq, S_range1, S_range2, T_lc, T_lcC, T_for, T_while, T_setIx, T_call, T_callS, T_start, T_m0, T_yes, T_asgT, vals?, pick_nil, pick_cons, setT, setAll, wipeD, List.getElem?_cons_zero, List.getElem?_cons_succ, List.set_cons_zero, List.set_cons_succ, List.cons_append, List.nil_append, List.append_nil, List.length_cons, List.length_nil, List.map_cons, List.map_nil, oIsi, oLen, oAbs, oInt, oAll, oAny, oAllF, oList, oSum, oIx, oSl, oLt, oLe, oGt, oGe, oSub, oMul, oMod, oFdiv, oPow, oAdd, oAddL, oI, oI0, oIsB, oNotB, oUpper, cellOf?, ren, oIn, oNin, oInF, Nat.reduceSub, Nat.reduceAdd, List.reduceReplicate, true_and, if_true, if_false, Bool.false_eq_true, ite_true, ite_false, eq_self, decide_true, decide_false, Bool.not_true, Bool.not_false, id, oEq, oNe, oEqF, now_val, eqD_str, eqD_int, eqD_nn, T_par, T_par3, T_fld, T_setF, T_make, T_meth, T_isi, T_raise0, T_raise1, T_try, T_tryAs, T_exf, T_asgN, setN, setNs, argsOf, oModN, oIsiI, oOwnB, oOwnE, oOwnN, oOwnG, oTup, oNeg, oI, oI0, insOf_ins, insOf_int, sub_R, rat, lk1, lk2, true_or, or_true, ne_eq, not_false_eq_true, oIntS, oStr0C, T_sm1, oSplit, oNotN, oIsN, T_cmeth, hx]
  unfold t_law_near_2
  simp only [T_seq, T_dic0, T_cut, T_ret, T_asg, T_drop, T_ifS, T_next, T_var, T_c, T_nil, T_cons, T_op, T_un, T_cb, T_t, T_chain, T_and, T_or, T_not, T_andV, T_orV, T_notV, T_if, T_tup, T_lst, T_lstC, T_no, T_part, T_sl, T_slC, S_seq, S_range1, S_range2, T_lc, T_lcC, T_for, T_while, T_setIx, T_call, T_callS, T_start, T_m0, T_yes, T_asgT, vals?, pick_nil, pick_cons, setT, setAll, wipeD, List.getElem?_cons_zero, List.getElem?_cons_succ, List.set_cons_zero, List.set_cons_succ, List.cons_append, List.nil_append, List.append_nil, List.length_cons, List.length_nil, List.map_cons, List.map_nil, oIsi, oLen, oAbs, oInt, oAll, oAny, oAllF, oList, oSum, oIx, oSl, oLt, oLe, oGt, oGe, oSub, oMul, oMod, oFdiv, oPow, oAdd, oAddL, oI, oI0, oIsB, oNotB, oUpper, cellOf?, ren, oIn, oNin, oInF, Nat.reduceSub, Nat.reduceAdd, List.reduceReplicate, true_and, if_true, if_false, Bool.false_eq_true, ite_true, ite_false, eq_self, decide_true, decide_false, Bool.not_true, Bool.not_false, id, oEq, oNe, oEqF, now_val, eqD_str, eqD_int, eqD_nn, T_par, T_par3, T_fld, T_setF, T_make, T_meth, T_isi, T_raise0, T_raise1, T_try, T_tryAs, T_exf, T_asgN, setN, setNs, argsOf, oModN, oIsiI, oOwnB, oOwnE, oOwnN, oOwnG, oTup, oNeg, oI, oI0, insOf_ins, insOf_int, sub_R, rat, lk1, lk2, true_or, or_true, ne_eq, not_false_eq_true, oIntS, oStr0C, T_sm1, oSplit, oNotN, oIsN, T_cmeth]
  obtain ⟨rn, rfl⟩ : ∃ rn : Nat, r = rn := ⟨r.toNat, by omega⟩
  have l1 : (cutS z none (some (rn : Int))).length ≤ rn := by
    rw [← cps_len, cutS_to, List.length_take]
    exact Nat.min_le_left _ _
  have l3 := cutS_len z none (some (rn : Int))
  refine ⟨hzs, Nat.le_trans (show _ ≤ 1000 by omega) (by decide), ?_⟩
  refine ⟨rfl, _, _, rfl, rfl, by first | decide | omega, by first | decide | exact lg9 (by omega) (by omega), by omega, fun t t_0 t_1 => ⟨rfl, ?_⟩⟩
  obtain ⟨tn, rfl⟩ : ∃ tn : Nat, t = tn := ⟨t.toNat, by omega⟩
  simp only [T_seq, T_dic0, T_cut, T_ret, T_asg, T_drop, T_ifS, T_next, T_var, T_c, T_nil, T_cons, T_op, T_un, T_cb, T_t, T_chain, T_and, T_or, T_not, T_andV, T_orV, T_notV, T_if, T_tup, T_lst, T_lstC, T_no, T_part, T_sl, T_slC, S_seq, S_range1, S_range2, T_lc, T_lcC, T_for, T_while, T_setIx, T_call, T_callS, T_start, T_m0, T_yes, T_asgT, vals?, pick_nil, pick_cons, setT, setAll, wipeD, List.getElem?_cons_zero, List.getElem?_cons_succ, List.set_cons_zero, List.set_cons_succ, List.cons_append, List.nil_append, List.append_nil, List.length_cons, List.length_nil, List.map_cons, List.map_nil, oIsi, oLen, oAbs, oInt, oAll, oAny, oAllF, oList, oSum, oIx, oSl, oLt, oLe, oGt, oGe, oSub, oMul, oMod, oFdiv, oPow, oAdd, oAddL, oI, oI0, oIsB, oNotB, oUpper, cellOf?, ren, oIn, oNin, oInF, Nat.reduceSub, Nat.reduceAdd, List.reduceReplicate, true_and, if_true, if_false, Bool.false_eq_true, ite_true, ite_false, eq_self, decide_true, decide_false, Bool.not_true, Bool.not_false, id, oEq, oNe, oEqF, now_val, eqD_str, eqD_int, eqD_nn, T_par, T_par3, T_fld, T_setF, T_make, T_meth, T_isi, T_raise0, T_raise1, T_try, T_tryAs, T_exf, T_asgN, setN, setNs, argsOf, oModN, oIsiI, oOwnB, oOwnE, oOwnN, oOwnG, oTup, oNeg, oI, oI0, insOf_ins, insOf_int, sub_R, rat, lk1, lk2, true_or, or_true, ne_eq, not_false_eq_true, oIntS, oStr0C, T_sm1, oSplit, oNotN, oIsN, T_cmeth]
  have l2 : (cutS z (some ((rn : Int) + (tn : Int))) none).length ≤ z.length - rn := by
    have : ((rn : Int) + (tn : Int)) = ((rn + tn : Nat) : Int) := by omega
    rw [this, ← cps_len, cutS_from, List.length_drop, cps_len]
    omega
  have o1 : okS (cutS z none (some (rn : Int))) := by
    intro c hc
    rw [cutS_to] at hc
    exact ho c (List.mem_of_mem_take hc)
  have o2 : okS (cutS z (some ((rn : Int) + (tn : Int))) none) := by
    have : ((rn : Int) + (tn : Int)) = ((rn + tn : Nat) : Int) := by omega
    rw [this]
    intro c hc
    rw [cutS_from] at hc
    exact ho c (List.mem_of_mem_drop hc)
  refine ⟨hzs, ?_, ?_⟩
  · rw [str_len]
    exact Nat.le_trans (show _ ≤ 1000 by omega) (by decide)
  · refine hk _ _ (by omega) (okS_app (okS_app o1 hs2) o2) ?_ []
    rw [str_len, str_len]
    omega
theorem sgn_len {i : Int} {k : Nat} (hk : 0 < k) (h : i.natAbs < 10 ^ k) : (sgnL i).length ≤ k + 1 := by
  have := TL.numL_len hk h
  unfold sgnL
  split
  · rw [List.length_cons]; omega
  · omega
theorem pos_len {i : Int} {k : Nat} (h0 : 0 ≤ i) (hk : 0 < k) (h : i.natAbs < 10 ^ k) : (sgnL i).length ≤ k := by
  have := TL.numL_len hk h
  unfold sgnL
  rw [if_neg (by omega)]
  exact this
theorem tx_len {t b : Int} {k j : Nat} (hb : 0 < b) (hk : 0 < k) (hj : 0 < j) (h : t.natAbs < 10 ^ k) (h' : b.natAbs < 10 ^ j) : (txtR t b).length ≤ k + 1 + 1 + j := by
  show (mkS (txtL t b)).length ≤ _
  rw [mk_len]
  have l1 := sgn_len hk h
  have l2 := pos_len (by omega) hj h'
  unfold txtL
  split
  · omega
  · rw [List.length_append, List.length_cons]; omega
theorem tx_ok (t b : Int) : okS (txtR t b) := by
  intro c hc
  have hc : c ∈ (mkS (txtL t b)).cps.toList := hc
  rw [cps_mk] at hc
  have sg : ∀ {i : Int}, c ∈ sgnL i → c < 1114112 := fun h => by
    rcases sgnL_ok h with h | h <;> omega
  unfold txtL at hc
  split at hc
  · exact sg hc
  · rcases List.mem_append.mp hc with h | h
    · exact sg h
    · rcases List.mem_cons.mp h with h | h
      · omega
      · exact sg h
theorem read_tx {t b : Int} {Q : D → Prop} {E : Exn → Prop} (hn : Nf t b) (hl : (txtR t b).length ≤ 400) (h : ∀ a, Q (rat a t b)) : c_read [.cls 1, .str (txtR t b)] Q E :=
  ⟨_, rfl, .inl ⟨_, rfl, hl, fun t' b' hn' he a => by
    obtain ⟨rfl, rfl⟩ := tx_inj he
    exact h a, fun z => absurd ⟨t, b, hn, rfl⟩ z⟩⟩
def goodS (d : D) : Prop := ∃ z, d = .str z ∧ z.length ≤ 78 ∧ okS z
def IvK (ns : List Int) (n0 : Nat) : Nat → Rho → Sto → Prop := fun i ρ μ => ∃ (n : Nat) (o2 o3 o4 o5 o6 o7 o8 o9 o10 : Option Sl), n ≤ n0 + 20 * i ∧ μ = [.draw n] ∧ ρ = [some (.val (.lst (ns.map D.int))), some (.cell 0), o2, o3, o4, o5, o6, o7, o8, o9, o10]
theorem law_prose {U : EndsD} {ρ0 ρ1 ρ2 ρ3 ρ4 ρ5 ρ6 ρ7 ρ8 ρ10 : Option Sl} {n : Nat} {z : Str} (hz : z.length ≤ 78) (ho : okS z) (h : U.nx [ρ0, ρ1, ρ2, ρ3, ρ4, ρ5, ρ6, ρ7, ρ8, some (.val (.str z)), ρ10] [.draw n]) :
    t_law_1a_7a_0 U [ρ0, ρ1, ρ2, ρ3, ρ4, ρ5, ρ6, ρ7, ρ8, some (.val (.str z)), ρ10] [.draw n] := by
  unfold t_law_1a_7a_0 t_law_1a_7a_0a_0
  simp only [T_seq, T_dic0, T_cut, T_ret, T_asg, T_drop, T_ifS, T_next, T_var, T_c, T_nil, T_cons, T_op, T_un, T_cb, T_t, T_chain, T_and, T_or, T_not, T_andV, T_orV, T_notV, T_if, T_tup, T_lst, T_lstC, T_no, T_part, T_sl, T_slC, S_seq, S_range1, S_range2, T_lc, T_lcC, T_for, T_while, T_setIx, T_call, T_callS, T_start, T_m0, T_yes, T_asgT, vals?, pick_nil, pick_cons, setT, setAll, wipeD, List.getElem?_cons_zero, List.getElem?_cons_succ, List.set_cons_zero, List.set_cons_succ, List.cons_append, List.nil_append, List.append_nil, List.length_cons, List.length_nil, List.map_cons, List.map_nil, oIsi, oLen, oAbs, oInt, oAll, oAny, oAllF, oList, oSum, oIx, oSl, oLt, oLe, oGt, oGe, oSub, oMul, oMod, oFdiv, oPow, oAdd, oAddL, oI, oI0, oIsB, oNotB, oUpper, cellOf?, ren, oIn, oNin, oInF, Nat.reduceSub, Nat.reduceAdd, List.reduceReplicate, true_and, if_true, if_false, Bool.false_eq_true, ite_true, ite_false, eq_self, decide_true, decide_false, Bool.not_true, Bool.not_false, id, oEq, oNe, oEqF, now_val, eqD_str, eqD_int, eqD_nn, T_par, T_par3, T_fld, T_setF, T_make, T_meth, T_isi, T_raise0, T_raise1, T_try, T_tryAs, T_exf, T_asgN, setN, setNs, argsOf, oModN, oIsiI, oOwnB, oOwnE, oOwnN, oOwnG, oTup, oNeg, oI, oI0, insOf_ins, insOf_int, sub_R, rat, lk1, lk2, true_or, or_true, ne_eq, not_false_eq_true, oIntS, oStr0C, T_sm1, oSplit, oNotN, oIsN, T_cmeth]
  have eqn : ∀ (f : Bool → Bool) (k : Bool → Prop), eqD f .non .non k = k (f true) := fun f k => propext ⟨fun z => z.2, fun z => ⟨rfl, z⟩⟩
  refine ⟨_, rfl, .inl ⟨z, rfl, by omega, fun hi => ⟨z, rfl, hz, ho, fun r hr => ?_⟩, fun hi => ⟨z, rfl, hz, ho, fun r hr => ?_⟩⟩⟩
  · have : r = true := hr.mpr hi
    subst this
    simp only [T_seq, T_dic0, T_cut, T_ret, T_asg, T_drop, T_ifS, T_next, T_var, T_c, T_nil, T_cons, T_op, T_un, T_cb, T_t, T_chain, T_and, T_or, T_not, T_andV, T_orV, T_notV, T_if, T_tup, T_lst, T_lstC, T_no, T_part, T_sl, T_slC, S_seq, S_range1, S_range2, T_lc, T_lcC, T_for, T_while, T_setIx, T_call, T_callS, T_start, T_m0, T_yes, T_asgT, vals?, pick_nil, pick_cons, setT, setAll, wipeD, List.getElem?_cons_zero, List.getElem?_cons_succ, List.set_cons_zero, List.set_cons_succ, List.cons_append, List.nil_append, List.append_nil, List.length_cons, List.length_nil, List.map_cons, List.map_nil, oIsi, oLen, oAbs, oInt, oAll, oAny, oAllF, oList, oSum, oIx, oSl, oLt, oLe, oGt, oGe, oSub, oMul, oMod, oFdiv, oPow, oAdd, oAddL, oI, oI0, oIsB, oNotB, oUpper, cellOf?, ren, oIn, oNin, oInF, Nat.reduceSub, Nat.reduceAdd, List.reduceReplicate, true_and, if_true, if_false, Bool.false_eq_true, ite_true, ite_false, eq_self, decide_true, decide_false, Bool.not_true, Bool.not_false, id, oEq, oNe, oEqF, now_val, eqD_str, eqD_int, eqD_nn, T_par, T_par3, T_fld, T_setF, T_make, T_meth, T_isi, T_raise0, T_raise1, T_try, T_tryAs, T_exf, T_asgN, setN, setNs, argsOf, oModN, oIsiI, oOwnB, oOwnE, oOwnN, oOwnG, oTup, oNeg, oI, oI0, insOf_ins, insOf_int, sub_R, rat, lk1, lk2, true_or, or_true, ne_eq, not_false_eq_true, oIntS, oStr0C, T_sm1, oSplit, oNotN, oIsN, T_cmeth]
    exact h
  · have : r = false := by
      cases r with
      | false => rfl
      | true => exact absurd (hr.mp rfl) hi
    subst this
    simp only [T_seq, T_dic0, T_cut, T_ret, T_asg, T_drop, T_ifS, T_next, T_var, T_c, T_nil, T_cons, T_op, T_un, T_cb, T_t, T_chain, T_and, T_or, T_not, T_andV, T_orV, T_notV, T_if, T_tup, T_lst, T_lstC, T_no, T_part, T_sl, T_slC, S_seq, S_range1, S_range2, T_lc, T_lcC, T_for, T_while, T_setIx, T_call, T_callS, T_start, T_m0, T_yes, T_asgT, vals?, pick_nil, pick_cons, setT, setAll, wipeD, List.getElem?_cons_zero, List.getElem?_cons_succ, List.set_cons_zero, List.set_cons_succ, List.cons_append, List.nil_append, List.append_nil, List.length_cons, List.length_nil, List.map_cons, List.map_nil, oIsi, oLen, oAbs, oInt, oAll, oAny, oAllF, oList, oSum, oIx, oSl, oLt, oLe, oGt, oGe, oSub, oMul, oMod, oFdiv, oPow, oAdd, oAddL, oI, oI0, oIsB, oNotB, oUpper, cellOf?, ren, oIn, oNin, oInF, Nat.reduceSub, Nat.reduceAdd, List.reduceReplicate, true_and, if_true, if_false, Bool.false_eq_true, ite_true, ite_false, eq_self, decide_true, decide_false, Bool.not_true, Bool.not_false, id, oEq, oNe, oEqF, now_val, eqD_str, eqD_int, eqD_nn, T_par, T_par3, T_fld, T_setF, T_make, T_meth, T_isi, T_raise0, T_raise1, T_try, T_tryAs, T_exf, T_asgN, setN, setNs, argsOf, oModN, oIsiI, oOwnB, oOwnE, oOwnN, oOwnG, oTup, oNeg, oI, oI0, insOf_ins, insOf_int, sub_R, rat, lk1, lk2, true_or, or_true, ne_eq, not_false_eq_true, oIntS, oStr0C, T_sm1, oSplit, oNotN, oIsN, T_cmeth, eqn]
    exact h
theorem v_law : Vc_law := vcP fun xs k e h => by
  obtain ⟨ns, rfl, hl, hk⟩ := h
  unfold t_law N_law t_law_0
  simp only [T_seq, T_dic0, T_cut, T_ret, T_asg, T_drop, T_ifS, T_next, T_var, T_c, T_nil, T_cons, T_op, T_un, T_cb, T_t, T_chain, T_and, T_or, T_not, T_andV, T_orV, T_notV, T_if, T_tup, T_lst, T_lstC, T_no, T_part, T_sl, T_slC, S_seq, S_range1, S_range2, T_lc, T_lcC, T_for, T_while, T_setIx, T_call, T_callS, T_start, T_m0, T_yes, T_asgT, vals?, pick_nil, pick_cons, setT, setAll, wipeD, List.getElem?_cons_zero, List.getElem?_cons_succ, List.set_cons_zero, List.set_cons_succ, List.cons_append, List.nil_append, List.append_nil, List.length_cons, List.length_nil, List.map_cons, List.map_nil, oIsi, oLen, oAbs, oInt, oAll, oAny, oAllF, oList, oSum, oIx, oSl, oLt, oLe, oGt, oGe, oSub, oMul, oMod, oFdiv, oPow, oAdd, oAddL, oI, oI0, oIsB, oNotB, oUpper, cellOf?, ren, oIn, oNin, oInF, Nat.reduceSub, Nat.reduceAdd, List.reduceReplicate, true_and, if_true, if_false, Bool.false_eq_true, ite_true, ite_false, eq_self, decide_true, decide_false, Bool.not_true, Bool.not_false, id, oEq, oNe, oEqF, now_val, eqD_str, eqD_int, eqD_nn, T_par, T_par3, T_fld, T_setF, T_make, T_meth, T_isi, T_raise0, T_raise1, T_try, T_tryAs, T_exf, T_asgN, setN, setNs, argsOf, oModN, oIsiI, oOwnB, oOwnE, oOwnN, oOwnG, oTup, oNeg, oI, oI0, insOf_ins, insOf_int, sub_R, rat, lk1, lk2, true_or, or_true, ne_eq, not_false_eq_true, oIntS, oStr0C, T_sm1, oSplit, oNotN, oIsN, T_cmeth]
  refine ⟨⟨ns, rfl, hl⟩, ?_⟩
  unfold t_law_1
  simp only [T_seq, T_dic0, T_cut, T_ret, T_asg, T_drop, T_ifS, T_next, T_var, T_c, T_nil, T_cons, T_op, T_un, T_cb, T_t, T_chain, T_and, T_or, T_not, T_andV, T_orV, T_notV, T_if, T_tup, T_lst, T_lstC, T_no, T_part, T_sl, T_slC, S_seq, S_range1, S_range2, T_lc, T_lcC, T_for, T_while, T_setIx, T_call, T_callS, T_start, T_m0, T_yes, T_asgT, vals?, pick_nil, pick_cons, setT, setAll, wipeD, List.getElem?_cons_zero, List.getElem?_cons_succ, List.set_cons_zero, List.set_cons_succ, List.cons_append, List.nil_append, List.append_nil, List.length_cons, List.length_nil, List.map_cons, List.map_nil, oIsi, oLen, oAbs, oInt, oAll, oAny, oAllF, oList, oSum, oIx, oSl, oLt, oLe, oGt, oGe, oSub, oMul, oMod, oFdiv, oPow, oAdd, oAddL, oI, oI0, oIsB, oNotB, oUpper, cellOf?, ren, oIn, oNin, oInF, Nat.reduceSub, Nat.reduceAdd, List.reduceReplicate, true_and, if_true, if_false, Bool.false_eq_true, ite_true, ite_false, eq_self, decide_true, decide_false, Bool.not_true, Bool.not_false, id, oEq, oNe, oEqF, now_val, eqD_str, eqD_int, eqD_nn, T_par, T_par3, T_fld, T_setF, T_make, T_meth, T_isi, T_raise0, T_raise1, T_try, T_tryAs, T_exf, T_asgN, setN, setNs, argsOf, oModN, oIsiI, oOwnB, oOwnE, oOwnN, oOwnG, oTup, oNeg, oI, oI0, insOf_ins, insOf_int, sub_R, rat, lk1, lk2, true_or, or_true, ne_eq, not_false_eq_true, oIntS, oStr0C, T_sm1, oSplit, oNotN, oIsN, T_cmeth]
  refine ⟨⟨by decide, by decide⟩, ?_⟩
  refine ⟨IvK ns 0, ⟨0, _, _, _, _, _, _, _, _, _, by omega, rfl, rfl⟩, fun _ _ _ _ _ => trivial, ?_, ?_⟩
  · rintro i x ρ μ hx ⟨n, o2, o3, o4, o5, o6, o7, o8, o9, o10, hn, rfl, rfl⟩
    obtain ⟨rfl, hi⟩ := range_at hx
    have hi6 : i < 6 := hi
    unfold t_law_1a t_law_1a_0
    simp only [T_seq, T_dic0, T_cut, T_ret, T_asg, T_drop, T_ifS, T_next, T_var, T_c, T_nil, T_cons, T_op, T_un, T_cb, T_t, T_chain, T_and, T_or, T_not, T_andV, T_orV, T_notV, T_if, T_tup, T_lst, T_lstC, T_no, T_part, T_sl, T_slC, S_seq, S_range1, S_range2, T_lc, T_lcC, T_for, T_while, T_setIx, T_call, T_callS, T_start, T_m0, T_yes, T_asgT, vals?, pick_nil, pick_cons, setT, setAll, wipeD, List.getElem?_cons_zero, List.getElem?_cons_succ, List.set_cons_zero, List.set_cons_succ, List.cons_append, List.nil_append, List.append_nil, List.length_cons, List.length_nil, List.map_cons, List.map_nil, oIsi, oLen, oAbs, oInt, oAll, oAny, oAllF, oList, oSum, oIx, oSl, oLt, oLe, oGt, oGe, oSub, oMul, oMod, oFdiv, oPow, oAdd, oAddL, oI, oI0, oIsB, oNotB, oUpper, cellOf?, ren, oIn, oNin, oInF, Nat.reduceSub, Nat.reduceAdd, List.reduceReplicate, true_and, if_true, if_false, Bool.false_eq_true, ite_true, ite_false, eq_self, decide_true, decide_false, Bool.not_true, Bool.not_false, id, oEq, oNe, oEqF, now_val, eqD_str, eqD_int, eqD_nn, T_par, T_par3, T_fld, T_setF, T_make, T_meth, T_isi, T_raise0, T_raise1, T_try, T_tryAs, T_exf, T_asgN, setN, setNs, argsOf, oModN, oIsiI, oOwnB, oOwnE, oOwnN, oOwnG, oTup, oNeg, oI, oI0, insOf_ins, insOf_int, sub_R, rat, lk1, lk2, true_or, or_true, ne_eq, not_false_eq_true, oIntS, oStr0C, T_sm1, oSplit, oNotN, oIsN, T_cmeth]
    refine ⟨⟨by decide, by decide, by decide⟩, by decide, ?_⟩
    refine ⟨rfl, _, _, rfl, rfl, by first | decide | omega, by first | decide | exact lg9 (by omega) (by omega), by omega, fun r r_0 r_1 => ⟨rfl, ?_⟩⟩
    have sizes : ∀ x ∈ [D.int 4, .int 30, .int 500, .int 900, .int ((10 : Int) ^ (Int.toNat 36))], ∃ z, x = .int z ∧ 3 ≤ z ∧ z ≤ 10 ^ 36 := by
      intro x hx
      simp only [List.mem_cons, List.not_mem_nil, or_false] at hx
      rcases hx with rfl | rfl | rfl | rfl | rfl <;> exact ⟨_, rfl, by decide, by decide⟩
    obtain ⟨_, hx, sz, rfl, hs1, hs2⟩ := ix_some _ sizes r_0 r_1
    simp only [T_seq, T_dic0, T_cut, T_ret, T_asg, T_drop, T_ifS, T_next, T_var, T_c, T_nil, T_cons, T_op, T_un, T_cb, T_t, T_chain, T_and, T_or, T_not, T_andV, T_orV, T_notV, T_if, T_tup, T_lst, T_lstC, T_no, T_part, T_sl, T_slC, S_seq, S_range1, S_range2, T_lc, T_lcC, T_for, T_while, T_setIx, T_call, T_callS, T_start, T_m0, T_yes, T_asgT, vals?, pick_nil, pick_cons, setT, setAll, wipeD, List.getElem?_cons_zero, List.getElem?_cons_succ, List.set_cons_zero, List.set_cons_succ, List.cons_append, List.nil_append, List.append_nil, List.length_cons, List.length_nil, List.map_cons, List.map_nil, oIsi, oLen, oAbs, oInt, oAll, oAny, oAllF, oList, oSum, oIx, oSl, oLt, oLe, oGt, oGe, oSub, oMul, oMod, oFdiv, oPow, oAdd, oAddL, oI, oI0, oIsB, oNotB, oUpper, cellOf?, ren, oIn, oNin, oInF, Nat.reduceSub, Nat.reduceAdd, List.reduceReplicate, true_and, if_true, if_false, Bool.false_eq_true, ite_true, ite_false, eq_self, decide_true, decide_false, Bool.not_true, Bool.not_false, id, oEq, oNe, oEqF, now_val, eqD_str, eqD_int, eqD_nn, T_par, T_par3, T_fld, T_setF, T_make, T_meth, T_isi, T_raise0, T_raise1, T_try, T_tryAs, T_exf, T_asgN, setN, setNs, argsOf, oModN, oIsiI, oOwnB, oOwnE, oOwnN, oOwnG, oTup, oNeg, oI, oI0, insOf_ins, insOf_int, sub_R, rat, lk1, lk2, true_or, or_true, ne_eq, not_false_eq_true, oIntS, oStr0C, T_sm1, oSplit, oNotN, oIsN, T_cmeth, hx]
    unfold t_law_1a_1
    simp only [T_seq, T_dic0, T_cut, T_ret, T_asg, T_drop, T_ifS, T_next, T_var, T_c, T_nil, T_cons, T_op, T_un, T_cb, T_t, T_chain, T_and, T_or, T_not, T_andV, T_orV, T_notV, T_if, T_tup, T_lst, T_lstC, T_no, T_part, T_sl, T_slC, S_seq, S_range1, S_range2, T_lc, T_lcC, T_for, T_while, T_setIx, T_call, T_callS, T_start, T_m0, T_yes, T_asgT, vals?, pick_nil, pick_cons, setT, setAll, wipeD, List.getElem?_cons_zero, List.getElem?_cons_succ, List.set_cons_zero, List.set_cons_succ, List.cons_append, List.nil_append, List.append_nil, List.length_cons, List.length_nil, List.map_cons, List.map_nil, oIsi, oLen, oAbs, oInt, oAll, oAny, oAllF, oList, oSum, oIx, oSl, oLt, oLe, oGt, oGe, oSub, oMul, oMod, oFdiv, oPow, oAdd, oAddL, oI, oI0, oIsB, oNotB, oUpper, cellOf?, ren, oIn, oNin, oInF, Nat.reduceSub, Nat.reduceAdd, List.reduceReplicate, true_and, if_true, if_false, Bool.false_eq_true, ite_true, ite_false, eq_self, decide_true, decide_false, Bool.not_true, Bool.not_false, id, oEq, oNe, oEqF, now_val, eqD_str, eqD_int, eqD_nn, T_par, T_par3, T_fld, T_setF, T_make, T_meth, T_isi, T_raise0, T_raise1, T_try, T_tryAs, T_exf, T_asgN, setN, setNs, argsOf, oModN, oIsiI, oOwnB, oOwnE, oOwnN, oOwnG, oTup, oNeg, oI, oI0, insOf_ins, insOf_int, sub_R, rat, lk1, lk2, true_or, or_true, ne_eq, not_false_eq_true, oIntS, oStr0C, T_sm1, oSplit, oNotN, oIsN, T_cmeth]
    have lgs : ∀ s : Int, 0 ≤ s → s ≤ 2 * 10 ^ 36 → s.natAbs.log2 < 9000 := fun s h0 h1 => Nat.lt_trans (small_log (show s.natAbs < 2 ^ 140 by omega)) (by decide)
    refine ⟨.inr (.inl (by decide)), ?_⟩
    refine ⟨rfl, _, _, rfl, rfl, by omega, lgs _ (by omega) (by omega), by omega, fun x x_0 x_1 => ⟨rfl, ?_⟩⟩
    simp only [T_seq, T_dic0, T_cut, T_ret, T_asg, T_drop, T_ifS, T_next, T_var, T_c, T_nil, T_cons, T_op, T_un, T_cb, T_t, T_chain, T_and, T_or, T_not, T_andV, T_orV, T_notV, T_if, T_tup, T_lst, T_lstC, T_no, T_part, T_sl, T_slC, S_seq, S_range1, S_range2, T_lc, T_lcC, T_for, T_while, T_setIx, T_call, T_callS, T_start, T_m0, T_yes, T_asgT, vals?, pick_nil, pick_cons, setT, setAll, wipeD, List.getElem?_cons_zero, List.getElem?_cons_succ, List.set_cons_zero, List.set_cons_succ, List.cons_append, List.nil_append, List.append_nil, List.length_cons, List.length_nil, List.map_cons, List.map_nil, oIsi, oLen, oAbs, oInt, oAll, oAny, oAllF, oList, oSum, oIx, oSl, oLt, oLe, oGt, oGe, oSub, oMul, oMod, oFdiv, oPow, oAdd, oAddL, oI, oI0, oIsB, oNotB, oUpper, cellOf?, ren, oIn, oNin, oInF, Nat.reduceSub, Nat.reduceAdd, List.reduceReplicate, true_and, if_true, if_false, Bool.false_eq_true, ite_true, ite_false, eq_self, decide_true, decide_false, Bool.not_true, Bool.not_false, id, oEq, oNe, oEqF, now_val, eqD_str, eqD_int, eqD_nn, T_par, T_par3, T_fld, T_setF, T_make, T_meth, T_isi, T_raise0, T_raise1, T_try, T_tryAs, T_exf, T_asgN, setN, setNs, argsOf, oModN, oIsiI, oOwnB, oOwnE, oOwnN, oOwnG, oTup, oNeg, oI, oI0, insOf_ins, insOf_int, sub_R, rat, lk1, lk2, true_or, or_true, ne_eq, not_false_eq_true, oIntS, oStr0C, T_sm1, oSplit, oNotN, oIsN, T_cmeth]
    refine ⟨rfl, _, _, rfl, rfl, by omega, lgs _ (by omega) (by omega), by omega, fun y y_0 y_1 => ⟨rfl, ?_⟩⟩
    simp only [T_seq, T_dic0, T_cut, T_ret, T_asg, T_drop, T_ifS, T_next, T_var, T_c, T_nil, T_cons, T_op, T_un, T_cb, T_t, T_chain, T_and, T_or, T_not, T_andV, T_orV, T_notV, T_if, T_tup, T_lst, T_lstC, T_no, T_part, T_sl, T_slC, S_seq, S_range1, S_range2, T_lc, T_lcC, T_for, T_while, T_setIx, T_call, T_callS, T_start, T_m0, T_yes, T_asgT, vals?, pick_nil, pick_cons, setT, setAll, wipeD, List.getElem?_cons_zero, List.getElem?_cons_succ, List.set_cons_zero, List.set_cons_succ, List.cons_append, List.nil_append, List.append_nil, List.length_cons, List.length_nil, List.map_cons, List.map_nil, oIsi, oLen, oAbs, oInt, oAll, oAny, oAllF, oList, oSum, oIx, oSl, oLt, oLe, oGt, oGe, oSub, oMul, oMod, oFdiv, oPow, oAdd, oAddL, oI, oI0, oIsB, oNotB, oUpper, cellOf?, ren, oIn, oNin, oInF, Nat.reduceSub, Nat.reduceAdd, List.reduceReplicate, true_and, if_true, if_false, Bool.false_eq_true, ite_true, ite_false, eq_self, decide_true, decide_false, Bool.not_true, Bool.not_false, id, oEq, oNe, oEqF, now_val, eqD_str, eqD_int, eqD_nn, T_par, T_par3, T_fld, T_setF, T_make, T_meth, T_isi, T_raise0, T_raise1, T_try, T_tryAs, T_exf, T_asgN, setN, setNs, argsOf, oModN, oIsiI, oOwnB, oOwnE, oOwnN, oOwnG, oTup, oNeg, oI, oI0, insOf_ins, insOf_int, sub_R, rat, lk1, lk2, true_or, or_true, ne_eq, not_false_eq_true, oIntS, oStr0C, T_sm1, oSplit, oNotN, oIsN, T_cmeth]
    have ha : (x - sz).natAbs ≤ 10 ^ 36 := by omega
    have hb : 0 < 1 + y := by omega
    have hb2 : (1 + y).natAbs ≤ 10 ^ 36 := by omega
    generalize x - sz = a at ha ⊢
    generalize 1 + y = b at hb hb2 ⊢
    have hb0 : b ≠ 0 := by omega
    have nf := low_Nf (t := a) hb0
    have le := low_le (p := a) hb0
    have t36 : (low a b).1.natAbs ≤ 10 ^ 36 := by omega
    have b36 : (low a b).2.natAbs ≤ 10 ^ 36 := by omega
    have p15 : ∀ i : Int, i.natAbs ≤ 10 ^ 36 → B15 i := fun i h => Nat.lt_of_le_of_lt h (by decide +kernel)
    have tl : (txtR (low a b).1 (low a b).2).length ≤ 76 := by
      have := tx_len (t := (low a b).1) (b := (low a b).2) nf.1 (k := 37) (j := 37) (by decide) (by decide) (Nat.lt_of_le_of_lt t36 (by decide +kernel)) (Nat.lt_of_le_of_lt b36 (by decide +kernel))
      omega
    unfold t_law_1a_2
    simp only [T_seq, T_dic0, T_cut, T_ret, T_asg, T_drop, T_ifS, T_next, T_var, T_c, T_nil, T_cons, T_op, T_un, T_cb, T_t, T_chain, T_and, T_or, T_not, T_andV, T_orV, T_notV, T_if, T_tup, T_lst, T_lstC, T_no, T_part, T_sl, T_slC, S_seq, S_range1, S_range2, T_lc, T_lcC, T_for, T_while, T_setIx, T_call, T_callS, T_start, T_m0, T_yes, T_asgT, vals?, pick_nil, pick_cons, setT, setAll, wipeD, List.getElem?_cons_zero, List.getElem?_cons_succ, List.set_cons_zero, List.set_cons_succ, List.cons_append, List.nil_append, List.append_nil, List.length_cons, List.length_nil, List.map_cons, List.map_nil, oIsi, oLen, oAbs, oInt, oAll, oAny, oAllF, oList, oSum, oIx, oSl, oLt, oLe, oGt, oGe, oSub, oMul, oMod, oFdiv, oPow, oAdd, oAddL, oI, oI0, oIsB, oNotB, oUpper, cellOf?, ren, oIn, oNin, oInF, Nat.reduceSub, Nat.reduceAdd, List.reduceReplicate, true_and, if_true, if_false, Bool.false_eq_true, ite_true, ite_false, eq_self, decide_true, decide_false, Bool.not_true, Bool.not_false, id, oEq, oNe, oEqF, now_val, eqD_str, eqD_int, eqD_nn, T_par, T_par3, T_fld, T_setF, T_make, T_meth, T_isi, T_raise0, T_raise1, T_try, T_tryAs, T_exf, T_asgN, setN, setNs, argsOf, oModN, oIsiI, oOwnB, oOwnE, oOwnN, oOwnG, oTup, oNeg, oI, oI0, insOf_ins, insOf_int, sub_R, rat, lk1, lk2, true_or, or_true, ne_eq, not_false_eq_true, oIntS, oStr0C, T_sm1, oSplit, oNotN, oIsN, T_cmeth, oStrS]
    refine init_ok hb0 (Nat.lt_of_le_of_lt hb2 (by decide +kernel)) fun a1 => ⟨a1, _, _, rfl, p15 _ t36, p15 _ b36, _, rfl, ?_⟩
    unfold t_law_1a_3
    simp only [T_seq, T_dic0, T_cut, T_ret, T_asg, T_drop, T_ifS, T_next, T_var, T_c, T_nil, T_cons, T_op, T_un, T_cb, T_t, T_chain, T_and, T_or, T_not, T_andV, T_orV, T_notV, T_if, T_tup, T_lst, T_lstC, T_no, T_part, T_sl, T_slC, S_seq, S_range1, S_range2, T_lc, T_lcC, T_for, T_while, T_setIx, T_call, T_callS, T_start, T_m0, T_yes, T_asgT, vals?, pick_nil, pick_cons, setT, setAll, wipeD, List.getElem?_cons_zero, List.getElem?_cons_succ, List.set_cons_zero, List.set_cons_succ, List.cons_append, List.nil_append, List.append_nil, List.length_cons, List.length_nil, List.map_cons, List.map_nil, oIsi, oLen, oAbs, oInt, oAll, oAny, oAllF, oList, oSum, oIx, oSl, oLt, oLe, oGt, oGe, oSub, oMul, oMod, oFdiv, oPow, oAdd, oAddL, oI, oI0, oIsB, oNotB, oUpper, cellOf?, ren, oIn, oNin, oInF, Nat.reduceSub, Nat.reduceAdd, List.reduceReplicate, true_and, if_true, if_false, Bool.false_eq_true, ite_true, ite_false, eq_self, decide_true, decide_false, Bool.not_true, Bool.not_false, id, oEq, oNe, oEqF, now_val, eqD_str, eqD_int, eqD_nn, T_par, T_par3, T_fld, T_setF, T_make, T_meth, T_isi, T_raise0, T_raise1, T_try, T_tryAs, T_exf, T_asgN, setN, setNs, argsOf, oModN, oIsiI, oOwnB, oOwnE, oOwnN, oOwnG, oTup, oNeg, oI, oI0, insOf_ins, insOf_int, sub_R, rat, lk1, lk2, true_or, or_true, ne_eq, not_false_eq_true, oIntS, oStr0C, T_sm1, oSplit, oNotN, oIsN, T_cmeth]
    have hP : ((10 : Int) ^ (Int.toNat 39) + 1).natAbs ≤ 10 ^ 40 := by decide +kernel
    have hR : ((10 : Int) ^ (Int.toNat 38) + 3).natAbs ≤ 10 ^ 39 := by decide +kernel
    have hR0 : ((10 : Int) ^ (Int.toNat 38) + 3) ≠ 0 := by decide +kernel
    refine init_ok hb0 (Nat.lt_of_le_of_lt hb2 (by decide +kernel)) fun a2 => ⟨⟨by decide, by decide, by decide⟩, ⟨by decide, by decide, by decide⟩, ?_⟩
    generalize (10 : Int) ^ (Int.toNat 39) + 1 = P at hP ⊢
    generalize (10 : Int) ^ (Int.toNat 38) + 3 = R at hR hR0 ⊢
    have nfu := low_Nf (t := P) hR0
    have leu := low_le (p := P) hR0
    have p4 : ∀ (i : Int) (k : Nat), k ≤ 200 → i.natAbs ≤ 10 ^ k → B4 i := fun i k hk h => Nat.lt_of_le_of_lt h (Nat.lt_of_le_of_lt (Nat.pow_le_pow_right (by decide) hk) (by decide +kernel))
    have mulb : ∀ (i j : Int) (k m : Nat), i.natAbs ≤ 10 ^ k → j.natAbs ≤ 10 ^ m → (i * j).natAbs ≤ 10 ^ (k + m) := fun i j k m h h' => by
      rw [Int.natAbs_mul, Nat.pow_add]
      exact Nat.mul_le_mul h h'
    refine init_ok hR0 (Nat.lt_of_le_of_lt hR (by decide +kernel)) fun a3 => ⟨a2, _, _, _, _, _, rfl, .rat a3 _ _ nfu.1, nf.1, nfu.1, p4 _ 36 (by decide) t36, p4 _ 36 (by decide) b36, p4 _ 40 (by decide) (by omega), p4 _ 39 (by decide) (by omega), fun a4 => ?_⟩
    have w0 : (low a b).2 * (low P R).2 ≠ 0 := Int.mul_ne_zero (by have := nf.1; omega) (by have := nfu.1; omega)
    have w1 := mulb _ _ 36 40 t36 (by omega : (low P R).1.natAbs ≤ 10 ^ 40)
    have w2 := mulb _ _ 36 39 b36 (by omega : (low P R).2.natAbs ≤ 10 ^ 39)
    dsimp only
    generalize (low a b).1 * (low P R).1 = X at w1 ⊢
    generalize (low a b).2 * (low P R).2 = Y at w0 w2 ⊢
    have nfw := low_Nf (t := X) w0
    have lew := low_le (p := X) w0
    simp only [T_seq, T_dic0, T_cut, T_ret, T_asg, T_drop, T_ifS, T_next, T_var, T_c, T_nil, T_cons, T_op, T_un, T_cb, T_t, T_chain, T_and, T_or, T_not, T_andV, T_orV, T_notV, T_if, T_tup, T_lst, T_lstC, T_no, T_part, T_sl, T_slC, S_seq, S_range1, S_range2, T_lc, T_lcC, T_for, T_while, T_setIx, T_call, T_callS, T_start, T_m0, T_yes, T_asgT, vals?, pick_nil, pick_cons, setT, setAll, wipeD, List.getElem?_cons_zero, List.getElem?_cons_succ, List.set_cons_zero, List.set_cons_succ, List.cons_append, List.nil_append, List.append_nil, List.length_cons, List.length_nil, List.map_cons, List.map_nil, oIsi, oLen, oAbs, oInt, oAll, oAny, oAllF, oList, oSum, oIx, oSl, oLt, oLe, oGt, oGe, oSub, oMul, oMod, oFdiv, oPow, oAdd, oAddL, oI, oI0, oIsB, oNotB, oUpper, cellOf?, ren, oIn, oNin, oInF, Nat.reduceSub, Nat.reduceAdd, List.reduceReplicate, true_and, if_true, if_false, Bool.false_eq_true, ite_true, ite_false, eq_self, decide_true, decide_false, Bool.not_true, Bool.not_false, id, oEq, oNe, oEqF, now_val, eqD_str, eqD_int, eqD_nn, T_par, T_par3, T_fld, T_setF, T_make, T_meth, T_isi, T_raise0, T_raise1, T_try, T_tryAs, T_exf, T_asgN, setN, setNs, argsOf, oModN, oIsiI, oOwnB, oOwnE, oOwnN, oOwnG, oTup, oNeg, oI, oI0, insOf_ins, insOf_int, sub_R, rat, lk1, lk2, true_or, or_true, ne_eq, not_false_eq_true, oIntS, oStr0C, T_sm1, oSplit, oNotN, oIsN, T_cmeth]
    have nfs := low_Nf (t := b) (b := 7) (by decide)
    have les := low_le (p := b) (q := 7) (by decide)
    refine init_ok (by decide) (by decide) fun a5 => ⟨a4, _, _, _, _, _, rfl, .rat a5 _ _ nfs.1, nfw.1, nfs.1, p4 _ 76 (by decide) (Nat.le_trans lew.1 w1), p4 _ 75 (by decide) (Nat.le_trans lew.2 w2), p4 _ 36 (by decide) (by omega), p4 _ 1 (by decide) (by omega), fun a6 => ?_⟩
    have v0 : (low X Y).2 * (low b 7).2 ≠ 0 := Int.mul_ne_zero (by have := nfw.1; omega) (by have := nfs.1; omega)
    have v1 := mulb _ _ 76 36 (Nat.le_trans lew.1 w1) (by omega : (low b 7).1.natAbs ≤ 10 ^ 36)
    have v2 := mulb _ _ 75 1 (Nat.le_trans lew.2 w2) (by omega : (low b 7).2.natAbs ≤ 10 ^ 1)
    dsimp only
    generalize (low X Y).1 * (low b 7).1 = X2 at v1 ⊢
    generalize (low X Y).2 * (low b 7).2 = Y2 at v0 v2 ⊢
    have nfv := low_Nf (t := X2) v0
    have lev := low_le (p := X2) v0
    have q15 : ∀ (i : Int) (k : Nat), k ≤ 120 → i.natAbs ≤ 10 ^ k → B15 i := fun i k hk h => Nat.lt_of_le_of_lt h (Nat.lt_of_le_of_lt (Nat.pow_le_pow_right (by decide) hk) (by decide +kernel))
    have tl2 : (txtR (low X2 Y2).1 (low X2 Y2).2).length ≤ 400 := by
      have := tx_len (t := (low X2 Y2).1) (b := (low X2 Y2).2) nfv.1 (k := 113) (j := 77) (by decide) (by decide) (Nat.lt_of_le_of_lt (Nat.le_trans lev.1 v1) (by decide +kernel)) (Nat.lt_of_le_of_lt (Nat.le_trans lev.2 v2) (by decide +kernel))
      omega
    unfold t_law_1a_4 t_law_1a_4a_0
    simp only [T_seq, T_dic0, T_cut, T_ret, T_asg, T_drop, T_ifS, T_next, T_var, T_c, T_nil, T_cons, T_op, T_un, T_cb, T_t, T_chain, T_and, T_or, T_not, T_andV, T_orV, T_notV, T_if, T_tup, T_lst, T_lstC, T_no, T_part, T_sl, T_slC, S_seq, S_range1, S_range2, T_lc, T_lcC, T_for, T_while, T_setIx, T_call, T_callS, T_start, T_m0, T_yes, T_asgT, vals?, pick_nil, pick_cons, setT, setAll, wipeD, List.getElem?_cons_zero, List.getElem?_cons_succ, List.set_cons_zero, List.set_cons_succ, List.cons_append, List.nil_append, List.append_nil, List.length_cons, List.length_nil, List.map_cons, List.map_nil, oIsi, oLen, oAbs, oInt, oAll, oAny, oAllF, oList, oSum, oIx, oSl, oLt, oLe, oGt, oGe, oSub, oMul, oMod, oFdiv, oPow, oAdd, oAddL, oI, oI0, oIsB, oNotB, oUpper, cellOf?, ren, oIn, oNin, oInF, Nat.reduceSub, Nat.reduceAdd, List.reduceReplicate, true_and, if_true, if_false, Bool.false_eq_true, ite_true, ite_false, eq_self, decide_true, decide_false, Bool.not_true, Bool.not_false, id, oEq, oNe, oEqF, now_val, eqD_str, eqD_int, eqD_nn, T_par, T_par3, T_fld, T_setF, T_make, T_meth, T_isi, T_raise0, T_raise1, T_try, T_tryAs, T_exf, T_asgN, setN, setNs, argsOf, oModN, oIsiI, oOwnB, oOwnE, oOwnN, oOwnG, oTup, oNeg, oI, oI0, insOf_ins, insOf_int, sub_R, rat, lk1, lk2, true_or, or_true, ne_eq, not_false_eq_true, oIntS, oStr0C, T_sm1, oSplit, oNotN, oIsN, T_cmeth, oStrS, T_cmeth]
    refine ⟨a6, _, _, rfl, q15 _ 112 (by decide) (Nat.le_trans lev.1 v1), q15 _ 76 (by decide) (Nat.le_trans lev.2 v2), _, rfl, read_tx nfv tl2 fun a7 => ?_⟩
    simp only [T_seq, T_dic0, T_cut, T_ret, T_asg, T_drop, T_ifS, T_next, T_var, T_c, T_nil, T_cons, T_op, T_un, T_cb, T_t, T_chain, T_and, T_or, T_not, T_andV, T_orV, T_notV, T_if, T_tup, T_lst, T_lstC, T_no, T_part, T_sl, T_slC, S_seq, S_range1, S_range2, T_lc, T_lcC, T_for, T_while, T_setIx, T_call, T_callS, T_start, T_m0, T_yes, T_asgT, vals?, pick_nil, pick_cons, setT, setAll, wipeD, List.getElem?_cons_zero, List.getElem?_cons_succ, List.set_cons_zero, List.set_cons_succ, List.cons_append, List.nil_append, List.append_nil, List.length_cons, List.length_nil, List.map_cons, List.map_nil, oIsi, oLen, oAbs, oInt, oAll, oAny, oAllF, oList, oSum, oIx, oSl, oLt, oLe, oGt, oGe, oSub, oMul, oMod, oFdiv, oPow, oAdd, oAddL, oI, oI0, oIsB, oNotB, oUpper, cellOf?, ren, oIn, oNin, oInF, Nat.reduceSub, Nat.reduceAdd, List.reduceReplicate, true_and, if_true, if_false, Bool.false_eq_true, ite_true, ite_false, eq_self, decide_true, decide_false, Bool.not_true, Bool.not_false, id, oEq, oNe, oEqF, now_val, eqD_str, eqD_int, eqD_nn, T_par, T_par3, T_fld, T_setF, T_make, T_meth, T_isi, T_raise0, T_raise1, T_try, T_tryAs, T_exf, T_asgN, setN, setNs, argsOf, oModN, oIsiI, oOwnB, oOwnE, oOwnN, oOwnG, oTup, oNeg, oI, oI0, insOf_ins, insOf_int, sub_R, rat, lk1, lk2, true_or, or_true, ne_eq, not_false_eq_true, oIntS, oStr0C, T_sm1, oSplit, oNotN, oIsN, T_cmeth]
    refine ⟨a7, _, _, _, rfl, .inl ⟨_, _, .rat a6 _ _ nfv.1, _, rfl, ?_⟩⟩
    unfold t_law_1a_5 t_law_1a_5a_0
    simp only [T_seq, T_dic0, T_cut, T_ret, T_asg, T_drop, T_ifS, T_next, T_var, T_c, T_nil, T_cons, T_op, T_un, T_cb, T_t, T_chain, T_and, T_or, T_not, T_andV, T_orV, T_notV, T_if, T_tup, T_lst, T_lstC, T_no, T_part, T_sl, T_slC, S_seq, S_range1, S_range2, T_lc, T_lcC, T_for, T_while, T_setIx, T_call, T_callS, T_start, T_m0, T_yes, T_asgT, vals?, pick_nil, pick_cons, setT, setAll, wipeD, List.getElem?_cons_zero, List.getElem?_cons_succ, List.set_cons_zero, List.set_cons_succ, List.cons_append, List.nil_append, List.append_nil, List.length_cons, List.length_nil, List.map_cons, List.map_nil, oIsi, oLen, oAbs, oInt, oAll, oAny, oAllF, oList, oSum, oIx, oSl, oLt, oLe, oGt, oGe, oSub, oMul, oMod, oFdiv, oPow, oAdd, oAddL, oI, oI0, oIsB, oNotB, oUpper, cellOf?, ren, oIn, oNin, oInF, Nat.reduceSub, Nat.reduceAdd, List.reduceReplicate, true_and, if_true, if_false, Bool.false_eq_true, ite_true, ite_false, eq_self, decide_true, decide_false, Bool.not_true, Bool.not_false, id, oEq, oNe, oEqF, now_val, eqD_str, eqD_int, eqD_nn, T_par, T_par3, T_fld, T_setF, T_make, T_meth, T_isi, T_raise0, T_raise1, T_try, T_tryAs, T_exf, T_asgN, setN, setNs, argsOf, oModN, oIsiI, oOwnB, oOwnE, oOwnN, oOwnG, oTup, oNeg, oI, oI0, insOf_ins, insOf_int, sub_R, rat, lk1, lk2, true_or, or_true, ne_eq, not_false_eq_true, oIntS, oStr0C, T_sm1, oSplit, oNotN, oIsN, T_cmeth, Bool.and_self, T_cmeth]
    refine ⟨a, b, rfl, hb, by omega, by omega, ?_⟩
    simp only [T_seq, T_dic0, T_cut, T_ret, T_asg, T_drop, T_ifS, T_next, T_var, T_c, T_nil, T_cons, T_op, T_un, T_cb, T_t, T_chain, T_and, T_or, T_not, T_andV, T_orV, T_notV, T_if, T_tup, T_lst, T_lstC, T_no, T_part, T_sl, T_slC, S_seq, S_range1, S_range2, T_lc, T_lcC, T_for, T_while, T_setIx, T_call, T_callS, T_start, T_m0, T_yes, T_asgT, vals?, pick_nil, pick_cons, setT, setAll, wipeD, List.getElem?_cons_zero, List.getElem?_cons_succ, List.set_cons_zero, List.set_cons_succ, List.cons_append, List.nil_append, List.append_nil, List.length_cons, List.length_nil, List.map_cons, List.map_nil, oIsi, oLen, oAbs, oInt, oAll, oAny, oAllF, oList, oSum, oIx, oSl, oLt, oLe, oGt, oGe, oSub, oMul, oMod, oFdiv, oPow, oAdd, oAddL, oI, oI0, oIsB, oNotB, oUpper, cellOf?, ren, oIn, oNin, oInF, Nat.reduceSub, Nat.reduceAdd, List.reduceReplicate, true_and, if_true, if_false, Bool.false_eq_true, ite_true, ite_false, eq_self, decide_true, decide_false, Bool.not_true, Bool.not_false, id, oEq, oNe, oEqF, now_val, eqD_str, eqD_int, eqD_nn, T_par, T_par3, T_fld, T_setF, T_make, T_meth, T_isi, T_raise0, T_raise1, T_try, T_tryAs, T_exf, T_asgN, setN, setNs, argsOf, oModN, oIsiI, oOwnB, oOwnE, oOwnN, oOwnG, oTup, oNeg, oI, oI0, insOf_ins, insOf_int, sub_R, rat, lk1, lk2, true_or, or_true, ne_eq, not_false_eq_true, oIntS, oStr0C, T_sm1, oSplit, oNotN, oIsN, T_cmeth]
    refine read_tx nf (by omega) fun a8 => ?_
    simp only [T_seq, T_dic0, T_cut, T_ret, T_asg, T_drop, T_ifS, T_next, T_var, T_c, T_nil, T_cons, T_op, T_un, T_cb, T_t, T_chain, T_and, T_or, T_not, T_andV, T_orV, T_notV, T_if, T_tup, T_lst, T_lstC, T_no, T_part, T_sl, T_slC, S_seq, S_range1, S_range2, T_lc, T_lcC, T_for, T_while, T_setIx, T_call, T_callS, T_start, T_m0, T_yes, T_asgT, vals?, pick_nil, pick_cons, setT, setAll, wipeD, List.getElem?_cons_zero, List.getElem?_cons_succ, List.set_cons_zero, List.set_cons_succ, List.cons_append, List.nil_append, List.append_nil, List.length_cons, List.length_nil, List.map_cons, List.map_nil, oIsi, oLen, oAbs, oInt, oAll, oAny, oAllF, oList, oSum, oIx, oSl, oLt, oLe, oGt, oGe, oSub, oMul, oMod, oFdiv, oPow, oAdd, oAddL, oI, oI0, oIsB, oNotB, oUpper, cellOf?, ren, oIn, oNin, oInF, Nat.reduceSub, Nat.reduceAdd, List.reduceReplicate, true_and, if_true, if_false, Bool.false_eq_true, ite_true, ite_false, eq_self, decide_true, decide_false, Bool.not_true, Bool.not_false, id, oEq, oNe, oEqF, now_val, eqD_str, eqD_int, eqD_nn, T_par, T_par3, T_fld, T_setF, T_make, T_meth, T_isi, T_raise0, T_raise1, T_try, T_tryAs, T_exf, T_asgN, setN, setNs, argsOf, oModN, oIsiI, oOwnB, oOwnE, oOwnN, oOwnG, oTup, oNeg, oI, oI0, insOf_ins, insOf_int, sub_R, rat, lk1, lk2, true_or, or_true, ne_eq, not_false_eq_true, oIntS, oStr0C, T_sm1, oSplit, oNotN, oIsN, T_cmeth]
    refine init_ok hb0 (Nat.lt_of_le_of_lt hb2 (by decide +kernel)) fun a9 => ⟨a8, _, _, _, rfl, .inl ⟨_, _, .rat a9 _ _ nf.1, _, rfl, ?_⟩⟩
    have okt := tx_ok (low a b).1 (low a b).2
    generalize txtR (low a b).1 (low a b).2 = told at tl okt ⊢
    unfold t_law_1a_6
    simp only [T_seq, T_dic0, T_cut, T_ret, T_asg, T_drop, T_ifS, T_next, T_var, T_c, T_nil, T_cons, T_op, T_un, T_cb, T_t, T_chain, T_and, T_or, T_not, T_andV, T_orV, T_notV, T_if, T_tup, T_lst, T_lstC, T_no, T_part, T_sl, T_slC, S_seq, S_range1, S_range2, T_lc, T_lcC, T_for, T_while, T_setIx, T_call, T_callS, T_start, T_m0, T_yes, T_asgT, vals?, pick_nil, pick_cons, setT, setAll, wipeD, List.getElem?_cons_zero, List.getElem?_cons_succ, List.set_cons_zero, List.set_cons_succ, List.cons_append, List.nil_append, List.append_nil, List.length_cons, List.length_nil, List.map_cons, List.map_nil, oIsi, oLen, oAbs, oInt, oAll, oAny, oAllF, oList, oSum, oIx, oSl, oLt, oLe, oGt, oGe, oSub, oMul, oMod, oFdiv, oPow, oAdd, oAddL, oI, oI0, oIsB, oNotB, oUpper, cellOf?, ren, oIn, oNin, oInF, Nat.reduceSub, Nat.reduceAdd, List.reduceReplicate, true_and, if_true, if_false, Bool.false_eq_true, ite_true, ite_false, eq_self, decide_true, decide_false, Bool.not_true, Bool.not_false, id, oEq, oNe, oEqF, now_val, eqD_str, eqD_int, eqD_nn, T_par, T_par3, T_fld, T_setF, T_make, T_meth, T_isi, T_raise0, T_raise1, T_try, T_tryAs, T_exf, T_asgN, setN, setNs, argsOf, oModN, oIsiI, oOwnB, oOwnE, oOwnN, oOwnG, oTup, oNeg, oI, oI0, insOf_ins, insOf_int, sub_R, rat, lk1, lk2, true_or, or_true, ne_eq, not_false_eq_true, oIntS, oStr0C, T_sm1, oSplit, oNotN, oIsN, T_cmeth, Bool.and_self]
    refine ⟨rfl, told, _, rfl, rfl, by omega, okt, by omega, fun z1 n1 h1 h2 h3 => ⟨rfl, ?_⟩⟩
    unfold t_law_1a_7
    simp only [T_seq, T_dic0, T_cut, T_ret, T_asg, T_drop, T_ifS, T_next, T_var, T_c, T_nil, T_cons, T_op, T_un, T_cb, T_t, T_chain, T_and, T_or, T_not, T_andV, T_orV, T_notV, T_if, T_tup, T_lst, T_lstC, T_no, T_part, T_sl, T_slC, S_seq, S_range1, S_range2, T_lc, T_lcC, T_for, T_while, T_setIx, T_call, T_callS, T_start, T_m0, T_yes, T_asgT, vals?, pick_nil, pick_cons, setT, setAll, wipeD, List.getElem?_cons_zero, List.getElem?_cons_succ, List.set_cons_zero, List.set_cons_succ, List.cons_append, List.nil_append, List.append_nil, List.length_cons, List.length_nil, List.map_cons, List.map_nil, oIsi, oLen, oAbs, oInt, oAll, oAny, oAllF, oList, oSum, oIx, oSl, oLt, oLe, oGt, oGe, oSub, oMul, oMod, oFdiv, oPow, oAdd, oAddL, oI, oI0, oIsB, oNotB, oUpper, cellOf?, ren, oIn, oNin, oInF, Nat.reduceSub, Nat.reduceAdd, List.reduceReplicate, true_and, if_true, if_false, Bool.false_eq_true, ite_true, ite_false, eq_self, decide_true, decide_false, Bool.not_true, Bool.not_false, id, oEq, oNe, oEqF, now_val, eqD_str, eqD_int, eqD_nn, T_par, T_par3, T_fld, T_setF, T_make, T_meth, T_isi, T_raise0, T_raise1, T_try, T_tryAs, T_exf, T_asgN, setN, setNs, argsOf, oModN, oIsiI, oOwnB, oOwnE, oOwnN, oOwnG, oTup, oNeg, oI, oI0, insOf_ins, insOf_int, sub_R, rat, lk1, lk2, true_or, or_true, ne_eq, not_false_eq_true, oIntS, oStr0C, T_sm1, oSplit, oNotN, oIsN, T_cmeth]
    refine ⟨rfl, z1, _, rfl, rfl, by omega, h2, by omega, fun z2 n2 h4 h5 h6 => ⟨rfl, ?_⟩⟩
    have sz : ∀ k : Nat, k ≤ 1000 → k ≤ sizeLine := fun k h => Nat.le_trans h (by decide)
    have c1 : ∀ s : Str, (decide (s.length ≤ 2) && s.cps.toList.all fun c => decide (c < 1114112)) = true → s.length ≤ 2 ∧ okS s := by
      intro s h
      rw [Bool.and_eq_true, decide_eq_true_eq] at h
      exact ⟨h.1, fun c hc => of_decide_eq_true (List.all_eq_true.mp h.2 c hc)⟩
    obtain ⟨d1, d2⟩ := c1 "-" (by decide +kernel)
    obtain ⟨d3, d4⟩ := c1 "/1" (by decide +kernel)
    obtain ⟨d5, d6⟩ := c1 "0" (by decide +kernel)
    obtain ⟨d7, d8⟩ := c1 " " (by decide +kernel)
    obtain ⟨d9, d10⟩ := c1 "/2" (by decide +kernel)
    refine ⟨sz _ (by omega), sz _ (by omega), sz _ (by omega), sz _ (by omega), sz _ (by omega), by decide, ?_⟩
    have good : ∀ x ∈ [D.str z1, .str z2, .str ("-" ++ told), .str (told ++ "/1"), .str ("0" ++ told), .str (told ++ " "), .str (told ++ "/2")], goodS x := by
      intro x hx
      simp only [List.mem_cons, List.not_mem_nil, or_false] at hx
      rcases hx with rfl | rfl | rfl | rfl | rfl | rfl | rfl
      · exact ⟨_, rfl, by omega, h2⟩
      · exact ⟨_, rfl, by omega, h5⟩
      · exact ⟨_, rfl, by rw [str_len]; omega, okS_app d2 okt⟩
      · exact ⟨_, rfl, by rw [str_len]; omega, okS_app okt d4⟩
      · exact ⟨_, rfl, by rw [str_len]; omega, okS_app d6 okt⟩
      · exact ⟨_, rfl, by rw [str_len]; omega, okS_app okt d8⟩
      · exact ⟨_, rfl, by rw [str_len]; omega, okS_app okt d10⟩
    generalize [D.str z1, .str z2, .str ("-" ++ told), .str (told ++ "/1"), .str ("0" ++ told), .str (told ++ " "), .str (told ++ "/2")] = L at good ⊢
    refine ⟨fun j ρ μ => IvK ns 0 (i + 1) ρ μ, ?_, fun _ _ _ _ _ => trivial, ?_, ?_⟩
    · exact ⟨n2, _, _, _, _, _, _, _, _, _, by omega, rfl, rfl⟩
    · rintro j x ρ μ hx ⟨n, o2, o3, o4, o5, o6, o7, o8, o9, o10, hn, rfl, rfl⟩
      obtain ⟨z, rfl, g1, g2⟩ := good x (List.mem_of_getElem? hx)
      simp only [T_seq, T_dic0, T_cut, T_ret, T_asg, T_drop, T_ifS, T_next, T_var, T_c, T_nil, T_cons, T_op, T_un, T_cb, T_t, T_chain, T_and, T_or, T_not, T_andV, T_orV, T_notV, T_if, T_tup, T_lst, T_lstC, T_no, T_part, T_sl, T_slC, S_seq, S_range1, S_range2, T_lc, T_lcC, T_for, T_while, T_setIx, T_call, T_callS, T_start, T_m0, T_yes, T_asgT, vals?, pick_nil, pick_cons, setT, setAll, wipeD, List.getElem?_cons_zero, List.getElem?_cons_succ, List.set_cons_zero, List.set_cons_succ, List.cons_append, List.nil_append, List.append_nil, List.length_cons, List.length_nil, List.map_cons, List.map_nil, oIsi, oLen, oAbs, oInt, oAll, oAny, oAllF, oList, oSum, oIx, oSl, oLt, oLe, oGt, oGe, oSub, oMul, oMod, oFdiv, oPow, oAdd, oAddL, oI, oI0, oIsB, oNotB, oUpper, cellOf?, ren, oIn, oNin, oInF, Nat.reduceSub, Nat.reduceAdd, List.reduceReplicate, true_and, if_true, if_false, Bool.false_eq_true, ite_true, ite_false, eq_self, decide_true, decide_false, Bool.not_true, Bool.not_false, id, oEq, oNe, oEqF, now_val, eqD_str, eqD_int, eqD_nn, T_par, T_par3, T_fld, T_setF, T_make, T_meth, T_isi, T_raise0, T_raise1, T_try, T_tryAs, T_exf, T_asgN, setN, setNs, argsOf, oModN, oIsiI, oOwnB, oOwnE, oOwnN, oOwnG, oTup, oNeg, oI, oI0, insOf_ins, insOf_int, sub_R, rat, lk1, lk2, true_or, or_true, ne_eq, not_false_eq_true, oIntS, oStr0C, T_sm1, oSplit, oNotN, oIsN, T_cmeth]
      exact law_prose g1 g2 ⟨n, _, _, _, _, _, _, _, _, _, hn, rfl, rfl⟩
    · exact fun ρ μ h => h
  · rintro ρ μ ⟨n, o2, o3, o4, o5, o6, o7, o8, o9, o10, hn, rfl, rfl⟩
    unfold t_law_2
    simp only [T_seq, T_dic0, T_cut, T_ret, T_asg, T_drop, T_ifS, T_next, T_var, T_c, T_nil, T_cons, T_op, T_un, T_cb, T_t, T_chain, T_and, T_or, T_not, T_andV, T_orV, T_notV, T_if, T_tup, T_lst, T_lstC, T_no, T_part, T_sl, T_slC, S_seq, S_range1, S_range2, T_lc, T_lcC, T_for, T_while, T_setIx, T_call, T_callS, T_start, T_m0, T_yes, T_asgT, vals?, pick_nil, pick_cons, setT, setAll, wipeD, List.getElem?_cons_zero, List.getElem?_cons_succ, List.set_cons_zero, List.set_cons_succ, List.cons_append, List.nil_append, List.append_nil, List.length_cons, List.length_nil, List.map_cons, List.map_nil, oIsi, oLen, oAbs, oInt, oAll, oAny, oAllF, oList, oSum, oIx, oSl, oLt, oLe, oGt, oGe, oSub, oMul, oMod, oFdiv, oPow, oAdd, oAddL, oI, oI0, oIsB, oNotB, oUpper, cellOf?, ren, oIn, oNin, oInF, Nat.reduceSub, Nat.reduceAdd, List.reduceReplicate, true_and, if_true, if_false, Bool.false_eq_true, ite_true, ite_false, eq_self, decide_true, decide_false, Bool.not_true, Bool.not_false, id, oEq, oNe, oEqF, now_val, eqD_str, eqD_int, eqD_nn, T_par, T_par3, T_fld, T_setF, T_make, T_meth, T_isi, T_raise0, T_raise1, T_try, T_tryAs, T_exf, T_asgN, setN, setNs, argsOf, oModN, oIsiI, oOwnB, oOwnE, oOwnN, oOwnG, oTup, oNeg, oI, oI0, insOf_ins, insOf_int, sub_R, rat, lk1, lk2, true_or, or_true, ne_eq, not_false_eq_true, oIntS, oStr0C, T_sm1, oSplit, oNotN, oIsN, T_cmeth]
    refine ⟨by decide, by decide, fun da => ⟨by decide, ?_⟩⟩
    have nt : ∀ l : List Nat, l = [] ∨ l = [45] ∨ l = [47] → ¬ IsTx (mkS l) := by
      rintro l hl ⟨t, b, hn, he⟩
      have e1 : l = txtL t b := mk_inj he
      have z := strip_parts t b
      rw [← e1] at z
      have h0 : ∃ r, cutP (stripL l) = [] :: r := by
        rcases hl with rfl | rfl | rfl <;> exact ⟨_, rfl⟩
      obtain ⟨r, h0⟩ := h0
      rw [h0] at z
      split at z <;> (injection z with z _; exact TL.numL_ne _ z.symm)
    have e1 : ("" : Str) = mkS [] := by decide +kernel
    have e2 : ("-" : Str) = mkS [45] := by decide +kernel
    have e3 : ("/" : Str) = mkS [47] := by decide +kernel
    refine ⟨fun i acc μ => μ = [.draw n] ∧ acc = [], ⟨rfl, rfl⟩, fun i acc μ hi q => ?_, ?_, ?_, ?_⟩
    · rw [q.2]; exact Nat.zero_le _
    · decide
    · rintro i x acc μ hx ⟨rfl, rfl⟩
      have hx2 := List.mem_of_getElem? hx
      simp only [List.mem_cons, List.not_mem_nil, or_false] at hx2
      have text : ∀ z : Str, z.length ≤ 400 → ¬ IsTx z → x = .str z → ((∃ z, x = .str z ∧ z.length ≤ 400 ∧ (¬ IsTx z)) ∨ ((∃ t, x.kind = some t) ∧ (∀ z, x ≠ .str z))) := fun z h1 h2 h3 => .inl ⟨z, h3, h1, h2⟩
      have hc : (∃ z, x = .str z ∧ z.length ≤ 400 ∧ (¬ IsTx z)) ∨ ((∃ t, x.kind = some t) ∧ (∀ z, x ≠ .str z)) := by
        rcases hx2 with rfl | rfl | rfl | rfl | rfl | rfl | rfl | rfl | rfl
        · exact .inr ⟨⟨_, rfl⟩, fun z h => by cases h⟩
        · exact .inr ⟨⟨_, rfl⟩, fun z h => by cases h⟩
        · exact .inr ⟨⟨_, rfl⟩, fun z h => by cases h⟩
        · exact .inr ⟨⟨_, rfl⟩, fun z h => by cases h⟩
        · exact .inr ⟨⟨_, rfl⟩, fun z h => by cases h⟩
        · exact .inr ⟨⟨_, rfl⟩, fun z h => by cases h⟩
        · exact text _ (by decide) (by rw [e1]; exact nt _ (.inl rfl)) rfl
        · exact text _ (by decide) (by rw [e2]; exact nt _ (.inr (.inl rfl))) rfl
        · exact text _ (by decide) (by rw [e3]; exact nt _ (.inr (.inr rfl))) rfl
      simp only [T_seq, T_dic0, T_cut, T_ret, T_asg, T_drop, T_ifS, T_next, T_var, T_c, T_nil, T_cons, T_op, T_un, T_cb, T_t, T_chain, T_and, T_or, T_not, T_andV, T_orV, T_notV, T_if, T_tup, T_lst, T_lstC, T_no, T_part, T_sl, T_slC, S_seq, S_range1, S_range2, T_lc, T_lcC, T_for, T_while, T_setIx, T_call, T_callS, T_start, T_m0, T_yes, T_asgT, vals?, pick_nil, pick_cons, setT, setAll, wipeD, List.getElem?_cons_zero, List.getElem?_cons_succ, List.set_cons_zero, List.set_cons_succ, List.cons_append, List.nil_append, List.append_nil, List.length_cons, List.length_nil, List.map_cons, List.map_nil, oIsi, oLen, oAbs, oInt, oAll, oAny, oAllF, oList, oSum, oIx, oSl, oLt, oLe, oGt, oGe, oSub, oMul, oMod, oFdiv, oPow, oAdd, oAddL, oI, oI0, oIsB, oNotB, oUpper, cellOf?, ren, oIn, oNin, oInF, Nat.reduceSub, Nat.reduceAdd, List.reduceReplicate, true_and, if_true, if_false, Bool.false_eq_true, ite_true, ite_false, eq_self, decide_true, decide_false, Bool.not_true, Bool.not_false, id, oEq, oNe, oEqF, now_val, eqD_str, eqD_int, eqD_nn, T_par, T_par3, T_fld, T_setF, T_make, T_meth, T_isi, T_raise0, T_raise1, T_try, T_tryAs, T_exf, T_asgN, setN, setNs, argsOf, oModN, oIsiI, oOwnB, oOwnE, oOwnN, oOwnG, oTup, oNeg, oI, oI0, insOf_ins, insOf_int, sub_R, rat, lk1, lk2, true_or, or_true, ne_eq, not_false_eq_true, oIntS, oStr0C, T_sm1, oSplit, oNotN, oIsN, T_cmeth]
      rcases hc with ⟨z, rfl, h1, h2⟩ | ⟨h1, h2⟩
      · refine ⟨_, rfl, .inl ⟨z, rfl, h1, fun h => absurd h h2, fun _ => ?_⟩⟩
        simp only [T_seq, T_dic0, T_cut, T_ret, T_asg, T_drop, T_ifS, T_next, T_var, T_c, T_nil, T_cons, T_op, T_un, T_cb, T_t, T_chain, T_and, T_or, T_not, T_andV, T_orV, T_notV, T_if, T_tup, T_lst, T_lstC, T_no, T_part, T_sl, T_slC, S_seq, S_range1, S_range2, T_lc, T_lcC, T_for, T_while, T_setIx, T_call, T_callS, T_start, T_m0, T_yes, T_asgT, vals?, pick_nil, pick_cons, setT, setAll, wipeD, List.getElem?_cons_zero, List.getElem?_cons_succ, List.set_cons_zero, List.set_cons_succ, List.cons_append, List.nil_append, List.append_nil, List.length_cons, List.length_nil, List.map_cons, List.map_nil, oIsi, oLen, oAbs, oInt, oAll, oAny, oAllF, oList, oSum, oIx, oSl, oLt, oLe, oGt, oGe, oSub, oMul, oMod, oFdiv, oPow, oAdd, oAddL, oI, oI0, oIsB, oNotB, oUpper, cellOf?, ren, oIn, oNin, oInF, Nat.reduceSub, Nat.reduceAdd, List.reduceReplicate, true_and, if_true, if_false, Bool.false_eq_true, ite_true, ite_false, eq_self, decide_true, decide_false, Bool.not_true, Bool.not_false, id, oEq, oNe, oEqF, now_val, eqD_str, eqD_int, eqD_nn, T_par, T_par3, T_fld, T_setF, T_make, T_meth, T_isi, T_raise0, T_raise1, T_try, T_tryAs, T_exf, T_asgN, setN, setNs, argsOf, oModN, oIsiI, oOwnB, oOwnE, oOwnN, oOwnG, oTup, oNeg, oI, oI0, insOf_ins, insOf_int, sub_R, rat, lk1, lk2, true_or, or_true, ne_eq, not_false_eq_true, oIntS, oStr0C, T_sm1, oSplit, oNotN, oIsN, T_cmeth, oNotN]
      · refine ⟨_, rfl, .inr ⟨h1, h2, ?_⟩⟩
        simp only [T_seq, T_dic0, T_cut, T_ret, T_asg, T_drop, T_ifS, T_next, T_var, T_c, T_nil, T_cons, T_op, T_un, T_cb, T_t, T_chain, T_and, T_or, T_not, T_andV, T_orV, T_notV, T_if, T_tup, T_lst, T_lstC, T_no, T_part, T_sl, T_slC, S_seq, S_range1, S_range2, T_lc, T_lcC, T_for, T_while, T_setIx, T_call, T_callS, T_start, T_m0, T_yes, T_asgT, vals?, pick_nil, pick_cons, setT, setAll, wipeD, List.getElem?_cons_zero, List.getElem?_cons_succ, List.set_cons_zero, List.set_cons_succ, List.cons_append, List.nil_append, List.append_nil, List.length_cons, List.length_nil, List.map_cons, List.map_nil, oIsi, oLen, oAbs, oInt, oAll, oAny, oAllF, oList, oSum, oIx, oSl, oLt, oLe, oGt, oGe, oSub, oMul, oMod, oFdiv, oPow, oAdd, oAddL, oI, oI0, oIsB, oNotB, oUpper, cellOf?, ren, oIn, oNin, oInF, Nat.reduceSub, Nat.reduceAdd, List.reduceReplicate, true_and, if_true, if_false, Bool.false_eq_true, ite_true, ite_false, eq_self, decide_true, decide_false, Bool.not_true, Bool.not_false, id, oEq, oNe, oEqF, now_val, eqD_str, eqD_int, eqD_nn, T_par, T_par3, T_fld, T_setF, T_make, T_meth, T_isi, T_raise0, T_raise1, T_try, T_tryAs, T_exf, T_asgN, setN, setNs, argsOf, oModN, oIsiI, oOwnB, oOwnE, oOwnN, oOwnG, oTup, oNeg, oI, oI0, insOf_ins, insOf_int, sub_R, rat, lk1, lk2, true_or, or_true, ne_eq, not_false_eq_true, oIntS, oStr0C, T_sm1, oSplit, oNotN, oIsN, T_cmeth, oNotN]
    · rintro acc μ ⟨rfl, rfl⟩
      simp only [T_seq, T_dic0, T_cut, T_ret, T_asg, T_drop, T_ifS, T_next, T_var, T_c, T_nil, T_cons, T_op, T_un, T_cb, T_t, T_chain, T_and, T_or, T_not, T_andV, T_orV, T_notV, T_if, T_tup, T_lst, T_lstC, T_no, T_part, T_sl, T_slC, S_seq, S_range1, S_range2, T_lc, T_lcC, T_for, T_while, T_setIx, T_call, T_callS, T_start, T_m0, T_yes, T_asgT, vals?, pick_nil, pick_cons, setT, setAll, wipeD, List.getElem?_cons_zero, List.getElem?_cons_succ, List.set_cons_zero, List.set_cons_succ, List.cons_append, List.nil_append, List.append_nil, List.length_cons, List.length_nil, List.map_cons, List.map_nil, oIsi, oLen, oAbs, oInt, oAll, oAny, oAllF, oList, oSum, oIx, oSl, oLt, oLe, oGt, oGe, oSub, oMul, oMod, oFdiv, oPow, oAdd, oAddL, oI, oI0, oIsB, oNotB, oUpper, cellOf?, ren, oIn, oNin, oInF, Nat.reduceSub, Nat.reduceAdd, List.reduceReplicate, true_and, if_true, if_false, Bool.false_eq_true, ite_true, ite_false, eq_self, decide_true, decide_false, Bool.not_true, Bool.not_false, id, oEq, oNe, oEqF, now_val, eqD_str, eqD_int, eqD_nn, T_par, T_par3, T_fld, T_setF, T_make, T_meth, T_isi, T_raise0, T_raise1, T_try, T_tryAs, T_exf, T_asgN, setN, setNs, argsOf, oModN, oIsiI, oOwnB, oOwnE, oOwnN, oOwnG, oTup, oNeg, oI, oI0, insOf_ins, insOf_int, sub_R, rat, lk1, lk2, true_or, or_true, ne_eq, not_false_eq_true, oIntS, oStr0C, T_sm1, oSplit, oNotN, oIsN, T_cmeth]
      exact ⟨by decide, hk _⟩
end My
namespace My
open PySem PySem.Spec PyProof.Rows L2 Dv
theorem all_mk {l : PySem.W.OpenLaw} {w : World} {K : PySem.W.Frag} {h : Heap} {mg : Str → Option Value} {fa : Addr} (X : K.In h) (G : h.Ns mainGlobals mg) (hfa : mg "law" = some (.ref fa)) (hsup : (l.prog.main.scope.names.lookup ("super" : Str)).isSome = false)
    {c_Ratio : Addr} {c_ByZero : Addr} {c_RainError : Addr} {c_BadNumber : Addr} {c_BadText : Addr} {nmBadNumber qBadNumber : Str} {NBadNumber : Addr} {bsBadNumber : List Value} {snBadNumber : List Str} {subBadNumber : List Value} {abBadNumber : Bool} {colBadNumber : Option Bool} {ddBadNumber : Option Addr} {k0BadNumber k1BadNumber k2BadNumber k3BadNumber k5BadNumber : Option Value} {i_BadNumber : Addr} {ocBadNumber kVBadNumber dcBadNumber pmBadNumber ctBadNumber : Value} {odBadNumber anBadNumber : Option Addr} {cdaBadNumber ccBadNumber : Addr} {slBadNumber : Array (Option Value)} {cclBadNumber clBadNumber : Value} {cddBadNumber cldBadNumber : Option Addr} {vsBadNumber : Array Value} {ccsBadNumber cslBadNumber : Array (Option Value)} {fileBadNumber : Str} {tfBadNumber : Nat} {cdBadNumber : ClassData} {f0 f1 f2 f3 f4 f5 f6 f7 f8 f9 f10 f11 f12 f13 f14 f15 f16 : Addr} {od0 an0 od1 an1 od2 an2 od3 an3 od4 an4 od5 an5 od6 an6 od7 an7 od8 an8 od9 an9 od10 an10 od11 an11 od12 an12 od13 an13 od14 an14 od15 an15 od16 an16 : Option Addr} {sl0 sl1 sl2 sl3 sl4 sl5 sl6 sl7 sl8 sl9 sl10 sl11 sl12 sl13 sl14 sl15 sl16 : Array (Option Value)} {oc0 kV0 dc0 pm0 cd0 ct0 oc1 kV1 dc1 pm1 cd1 ct1 oc2 kV2 dc2 pm2 cd2 ct2 oc3 kV3 dc3 pm3 cd3 ct3 oc4 kV4 dc4 pm4 cd4 ct4 oc5 kV5 dc5 pm5 cd5 ct5 oc6 kV6 dc6 pm6 cd6 ct6 oc7 kV7 dc7 pm7 cd7 ct7 oc8 kV8 dc8 pm8 cd8 ct8 oc9 kV9 dc9 pm9 cd9 ct9 oc10 kV10 dc10 pm10 cd10 ct10 oc11 kV11 dc11 pm11 cd11 ct11 oc12 kV12 dc12 pm12 cd12 ct12 oc13 kV13 dc13 pm13 cd13 ct13 oc14 kV14 dc14 pm14 cd14 ct14 oc15 kV15 dc15 pm15 cd15 ct15 oc16 kV16 dc16 pm16 cd16 ct16 : Value} {T2 : Addr} {ot2 : Option Addr} {oct2 : Value} {slt2 : Array (Option Value)} {nt2 tt2 : Nat} {pc6 : Addr} {rs6 : List Value}
    (gc_Ratio : PySem.W.nsIn K mainGlobals "Ratio" = some (some (.ref c_Ratio)))
    (gc_ByZero : PySem.W.nsIn K mainGlobals "ByZero" = some (some (.ref c_ByZero)))
    (gc_RainError : PySem.W.nsIn K mainGlobals "RainError" = some (some (.ref c_RainError)))
    (gc_BadNumber : PySem.W.nsIn K mainGlobals "BadNumber" = some (some (.ref c_BadNumber)))
    (gc_BadText : PySem.W.nsIn K mainGlobals "BadText" = some (some (.ref c_BadText)))
    (gsn : PySem.W.specialIn K (.builtin "object.__class__") "__get__" = some (some (.builtin "getset_descriptor.__get__")))
    (gtk : PySem.W.takesIn K (.builtin "object.__class__") = some true)
    (pg_Ratio : PySem.W.plainGet K c_Ratio Str.empty = true)
    (hd_Ratio : PySem.W.hasDictIn K c_Ratio = true)
    (po_Ratio : PySem.W.plainOver K c_Ratio = true)
    (sa_Ratio : PySem.W.findIn K (.ref c_Ratio) "__setattr__" = some (some (.builtin "object.__setattr__")))
    (ha_Ratio : PySem.W.findIn K (.ref c_Ratio) "__class__" = some (some (.builtin "object.__class__")))
    (mo_Ratio : PySem.W.mroIn K c_Ratio (.type "object") = some true)
    (ka_Ratio_NoneType : PySem.W.kitOne K (.ref c_Ratio) (.type "NoneType") = some false)
    (kb_Ratio_NoneType : PySem.W.kitOne K (.type "NoneType") (.ref c_Ratio) = some false)
    (ka_Ratio_bool : PySem.W.kitOne K (.ref c_Ratio) (.type "bool") = some false)
    (kb_Ratio_bool : PySem.W.kitOne K (.type "bool") (.ref c_Ratio) = some false)
    (ka_Ratio_int : PySem.W.kitOne K (.ref c_Ratio) (.type "int") = some false)
    (kb_Ratio_int : PySem.W.kitOne K (.type "int") (.ref c_Ratio) = some false)
    (ka_Ratio_str : PySem.W.kitOne K (.ref c_Ratio) (.type "str") = some false)
    (kb_Ratio_str : PySem.W.kitOne K (.type "str") (.ref c_Ratio) = some false)
    (ka_Ratio_list : PySem.W.kitOne K (.ref c_Ratio) (.type "list") = some false)
    (kb_Ratio_list : PySem.W.kitOne K (.type "list") (.ref c_Ratio) = some false)
    (ka_Ratio_tuple : PySem.W.kitOne K (.ref c_Ratio) (.type "tuple") = some false)
    (kb_Ratio_tuple : PySem.W.kitOne K (.type "tuple") (.ref c_Ratio) = some false)
    (ka_Ratio_dict : PySem.W.kitOne K (.ref c_Ratio) (.type "dict") = some false)
    (kb_Ratio_dict : PySem.W.kitOne K (.type "dict") (.ref c_Ratio) = some false)
    (ko_Ratio_Ratio : PySem.W.kitOne K (.ref c_Ratio) (.ref c_Ratio) = some true)
    (mm_Ratio : PySem.W.makesIn K c_Ratio = true)
    (mk_Ratio : PySem.W.keepIn K (.ref c_Ratio) = true)
    (na_Ratio_top : PySem.W.findIn K (.ref c_Ratio) "top" = some none)
    (na_Ratio_bottom : PySem.W.findIn K (.ref c_Ratio) "bottom" = some none)
    (xe_ByZero : PySem.W.excIn K c_ByZero [.type "ValueError", .type "Exception", .type "BaseException", .type "object"] "ValueError.__new__" = true)
    (xe_BadText : PySem.W.excIn K c_BadText [.type "ValueError", .type "Exception", .type "BaseException", .type "object"] "ValueError.__new__" = true)
    (xk_ByZero : PySem.W.keepIn K (.ref c_ByZero) = true)
    (xb_ByZero : PySem.W.subIn K (.ref c_ByZero) (.type "BaseException") = some true)
    (xt_ByZero : PySem.W.typeIn K (.ref c_ByZero) = some (.type "type"))
    (xk_BadText : PySem.W.keepIn K (.ref c_BadText) = true)
    (xb_BadText : PySem.W.subIn K (.ref c_BadText) (.type "BaseException") = some true)
    (xt_BadText : PySem.W.typeIn K (.ref c_BadText) = some (.type "type"))
    (xk_BadNumber : PySem.W.keepIn K (.ref c_BadNumber) = true)
    (xb_BadNumber : PySem.W.subIn K (.ref c_BadNumber) (.type "BaseException") = some true)
    (xt_BadNumber : PySem.W.typeIn K (.ref c_BadNumber) = some (.type "type"))
    (ee_ByZero_BadText : PySem.W.exmOne K (.ref c_ByZero) (.ref c_BadText) = some false)
    (ee_BadText_BadText : PySem.W.exmOne K (.ref c_BadText) (.ref c_BadText) = some true)
    (ee_BadNumber_BadText : PySem.W.exmOne K (.ref c_BadNumber) (.ref c_BadText) = some false)
    (xl_BadNumber : K.lookup c_BadNumber = some (excClassObj nmBadNumber qBadNumber c_BadNumber NBadNumber bsBadNumber [.ref c_RainError, .type "ValueError", .type "Exception", .type "BaseException", .type "object"] true snBadNumber subBadNumber abBadNumber colBadNumber ddBadNumber k0BadNumber k1BadNumber k2BadNumber k3BadNumber k5BadNumber "ValueError.__new__"))
    (xs_BadNumber : PySem.W.findIn K (.ref c_BadNumber) "__setattr__" = some (some (.builtin "object.__setattr__")))
    (xa_BadNumber : PySem.W.findIn K (.ref c_BadNumber) "__getattribute__" = some (some (.builtin "BaseException.__getattribute__")))
    (xg_BadNumber : PySem.W.findIn K (.ref c_BadNumber) "__getattr__" = some none)
    (xd_BadNumber : PySem.W.hasDictIn K c_BadNumber = true)
    (xn_BadNumber : PySem.W.findIn K (.ref c_BadNumber) "value" = some none)
    (xi_BadNumber : PySem.W.findIn K (.ref c_BadNumber) "__init__" = some (some (.ref i_BadNumber)))
    (xy_BadNumber : PySem.W.typeIn K (.ref i_BadNumber) = some (.type "function"))
    (xf_BadNumber : K.lookup i_BadNumber = some ⟨ocBadNumber, odBadNumber, .func (PySem.W.ksFn "__init__" "BadNumber.__init__" (defArgs s_BadNumber) (defBody s_BadNumber) (defScope s_BadNumber) .none kVBadNumber dcBadNumber pmBadNumber anBadNumber (.ref cdaBadNumber) ctBadNumber ccBadNumber), slBadNumber⟩)
    (xc_BadNumber : PySem.W.codeIn K (.ref cdaBadNumber) "BadNumber.__init__" = true)
    (xo_BadNumber : K.lookup cdaBadNumber = some ⟨cclBadNumber, cddBadNumber, .fields vsBadNumber, ccsBadNumber⟩)
    (xv_BadNumber : vsBadNumber[2]? = some (.str fileBadNumber tfBadNumber))
    (xw_BadNumber : ((l.prog.main.file : Str) == fileBadNumber) = true)
    (xx_BadNumber : K.lookup ccBadNumber = some ⟨clBadNumber, cldBadNumber, .cell (some (.ref c_BadNumber)), cslBadNumber⟩)
    (xz_BadNumber : PySem.W.clsIn K c_BadNumber = some cdBadNumber)
    (xm_BadNumber : PySem.W.mroIn K c_BadNumber (.ref c_BadNumber) = some true)
    (xu_BadNumber : PySem.W.ks_superIn K c_BadNumber c_BadNumber "__init__" = some (some (.builtin "ValueError.__init__")))
    (xV_BadNumber : PySem.W.subIn K (.ref c_BadNumber) (.type "ValueError") = some true)
    (xO_BadNumber : PySem.W.nsIn K cStatics "thirdparty.any" = some none)
    (a0 : PySem.W.nsIn K mainGlobals "common_divisor" = some (some (.ref f0)))
    (l0 : K.lookup f0 = some ⟨oc0, od0, .func (PySem.W.fnOf "common_divisor" "common_divisor" (defArgs s_common_divisor) (defBody s_common_divisor) (defScope s_common_divisor) .none kV0 dc0 pm0 an0 cd0 ct0), sl0⟩)
    (c0 : PySem.W.codeIn K cd0 "common_divisor" = true)
    (k0 : PySem.W.keepIn K (.ref f0) = true)
    (a1 : PySem.W.nsIn K mainGlobals "is_integer" = some (some (.ref f1)))
    (l1 : K.lookup f1 = some ⟨oc1, od1, .func (PySem.W.fnOf "is_integer" "is_integer" (defArgs s_is_integer) (defBody s_is_integer) (defScope s_is_integer) .none kV1 dc1 pm1 an1 cd1 ct1), sl1⟩)
    (c1 : PySem.W.codeIn K cd1 "is_integer" = true)
    (k1 : PySem.W.keepIn K (.ref f1) = true)
    (a2 : PySem.W.findIn K (.ref c_Ratio) "__init__" = some (some (.ref f2)))
    (l2 : K.lookup f2 = some ⟨oc2, od2, .func (PySem.W.fnOf "__init__" "Ratio.__init__" (defArgs s_Ratio_init) (defBody s_Ratio_init) (defScope s_Ratio_init) (.ref T2) kV2 dc2 pm2 an2 cd2 ct2), sl2⟩)
    (c2 : PySem.W.codeIn K cd2 "Ratio.__init__" = true)
    (i2 : PySem.W.isFn K (.ref f2) = true)
    (d2 : K.lookup T2 = some ⟨oct2, ot2, .seq #[.int 1 tt2] nt2, slt2⟩)
    (a3 : PySem.W.findIn K (.ref c_Ratio) "__mul__" = some (some (.ref f3)))
    (l3 : K.lookup f3 = some ⟨oc3, od3, .func (PySem.W.fnOf "__mul__" "Ratio.__mul__" (defArgs s_Ratio_mul) (defBody s_Ratio_mul) (defScope s_Ratio_mul) .none kV3 dc3 pm3 an3 cd3 ct3), sl3⟩)
    (c3 : PySem.W.codeIn K cd3 "Ratio.__mul__" = true)
    (k3 : PySem.W.keepIn K (.ref f3) = true)
    (i3 : PySem.W.isFn K (.ref f3) = true)
    (os3 : PySem.W.selfFirst K c_Ratio = true)
    (or3 : PySem.W.findIn K (.ref c_Ratio) "__rmul__" = some none)
    (oi3 : PySem.W.subIn K (.type "int") (.ref c_Ratio) = some false)
    (a4 : PySem.W.findIn K (.ref c_Ratio) "__eq__" = some (some (.ref f4)))
    (l4 : K.lookup f4 = some ⟨oc4, od4, .func (PySem.W.fnOf "__eq__" "Ratio.__eq__" (defArgs s_Ratio_eq) (defBody s_Ratio_eq) (defScope s_Ratio_eq) .none kV4 dc4 pm4 an4 cd4 ct4), sl4⟩)
    (c4 : PySem.W.codeIn K cd4 "Ratio.__eq__" = true)
    (k4 : PySem.W.keepIn K (.ref f4) = true)
    (i4 : PySem.W.isFn K (.ref f4) = true)
    (on4 : PySem.W.findIn K (.ref c_Ratio) "__ne__" = some (some (.builtin "object.__ne__")))
    (of4_NoneType : PySem.W.notFirst K c_Ratio (.type "NoneType") = true)
    (of4_bool : PySem.W.notFirst K c_Ratio (.type "bool") = true)
    (of4_int : PySem.W.notFirst K c_Ratio (.type "int") = true)
    (of4_str : PySem.W.notFirst K c_Ratio (.type "str") = true)
    (of4_list : PySem.W.notFirst K c_Ratio (.type "list") = true)
    (of4_tuple : PySem.W.notFirst K c_Ratio (.type "tuple") = true)
    (of4_dict : PySem.W.notFirst K c_Ratio (.type "dict") = true)
    (oj4 : PySem.W.subIn K (.ref c_Ratio) (.type "int") = some false)
    (a5 : PySem.W.findIn K (.ref c_Ratio) "__str__" = some (some (.ref f5)))
    (l5 : K.lookup f5 = some ⟨oc5, od5, .func (PySem.W.fnOf "__str__" "Ratio.__str__" (defArgs s_Ratio_str) (defBody s_Ratio_str) (defScope s_Ratio_str) .none kV5 dc5 pm5 an5 cd5 ct5), sl5⟩)
    (c5 : PySem.W.codeIn K cd5 "Ratio.__str__" = true)
    (k5 : PySem.W.keepIn K (.ref f5) = true)
    (i5 : PySem.W.isFn K (.ref f5) = true)
    (rd_Ratio : PySem.W.readsIn K c_Ratio (.type "type") = true)
    (rg_Ratio : PySem.W.specialIn K (.ref c_Ratio) "__getattribute__" = some (some (.builtin "type.__getattribute__")))
    (p6 : PySem.W.findCls K (.ref c_Ratio) (.type "type") "read" = some (.get (.builtin "classmethod.__get__") (.ref pc6) .none (.ref c_Ratio)))
    (a6 : PySem.W.recIn K pc6 "classmethod" = some (.ref f6 :: rs6))
    (i6 : PySem.W.fnIn K f6 = true)
    (l6 : K.lookup f6 = some ⟨oc6, od6, .func (PySem.W.fnOf "read" "Ratio.read" (defArgs s_Ratio_read) (defBody s_Ratio_read) (defScope s_Ratio_read) .none kV6 dc6 pm6 an6 cd6 ct6), sl6⟩)
    (c6 : PySem.W.codeIn K cd6 "Ratio.read" = true)
    (k6 : PySem.W.keepIn K (.ref f6) = true)
    (a7 : PySem.W.nsIn K mainGlobals "as_ratio" = some (some (.ref f7)))
    (l7 : K.lookup f7 = some ⟨oc7, od7, .func (PySem.W.fnOf "as_ratio" "as_ratio" (defArgs s_as_ratio) (defBody s_as_ratio) (defScope s_as_ratio) .none kV7 dc7 pm7 an7 cd7 ct7), sl7⟩)
    (c7 : PySem.W.codeIn K cd7 "as_ratio" = true)
    (k7 : PySem.W.keepIn K (.ref f7) = true)
    (a8 : PySem.W.nsIn K mainGlobals "_law_start" = some (some (.ref f8)))
    (l8 : K.lookup f8 = some ⟨oc8, od8, .func (PySem.W.fnOf "_law_start" "_law_start" (defArgs s_law_start) (defBody s_law_start) (defScope s_law_start) .none kV8 dc8 pm8 an8 cd8 ct8), sl8⟩)
    (c8 : PySem.W.codeIn K cd8 "_law_start" = true)
    (k8 : PySem.W.keepIn K (.ref f8) = true)
    (a9 : PySem.W.nsIn K mainGlobals "_law_draw" = some (some (.ref f9)))
    (l9 : K.lookup f9 = some ⟨oc9, od9, .func (PySem.W.fnOf "_law_draw" "_law_draw" (defArgs s_law_draw) (defBody s_law_draw) (defScope s_law_draw) .none kV9 dc9 pm9 an9 cd9 ct9), sl9⟩)
    (c9 : PySem.W.codeIn K cd9 "_law_draw" = true)
    (k9 : PySem.W.keepIn K (.ref f9) = true)
    (a10 : PySem.W.nsIn K mainGlobals "_law_divisor" = some (some (.ref f10)))
    (l10 : K.lookup f10 = some ⟨oc10, od10, .func (PySem.W.fnOf "_law_divisor" "_law_divisor" (defArgs s_law_divisor) (defBody s_law_divisor) (defScope s_law_divisor) .none kV10 dc10 pm10 an10 cd10 ct10), sl10⟩)
    (c10 : PySem.W.codeIn K cd10 "_law_divisor" = true)
    (k10 : PySem.W.keepIn K (.ref f10) = true)
    (a11 : PySem.W.nsIn K mainGlobals "_law_text" = some (some (.ref f11)))
    (l11 : K.lookup f11 = some ⟨oc11, od11, .func (PySem.W.fnOf "_law_text" "_law_text" (defArgs s_law_text) (defBody s_law_text) (defScope s_law_text) .none kV11 dc11 pm11 an11 cd11 ct11), sl11⟩)
    (c11 : PySem.W.codeIn K cd11 "_law_text" = true)
    (k11 : PySem.W.keepIn K (.ref f11) = true)
    (a12 : PySem.W.nsIn K mainGlobals "_law_whole" = some (some (.ref f12)))
    (l12 : K.lookup f12 = some ⟨oc12, od12, .func (PySem.W.fnOf "_law_whole" "_law_whole" (defArgs s_law_whole) (defBody s_law_whole) (defScope s_law_whole) .none kV12 dc12 pm12 an12 cd12 ct12), sl12⟩)
    (c12 : PySem.W.codeIn K cd12 "_law_whole" = true)
    (k12 : PySem.W.keepIn K (.ref f12) = true)
    (a13 : PySem.W.nsIn K mainGlobals "_law_is_text" = some (some (.ref f13)))
    (l13 : K.lookup f13 = some ⟨oc13, od13, .func (PySem.W.fnOf "_law_is_text" "_law_is_text" (defArgs s_law_is_text) (defBody s_law_is_text) (defScope s_law_is_text) .none kV13 dc13 pm13 an13 cd13 ct13), sl13⟩)
    (c13 : PySem.W.codeIn K cd13 "_law_is_text" = true)
    (k13 : PySem.W.keepIn K (.ref f13) = true)
    (a14 : PySem.W.nsIn K mainGlobals "_law_read" = some (some (.ref f14)))
    (l14 : K.lookup f14 = some ⟨oc14, od14, .func (PySem.W.fnOf "_law_read" "_law_read" (defArgs s_law_read) (defBody s_law_read) (defScope s_law_read) .none kV14 dc14 pm14 an14 cd14 ct14), sl14⟩)
    (c14 : PySem.W.codeIn K cd14 "_law_read" = true)
    (k14 : PySem.W.keepIn K (.ref f14) = true)
    (a15 : PySem.W.nsIn K mainGlobals "_law_near" = some (some (.ref f15)))
    (l15 : K.lookup f15 = some ⟨oc15, od15, .func (PySem.W.fnOf "_law_near" "_law_near" (defArgs s_law_near) (defBody s_law_near) (defScope s_law_near) .none kV15 dc15 pm15 an15 cd15 ct15), sl15⟩)
    (c15 : PySem.W.codeIn K cd15 "_law_near" = true)
    (k15 : PySem.W.keepIn K (.ref f15) = true)
    (a16 : PySem.W.nsIn K mainGlobals "law" = some (some (.ref f16)))
    (l16 : K.lookup f16 = some ⟨oc16, od16, .func (PySem.W.fnOf "law" "law" (defArgs s_law) (defBody s_law) (defScope s_law) .none kV16 dc16 pm16 an16 cd16 ct16), sl16⟩)
    (c16 : PySem.W.codeIn K cd16 "law" = true)
    (k16 : PySem.W.keepIn K (.ref f16) = true)
    (n_abs : PySem.W.nsIn K mainGlobals "abs" = some none)
    (n_isinstance : PySem.W.nsIn K mainGlobals "isinstance" = some none)
    (n_int : PySem.W.nsIn K mainGlobals "int" = some none)
    (n_bool : PySem.W.nsIn K mainGlobals "bool" = some none)
    (n_str : PySem.W.nsIn K mainGlobals "str" = some none)
    (n_len : PySem.W.nsIn K mainGlobals "len" = some none)
    (n_all : PySem.W.nsIn K mainGlobals "all" = some none)
    (n_sum : PySem.W.nsIn K mainGlobals "sum" = some none)
    (n_list : PySem.W.nsIn K mainGlobals "list" = some none)
    (n_range : PySem.W.nsIn K mainGlobals "range" = some none)
    (n_super : PySem.W.nsIn K mainGlobals "super" = some none)
    : ∃ (fd : FuncData) (cl : Nat → Addr), (∀ (s : Shared) (v : Value), BindsTo s fd ⟨[v], []⟩ [("_law_script", v)]) ∧ ∀ base : Heap, K.In base → base.Ns mainGlobals mg → FnG l.prog w K mg base 6 fa fd ["_law_script"] (spOf ⟨K, cl⟩ (ctP cLaw)) := by
  have e := hfa.symm.trans (PySem.W.mg_of X G a16)
  cases e
  let A : Ad := ⟨c_Ratio, c_ByZero, c_RainError, c_BadNumber, c_BadText, i_BadNumber, (PySem.W.ksFn "__init__" "BadNumber.__init__" (defArgs s_BadNumber) (defBody s_BadNumber) (defScope s_BadNumber) .none kVBadNumber dcBadNumber pmBadNumber anBadNumber (.ref cdaBadNumber) ctBadNumber ccBadNumber), f0, (PySem.W.fnOf "common_divisor" "common_divisor" (defArgs s_common_divisor) (defBody s_common_divisor) (defScope s_common_divisor) .none kV0 dc0 pm0 an0 cd0 ct0), f1, (PySem.W.fnOf "is_integer" "is_integer" (defArgs s_is_integer) (defBody s_is_integer) (defScope s_is_integer) .none kV1 dc1 pm1 an1 cd1 ct1), f2, (PySem.W.fnOf "__init__" "Ratio.__init__" (defArgs s_Ratio_init) (defBody s_Ratio_init) (defScope s_Ratio_init) (.ref T2) kV2 dc2 pm2 an2 cd2 ct2), f3, (PySem.W.fnOf "__mul__" "Ratio.__mul__" (defArgs s_Ratio_mul) (defBody s_Ratio_mul) (defScope s_Ratio_mul) .none kV3 dc3 pm3 an3 cd3 ct3), f4, (PySem.W.fnOf "__eq__" "Ratio.__eq__" (defArgs s_Ratio_eq) (defBody s_Ratio_eq) (defScope s_Ratio_eq) .none kV4 dc4 pm4 an4 cd4 ct4), f5, (PySem.W.fnOf "__str__" "Ratio.__str__" (defArgs s_Ratio_str) (defBody s_Ratio_str) (defScope s_Ratio_str) .none kV5 dc5 pm5 an5 cd5 ct5), f6, (PySem.W.fnOf "read" "Ratio.read" (defArgs s_Ratio_read) (defBody s_Ratio_read) (defScope s_Ratio_read) .none kV6 dc6 pm6 an6 cd6 ct6), f7, (PySem.W.fnOf "as_ratio" "as_ratio" (defArgs s_as_ratio) (defBody s_as_ratio) (defScope s_as_ratio) .none kV7 dc7 pm7 an7 cd7 ct7), f8, (PySem.W.fnOf "_law_start" "_law_start" (defArgs s_law_start) (defBody s_law_start) (defScope s_law_start) .none kV8 dc8 pm8 an8 cd8 ct8), f9, (PySem.W.fnOf "_law_draw" "_law_draw" (defArgs s_law_draw) (defBody s_law_draw) (defScope s_law_draw) .none kV9 dc9 pm9 an9 cd9 ct9), f10, (PySem.W.fnOf "_law_divisor" "_law_divisor" (defArgs s_law_divisor) (defBody s_law_divisor) (defScope s_law_divisor) .none kV10 dc10 pm10 an10 cd10 ct10), f11, (PySem.W.fnOf "_law_text" "_law_text" (defArgs s_law_text) (defBody s_law_text) (defScope s_law_text) .none kV11 dc11 pm11 an11 cd11 ct11), f12, (PySem.W.fnOf "_law_whole" "_law_whole" (defArgs s_law_whole) (defBody s_law_whole) (defScope s_law_whole) .none kV12 dc12 pm12 an12 cd12 ct12), f13, (PySem.W.fnOf "_law_is_text" "_law_is_text" (defArgs s_law_is_text) (defBody s_law_is_text) (defScope s_law_is_text) .none kV13 dc13 pm13 an13 cd13 ct13), f14, (PySem.W.fnOf "_law_read" "_law_read" (defArgs s_law_read) (defBody s_law_read) (defScope s_law_read) .none kV14 dc14 pm14 an14 cd14 ct14), f15, (PySem.W.fnOf "_law_near" "_law_near" (defArgs s_law_near) (defBody s_law_near) (defScope s_law_near) .none kV15 dc15 pm15 an15 cd15 ct15), fa, (PySem.W.fnOf "law" "law" (defArgs s_law) (defBody s_law) (defScope s_law) .none kV16 dc16 pm16 an16 cd16 ct16)⟩
  have T : Tx K mg A := ⟨PySem.W.mg_of X G gc_Ratio,
    PySem.W.mg_of X G gc_ByZero,
    PySem.W.mg_of X G gc_RainError,
    PySem.W.mg_of X G gc_BadNumber,
    PySem.W.mg_of X G gc_BadText,
    ⟨pg_Ratio, hd_Ratio, po_Ratio, sa_Ratio⟩,
    ⟨⟨pg_Ratio, hd_Ratio, po_Ratio, sa_Ratio⟩, na_Ratio_top⟩,
    ⟨⟨pg_Ratio, hd_Ratio, po_Ratio, sa_Ratio⟩, na_Ratio_bottom⟩,
    ⟨kit7 kb_Ratio_NoneType kb_Ratio_bool kb_Ratio_int kb_Ratio_str kb_Ratio_list kb_Ratio_tuple kb_Ratio_dict, (fun c b e => by
    unfold sub_Ratio at e
    by_cases h1 : c = 1
    · subst h1; simp at e; subst e; exact ⟨⟨⟨pg_Ratio, hd_Ratio, po_Ratio, sa_Ratio⟩, ha_Ratio, gsn, gtk, mo_Ratio⟩, ko_Ratio_Ratio⟩
    simp only [h1, if_false] at e
    simp at e)⟩,
    (fun c e => by
    unfold insA at e
    simp at e
    subst e
    · exact ⟨⟨⟨pg_Ratio, hd_Ratio, po_Ratio, sa_Ratio⟩, ha_Ratio, gsn, gtk, mo_Ratio⟩, kit7 ka_Ratio_NoneType ka_Ratio_bool ka_Ratio_int ka_Ratio_str ka_Ratio_list ka_Ratio_tuple ka_Ratio_dict⟩),
    ⟨xe_ByZero, xk_ByZero, xb_ByZero, xt_ByZero⟩,
    ⟨xe_BadText, xk_BadText, xb_BadText, xt_BadText⟩,
    (fun c b e => by
    unfold exm_BadText at e
    by_cases h2 : c = 2
    · subst h2; simp at e; subst e; exact ee_ByZero_BadText
    simp only [h2, if_false] at e
    by_cases h5 : c = 5
    · subst h5; simp at e; subst e; exact ee_BadText_BadText
    simp only [h5, if_false] at e
    by_cases h3 : c = 3
    · subst h3; simp at e; subst e; exact ee_BadNumber_BadText
    simp only [h3, if_false] at e
    simp at e),
    ⟨⟨nmBadNumber, qBadNumber, NBadNumber, bsBadNumber, _, snBadNumber, subBadNumber, abBadNumber, colBadNumber, ddBadNumber, k0BadNumber, k1BadNumber, k2BadNumber, k3BadNumber, k5BadNumber, xl_BadNumber, rfl⟩, xs_BadNumber, xb_BadNumber, xt_BadNumber, xk_BadNumber⟩,
    xi_BadNumber,
    xy_BadNumber,
    .all (fun us hl => match us, hl with | [_, _], _ => rfl),
    ⟨xa_BadNumber, xg_BadNumber, xb_BadNumber, xd_BadNumber⟩,
    xn_BadNumber,
    fun_mk (st := s_common_divisor) l0 c0 k0,
    PySem.W.mg_of X G a0,
    fun_mk (st := s_is_integer) l1 c1 k1,
    PySem.W.mg_of X G a1,
    ⟨_, _, _, _, _, _, _, _, _, _, rfl, l2, c2⟩,
    kd_def (ud := [.int 1 tt2]) rfl d2 rfl Dfl.int1 (fun us ws h1 h2 => match us, ws, h1, h2 with | [_, _, _], [], _, _ => ⟨_, rfl, rfl⟩),
    kd_def (ud := [.int 1 tt2]) rfl d2 rfl Dfl.int1 (fun us ws h1 h2 => match us, ws, h1, h2 with | [_, _], [], _, _ => ⟨_, rfl, rfl⟩),
    ⟨mm_Ratio, a2, i2, mk_Ratio⟩,
    fun_mk (st := s_Ratio_mul) l3 c3 k3,
    ⟨os3, a3, i3, or3, oi3⟩,
    fun_mk (st := s_Ratio_eq) l4 c4 k4,
    ⟨a4, i4, on4, mo_Ratio, kit7 of4_NoneType of4_bool of4_int of4_str of4_list of4_tuple of4_dict, oj4⟩,
    fun_mk (st := s_Ratio_str) l5 c5 k5,
    ⟨a5, i5⟩,
    ⟨rd_Ratio, rg_Ratio⟩,
    fun_mk (st := s_Ratio_read) l6 c6 k6,
    ⟨_, p6, ⟨_, a6⟩, i6⟩,
    fun_mk (st := s_as_ratio) l7 c7 k7,
    PySem.W.mg_of X G a7,
    fun_mk (st := s_law_start) l8 c8 k8,
    PySem.W.mg_of X G a8,
    fun_mk (st := s_law_draw) l9 c9 k9,
    PySem.W.mg_of X G a9,
    fun_mk (st := s_law_divisor) l10 c10 k10,
    PySem.W.mg_of X G a10,
    fun_mk (st := s_law_text) l11 c11 k11,
    PySem.W.mg_of X G a11,
    fun_mk (st := s_law_whole) l12 c12 k12,
    PySem.W.mg_of X G a12,
    fun_mk (st := s_law_is_text) l13 c13 k13,
    PySem.W.mg_of X G a13,
    fun_mk (st := s_law_read) l14 c14 k14,
    PySem.W.mg_of X G a14,
    fun_mk (st := s_law_near) l15 c15 k15,
    PySem.W.mg_of X G a15,
    fun_mk (st := s_law) l16 c16 k16,
    PySem.W.mg_of X G a16,
    PySem.W.mg_none_of X G n_abs,
    PySem.W.mg_none_of X G n_isinstance,
    PySem.W.mg_none_of X G n_int,
    PySem.W.mg_none_of X G n_bool,
    PySem.W.mg_none_of X G n_str,
    PySem.W.mg_none_of X G n_len,
    PySem.W.mg_none_of X G n_all,
    PySem.W.mg_none_of X G n_sum,
    PySem.W.mg_none_of X G n_list,
    PySem.W.mg_none_of X G n_range,
    PySem.W.mg_none_of X G n_super⟩
  refine ⟨(PySem.W.fnOf "law" "law" (defArgs s_law) (defBody s_law) (defScope s_law) .none kV16 dc16 pm16 an16 cd16 ct16), clA A, fun s v => .of_eq rfl, fun base _ _ => ?_⟩
  have O_BadNumber : Ok_BadNumber (P := l.prog) (w := w) (base := base) K mg A := sinit_ok (st := s_BadNumber) (k := 0) (pn := "value") ⟨⟨⟨nmBadNumber, qBadNumber, NBadNumber, bsBadNumber, _, snBadNumber, subBadNumber, abBadNumber, colBadNumber, ddBadNumber, k0BadNumber, k1BadNumber, k2BadNumber, k3BadNumber, k5BadNumber, xl_BadNumber, rfl⟩, xs_BadNumber, xb_BadNumber, xt_BadNumber, xk_BadNumber⟩, xi_BadNumber, xy_BadNumber, ⟨"BadNumber.__init__", ocBadNumber, odBadNumber, kVBadNumber, dcBadNumber, pmBadNumber, anBadNumber, cdaBadNumber, ctBadNumber, ccBadNumber, slBadNumber, cclBadNumber, cddBadNumber, vsBadNumber, ccsBadNumber, fileBadNumber, tfBadNumber, clBadNumber, cldBadNumber, cslBadNumber, rfl, xf_BadNumber, xc_BadNumber, xo_BadNumber, xv_BadNumber, xw_BadNumber, xx_BadNumber⟩, ⟨_, xz_BadNumber⟩, xm_BadNumber, xu_BadNumber, xV_BadNumber, xO_BadNumber, xn_BadNumber⟩ rfl (by decide +kernel) rfl rfl rfl rfl ⟨_, rfl, rfl⟩ _ (fun _ => rfl) hsup T.n_super (by decide) (by decide)
  have O_common_divisor := o_common_divisor (P := l.prog) (w := w) (base := base) T v_common_divisor len_common_divisor
  have O_is_integer := o_is_integer (P := l.prog) (w := w) (base := base) T v_is_integer len_is_integer
  have O_Ratio_str := o_Ratio_str (P := l.prog) (w := w) (base := base) T v_Ratio_str len_Ratio_str
  have O_law_start := o_law_start (P := l.prog) (w := w) (base := base) T v_law_start len_law_start
  have O_law_draw := o_law_draw (P := l.prog) (w := w) (base := base) T v_law_draw len_law_draw
  have O_law_divisor := o_law_divisor (P := l.prog) (w := w) (base := base) T v_law_divisor len_law_divisor
  have O_law_whole := o_law_whole (P := l.prog) (w := w) (base := base) T v_law_whole len_law_whole
  have O_Ratio_init := o_Ratio_init (P := l.prog) (w := w) (base := base) T v_Ratio_init len_Ratio_init O_common_divisor
  have O_Ratio_eq := o_Ratio_eq (P := l.prog) (w := w) (base := base) T v_Ratio_eq len_Ratio_eq O_is_integer
  have O_law_is_text := o_law_is_text (P := l.prog) (w := w) (base := base) T v_law_is_text len_law_is_text O_law_divisor O_law_whole
  have O_law_near := o_law_near (P := l.prog) (w := w) (base := base) T v_law_near len_law_near O_law_draw
  have O_Ratio_read := o_Ratio_read (P := l.prog) (w := w) (base := base) T v_Ratio_read len_Ratio_read O_Ratio_init O_Ratio_str
  have O_as_ratio := o_as_ratio (P := l.prog) (w := w) (base := base) T v_as_ratio len_as_ratio O_is_integer O_Ratio_init O_BadNumber
  have O_law_text := o_law_text (P := l.prog) (w := w) (base := base) T v_law_text len_law_text O_Ratio_str O_law_divisor
  have O_Ratio_mul := o_Ratio_mul (P := l.prog) (w := w) (base := base) T v_Ratio_mul len_Ratio_mul O_Ratio_init O_as_ratio
  have O_law_read := o_law_read (P := l.prog) (w := w) (base := base) T v_law_read len_law_read O_Ratio_str O_Ratio_read
  have O_law := o_law (P := l.prog) (w := w) (base := base) T v_law len_law O_Ratio_init O_Ratio_mul O_Ratio_eq O_Ratio_str O_Ratio_read O_law_start O_law_draw O_law_text O_law_is_text O_law_read O_law_near
  exact .ofOk O_law
end My
open PySem PySem.W PyProof.Rows
set_option maxRecDepth 100000 in
set_option maxHeartbeats 0 in
theorem PySem.Challenge.cw_saidchances_k06_texts_of_ratios_holds : PySem.Challenge.rw_saidchances_k06_texts_of_ratios.Holds := by
  w_on; o_law; k_head; (case hw => w_witness2)
  k_fill
  refine Dv.walk_law (l := PySem.Challenge.rw_saidchances_k06_texts_of_ratios) (k := 6) (x := "_law_script") rfl rfl ⟨rfl, by decide, by decide⟩ (fun w h Y => PySem.W.kIn_of Y) ?F
  case F =>
    intro w mg fa h KX G hmg
    refine' My.all_mk (l := PySem.Challenge.rw_saidchances_k06_texts_of_ratios) KX G hmg (by decide +kernel) ?gc_Ratio ?gc_ByZero ?gc_RainError ?gc_BadNumber ?gc_BadText ?gsn ?gtk ?pg_Ratio ?hd_Ratio ?po_Ratio ?sa_Ratio ?ha_Ratio ?mo_Ratio ?ka_Ratio_NoneType ?kb_Ratio_NoneType ?ka_Ratio_bool ?kb_Ratio_bool ?ka_Ratio_int ?kb_Ratio_int ?ka_Ratio_str ?kb_Ratio_str ?ka_Ratio_list ?kb_Ratio_list ?ka_Ratio_tuple ?kb_Ratio_tuple ?ka_Ratio_dict ?kb_Ratio_dict ?ko_Ratio_Ratio ?mm_Ratio ?mk_Ratio ?na_Ratio_top ?na_Ratio_bottom ?xe_ByZero ?xe_BadText ?xk_ByZero ?xb_ByZero ?xt_ByZero ?xk_BadText ?xb_BadText ?xt_BadText ?xk_BadNumber ?xb_BadNumber ?xt_BadNumber ?ee_ByZero_BadText ?ee_BadText_BadText ?ee_BadNumber_BadText ?xl_BadNumber ?xs_BadNumber ?xa_BadNumber ?xg_BadNumber ?xd_BadNumber ?xn_BadNumber ?xi_BadNumber ?xy_BadNumber ?xf_BadNumber ?xc_BadNumber ?xo_BadNumber ?xv_BadNumber ?xw_BadNumber ?xx_BadNumber ?xz_BadNumber ?xm_BadNumber ?xu_BadNumber ?xV_BadNumber ?xO_BadNumber ?a0 ?l0 ?c0 ?k0 ?a1 ?l1 ?c1 ?k1 ?a2 ?l2 ?c2 ?i2 ?d2 ?a3 ?l3 ?c3 ?k3 ?i3 ?os3 ?or3 ?oi3 ?a4 ?l4 ?c4 ?k4 ?i4 ?on4 ?of4_NoneType ?of4_bool ?of4_int ?of4_str ?of4_list ?of4_tuple ?of4_dict ?oj4 ?a5 ?l5 ?c5 ?k5 ?i5 ?rd_Ratio ?rg_Ratio ?p6 ?a6 ?i6 ?l6 ?c6 ?k6 ?a7 ?l7 ?c7 ?k7 ?a8 ?l8 ?c8 ?k8 ?a9 ?l9 ?c9 ?k9 ?a10 ?l10 ?c10 ?k10 ?a11 ?l11 ?c11 ?k11 ?a12 ?l12 ?c12 ?k12 ?a13 ?l13 ?c13 ?k13 ?a14 ?l14 ?c14 ?k14 ?a15 ?l15 ?c15 ?k15 ?a16 ?l16 ?c16 ?k16 ?n_abs ?n_isinstance ?n_int ?n_bool ?n_str ?n_len ?n_all ?n_sum ?n_list ?n_range ?n_super
    (case gc_Ratio => k_is)
    (case gc_ByZero => k_is)
    (case gc_RainError => k_is)
    (case gc_BadNumber => k_is)
    (case gc_BadText => k_is)
    (case gsn => k_is)
    (case gtk => k_is)
    (case pg_Ratio => k_is)
    (case hd_Ratio => k_is)
    (case po_Ratio => k_is)
    (case sa_Ratio => k_is)
    (case ha_Ratio => k_is)
    (case mo_Ratio => k_is)
    (case ka_Ratio_NoneType => kit_is)
    (case kb_Ratio_NoneType => kit_is)
    (case ka_Ratio_bool => kit_is)
    (case kb_Ratio_bool => kit_is)
    (case ka_Ratio_int => kit_is)
    (case kb_Ratio_int => kit_is)
    (case ka_Ratio_str => kit_is)
    (case kb_Ratio_str => kit_is)
    (case ka_Ratio_list => kit_is)
    (case kb_Ratio_list => kit_is)
    (case ka_Ratio_tuple => kit_is)
    (case kb_Ratio_tuple => kit_is)
    (case ka_Ratio_dict => kit_is)
    (case kb_Ratio_dict => kit_is)
    (case ko_Ratio_Ratio => kit_is)
    (case mm_Ratio => k_is)
    (case mk_Ratio => k_is)
    (case na_Ratio_top => k_is)
    (case na_Ratio_bottom => k_is)
    (case xe_ByZero => k_exc)
    (case xe_BadText => k_exc)
    (case xk_ByZero => k_is)
    (case xb_ByZero => k_is)
    (case xt_ByZero => k_is)
    (case xk_BadText => k_is)
    (case xb_BadText => k_is)
    (case xt_BadText => k_is)
    (case xk_BadNumber => k_is)
    (case xb_BadNumber => k_is)
    (case xt_BadNumber => k_is)
    (case ee_ByZero_BadText => kts_exm)
    (case ee_BadText_BadText => kts_exm)
    (case ee_BadNumber_BadText => kts_exm)
    (case xl_BadNumber => k_is)
    (case xs_BadNumber => k_is)
    (case xa_BadNumber => k_is)
    (case xg_BadNumber => k_is)
    (case xd_BadNumber => k_is)
    (case xn_BadNumber => k_is)
    (case xi_BadNumber => k_is)
    (case xy_BadNumber => k_is)
    (case xf_BadNumber => k_is)
    (case xc_BadNumber => k_is)
    (case xo_BadNumber => k_is)
    (case xv_BadNumber => rfl)
    (case xw_BadNumber => rfl)
    (case xx_BadNumber => k_is)
    (case xz_BadNumber => k_is)
    (case xm_BadNumber => k_is)
    (case xu_BadNumber => ks_is)
    (case xV_BadNumber => k_is)
    (case xO_BadNumber => k_is)
    (case a0 => k_is)
    (case l0 => k_is)
    (case c0 => k_is)
    (case k0 => k_is)
    (case a1 => k_is)
    (case l1 => k_is)
    (case c1 => k_is)
    (case k1 => k_is)
    (case a2 => k_is)
    (case l2 => k_is)
    (case c2 => k_is)
    (case i2 => k_is)
    (case d2 => k_is)
    (case a3 => k_is)
    (case l3 => k_is)
    (case c3 => k_is)
    (case k3 => k_is)
    (case i3 => k_is)
    (case os3 => k_is)
    (case or3 => k_is)
    (case oi3 => k_is)
    (case a4 => k_is)
    (case l4 => k_is)
    (case c4 => k_is)
    (case k4 => k_is)
    (case i4 => k_is)
    (case on4 => k_is)
    (case of4_NoneType => k_is)
    (case of4_bool => k_is)
    (case of4_int => k_is)
    (case of4_str => k_is)
    (case of4_list => k_is)
    (case of4_tuple => k_is)
    (case of4_dict => k_is)
    (case oj4 => k_is)
    (case a5 => k_is)
    (case l5 => k_is)
    (case c5 => k_is)
    (case k5 => k_is)
    (case i5 => k_is)
    (case rd_Ratio => k_is)
    (case rg_Ratio => k_is)
    (case p6 => k_is)
    (case a6 => k_is)
    (case i6 => k_is)
    (case l6 => k_is)
    (case c6 => k_is)
    (case k6 => k_is)
    (case a7 => k_is)
    (case l7 => k_is)
    (case c7 => k_is)
    (case k7 => k_is)
    (case a8 => k_is)
    (case l8 => k_is)
    (case c8 => k_is)
    (case k8 => k_is)
    (case a9 => k_is)
    (case l9 => k_is)
    (case c9 => k_is)
    (case k9 => k_is)
    (case a10 => k_is)
    (case l10 => k_is)
    (case c10 => k_is)
    (case k10 => k_is)
    (case a11 => k_is)
    (case l11 => k_is)
    (case c11 => k_is)
    (case k11 => k_is)
    (case a12 => k_is)
    (case l12 => k_is)
    (case c12 => k_is)
    (case k12 => k_is)
    (case a13 => k_is)
    (case l13 => k_is)
    (case c13 => k_is)
    (case k13 => k_is)
    (case a14 => k_is)
    (case l14 => k_is)
    (case c14 => k_is)
    (case k14 => k_is)
    (case a15 => k_is)
    (case l15 => k_is)
    (case c15 => k_is)
    (case k15 => k_is)
    (case a16 => k_is)
    (case l16 => k_is)
    (case c16 => k_is)
    (case k16 => k_is)
    (case n_abs => k_is)
    (case n_isinstance => k_is)
    (case n_int => k_is)
    (case n_bool => k_is)
    (case n_str => k_is)
    (case n_len => k_is)
    (case n_all => k_is)
    (case n_sum => k_is)
    (case n_list => k_is)
    (case n_range => k_is)
    (case n_super => k_is)
