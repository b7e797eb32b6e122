import PyProof.Rows.All
import Wide.All
import OpenK.AllK
import Wide.FinOn
import HandS.ForMost
import HandS.Exc
import HandS.TryOnly
import HandS.ExcOwn
import HandS.WordsExc
import HandS.Wide
import HandS.Walk
import HandS.IsInst
import HandS.Style
import HandS.Defaults
import HandS.Zip
import PyProof.ReprRoads
import PySem.Challenge.RW_saidchances_k02_words_and_weather
set_option Elab.async false
set_option linter.all false
set_option maxRecDepth 100000
set_option maxHeartbeats 4000000
/-! Dv1: values as plain data (D), a store of what may change (MO), and how they stand in the abstract heap. -/
namespace Dv
open PySem L2
/-- plain data that nobody changes; ins a c fs: an instance at a of the class with the number c -/
inductive D where
  | non | bl (b : Bool) | int (i : Int) | str (x : Str) | ty (n : String)
  | lst (xs : List D) | tup (xs : List D)
  | obj (a : Addr) (o : HO)
  | ins (a : Addr) (c : Nat) (fs : List (Str × D))
/-- a value: plain data, or the k-th thing of the store -/
inductive Sl where
  | val (d : D) | cell (k : Nat)
/-- what may change: a list, an instance, the law's own drawing state (n: a bound of its draws) -/
inductive MO where
  | lst (xs : List Sl) | ins (c : Nat) (fs : List (Str × Sl)) | draw (n : Nat) | dead
structure G where
  K : PySem.W.Frag
  cls : Nat → Addr
section
variable (g : G) (I : Hp)
mutual
inductive Rp : V → D → Prop
  | non : Rp .non .non
  | bl {b : Bool} : Rp (.bl b) (.bl b)
  | int {i : Int} : Rp (.int i) (.int i)
  | str {x : Str} : Rp (.str x) (.str x)
  | ty {n : String} : Rp (.ty n) (.ty n)
  | lst {a : Addr} {vs : List V} {ds : List D} : SqL g.K I a vs → RpL vs ds → Rp (.ref a) (.lst ds)
  | tup {a : Addr} {vs : List V} {ds : List D} : SqT g.K I a vs → RpL vs ds → Rp (.ref a) (.tup ds)
  | obj {a : Addr} {o : HO} : I a = some o → Rp (.ref a) (.obj a o)
  | ins {a : Addr} {c : Nat} {dx : Addr} {vs : List (Str × V)} {fs : List (Str × D)} : I a = some (.ins (g.cls c) dx vs) → RpF vs fs → Rp (.ref a) (.ins a c fs)
inductive RpL : List V → List D → Prop
  | nil : RpL [] []
  | cons {v : V} {d : D} {vs : List V} {ds : List D} : Rp v d → RpL vs ds → RpL (v :: vs) (d :: ds)
inductive RpF : List (Str × V) → List (Str × D) → Prop
  | nil : RpF [] []
  | cons {f : Str} {v : V} {d : D} {vs : List (Str × V)} {fs : List (Str × D)} : Rp v d → RpF vs fs → RpF ((f, v) :: vs) ((f, d) :: fs)
end
end
theorem sqT_same {K : PySem.W.Frag} {H H' : Hp} {a : Addr} {xs : List V} (e : Same H H') (h : SqT K H a xs) : SqT K H' a xs := by
  rcases h with (h | ⟨o, h⟩) | h
  · exact .inl (.inl (e _ _ h))
  · exact .inl (.inr ⟨o, e _ _ h⟩)
  · exact .inr h
section
variable {g : G} {I I' : Hp}
mutual
theorem Rp.mono (x : Same I I') : ∀ {v : V} {d : D}, Rp g I v d → Rp g I' v d
  | _, _, .non => .non
  | _, _, .bl => .bl
  | _, _, .int => .int
  | _, _, .str => .str
  | _, _, .ty => .ty
  | _, _, .lst h r => .lst (x.seq h) (RpL.mono x r)
  | _, _, .tup h r => .tup (sqT_same x h) (RpL.mono x r)
  | _, _, .obj h => .obj (x _ _ h)
  | _, _, .ins h r => .ins (x _ _ h) (RpF.mono x r)
theorem RpL.mono (x : Same I I') : ∀ {vs : List V} {ds : List D}, RpL g I vs ds → RpL g I' vs ds
  | _, _, .nil => .nil
  | _, _, .cons r t => .cons (Rp.mono x r) (RpL.mono x t)
theorem RpF.mono (x : Same I I') : ∀ {vs : List (Str × V)} {ds : List (Str × D)}, RpF g I vs ds → RpF g I' vs ds
  | _, _, .nil => .nil
  | _, _, .cons r t => .cons (Rp.mono x r) (RpF.mono x t)
end
theorem RpL.length : ∀ {vs : List V} {ds : List D}, RpL g I vs ds → vs.length = ds.length
  | _, _, .nil => rfl
  | _, _, .cons _ t => congrArg Nat.succ (RpL.length t)
theorem RpL.get : ∀ {vs : List V} {ds : List D} {i : Nat} {v : V}, RpL g I vs ds → vs[i]? = some v → ∃ d, ds[i]? = some d ∧ Rp g I v d
  | _, _, 0, _, .cons r _, h => by
    have e := Option.some.inj h
    subst e
    exact ⟨_, rfl, r⟩
  | _, _, i + 1, _, .cons _ t, h => RpL.get (i := i) t h
theorem RpL.getD : ∀ {vs : List V} {ds : List D} {i : Nat} {d : D}, RpL g I vs ds → ds[i]? = some d → ∃ v, vs[i]? = some v ∧ Rp g I v d
  | _, _, 0, _, .cons r _, h => by
    have e := Option.some.inj h
    subst e
    exact ⟨_, rfl, r⟩
  | _, _, i + 1, _, .cons _ t, h => RpL.getD (i := i) t h
theorem RpL.append : ∀ {vs ws : List V} {ds es : List D}, RpL g I vs ds → RpL g I ws es → RpL g I (vs ++ ws) (ds ++ es)
  | _, _, _, _, .nil, b => b
  | _, _, _, _, .cons r t, b => .cons r (RpL.append t b)
theorem RpL.take : ∀ {vs : List V} {ds : List D} (n : Nat), RpL g I vs ds → RpL g I (vs.take n) (ds.take n)
  | _, _, 0, _ => .nil
  | _, _, _ + 1, .nil => .nil
  | _, _, n + 1, .cons r t => .cons r (RpL.take n t)
theorem RpL.drop : ∀ {vs : List V} {ds : List D} (n : Nat), RpL g I vs ds → RpL g I (vs.drop n) (ds.drop n)
  | _, _, 0, r => r
  | _, _, _ + 1, .nil => .nil
  | _, _, n + 1, .cons _ t => RpL.drop n t
theorem RpL.ints : ∀ (ns : List Int), RpL g I (ns.map V.int) (ns.map D.int)
  | [] => .nil
  | _ :: r => .cons .int (RpL.ints r)
theorem RpL.ints_inv : ∀ {vs : List V} {ns : List Int}, RpL g I vs (ns.map D.int) → vs = ns.map V.int
  | _, [], .nil => rfl
  | _, _ :: r, .cons h t => by
    cases h
    rw [RpL.ints_inv (ns := r) t]
    rfl
theorem RpL.bls_inv : ∀ {vs : List V} {bs : List Bool}, RpL g I vs (bs.map D.bl) → vs = bs.map V.bl
  | _, [], .nil => rfl
  | _, _ :: r, .cons h t => by
    cases h
    rw [RpL.bls_inv (bs := r) t]
    rfl
theorem RpF.lookup : ∀ {vs : List (Str × V)} {ds : List (Str × D)} {f : Str} {d : D}, RpF g I vs ds → ds.lookup f = some d → ∃ v, vs.lookup f = some v ∧ Rp g I v d
  | _, _, f, d, .nil, h => by cases h
  | _, _, f, d, .cons (f := f') r t, h => by
    by_cases e : f = f'
    · subst e
      rw [List.lookup_cons_self] at h
      cases h
      exact ⟨_, List.lookup_cons_self, r⟩
    · have q : (f == f') = false := by simpa using e
      rw [List.lookup_cons, q] at h
      obtain ⟨v, h1, h2⟩ := RpF.lookup (f := f) t h
      exact ⟨v, by rw [List.lookup_cons, q]; exact h1, h2⟩
theorem RpF.lookup_none : ∀ {vs : List (Str × V)} {ds : List (Str × D)} {f : Str}, RpF g I vs ds → ds.lookup f = none → vs.lookup f = none
  | _, _, f, .nil, h => rfl
  | _, _, f, .cons (f := f') r t, h => by
    by_cases e : f = f'
    · subst e
      rw [List.lookup_cons_self] at h
      cases h
    · have q : (f == f') = false := by simpa using e
      rw [List.lookup_cons, q] at h ⊢
      exact RpF.lookup_none (f := f) t h
theorem RpF.length : ∀ {vs : List (Str × V)} {ds : List (Str × D)}, RpF g I vs ds → vs.length = ds.length
  | _, _, .nil => rfl
  | _, _, .cons _ t => congrArg Nat.succ (RpF.length t)
end
/-! ### values of either kind -/
section
variable (g : G) (I : Hp) (α : List Addr)
inductive RpS : V → Sl → Prop
  | val {v : V} {d : D} : Rp g I v d → RpS v (.val d)
  | cell {k : Nat} {a : Addr} : α[k]? = some a → RpS (.ref a) (.cell k)
inductive RpSL : List V → List Sl → Prop
  | nil : RpSL [] []
  | cons {v : V} {d : Sl} {vs : List V} {ds : List Sl} : RpS g I α v d → RpSL vs ds → RpSL (v :: vs) (d :: ds)
inductive RpSF : List (Str × V) → List (Str × Sl) → Prop
  | nil : RpSF [] []
  | cons {f : Str} {v : V} {d : Sl} {vs : List (Str × V)} {fs : List (Str × Sl)} : RpS g I α v d → RpSF vs fs → RpSF ((f, v) :: vs) ((f, d) :: fs)
end
/-- the heap has grown -/
structure Ext (I : Hp) (α : List Addr) (I' : Hp) (α' : List Addr) : Prop where
  hp : Same I I'
  ad : ∀ (k : Nat) (a : Addr), α[k]? = some a → α'[k]? = some a
theorem Ext.refl (I : Hp) (α : List Addr) : Ext I α I α := ⟨Same.refl I, fun _ _ h => h⟩
theorem Ext.trans {I I1 I2 : Hp} {α α1 α2 : List Addr} (a : Ext I α I1 α1) (b : Ext I1 α1 I2 α2) : Ext I α I2 α2 :=
  ⟨a.hp.trans b.hp, fun k x h => b.ad k x (a.ad k x h)⟩
theorem Ext.of {I I' : Hp} (h : Same I I') (α : List Addr) : Ext I α I' α := ⟨h, fun _ _ h => h⟩
section
variable {g : G} {I I' : Hp} {α α' : List Addr}
theorem RpS.mono (x : Ext I α I' α') {v : V} {d : Sl} : RpS g I α v d → RpS g I' α' v d
  | .val r => .val (r.mono x.hp)
  | .cell h => .cell (x.ad _ _ h)
theorem RpSL.mono (x : Ext I α I' α') : ∀ {vs : List V} {ds : List Sl}, RpSL g I α vs ds → RpSL g I' α' vs ds
  | _, _, .nil => .nil
  | _, _, .cons r t => .cons (r.mono x) (RpSL.mono x t)
theorem RpSF.mono (x : Ext I α I' α') : ∀ {vs : List (Str × V)} {ds : List (Str × Sl)}, RpSF g I α vs ds → RpSF g I' α' vs ds
  | _, _, .nil => .nil
  | _, _, .cons r t => .cons (r.mono x) (RpSF.mono x t)
theorem RpSL.length : ∀ {vs : List V} {ds : List Sl}, RpSL g I α vs ds → vs.length = ds.length
  | _, _, .nil => rfl
  | _, _, .cons _ t => congrArg Nat.succ (RpSL.length t)
theorem RpSL.append : ∀ {vs ws : List V} {ds es : List Sl}, RpSL g I α vs ds → RpSL g I α ws es → RpSL g I α (vs ++ ws) (ds ++ es)
  | _, _, _, _, .nil, b => b
  | _, _, _, _, .cons r t, b => .cons r (RpSL.append t b)
theorem RpSL.set : ∀ {vs : List V} {ds : List Sl} (n : Nat) {v : V} {d : Sl}, RpSL g I α vs ds → RpS g I α v d → RpSL g I α (vs.set n v) (ds.set n d)
  | _, _, _, _, _, .nil, _ => .nil
  | _, _, 0, _, _, .cons _ t, r => .cons r t
  | _, _, n + 1, _, _, .cons q t, r => .cons q (RpSL.set n t r)
theorem RpSL.get : ∀ {vs : List V} {ds : List Sl} {i : Nat} {v : V}, RpSL g I α vs ds → vs[i]? = some v → ∃ d, ds[i]? = some d ∧ RpS g I α v d
  | _, _, 0, _, .cons r _, h => by
    have e := Option.some.inj h
    subst e
    exact ⟨_, rfl, r⟩
  | _, _, i + 1, _, .cons _ t, h => RpSL.get (i := i) t h
theorem RpSL.getD : ∀ {vs : List V} {ds : List Sl} {i : Nat} {d : Sl}, RpSL g I α vs ds → ds[i]? = some d → ∃ v, vs[i]? = some v ∧ RpS g I α v d
  | _, _, 0, _, .cons r _, h => by
    have e := Option.some.inj h
    subst e
    exact ⟨_, rfl, r⟩
  | _, _, i + 1, _, .cons _ t, h => RpSL.getD (i := i) t h
theorem RpSL.ofL : ∀ {vs : List V} {ds : List D}, RpL g I vs ds → RpSL g I α vs (ds.map Sl.val)
  | _, _, .nil => .nil
  | _, _, .cons r t => .cons (.val r) (RpSL.ofL t)
theorem RpSL.toL : ∀ {vs : List V} {ds : List D}, RpSL g I α vs (ds.map Sl.val) → RpL g I vs ds
  | _, [], .nil => .nil
  | _, _ :: _, .cons (.val r) t => .cons r (RpSL.toL t)
end
/-! ### the store -/
section
variable (g : G) (I : Hp) (α : List Addr) (H : Hp)
def MRep (a : Addr) (fp : List Addr) : MO → Prop
  | .lst ds => fp = [a] ∧ ∃ vs, H a = some (.lst vs) ∧ RpSL g I α vs ds
  | .ins c fs => fp = [a] ∧ ∃ dx vs, H a = some (.ins (g.cls c) dx vs) ∧ RpSF g I α vs fs
  | .draw n => ∃ (b c : Addr) (gs cs : List Int) (m : Int), fp = [a, b] ∧ H a = some (.lst [.ref b, .ref c, .int m]) ∧ H b = some (.lst (gs.map V.int)) ∧ SqL g.K I c (cs.map V.int) ∧ cs ≠ [] ∧ 0 ≤ m ∧ m ≤ (n : Int)
  | .dead => fp = []
end
theorem MRep.mono {g : G} {I I' : Hp} {α α' : List Addr} {H H' : Hp} {a : Addr} {fp : List Addr} {o : MO} (x : Ext I α I' α') (h : ∀ b ∈ fp, H' b = H b) (r : MRep g I α H a fp o) : MRep g I' α' H' a fp o := by
  cases o with
  | lst ds =>
    obtain ⟨e, vs, h1, h2⟩ := r
    subst e
    exact ⟨rfl, vs, (h a (by simp)).trans h1, h2.mono x⟩
  | ins c fs =>
    obtain ⟨e, dx, vs, h1, h2⟩ := r
    subst e
    exact ⟨rfl, dx, vs, (h a (by simp)).trans h1, h2.mono x⟩
  | draw n =>
    obtain ⟨b, c, gs, cs, m, e, h1, h2, h3, h4⟩ := r
    subst e
    exact ⟨b, c, gs, cs, m, rfl, (h a (by simp)).trans h1, (h b (by simp)).trans h2, x.hp.seq h3, h4⟩
  | dead => exact (show fp = [] from r)
abbrev Al := List (Addr × List Addr)
def ad (α : Al) : List Addr := α.map (·.1)
def owned (α : Al) : List Addr := α.flatMap (·.2)
theorem ad_get {α : Al} {k : Nat} {a : Addr} : (ad α)[k]? = some a ↔ ∃ fp, α[k]? = some (a, fp) := by
  unfold ad
  rw [List.getElem?_map]
  constructor
  · intro h
    cases e : α[k]? with
    | none => rw [e] at h; cases h
    | some p =>
      rw [e] at h
      have h' : p.1 = a := Option.some.inj h
      exact ⟨p.2, by rw [← h']⟩
  · rintro ⟨fp, h⟩
    rw [h]
    rfl
theorem owned_append (α β : Al) : owned (α ++ β) = owned α ++ owned β := List.flatMap_append
theorem mem_owned {α : Al} {k : Nat} {p : Addr × List Addr} {b : Addr} (h : α[k]? = some p) (hb : b ∈ p.2) : b ∈ owned α :=
  List.mem_flatMap.mpr ⟨p, List.mem_of_getElem? h, hb⟩
/-- the heap H holds the plain part I, the store μ at α, and what stands aside (F) -/
structure Hf (g : G) (I : Hp) (α : Al) (H : Hp) (μ : List MO) (F : Hp) : Prop where
  sub : Same I H
  len : α.length = μ.length
  sto : ∀ (k : Nat) (p : Addr × List Addr) (o : MO), α[k]? = some p → μ[k]? = some o → MRep g I (ad α) H p.1 p.2 o
  nod : (owned α).Nodup
  own : ∀ b, b ∈ owned α → I b = none ∧ H b ≠ none
  frm : ∀ b o, F b = some o → H b = some o ∧ I b = none ∧ b ∉ owned α
/-- the slots -/
structure En (g : G) (I : Hp) (α : List Addr) (σ : St) (ρ : List (Option Sl)) : Prop where
  len : σ.length = ρ.length
  val : ∀ (i : Nat) (d : Sl), ρ[i]? = some (some d) → ∃ v, σ[i]? = some (some v) ∧ RpS g I α v d
theorem En.mono {g : G} {I I' : Hp} {α α' : List Addr} {σ : St} {ρ : List (Option Sl)} (x : Ext I α I' α') (e : En g I α σ ρ) : En g I' α' σ ρ :=
  ⟨e.len, fun i d h => let ⟨v, h1, h2⟩ := e.val i d h; ⟨v, h1, h2.mono x⟩⟩
theorem En.set {g : G} {I : Hp} {α : List Addr} {σ : St} {ρ : List (Option Sl)} {i : Nat} {v : V} {d : Sl} (e : En g I α σ ρ) (r : RpS g I α v d) : En g I α (σ.set i (some v)) (ρ.set i (some d)) := by
  refine ⟨by rw [List.length_set, List.length_set]; exact e.len, fun j d' h => ?_⟩
  by_cases hj : i = j
  · subst hj
    by_cases hl : i < ρ.length
    · rw [List.getElem?_set_self hl] at h
      cases h
      exact ⟨v, List.getElem?_set_self (by rw [e.len]; exact hl), r⟩
    · rw [List.getElem?_eq_none (by rw [List.length_set]; omega)] at h
      cases h
  · rw [List.getElem?_set_ne hj] at h
    obtain ⟨w, h1, h2⟩ := e.val j d' h
    exact ⟨w, by rw [List.getElem?_set_ne hj]; exact h1, h2⟩
theorem En.unset {g : G} {I : Hp} {α : List Addr} {σ : St} {ρ : List (Option Sl)} {i : Nat} {x : Option V} (e : En g I α σ ρ) : En g I α (σ.set i x) (ρ.set i none) := by
  refine ⟨by rw [List.length_set, List.length_set]; exact e.len, fun j d' h => ?_⟩
  by_cases hj : i = j
  · subst hj
    by_cases hl : i < ρ.length
    · rw [List.getElem?_set_self hl] at h
      cases h
    · rw [List.getElem?_eq_none (by rw [List.length_set]; omega)] at h
      cases h
  · rw [List.getElem?_set_ne hj] at h
    obtain ⟨w, h1, h2⟩ := e.val j d' h
    exact ⟨w, by rw [List.getElem?_set_ne hj]; exact h1, h2⟩
/-- the slots of a block's own names forgotten -/
def wipeD (ρ : List (Option Sl)) : List Nat → List (Option Sl)
  | [] => ρ
  | v :: vs => (wipeD ρ vs).set v none
theorem En.wipe {g : G} {I : Hp} {α : List Addr} {σ : St} {ρ : List (Option Sl)} (e : En g I α σ ρ) : ∀ vs, En g I α (wipe σ vs) (wipeD ρ vs)
  | [] => e
  | v :: vs => (En.wipe e vs).unset
theorem En.start {g : G} {I : Hp} {α : List Addr} {vs : List V} {ds : List Sl} {n : Nat} (r : RpSL g I α vs ds) : En g I α (vs.map some ++ List.replicate n none) (ds.map some ++ List.replicate n none) := by
  refine ⟨by simp [r.length], fun i d h => ?_⟩
  by_cases hi : i < (ds.map some).length
  · rw [List.getElem?_append_left hi, List.getElem?_map] at h
    cases e : ds[i]? with
    | none => rw [e] at h; cases h
    | some d' =>
      rw [e] at h
      have z : some d' = some d := Option.some.inj h
      cases z
      obtain ⟨v, h1, h2⟩ := r.getD e
      refine ⟨v, ?_, h2⟩
      rw [List.getElem?_append_left (by rw [List.length_map] at hi ⊢; rw [r.length]; exact hi), List.getElem?_map, h1]
      rfl
  · rw [List.getElem?_append_right (by omega)] at h
    have z := List.mem_of_getElem? h
    rw [List.mem_replicate] at z
    cases z.2
section
variable {g : G} {I : Hp} {α : Al} {H : Hp} {μ : List MO} {F : Hp}
/-- a new plain thing -/
theorem Hf.new {p : Addr} {o : HO} (h : Hf g I α H μ F) (hp : H p = none) : Hf g (upd I p o) α (upd H p o) μ F ∧ Same I (upd I p o) := by
  have hI : I p = none := h.sub.free hp
  have x : Same I (upd I p o) := fun b u e => by rw [upd_ne (ne_of_none e hI)]; exact e
  have no : ∀ b ∈ owned α, b ≠ p := fun b hb e => by
    subst e
    exact (h.own b hb).2 hp
  refine ⟨⟨fun b u e => ?_, h.len, fun k q m e1 e2 => ?_, h.nod, fun b hb => ?_, fun b u e => ?_⟩, x⟩
  · by_cases hb : b = p
    · subst hb
      rw [upd_same] at e ⊢
      exact e
    · rw [upd_ne hb] at e ⊢
      exact h.sub b u e
  · exact (h.sto k q m e1 e2).mono (Ext.of x _) fun b hb => upd_ne (no b (mem_owned e1 hb))
  · rw [upd_ne (no b hb), upd_ne (no b hb)]
    exact h.own b hb
  · obtain ⟨h1, h2, h3⟩ := h.frm b u e
    have hb : b ≠ p := ne_of_none h1 hp
    exact ⟨by rw [upd_ne hb]; exact h1, by rw [upd_ne hb]; exact h2, h3⟩
/-- a new thing that may change -/
theorem Hf.newC {p : Addr} {o : HO} {m : MO} (h : Hf g I α H μ F) (hp : H p = none)
    (hm : ∀ H' : Hp, H' p = some o → MRep g I (ad α ++ [p]) H' p [p] m) :
    Hf g I (α ++ [(p, [p])]) (upd H p o) (μ ++ [m]) F ∧ Ext I (ad α) I (ad (α ++ [(p, [p])])) ∧ (ad (α ++ [(p, [p])]))[μ.length]? = some p := by
  have hI : I p = none := h.sub.free hp
  have ea : ad (α ++ [(p, [p])]) = ad α ++ [p] := by unfold ad; rw [List.map_append]; rfl
  have x : Ext I (ad α) I (ad (α ++ [(p, [p])])) := ⟨Same.refl I, fun k a e => by
    rw [ea, List.getElem?_append_left (by have := (List.getElem?_eq_some_iff.mp e).1; exact this)]
    exact e⟩
  have no : ∀ b ∈ owned α, b ≠ p := fun b hb e => by
    subst e
    exact (h.own b hb).2 hp
  have eo : owned (α ++ [(p, [p])]) = owned α ++ [p] := by rw [owned_append]; rfl
  refine ⟨⟨fun b u e => ?_, by rw [List.length_append, List.length_append, h.len]; rfl, fun k q m' e1 e2 => ?_, ?_, fun b hb => ?_, fun b u e => ?_⟩, x, ?_⟩
  · rw [upd_ne (ne_of_none e hI)]
    exact h.sub b u e
  · by_cases hk : k < α.length
    · rw [List.getElem?_append_left hk] at e1
      rw [List.getElem?_append_left (by rw [← h.len]; exact hk)] at e2
      exact (h.sto k q m' e1 e2).mono x fun b hb => upd_ne (no b (mem_owned e1 hb))
    · have hk' : k = α.length := by
        have := (List.getElem?_eq_some_iff.mp e1).1
        rw [List.length_append] at this
        have : k < α.length + 1 := this
        omega
      subst hk'
      rw [List.getElem?_append_right (Nat.le_refl _), Nat.sub_self] at e1
      rw [List.getElem?_append_right (by rw [h.len]; exact Nat.le_refl _), h.len, Nat.sub_self] at e2
      cases e1
      cases e2
      rw [ea]
      exact hm _ upd_same
  · rw [eo]
    refine List.nodup_append.mpr ⟨h.nod, by simp, fun a ha b hb e => ?_⟩
    rw [List.mem_singleton] at hb
    subst hb
    exact no a ha e
  · rw [eo] at hb
    rcases List.mem_append.mp hb with hb | hb
    · rw [upd_ne (no b hb)]
      exact h.own b hb
    · rw [List.mem_singleton] at hb
      subst hb
      exact ⟨hI, by rw [upd_same]; exact fun z => by cases z⟩
  · obtain ⟨h1, h2, h3⟩ := h.frm b u e
    have hb : b ≠ p := ne_of_none h1 hp
    refine ⟨by rw [upd_ne hb]; exact h1, h2, fun hm => ?_⟩
    rw [eo] at hm
    rcases List.mem_append.mp hm with hm | hm
    · exact h3 hm
    · exact hb (List.mem_singleton.mp hm)
  · rw [ea, List.getElem?_append_right (by unfold ad; rw [List.length_map, h.len]; exact Nat.le_refl _)]
    unfold ad
    rw [List.length_map, h.len, Nat.sub_self]
    rfl
theorem Hf.other (h : Hf g I α H μ F) {k j : Nat} {p q : Addr × List Addr} {b : Addr} (hk : α[k]? = some p) (hj : α[j]? = some q) (hne : j ≠ k) (hb : b ∈ q.2) : b ∉ p.2 := by
  intro hp
  obtain ⟨hjl, ej⟩ := List.getElem?_eq_some_iff.mp hj
  obtain ⟨hkl, ek⟩ := List.getElem?_eq_some_iff.mp hk
  have nd : List.Pairwise (fun a b : Addr × List Addr => ∀ x ∈ a.2, ∀ y ∈ b.2, x ≠ y) α := by
    have := h.nod
    unfold owned at this
    unfold List.Nodup at this
    rw [List.pairwise_flatMap] at this
    exact this.2.imp fun hab x hx y hy => hab x hx y hy
  have pw := List.pairwise_iff_getElem.mp nd
  rcases Nat.lt_or_gt_of_ne hne with hlt | hgt
  · exact pw j k hjl hkl hlt b (by rw [ej]; exact hb) b (by rw [ek]; exact hp) rfl
  · exact pw k j hkl hjl hgt b (by rw [ek]; exact hp) b (by rw [ej]; exact hb) rfl
/-- a thing of the store changes -/
theorem Hf.put {k : Nat} {p : Addr} {o : HO} {m : MO} (h : Hf g I α H μ F) (hk : α[k]? = some (p, [p]))
    (hm : ∀ H' : Hp, H' p = some o → MRep g I (ad α) H' p [p] m) : Hf g I α (upd H p o) (μ.set k m) F := by
  have hp : p ∈ owned α := mem_owned hk (List.mem_singleton.mpr rfl)
  obtain ⟨hI, hH⟩ := h.own p hp
  refine ⟨fun b u e => ?_, by rw [List.length_set]; exact h.len, fun j q m' e1 e2 => ?_, h.nod, fun b hb => ?_, fun b u e => ?_⟩
  · rw [upd_ne (ne_of_none e hI)]
    exact h.sub b u e
  · by_cases hj : k = j
    · subst hj
      rw [hk] at e1
      cases e1
      rw [List.getElem?_set_self (by rw [← h.len]; exact (List.getElem?_eq_some_iff.mp hk).1)] at e2
      cases e2
      exact hm _ upd_same
    · rw [List.getElem?_set_ne hj] at e2
      exact (h.sto j q m' e1 e2).mono (Ext.refl _ _) fun b hb => upd_ne fun e => h.other hk e1 (fun z => hj z.symm) hb (by rw [e]; exact List.mem_singleton.mpr rfl)
  · refine ⟨(h.own b hb).1, ?_⟩
    by_cases hbp : b = p
    · subst hbp
      rw [upd_same]
      exact fun z => by cases z
    · rw [upd_ne hbp]
      exact (h.own b hb).2
  · obtain ⟨h1, h2, h3⟩ := h.frm b u e
    have hb : b ≠ p := fun z => h3 (by rw [z]; exact hp)
    exact ⟨by rw [upd_ne hb]; exact h1, h2, h3⟩
theorem Hf.cell {k : Nat} {a : Addr} {o : MO} (h : Hf g I α H μ F) (ha : (ad α)[k]? = some a) (hm : μ[k]? = some o) : ∃ fp, α[k]? = some (a, fp) ∧ MRep g I (ad α) H a fp o := by
  obtain ⟨fp, e⟩ := ad_get.mp ha
  exact ⟨fp, e, h.sto k (a, fp) o e hm⟩
/-- a list of the store becomes plain -/
theorem Hf.freeze {k : Nat} {a : Addr} {fp : List Addr} {vs : List V} (h : Hf g I α H μ F) (hk : α[k]? = some (a, [a])) (ha : H a = some (.lst vs)) :
    Hf g (upd I a (.lst vs)) (α.set k (a, [])) H (μ.set k .dead) F ∧ Ext I (ad α) (upd I a (.lst vs)) (ad (α.set k (a, []))) := by
  have hm : a ∈ owned α := mem_owned hk (List.mem_singleton.mpr rfl)
  obtain ⟨hI, hH⟩ := h.own a hm
  have hkl := (List.getElem?_eq_some_iff.mp hk).1
  have x : Same I (upd I a (.lst vs)) := fun b u e => by rw [upd_ne (ne_of_none e hI)]; exact e
  have ea : ad (α.set k (a, [])) = ad α := by
    unfold ad
    rw [List.map_set]
    refine List.ext_getElem? fun j => ?_
    by_cases hj : k = j
    · subst hj
      rw [List.getElem?_set_self (by rw [List.length_map]; exact hkl), List.getElem?_map, hk]
      rfl
    · rw [List.getElem?_set_ne hj]
  have sub : ∀ b, b ∈ owned (α.set k (a, [])) → b ∈ owned α ∧ b ≠ a := fun b hb => by
    obtain ⟨q, hq, hbq⟩ := List.mem_flatMap.mp hb
    obtain ⟨j, hj⟩ := List.mem_iff_getElem?.mp hq
    by_cases hjk : k = j
    · subst hjk
      rw [List.getElem?_set_self hkl] at hj
      cases hj
      cases hbq
    · rw [List.getElem?_set_ne hjk] at hj
      exact ⟨mem_owned hj hbq, fun e => h.other hk hj (fun z => hjk z.symm) hbq (by rw [e]; exact List.mem_singleton.mpr rfl)⟩
  refine ⟨⟨fun b u e => ?_, by rw [List.length_set, List.length_set]; exact h.len, fun j q m' e1 e2 => ?_, ?_, fun b hb => ?_, fun b u e => ?_⟩, ⟨x, fun j b e => by rw [ea]; exact e⟩⟩
  · by_cases hb : b = a
    · subst hb
      rw [upd_same] at e
      rw [ha]
      exact e
    · rw [upd_ne hb] at e
      exact h.sub b u e
  · rw [ea]
    by_cases hj : k = j
    · subst hj
      rw [List.getElem?_set_self hkl] at e1
      rw [List.getElem?_set_self (by rw [← h.len]; exact hkl)] at e2
      cases e1
      cases e2
      exact rfl
    · rw [List.getElem?_set_ne hj] at e1 e2
      exact (h.sto j q m' e1 e2).mono (Ext.of x _) fun b _ => rfl
  · have nd := h.nod
    unfold owned List.Nodup at nd ⊢
    rw [List.pairwise_flatMap] at nd ⊢
    refine ⟨fun q hq => ?_, ?_⟩
    · obtain ⟨j, hj⟩ := List.mem_iff_getElem?.mp hq
      by_cases hjk : k = j
      · subst hjk
        rw [List.getElem?_set_self hkl] at hj
        cases hj
        exact List.Pairwise.nil
      · rw [List.getElem?_set_ne hjk] at hj
        exact nd.1 q (List.mem_of_getElem? hj)
    · rw [List.pairwise_iff_getElem]
      intro i j hi hj hij x hx y hy
      rw [List.length_set] at hi hj
      by_cases hik : k = i
      · subst hik
        rw [List.getElem_set_self] at hx
        cases hx
      · by_cases hjk : k = j
        · subst hjk
          rw [List.getElem_set_self] at hy
          cases hy
        · rw [List.getElem_set_ne hik] at hx
          rw [List.getElem_set_ne hjk] at hy
          exact (List.pairwise_iff_getElem.mp nd.2) i j hi hj hij x hx y hy
  · obtain ⟨h1, h2⟩ := sub b hb
    exact ⟨by rw [upd_ne h2]; exact (h.own b h1).1, (h.own b h1).2⟩
  · obtain ⟨h1, h2, h3⟩ := h.frm b u e
    have hb : b ≠ a := fun z => h3 (by rw [z]; exact hm)
    exact ⟨h1, by rw [upd_ne hb]; exact h2, fun z => h3 (sub b z).1⟩
/-- something more, or less, stands aside -/
theorem Hf.aside {a : Addr} {o : HO} (h : Hf g I α H μ F) (ha : H a = none) : Hf g I α (upd H a o) μ (upd F a o) := by
  have hI : I a = none := h.sub.free ha
  have no : ∀ b ∈ owned α, b ≠ a := fun b hb e => by
    subst e
    exact (h.own b hb).2 ha
  refine ⟨fun b u e => ?_, h.len, fun k q m e1 e2 => ?_, h.nod, fun b hb => ?_, fun b u e => ?_⟩
  · rw [upd_ne (ne_of_none e hI)]
    exact h.sub b u e
  · exact (h.sto k q m e1 e2).mono (Ext.refl _ _) fun b hb => upd_ne (no b (mem_owned e1 hb))
  · rw [upd_ne (no b hb)]
    exact h.own b hb
  · by_cases hb : b = a
    · subst hb
      rw [upd_same] at e ⊢
      exact ⟨e, hI, fun z => no b z rfl⟩
    · rw [upd_ne hb] at e ⊢
      exact h.frm b u e
theorem Hf.reput {a : Addr} {o o' : HO} (h : Hf g I α H μ F) (ha : F a = some o) : Hf g I α (upd H a o') μ (upd F a o') := by
  obtain ⟨h1, h2, h3⟩ := h.frm a o ha
  have no : ∀ b ∈ owned α, b ≠ a := fun b hb e => h3 (by rw [← e]; exact hb)
  refine ⟨fun b u e => ?_, h.len, fun k q m e1 e2 => ?_, h.nod, fun b hb => ?_, fun b u e => ?_⟩
  · rw [upd_ne (ne_of_none e h2)]
    exact h.sub b u e
  · exact (h.sto k q m e1 e2).mono (Ext.refl _ _) fun b hb => upd_ne (no b (mem_owned e1 hb))
  · rw [upd_ne (no b hb)]
    exact h.own b hb
  · by_cases hb : b = a
    · subst hb
      rw [upd_same] at e ⊢
      exact ⟨e, h2, h3⟩
    · rw [upd_ne hb] at e ⊢
      exact h.frm b u e
theorem Hf.less {F' : Hp} (h : Hf g I α H μ F) (hf : Same F' F) : Hf g I α H μ F' :=
  ⟨h.sub, h.len, h.sto, h.nod, h.own, fun b u e => h.frm b u (hf b u e)⟩
/-- what stood aside becomes plain -/
theorem Hf.settle {a : Addr} {o : HO} (h : Hf g I α H μ F) (ha : F a = some o) : Hf g (upd I a o) α H μ (fun b => if b = a then none else F b) ∧ Same I (upd I a o) := by
  obtain ⟨h1, h2, h3⟩ := h.frm a o ha
  have x : Same I (upd I a o) := fun b u e => by rw [upd_ne (ne_of_none e h2)]; exact e
  refine ⟨⟨fun b u e => ?_, h.len, fun k q m e1 e2 => (h.sto k q m e1 e2).mono (Ext.of x _) fun b _ => rfl, h.nod, fun b hb => ?_, fun b u e => ?_⟩, x⟩
  · by_cases hb : b = a
    · subst hb
      rw [upd_same] at e
      rw [h1]
      exact e
    · rw [upd_ne hb] at e
      exact h.sub b u e
  · have hb' : b ≠ a := fun e => h3 (by rw [← e]; exact hb)
    rw [upd_ne hb']
    exact h.own b hb
  · by_cases hb : b = a
    · rw [if_pos hb] at e
      cases e
    · rw [if_neg hb] at e
      rw [upd_ne hb]
      exact h.frm b u e
end
end Dv
/-! Dv2: readings over plain data, and how the layer's readings follow from them. -/
namespace Dv
open PySem L2
abbrev Rho := List (Option Sl)
abbrev Sto := List MO
abbrev KE := Sl → Sto → Prop
/-- an error: its class, its attributes -/
structure Exn where
  c : Nat
  fs : List (Str × D)
abbrev KX := Exn → Sto → Prop
abbrev TrE := Rho → Sto → KE → KX → Prop
abbrev TrA := Rho → Sto → (List Sl → Sto → Prop) → KX → Prop
abbrev TrT := Rho → Sto → (Bool → Sto → Prop) → KX → Prop
structure EndsD where
  nx : Rho → Sto → Prop
  rt : KE
  bk : Rho → Sto → Prop
  ct : Rho → Sto → Prop
  ex : Exn → Rho → Sto → Prop
abbrev TrS := EndsD → Rho → Sto → Prop
/-- an error as it lies -/
def ER (g : G) (I : Hp) (cls : Value) (dx : Option Addr) (x : Exn) : Prop :=
  cls = .ref (g.cls x.c) ∧ ((x.fs = [] ∧ dx = none) ∨ ∃ d vs, dx = some d ∧ I d = some (.xd vs) ∧ RpF g I vs x.fs)
section
variable (g : G) (I : Hp) (α : Al) (F : Hp)
def okE (k : KE) (Q : VK) : Prop := ∀ v d I' α' H' μ', Ext I (ad α) I' (ad α') → Hf g I' α' H' μ' F → RpS g I' (ad α') v d → k d μ' → Q v H'
def okA (k : List Sl → Sto → Prop) (Q : List V → Hp → Prop) : Prop := ∀ vs ds I' α' H' μ', Ext I (ad α) I' (ad α') → Hf g I' α' H' μ' F → RpSL g I' (ad α') vs ds → k ds μ' → Q vs H'
def okT (k : Bool → Sto → Prop) (Q : Bool → Hp → Prop) : Prop := ∀ b I' α' H' μ', Ext I (ad α) I' (ad α') → Hf g I' α' H' μ' F → k b μ' → Q b H'
def okX (E : KX) (W : Value → Option Addr → Hp → Prop) : Prop := ∀ x cls dx I' α' H' μ', Ext I (ad α) I' (ad α') → Hf g I' α' H' μ' F → ER g I' cls dx x → E x μ' → W cls dx H'
def okN (k : Rho → Sto → Prop) (Q : St → Hp → Prop) : Prop := ∀ σ' ρ' I' α' H' μ', Ext I (ad α) I' (ad α') → Hf g I' α' H' μ' F → En g I' (ad α') σ' ρ' → k ρ' μ' → Q σ' H'
def okY (E : Exn → Rho → Sto → Prop) (W : WX) : Prop := ∀ x cls dx σ' ρ' I' α' H' μ', Ext I (ad α) I' (ad α') → Hf g I' α' H' μ' F → En g I' (ad α') σ' ρ' → ER g I' cls dx x → E x ρ' μ' → W cls dx σ' H'
end
section
variable {g : G} {I I1 : Hp} {α α1 : Al} {F : Hp}
theorem okE.mono {k : KE} {Q : VK} (x : Ext I (ad α) I1 (ad α1)) (h : okE g I α F k Q) : okE g I1 α1 F k Q := fun v d I' α' H' μ' e => h v d I' α' H' μ' (x.trans e)
theorem okA.mono {k : List Sl → Sto → Prop} {Q : List V → Hp → Prop} (x : Ext I (ad α) I1 (ad α1)) (h : okA g I α F k Q) : okA g I1 α1 F k Q := fun v d I' α' H' μ' e => h v d I' α' H' μ' (x.trans e)
theorem okT.mono {k : Bool → Sto → Prop} {Q : Bool → Hp → Prop} (x : Ext I (ad α) I1 (ad α1)) (h : okT g I α F k Q) : okT g I1 α1 F k Q := fun b I' α' H' μ' e => h b I' α' H' μ' (x.trans e)
theorem okX.mono {E : KX} {W : Value → Option Addr → Hp → Prop} (x : Ext I (ad α) I1 (ad α1)) (h : okX g I α F E W) : okX g I1 α1 F E W := fun b cls dx I' α' H' μ' e => h b cls dx I' α' H' μ' (x.trans e)
theorem okN.mono {k : Rho → Sto → Prop} {Q : St → Hp → Prop} (x : Ext I (ad α) I1 (ad α1)) (h : okN g I α F k Q) : okN g I1 α1 F k Q := fun a b I' α' H' μ' e => h a b I' α' H' μ' (x.trans e)
theorem okY.mono {E : Exn → Rho → Sto → Prop} {W : WX} (x : Ext I (ad α) I1 (ad α1)) (h : okY g I α F E W) : okY g I1 α1 F E W := fun b cls dx s r I' α' H' μ' e => h b cls dx s r I' α' H' μ' (x.trans e)
theorem okY.at {E : Exn → Rho → Sto → Prop} {W : WX} {σ : St} {ρ : Rho} (h : okY g I α F E W) (e : En g I (ad α) σ ρ) : okX g I α F (fun x μ => E x ρ μ) (fun cls dx H => W cls dx σ H) :=
  fun x cls dx I' α' H' μ' e1 hf er q => h x cls dx σ ρ I' α' H' μ' e1 hf (e.mono e1) er q
end
section
variable (g : G) (W : WX)
def lift (T : TrE) : TE := fun σ H Q => ∃ I α ρ μ F k E, Hf g I α H μ F ∧ En g I (ad α) σ ρ ∧ T ρ μ k E ∧ okE g I α F k Q ∧ okX g I α F E (fun cls dx H => W cls dx σ H)
def liftA (T : TrA) : TA := fun σ H Q => ∃ I α ρ μ F k E, Hf g I α H μ F ∧ En g I (ad α) σ ρ ∧ T ρ μ k E ∧ okA g I α F k Q ∧ okX g I α F E (fun cls dx H => W cls dx σ H)
def liftT (T : TrT) : TT := fun σ H Q => ∃ I α ρ μ F k E, Hf g I α H μ F ∧ En g I (ad α) σ ρ ∧ T ρ μ k E ∧ okT g I α F k Q ∧ okX g I α F E (fun cls dx H => W cls dx σ H)
def liftS (T : TrS) : TS := fun D σ H => ∃ I α ρ μ F N, Hf g I α H μ F ∧ En g I (ad α) σ ρ ∧ T N ρ μ ∧ okN g I α F N.nx D.nx ∧ okN g I α F N.bk D.bk ∧ okN g I α F N.ct D.ct ∧ okE g I α F N.rt D.rt ∧ okY g I α F N.ex W
end
/-- another reading from which the rule's own follows -/
theorem PE.of {X : Cx} {e : Expr} {t t' : TE} (h : PE X e t) (w : ∀ σ H Q, t' σ H Q → t σ H Q) : PE X e t' := ⟨fun pins s σ H Q I q => h.run pins s σ H Q I (w σ H Q q)⟩
theorem PT.of {X : Cx} {e : Expr} {t t' : TT} (h : PT X e t) (w : ∀ σ H Q, t' σ H Q → t σ H Q) : PT X e t' := ⟨fun pins s σ H Q I q => h.run pins s σ H Q I (w σ H Q q)⟩
theorem PW.of {X : Cx} {e : Expr} {t t' : TT} (h : PW X e t) (w : ∀ σ H Q, t' σ H Q → t σ H Q) : PW X e t' := ⟨fun wh pins s σ H Q I q => h.run wh pins s σ H Q I (w σ H Q q)⟩
theorem PA.of {X : Cx} {e : List Expr} {t t' : TA} (h : PA X e t) (w : ∀ σ H Q, t' σ H Q → t σ H Q) : PA X e t' := ⟨fun pos pins s σ H Q I q => h.run pos pins s σ H Q I (w σ H Q q)⟩
theorem PS.of {X : Cx} {e : Stmt} {t t' : TS} (h : PS X e t) (w : ∀ D σ H, t' D σ H → t D σ H) : PS X e t' := ⟨fun pins s σ H D I q => h.run pins s σ H D I (w D σ H q)⟩
theorem PSs.of {X : Cx} {e : List Stmt} {t t' : TS} (h : PSs X e t) (w : ∀ D σ H, t' D σ H → t D σ H) : PSs X e t' := ⟨fun pins s σ H D I q => h.run pins s σ H D I (w D σ H q)⟩
abbrev DE (X : Cx) (cl : Nat → Addr) (W : WX) (e : Expr) (T : TrE) : Prop := PE X e (lift ⟨X.K, cl⟩ W T)
abbrev DA (X : Cx) (cl : Nat → Addr) (W : WX) (e : List Expr) (T : TrA) : Prop := PA X e (liftA ⟨X.K, cl⟩ W T)
abbrev DT (X : Cx) (cl : Nat → Addr) (W : WX) (e : Expr) (T : TrT) : Prop := PT X e (liftT ⟨X.K, cl⟩ W T)
abbrev DW (X : Cx) (cl : Nat → Addr) (W : WX) (e : Expr) (T : TrT) : Prop := PW X e (liftT ⟨X.K, cl⟩ W T)
abbrev DS (X : Cx) (cl : Nat → Addr) (W : WX) (e : Stmt) (T : TrS) : Prop := PS X e (liftS ⟨X.K, cl⟩ W T)
abbrev DSs (X : Cx) (cl : Nat → Addr) (W : WX) (e : List Stmt) (T : TrS) : Prop := PSs X e (liftS ⟨X.K, cl⟩ W T)
/-! ### bindings -/
section
variable {g : G} {W : WX} {σ : St} {H : Hp} {I : Hp} {α : Al} {ρ : Rho} {μ : Sto} {F : Hp} {E : KX}
theorem lift_go {T : TrE} {k : KE} {Q : VK} (hf : Hf g I α H μ F) (en : En g I (ad α) σ ρ) (t : T ρ μ k E) (hk : okE g I α F k Q) (hx : okX g I α F E (fun cls dx H => W cls dx σ H)) : lift g W T σ H Q := ⟨I, α, ρ, μ, F, k, E, hf, en, t, hk, hx⟩
theorem liftA_go {T : TrA} {k : List Sl → Sto → Prop} {Q : List V → Hp → Prop} (hf : Hf g I α H μ F) (en : En g I (ad α) σ ρ) (t : T ρ μ k E) (hk : okA g I α F k Q) (hx : okX g I α F E (fun cls dx H => W cls dx σ H)) : liftA g W T σ H Q := ⟨I, α, ρ, μ, F, k, E, hf, en, t, hk, hx⟩
theorem liftT_go {T : TrT} {k : Bool → Sto → Prop} {Q : Bool → Hp → Prop} (hf : Hf g I α H μ F) (en : En g I (ad α) σ ρ) (t : T ρ μ k E) (hk : okT g I α F k Q) (hx : okX g I α F E (fun cls dx H => W cls dx σ H)) : liftT g W T σ H Q := ⟨I, α, ρ, μ, F, k, E, hf, en, t, hk, hx⟩
end
/-! ### names and constants -/
def T_var (i : Nat) : TrE := fun ρ μ k _ => match ρ[i]? with | some (some d) => k d μ | _ => False
def T_c (d : D) : TrE := fun _ μ k _ => k (.val d) μ
section
variable {X : Cx} {cl : Nat → Addr} {W : WX}
theorem d_var (i : Nat) {x : Str} {pos : Pos} (hN : X.N[i]? = some x := by rfl) (hv : Vis X.env.scope x := by first | exact Or.inl rfl | exact Or.inr (Or.inl rfl) | exact Or.inr (Or.inr rfl)) (hd : (x == ("__debug__" : Str)) = false := by decide)
    (hcd : (x == ("__classdict__" : Str)) = false := by decide) : DE X cl W (.Name x pos) (T_var i) := by
  refine PE.of (pe_var hN hv hd hcd) fun σ H Q h => ?_
  obtain ⟨I, α, ρ, μ, F, k, E, hf, en, t, hk, hx⟩ := h
  unfold T_var at t
  cases e : ρ[i]? with
  | none => rw [e] at t; exact t.elim
  | some o =>
    cases o with
    | none => rw [e] at t; exact t.elim
    | some d =>
      rw [e] at t
      obtain ⟨v, h1, h2⟩ := en.val i d e
      exact ⟨v, h1, hk v d I α H μ (Ext.refl _ _) hf h2 t⟩
theorem d_c {e : Expr} {v : V} {d : D} (h : PE X e (tC v)) (r : ∀ I, Rp ⟨X.K, cl⟩ I v d) : DE X cl W e (T_c d) := by
  refine PE.of h fun σ H Q h => ?_
  obtain ⟨I, α, ρ, μ, F, k, E, hf, en, t, hk, hx⟩ := h
  exact hk v (.val d) I α H μ (Ext.refl _ _) hf (.val (r I)) t
theorem d_int {i j pos} : DE X cl W (.Constant (.int i) j pos) (T_c (.int i)) := d_c pe_int fun _ => .int
theorem d_bl {i j pos} : DE X cl W (.Constant (.bool i) j pos) (T_c (.bl i)) := d_c pe_bl fun _ => .bl
theorem d_non {j pos} : DE X cl W (.Constant .none j pos) (T_c .non) := d_c pe_non fun _ => .non
theorem d_str {i j pos} : DE X cl W (.Constant (.str i) j pos) (T_c (.str i)) := d_c pe_str fun _ => .str
theorem d_glob {x : Str} {v : V} {d : D} {u : Value} {pos : Pos} (hg : Gl X x) (hm : X.mg x = some u) (r : RelV v u) (q : ∀ I, Rp ⟨X.K, cl⟩ I v d) (hd : (x == ("__debug__" : Str)) = false := by decide) : DE X cl W (.Name x pos) (T_c d) := d_c (pe_glob hg hm r hd) q
theorem d_bltn {x : Str} {v : V} {d : D} {u : Value} {pos : Pos} (hg : Gl X x) (hm : X.mg x = none) (hv : bootBuiltins x = some u) (r : RelV v u) (q : ∀ I, Rp ⟨X.K, cl⟩ I v d) (hn : x ≠ "__name__" := by decide) (hd : (x == ("__debug__" : Str)) = false := by decide) : DE X cl W (.Name x pos) (T_c d) := d_c (pe_bltn hg hm hv r hn hd) q
end
/-! ### arguments -/
def T_nil : TrA := fun _ μ k _ => k [] μ
def T_cons (Ta : TrE) (Tr : TrA) : TrA := fun ρ μ k E => Ta ρ μ (fun d μ1 => Tr ρ μ1 (fun ds μ2 => k (d :: ds) μ2) E) E
section
variable {X : Cx} {cl : Nat → Addr} {W : WX}
theorem da_nil : DA X cl W [] T_nil := by
  refine PA.of pa_nil fun σ H Q h => ?_
  obtain ⟨I, α, ρ, μ, F, k, E, hf, en, t, hk, hx⟩ := h
  exact hk [] [] I α H μ (Ext.refl _ _) hf .nil t
theorem da_cons {e : Expr} {es : List Expr} {Ta : TrE} {Tr : TrA} (ha : DE X cl W e Ta) (hr : DA X cl W es Tr) (hs : starEach (e :: es) X.env = (false, eval e X.env) :: starEach es X.env := by rfl) : DA X cl W (e :: es) (T_cons Ta Tr) := by
  refine PA.of (pa_cons ha hr hs) fun σ H Q h => ?_
  obtain ⟨I, α, ρ, μ, F, k, E, hf, en, t, hk, hx⟩ := h
  refine lift_go hf en t (fun v d I1 α1 H1 μ1 x1 hf1 r1 t1 => ?_) hx
  refine liftA_go hf1 (en.mono x1) t1 (fun vs ds I2 α2 H2 μ2 x2 hf2 r2 t2 => ?_) (hx.mono x1)
  exact hk (v :: vs) (d :: ds) I2 α2 H2 μ2 (x1.trans x2) hf2 (.cons (r1.mono x2) r2) t2
end
/-! ### operations by values -/
/-- what a two-place operation gives -/
abbrev OD := Sl → Sl → Sto → KE → Prop
def OSnd (g : G) (o : OD) (r : R2) : Prop := ∀ I α H μ F x y dx dy k Q, Hf g I α H μ F → RpS g I (ad α) x dx → RpS g I (ad α) y dy → o dx dy μ k → okE g I α F k Q → r x y H Q
abbrev OU := Sl → Sto → KE → Prop
def USnd (g : G) (o : OU) (r : V → Hp → VK → Prop) : Prop := ∀ I α H μ F x dx k Q, Hf g I α H μ F → RpS g I (ad α) x dx → o dx μ k → okE g I α F k Q → r x H Q
abbrev OC := List Sl → Sto → KE → Prop
def CSnd (g : G) (o : OC) (r : List V → Hp → VK → Prop) : Prop := ∀ I α H μ F xs ds k Q, Hf g I α H μ F → RpSL g I (ad α) xs ds → o ds μ k → okE g I α F k Q → r xs H Q
def T_op (o : OD) (Ta Tb : TrE) : TrE := fun ρ μ k E => Ta ρ μ (fun x μ1 => Tb ρ μ1 (fun y μ2 => o x y μ2 k) E) E
def T_un (o : OU) (Ta : TrE) : TrE := fun ρ μ k E => Ta ρ μ (fun x μ1 => o x μ1 k) E
def T_cb (o : OC) (Ta : TrA) : TrE := fun ρ μ k E => Ta ρ μ (fun x μ1 => o x μ1 k) E
section
variable {X : Cx} {cl : Nat → Addr} {W : WX} {a b c : Expr} {Ta Tb Tc : TrE} {pos : Pos}
theorem lift_op {g : G} {r : R2} {o : OD} (hs : OSnd g o r) {σ : St} {H : Hp} {Q : VK} (h : lift g W (T_op o Ta Tb) σ H Q) : tOp r (lift g W Ta) (lift g W Tb) σ H Q := by
  obtain ⟨I, α, ρ, μ, F, k, E, hf, en, t, hk, hx⟩ := h
  refine lift_go hf en t (fun v d I1 α1 H1 μ1 x1 hf1 r1 t1 => ?_) hx
  refine lift_go hf1 (en.mono x1) t1 (fun v2 d2 I2 α2 H2 μ2 x2 hf2 r2 t2 => ?_) (hx.mono x1)
  exact hs I2 α2 H2 μ2 F v v2 d d2 k Q hf2 (r1.mono x2) r2 t2 (hk.mono (x1.trans x2))
theorem d_op {op : Operator} {r : R2} {o : OD} (ho : OpR X (binaryOp op) r) (hs : OSnd ⟨X.K, cl⟩ o r) (ha : DE X cl W a Ta) (hb : DE X cl W b Tb) : DE X cl W (.BinOp a op b pos) (T_op o Ta Tb) :=
  PE.of (pe_op ho ha hb) fun σ H Q h => lift_op hs h
theorem d_un {op : UnaryOp} {r : V → Hp → VK → Prop} {o : OU} (ho : UnR X (unaryOp op) r) (hs : USnd ⟨X.K, cl⟩ o r) (ha : DE X cl W a Ta) : DE X cl W (.UnaryOp op a pos) (T_un o Ta) := by
  refine PE.of (pe_un ho ha) fun σ H Q h => ?_
  obtain ⟨I, α, ρ, μ, F, k, E, hf, en, t, hk, hx⟩ := h
  refine lift_go hf en t (fun v d I1 α1 H1 μ1 x1 hf1 r1 t1 => ?_) hx
  exact hs I1 α1 H1 μ1 F v d k Q hf1 r1 t1 (hk.mono x1)
theorem d_cmp {op : CmpOp} {r : R2} {o : OD} (ho : OpR X (compareOp op) r) (hs : OSnd ⟨X.K, cl⟩ o r) (ha : DE X cl W a Ta) (hb : DE X cl W b Tb) (hm : behindInMarks op b = false) : DE X cl W (.Compare a [op] [b] pos) (T_op o Ta Tb) :=
  PE.of (pe_cmpR ho ha hb hm) fun σ H Q h => lift_op hs h
/-- a value that is a bool, as a test -/
def T_t (Ta : TrE) : TrT := fun ρ μ k E => Ta ρ μ (fun x μ1 => match x with | .val (.bl b) => k b μ1 | _ => False) E
theorem lift_t {g : G} {σ : St} {H : Hp} {Q : Bool → Hp → Prop} (h : liftT g W (T_t Ta) σ H Q) : lift g W Ta σ H fun x H1 => ∃ c, x = .bl c ∧ Q c H1 := by
  obtain ⟨I, α, ρ, μ, F, k, E, hf, en, t, hk, hx⟩ := h
  refine lift_go hf en t (fun v d I1 α1 H1 μ1 x1 hf1 r1 t1 => ?_) hx
  cases r1 with
  | cell => exact t1.elim
  | val r =>
    cases r with
    | bl => exact ⟨_, rfl, hk _ I1 α1 H1 μ1 x1 hf1 t1⟩
    | _ => exact (show False from t1).elim
theorem dt_cmp {op : CmpOp} {r : R2} {o : OD} (ho : OpR X (compareOp op) r) (hs : OSnd ⟨X.K, cl⟩ o r) (ha : DE X cl W a Ta) (hb : DE X cl W b Tb) (hm : behindInMarks op b = false) : DT X cl W (.Compare a [op] [b] pos) (T_t (T_op o Ta Tb)) := by
  refine PT.of (pt_cmpR ho ha hb hm) fun σ H Q h => ?_
  obtain ⟨I, α, ρ, μ, F, k, E, hf, en, t, hk, hx⟩ := h
  refine lift_go hf en t (fun v d I1 α1 H1 μ1 x1 hf1 r1 t1 => ?_) hx
  refine lift_go hf1 (en.mono x1) t1 (fun v2 d2 I2 α2 H2 μ2 x2 hf2 r2 t2 => ?_) (hx.mono x1)
  refine hs I2 α2 H2 μ2 F v v2 d d2 _ _ hf2 (r1.mono x2) r2 t2 fun w dw I3 α3 H3 μ3 x3 hf3 r3 t3 => ?_
  cases r3 with
  | cell => exact t3.elim
  | val r =>
    cases r with
    | bl => exact ⟨_, rfl, hk _ I3 α3 H3 μ3 (x1.trans (x2.trans x3)) hf3 t3⟩
    | _ => exact (show False from t3).elim
theorem dt_val {e : Expr} {T : TrE} (h : DE X cl W e T) (he : ∀ whole, isTrue e X.env whole = (do let v ← whole; standAt e.pos; holding [v] (truthy v)) := by intro _; rfl) : DT X cl W e (T_t T) :=
  PT.of (pt_val h he) fun σ H Q h => lift_t h
def T_chain (o o' : OD) (Ta Tb Tc : TrE) : TrE := fun ρ μ k E => Ta ρ μ (fun x μ1 => Tb ρ μ1 (fun y μ2 => o x y μ2 fun z μ3 => match z with | .val (.bl b) => if b = true then Tc ρ μ3 (fun w μ4 => o' y w μ4 k) E else k (.val (.bl false)) μ3 | _ => False) E) E
theorem lift_chain {g : G} {r r' : R2} {o o' : OD} (hs : OSnd g o r) (hs' : OSnd g o' r') {σ : St} {H : Hp} {Q : VK} (h : lift g W (T_chain o o' Ta Tb Tc) σ H Q) : tChain r r' (lift g W Ta) (lift g W Tb) (lift g W Tc) σ H Q := by
  obtain ⟨I, α, ρ, μ, F, k, E, hf, en, t, hk, hx⟩ := h
  refine lift_go hf en t (fun v d I1 α1 H1 μ1 x1 hf1 r1 t1 => ?_) hx
  refine lift_go hf1 (en.mono x1) t1 (fun v2 d2 I2 α2 H2 μ2 x2 hf2 r2 t2 => ?_) (hx.mono x1)
  refine hs I2 α2 H2 μ2 F v v2 d d2 _ _ hf2 (r1.mono x2) r2 t2 fun w dw I3 α3 H3 μ3 x3 hf3 r3 t3 => ?_
  have x13 := x1.trans (x2.trans x3)
  cases r3 with
  | cell => exact t3.elim
  | val r =>
    cases r with
    | @bl b =>
      refine ⟨b, rfl, ?_⟩
      cases b with
      | false => exact hk _ _ I3 α3 H3 μ3 x13 hf3 (.val .bl) t3
      | true =>
        refine lift_go hf3 (en.mono x13) t3 (fun v4 d4 I4 α4 H4 μ4 x4 hf4 r4 t4 => ?_) (hx.mono x13)
        exact hs' I4 α4 H4 μ4 F v2 v4 d2 d4 k Q hf4 (r2.mono (x3.trans x4)) r4 t4 (hk.mono (x13.trans x4))
    | _ => exact (show False from t3).elim
theorem d_chain {op op' : CmpOp} {r r' : R2} {o o' : OD} (ho : OpR X (compareOp op) r) (ho' : OpR X (compareOp op') r') (hs : OSnd ⟨X.K, cl⟩ o r) (hs' : OSnd ⟨X.K, cl⟩ o' r') (ha : DE X cl W a Ta) (hb : DE X cl W b Tb) (hc : DE X cl W c Tc)
    (hm : lastMarks [op, op'] [b, c] = false := by with_unfolding_all rfl) : DE X cl W (.Compare a [op, op'] [b, c] pos) (T_chain o o' Ta Tb Tc) :=
  PE.of (pe_chain ho ho' ha hb hc hm) fun σ H Q h => lift_chain hs hs' h
theorem dt_chain {op op' : CmpOp} {r r' : R2} {o o' : OD} (ho : OpR X (compareOp op) r) (ho' : OpR X (compareOp op') r') (hs : OSnd ⟨X.K, cl⟩ o r) (hs' : OSnd ⟨X.K, cl⟩ o' r') (ha : DE X cl W a Ta) (hb : DE X cl W b Tb) (hc : DE X cl W c Tc)
    (hm : lastMarks [op, op'] [b, c] = false := by with_unfolding_all rfl) : DT X cl W (.Compare a [op, op'] [b, c] pos) (T_t (T_chain o o' Ta Tb Tc)) :=
  PT.of (pt_chain ho ho' ha hb hc hm) fun σ H Q h => by
    obtain ⟨I, α, ρ, μ, F, k, E, hf, en, t, hk, hx⟩ := h
    refine lift_chain hs hs' (lift_go hf en t (fun v d I1 α1 H1 μ1 x1 hf1 r1 t1 => ?_) hx)
    cases r1 with
    | cell => exact t1.elim
    | val r =>
      cases r with
      | bl => exact ⟨_, rfl, hk _ I1 α1 H1 μ1 x1 hf1 t1⟩
      | _ => exact (show False from t1).elim
end
/-! ### and, or, not, if -/
def T_and (Ta Tb : TrT) : TrT := fun ρ μ k E => Ta ρ μ (fun b μ1 => if b = true then Tb ρ μ1 k E else k false μ1) E
def T_or (Ta Tb : TrT) : TrT := fun ρ μ k E => Ta ρ μ (fun b μ1 => if b = true then k true μ1 else Tb ρ μ1 k E) E
def T_not (Ta : TrT) : TrT := fun ρ μ k E => Ta ρ μ (fun b μ1 => k (!b) μ1) E
def T_andV (Ta Tb : TrE) : TrE := fun ρ μ k E => Ta ρ μ (fun x μ1 => match x with | .val (.bl b) => if b = true then Tb ρ μ1 k E else k (.val (.bl false)) μ1 | _ => False) E
def T_orV (Ta Tb : TrE) : TrE := fun ρ μ k E => Ta ρ μ (fun x μ1 => match x with | .val (.bl b) => if b = true then k (.val (.bl true)) μ1 else Tb ρ μ1 k E | _ => False) E
def T_notV (Ta : TrE) : TrE := fun ρ μ k E => Ta ρ μ (fun x μ1 => match x with | .val (.bl b) => k (.val (.bl (!b))) μ1 | _ => False) E
def T_if (Tt : TrT) (Ta Tb : TrE) : TrE := fun ρ μ k E => Tt ρ μ (fun b μ1 => if b = true then Ta ρ μ1 k E else Tb ρ μ1 k E) E
section
variable {X : Cx} {cl : Nat → Addr} {W : WX} {a b c : Expr} {rest : List Expr} {Ta Tb Tc : TrE} {Ua Ub : TrT} {pos : Pos}
theorem dw_and1 (ha : DT X cl W a Ua) : DW X cl W (.BoolOp .And [a] pos) Ua := pw_and1 ha
theorem dw_or1 (ha : DT X cl W a Ua) : DW X cl W (.BoolOp .Or [a] pos) Ua := pw_or1 ha
theorem dw_and (ha : DT X cl W a Ua) (hb : DW X cl W (.BoolOp .And (b :: rest) pos) Ub) : DW X cl W (.BoolOp .And (a :: b :: rest) pos) (T_and Ua Ub) := by
  refine PW.of (pw_and ha hb) fun σ H Q h => ?_
  obtain ⟨I, α, ρ, μ, F, k, E, hf, en, t, hk, hx⟩ := h
  refine liftT_go hf en t (fun d I1 α1 H1 μ1 x1 hf1 t1 => ?_) hx
  cases d with
  | true => exact liftT_go hf1 (en.mono x1) t1 (hk.mono x1) (hx.mono x1)
  | false => exact hk _ I1 α1 H1 μ1 x1 hf1 t1
theorem dw_or (ha : DT X cl W a Ua) (hb : DW X cl W (.BoolOp .Or (b :: rest) pos) Ub) : DW X cl W (.BoolOp .Or (a :: b :: rest) pos) (T_or Ua Ub) := by
  refine PW.of (pw_or ha hb) fun σ H Q h => ?_
  obtain ⟨I, α, ρ, μ, F, k, E, hf, en, t, hk, hx⟩ := h
  refine liftT_go hf en t (fun d I1 α1 H1 μ1 x1 hf1 t1 => ?_) hx
  cases d with
  | false => exact liftT_go hf1 (en.mono x1) t1 (hk.mono x1) (hx.mono x1)
  | true => exact hk _ I1 α1 H1 μ1 x1 hf1 t1
theorem DW.pt {e : Expr} {T : TrT} (h : DW X cl W e T) : DT X cl W e T := PW.pt h
theorem dt_not (ha : DT X cl W a Ua) : DT X cl W (.UnaryOp .Not a pos) (T_not Ua) := by
  refine PT.of (pt_not ha) fun σ H Q h => ?_
  obtain ⟨I, α, ρ, μ, F, k, E, hf, en, t, hk, hx⟩ := h
  exact liftT_go hf en t (fun d I1 α1 H1 μ1 x1 hf1 t1 => hk _ I1 α1 H1 μ1 x1 hf1 t1) hx
theorem d_one {op} {T : TrE} (h : DE X cl W a T) : DE X cl W (.BoolOp op [a] pos) T := pe_one h
theorem d_and (ha : DE X cl W a Ta) (hb : DE X cl W (.BoolOp .And (b :: rest) pos) Tb) : DE X cl W (.BoolOp .And (a :: b :: rest) pos) (T_andV Ta Tb) := by
  refine PE.of (pe_and ha hb) fun σ H Q h => ?_
  obtain ⟨I, α, ρ, μ, F, k, E, hf, en, t, hk, hx⟩ := h
  refine lift_go hf en t (fun v d I1 α1 H1 μ1 x1 hf1 r1 t1 => ?_) hx
  cases r1 with
  | cell => exact t1.elim
  | val r =>
    cases r with
    | @bl b =>
      refine ⟨b, rfl, ?_⟩
      cases b with
      | true => exact lift_go hf1 (en.mono x1) t1 (hk.mono x1) (hx.mono x1)
      | false => exact hk _ _ I1 α1 H1 μ1 x1 hf1 (.val .bl) t1
    | _ => exact (show False from t1).elim
theorem d_or (ha : DE X cl W a Ta) (hb : DE X cl W (.BoolOp .Or (b :: rest) pos) Tb) : DE X cl W (.BoolOp .Or (a :: b :: rest) pos) (T_orV Ta Tb) := by
  refine PE.of (pe_or ha hb) fun σ H Q h => ?_
  obtain ⟨I, α, ρ, μ, F, k, E, hf, en, t, hk, hx⟩ := h
  refine lift_go hf en t (fun v d I1 α1 H1 μ1 x1 hf1 r1 t1 => ?_) hx
  cases r1 with
  | cell => exact t1.elim
  | val r =>
    cases r with
    | @bl b =>
      refine ⟨b, rfl, ?_⟩
      cases b with
      | false => exact lift_go hf1 (en.mono x1) t1 (hk.mono x1) (hx.mono x1)
      | true => exact hk _ _ I1 α1 H1 μ1 x1 hf1 (.val .bl) t1
    | _ => exact (show False from t1).elim
theorem d_not (ha : DE X cl W a Ta) : DE X cl W (.UnaryOp .Not a pos) (T_notV Ta) := by
  refine PE.of (pe_not ha) fun σ H Q h => ?_
  obtain ⟨I, α, ρ, μ, F, k, E, hf, en, t, hk, hx⟩ := h
  refine lift_go hf en t (fun v d I1 α1 H1 μ1 x1 hf1 r1 t1 => ?_) hx
  cases r1 with
  | cell => exact t1.elim
  | val r =>
    cases r with
    | @bl b => exact ⟨b, rfl, hk _ _ I1 α1 H1 μ1 x1 hf1 (.val .bl) t1⟩
    | _ => exact (show False from t1).elim
theorem d_if {c : Expr} (hc : DT X cl W c Ua) (ha : DE X cl W a Ta) (hb : DE X cl W b Tb) : DE X cl W (.IfExp c a b pos) (T_if Ua Ta Tb) := by
  refine PE.of (pe_ifExp hc ha hb) fun σ H Q h => ?_
  obtain ⟨I, α, ρ, μ, F, k, E, hf, en, t, hk, hx⟩ := h
  refine liftT_go hf en t (fun d I1 α1 H1 μ1 x1 hf1 t1 => ?_) hx
  cases d with
  | true => exact lift_go hf1 (en.mono x1) t1 (hk.mono x1) (hx.mono x1)
  | false => exact lift_go hf1 (en.mono x1) t1 (hk.mono x1) (hx.mono x1)
end
/-! ### statements -/
def T_next : TrS := fun N ρ μ => N.nx ρ μ
def T_seq (T U : TrS) : TrS := fun N ρ μ => T { N with nx := U N } ρ μ
def T_asg (T : TrE) (i : Nat) : TrS := fun N ρ μ => T ρ μ (fun d μ1 => N.nx (ρ.set i (some d)) μ1) (fun x μ1 => N.ex x ρ μ1)
def T_drop (T : TrE) : TrS := fun N ρ μ => T ρ μ (fun _ μ1 => N.nx ρ μ1) (fun x μ1 => N.ex x ρ μ1)
def T_ret (T : TrE) : TrS := fun N ρ μ => T ρ μ N.rt (fun x μ1 => N.ex x ρ μ1)
def T_ifS (Tt : TrT) (T U : TrS) : TrS := fun N ρ μ => Tt ρ μ (fun b μ1 => if b = true then T N ρ μ1 else U N ρ μ1) (fun x μ1 => N.ex x ρ μ1)
/-- a statement, then the rest, with a word between them -/
def T_cut (T U : TrS) : TrS := fun N ρ μ => ∃ M : Rho → Sto → Prop, T { N with nx := M } ρ μ ∧ ∀ ρ' μ', M ρ' μ' → U N ρ' μ'
section
variable {X : Cx} {cl : Nat → Addr} {W : WX} {st : Stmt} {rest : List Stmt} {T U : TrS} {e : Expr} {Te : TrE} {pos : Pos}
theorem dss_nil : DSs X cl W [] T_next := PSs.of pss_nil fun D σ H h => by
  obtain ⟨I, α, ρ, μ, F, N, hf, en, t, n1, n2, n3, n4, n5⟩ := h
  exact n1 σ ρ I α H μ (Ext.refl _ _) hf en t
theorem dss_cons (h1 : DS X cl W st T) (h2 : DSs X cl W rest U) : DSs X cl W (st :: rest) (T_seq T U) := by
  refine PSs.of (pss_cons h1 h2) fun D σ H h => ?_
  obtain ⟨I, α, ρ, μ, F, N, hf, en, t, n1, n2, n3, n4, n5⟩ := h
  exact ⟨I, α, ρ, μ, F, { N with nx := U N }, hf, en, t, fun σ' ρ' I' α' H' μ' x hf' en' t' => ⟨I', α', ρ', μ', F, N, hf', en', t', n1.mono x, n2.mono x, n3.mono x, n4.mono x, n5.mono x⟩, n2, n3, n4, n5⟩
theorem dss_cut (h1 : DS X cl W st T) (h2 : DSs X cl W rest U) : DSs X cl W (st :: rest) (T_cut T U) := by
  refine PSs.of (pss_cons h1 h2) fun D σ H h => ?_
  obtain ⟨I, α, ρ, μ, F, N, hf, en, ⟨M, t, tm⟩, n1, n2, n3, n4, n5⟩ := h
  exact ⟨I, α, ρ, μ, F, { N with nx := M }, hf, en, t, fun σ' ρ' I' α' H' μ' x hf' en' t' => ⟨I', α', ρ', μ', F, N, hf', en', tm ρ' μ' t', n1.mono x, n2.mono x, n3.mono x, n4.mono x, n5.mono x⟩, n2, n3, n4, n5⟩
theorem dss_one (h1 : DS X cl W st T) : DSs X cl W [st] T := pss_one h1
theorem ds_pass : DS X cl W (.Pass pos) T_next := PS.of ps_pass fun D σ H h => by
  obtain ⟨I, α, ρ, μ, F, N, hf, en, t, n1, n2, n3, n4, n5⟩ := h
  exact n1 σ ρ I α H μ (Ext.refl _ _) hf en t
theorem ds_set {i : Nat} {x : Str} {pos' : Pos} (hN : X.N.Nodup) (hi : X.N[i]? = some x) (hx : Loc X.env.scope x) (he : DE X cl W e Te) (hs : swapsWith e (some (.Name x pos')) pos.line X.env = pure false := by rfl) (hf : X.fn x = true ∨ X.env.scope.names.lookup x = some .local := by first | exact .inl rfl | exact .inr rfl | assumption) :
    DS X cl W (.Assign [.Name x pos'] e pos) (T_asg Te i) := by
  refine PS.of (ps_set hN hi hx he hs hf) fun D σ H h => ?_
  obtain ⟨I, α, ρ, μ, F, N, hf, en, t, n1, n2, n3, n4, n5⟩ := h
  refine lift_go hf en t (fun v d I1 α1 H1 μ1 x1 hf1 r1 t1 => ?_) (n5.at en)
  exact n1 _ _ I1 α1 H1 μ1 x1 hf1 ((en.mono x1).set r1) t1
theorem ds_expr (he : DE X cl W e Te) (hs : swapsWith e none pos.line X.env = pure false := by rfl) : DS X cl W (.Expr e pos) (T_drop Te) := by
  refine PS.of (ps_expr he hs) fun D σ H h => ?_
  obtain ⟨I, α, ρ, μ, F, N, hf, en, t, n1, n2, n3, n4, n5⟩ := h
  refine lift_go hf en t (fun v d I1 α1 H1 μ1 x1 hf1 r1 t1 => ?_) (n5.at en)
  exact n1 _ _ I1 α1 H1 μ1 x1 hf1 (en.mono x1) t1
theorem ds_ret (he : DE X cl W e Te) : DS X cl W (.Return (some e) pos) (T_ret Te) := by
  refine PS.of (ps_ret he) fun D σ H h => ?_
  obtain ⟨I, α, ρ, μ, F, N, hf, en, t, n1, n2, n3, n4, n5⟩ := h
  exact lift_go hf en t n4 (n5.at en)
theorem ds_if {c : Expr} {a b : List Stmt} {Tt : TrT} (hc : DT X cl W c Tt) (ha : DSs X cl W a T) (hb : DSs X cl W b U) : DS X cl W (.If c a b pos) (T_ifS Tt T U) := by
  refine PS.of (ps_if hc ha hb) fun D σ H h => ?_
  obtain ⟨I, α, ρ, μ, F, N, hf, en, t, n1, n2, n3, n4, n5⟩ := h
  refine liftT_go hf en t (fun d I1 α1 H1 μ1 x1 hf1 t1 => ?_) (n5.at en)
  cases d with
  | true => exact ⟨I1, α1, ρ, μ1, F, N, hf1, en.mono x1, t1, n1.mono x1, n2.mono x1, n3.mono x1, n4.mono x1, n5.mono x1⟩
  | false => exact ⟨I1, α1, ρ, μ1, F, N, hf1, en.mono x1, t1, n1.mono x1, n2.mono x1, n3.mono x1, n4.mono x1, n5.mono x1⟩
end
end Dv
/-! Dv3: operations, own calls, walks, comprehensions. -/
namespace Dv
open PySem PySem.Spec PyProof.Rows L2
/-! ### operations on ints, texts, bools -/
def oI (C : Int → Int → Prop) (f : Int → Int → D) : OD := fun x y μ k => match x, y with
  | .val (.int i), .val (.int j) => C i j ∧ k (.val (f i j)) μ
  | _, _ => False
def oI0 (f : Int → Int → D) : OD := fun x y μ k => match x, y with
  | .val (.int i), .val (.int j) => k (.val (f i j)) μ
  | _, _ => False
theorem snd_I {g : G} {C C' : Int → Int → Prop} {f : Int → Int → D} {v : Int → Int → V} (h : ∀ i j, C i j → C' i j) (r : ∀ I i j, Rp g I (v i j) (f i j)) : OSnd g (oI C f) (rI C' v) := by
  intro I α H μ F x y dx dy k Q hf rx ry o hk
  cases rx with
  | cell => exact o.elim
  | val rx =>
    cases rx with
    | @int i =>
      cases ry with
      | cell => exact o.elim
      | val ry =>
        cases ry with
        | @int j => exact ⟨i, j, rfl, rfl, h i j o.1, hk _ _ I α H μ (Ext.refl _ _) hf (.val (r I i j)) o.2⟩
        | _ => exact (show False from o).elim
    | _ => exact (show False from o).elim
theorem snd_I0 {g : G} {f : Int → Int → D} {v : Int → Int → V} (r : ∀ I i j, Rp g I (v i j) (f i j)) : OSnd g (oI0 f) (rI0 v) := by
  intro I α H μ F x y dx dy k Q hf rx ry o hk
  cases rx with
  | cell => exact o.elim
  | val rx =>
    cases rx with
    | @int i =>
      cases ry with
      | cell => exact o.elim
      | val ry =>
        cases ry with
        | @int j => exact ⟨i, j, rfl, rfl, hk _ _ I α H μ (Ext.refl _ _) hf (.val (r I i j)) o⟩
        | _ => exact (show False from o).elim
    | _ => exact (show False from o).elim
/-- what a product of ints asks -/
def MulOk (i j : Int) : Prop := CMulW i j ∨ CMul i j
theorem op_mulA {X : Cx} : OpR X (binaryOp .Mult) (rI MulOk fun i j => .int (i * j)) := by
  intro pins s σ H x y v u Q I rx ry h
  obtain ⟨i, j, e1, e2, c, q⟩ := h
  rcases c with c | c
  · exact op_mulW pins s σ H x y v u Q I rx ry ⟨i, j, e1, e2, c, q⟩
  · exact op_mul pins s σ H x y v u Q I rx ry ⟨i, j, e1, e2, c, q⟩
def DivOk (_ j : Int) : Prop := 0 < j ∧ j.natAbs.log2 < 9000
def oSub : OD := oI0 fun i j => .int (i - j)
def oMul : OD := oI MulOk fun i j => .int (i * j)
def oMod : OD := oI (fun _ j => 0 < j) fun i j => .int (i % j)
def oFdiv : OD := oI DivOk fun i j => .int (i / j)
def oPow : OD := oI CPow fun i j => .int (i ^ j.toNat)
def oLt : OD := oI0 fun i j => .bl (decide (i < j))
def oLe : OD := oI0 fun i j => .bl (decide (i ≤ j))
def oGt : OD := oI0 fun i j => .bl (decide (j < i))
def oGe : OD := oI0 fun i j => .bl (decide (j ≤ i))
/-- + of ints, of texts -/
def oAdd : OD := fun x y μ k => match x, y with
  | .val (.int i), .val (.int j) => k (.val (.int (i + j))) μ
  | .val (.str i), .val (.str j) => i.length + j.length ≤ sizeLine ∧ k (.val (.str (i ++ j))) μ
  | _, _ => False
def rAddA : R2 := fun x y H Q => rI0 (fun i j => .int (i + j)) x y H Q ∨ (∃ i j, x = .str i ∧ y = .str j ∧ i.length + j.length ≤ sizeLine ∧ Q (.str (i ++ j)) H)
theorem op_addA {X : Cx} : OpR X (binaryOp .Add) rAddA := OpR.or op_add op_add_str
section
variable {g : G}
theorem snd_sub : OSnd g oSub (rI0 fun i j => .int (i - j)) := snd_I0 fun _ _ _ => .int
theorem snd_mul : OSnd g oMul (rI MulOk fun i j => .int (i * j)) := snd_I (fun _ _ h => h) fun _ _ _ => .int
theorem snd_mod : OSnd g oMod (rI (fun _ j => 0 < j) fun i j => .int (i % j)) := snd_I (fun _ _ h => h) fun _ _ _ => .int
theorem snd_fdiv : OSnd g oFdiv (rI CDivW fun i j => .int (i / j)) := snd_I (fun _ _ h => h) fun _ _ _ => .int
theorem snd_pow : OSnd g oPow (rI CPow fun i j => .int (i ^ j.toNat)) := snd_I (fun _ _ h => h) fun _ _ _ => .int
theorem snd_lt : OSnd g oLt (rI0 fun i j => .bl (decide (i < j))) := snd_I0 fun _ _ _ => .bl
theorem snd_le : OSnd g oLe (rI0 fun i j => .bl (decide (i ≤ j))) := snd_I0 fun _ _ _ => .bl
theorem snd_gt : OSnd g oGt (rI0 fun i j => .bl (decide (j < i))) := snd_I0 fun _ _ _ => .bl
theorem snd_ge : OSnd g oGe (rI0 fun i j => .bl (decide (j ≤ i))) := snd_I0 fun _ _ _ => .bl
theorem snd_add : OSnd g oAdd rAddA := by
  intro I α H μ F x y dx dy k Q hf rx ry o hk
  cases rx with
  | cell => exact o.elim
  | val rx =>
    cases rx with
    | @int i =>
      cases ry with
      | cell => exact o.elim
      | val ry =>
        cases ry with
        | @int j => exact .inl ⟨i, j, rfl, rfl, hk _ _ I α H μ (Ext.refl _ _) hf (.val .int) o⟩
        | _ => exact (show False from o).elim
    | @str i =>
      cases ry with
      | cell => exact o.elim
      | val ry =>
        cases ry with
        | @str j => exact .inr ⟨i, j, rfl, rfl, o.1, hk _ _ I α H μ (Ext.refl _ _) hf (.val .str) o.2⟩
        | _ => exact (show False from o).elim
    | _ => exact (show False from o).elim
end
/-! ### plain data told as the library's own -/
mutual
def D.py : D → Option PyData
  | .non => some .none
  | .bl b => some (.bool b)
  | .int i => some (.int i)
  | .str x => some (.str x)
  | .lst xs => (D.pyL xs).map .list
  | .tup xs => (D.pyL xs).map .tuple
  | _ => none
def D.pyL : List D → Option (List PyData)
  | [] => some []
  | d :: r => match D.py d, D.pyL r with
    | some x, some y => some (x :: y)
    | _, _ => none
end
section
variable {g : G} {I H : Hp}
mutual
theorem Rp.dp (s : Same I H) : ∀ {v : V} {d : D} {p : PyData}, Rp g I v d → d.py = some p → Dp g.K H v p
  | _, _, p, .non, e => by cases e; exact .non
  | _, _, p, .bl, e => by cases e; exact .bl _
  | _, _, p, .int, e => by cases e; exact .int _
  | _, _, p, .str, e => by cases e; exact .str _
  | _, _, p, .ty, e => by cases e
  | _, _, p, .lst (ds := ds) h r, e => by
    have e' : (D.pyL ds).map PyData.list = some p := e
    cases q : D.pyL ds with
    | none => rw [q] at e'; cases e'
    | some ps =>
      rw [q] at e'
      cases e'
      exact .lst (s.seq h) (RpL.dp s r q)
  | _, _, p, .tup (ds := ds) h r, e => by
    have e' : (D.pyL ds).map PyData.tuple = some p := e
    cases q : D.pyL ds with
    | none => rw [q] at e'; cases e'
    | some ps =>
      rw [q] at e'
      cases e'
      exact .tup (sqT_same s h) (RpL.dp s r q)
  | _, _, p, .obj h, e => by cases e
  | _, _, p, .ins h r, e => by cases e
theorem RpL.dp (s : Same I H) : ∀ {vs : List V} {ds : List D} {ps : List PyData}, RpL g I vs ds → D.pyL ds = some ps → DpAll g.K H vs ps
  | _, _, ps, .nil, e => by cases e; exact .nil
  | _, _, ps, .cons (d := d) (ds := ds) r t, e => by
    have e' : (match D.py d, D.pyL ds with | some x, some y => some (x :: y) | _, _ => none) = some ps := e
    cases q1 : D.py d with
    | none => rw [q1] at e'; cases e'
    | some x =>
      cases q2 : D.pyL ds with
      | none => rw [q1, q2] at e'; cases e'
      | some y =>
        rw [q1, q2] at e'
        cases e'
        exact .cons (Rp.dp s r q1) (RpL.dp s t q2)
end
end
/-- the scalars -/
def D.v? : D → Option V
  | .non => some .non
  | .bl b => some (.bl b)
  | .int i => some (.int i)
  | .str x => some (.str x)
  | _ => none
/-- == of two plain values -/
def eqD (f : Bool → Bool) (x y : D) (k : Bool → Prop) : Prop := match x.v?, y.v? with
  | some a, some b => scal a b = true ∧ k (f (decide (a = b)))
  | _, _ => match x.py, y.py with
    | some p, some q => SeqAt.shaped p = true ∧ SeqAt.shaped q = true ∧ k (f (PyData.eqv p q))
    | _, _ => False
def valD? : Sl → Option D
  | .val d => some d
  | .cell _ => none
/-- a value or what a list of the store holds now -/
def nowD (μ : Sto) : Sl → Option D
  | .val d => some d
  | .cell j => match μ[j]? with
    | some (.lst xs) => (xs.mapM valD?).map D.lst
    | _ => none
def oEqF (f : Bool → Bool) : OD := fun x y μ k => match nowD μ x, nowD μ y with
  | some a, some b => eqD f a b fun r => k (.val (.bl r)) μ
  | _, _ => False
def oEq : OD := oEqF id
def oNe : OD := oEqF not
section
variable {g : G} {I H : Hp} {α : Al} {μ : Sto} {F : Hp}
theorem mapM_val : ∀ {xs : List Sl} {ds : List D}, xs.mapM valD? = some ds → xs = ds.map Sl.val
  | [], ds, h => by
    cases h
    rfl
  | s :: r, ds, h => by
    rw [List.mapM_cons] at h
    cases s with
    | cell j => cases h
    | val d =>
      cases q : r.mapM valD? with
      | none => rw [q] at h; cases h
      | some es =>
        rw [q] at h
        have e : d :: es = ds := Option.some.inj h
        subst e
        rw [mapM_val q]
        rfl
/-- the same value, told of the heap as it stands -/
theorem now_rp {v : V} {s : Sl} {d : D} (hf : Hf g I α H μ F) (r : RpS g I (ad α) v s) (e : nowD μ s = some d) : Rp g H v d := by
  cases r with
  | val r =>
    cases e
    exact r.mono hf.sub
  | @cell k a h =>
    have e' : (match μ[k]? with | some (.lst xs) => (xs.mapM valD?).map D.lst | _ => none) = some d := e
    cases q : μ[k]? with
    | none => rw [q] at e'; cases e'
    | some m =>
      rw [q] at e'
      cases m with
      | lst xs =>
        obtain ⟨fp, ha, _, vs, hv, hr⟩ := hf.cell h q
        cases z : xs.mapM valD? with
        | none => simp only [z] at e'; cases e'
        | some ds =>
          simp only [z] at e'
          cases e'
          have := mapM_val z
          subst this
          exact .lst (SqL.of hv) (hr.toL.mono hf.sub)
      | _ => cases e'
theorem v?_rp {v a : V} {d : D} (r : Rp g H v d) (h : d.v? = some a) : v = a := by
  cases r <;> cases h <;> rfl
theorem eqv_eqD {f : Bool → Bool} {a b : D} {k : Bool → Prop} (h : eqD f a b k) : (∃ p q, a.v? = some p ∧ b.v? = some q ∧ scal p q = true ∧ k (f (decide (p = q)))) ∨ ∃ p q, a.py = some p ∧ b.py = some q ∧ SeqAt.shaped p = true ∧ SeqAt.shaped q = true ∧ k (f (PyData.eqv p q)) := by
  unfold eqD at h
  split at h
  · rename_i p q e1 e2
    exact .inl ⟨p, q, e1, e2, h.1, h.2⟩
  · split at h
    · rename_i p q e1 e2
      exact .inr ⟨p, q, e1, e2, h.1, h.2.1, h.2.2⟩
    · exact h.elim
def rEqA (K : PySem.W.Frag) : R2 := fun x y H Q => rEq x y H Q ∨ rEqD K x y H Q
def rNeA (K : PySem.W.Frag) : R2 := fun x y H Q => rNe x y H Q ∨ rNeD K x y H Q
theorem op_eqA {X : Cx} (hu : X.A.units + 64 < cLine) : OpR X (compareOp .Eq) (rEqA X.K) := OpR.or op_eq (op_eqD hu)
theorem op_neA {X : Cx} (hu : X.A.units + 64 < cLine) : OpR X (compareOp .NotEq) (rNeA X.K) := OpR.or op_ne (op_neD hu)
theorem snd_eq : OSnd g oEq (rEqA g.K) := by
  intro I α H μ F x y dx dy k Q hf rx ry o hk
  unfold oEq oEqF at o
  cases e1 : nowD μ dx with
  | none => rw [e1] at o; exact o.elim
  | some a =>
    cases e2 : nowD μ dy with
    | none => rw [e1, e2] at o; exact o.elim
    | some b =>
      rw [e1, e2] at o
      rcases eqv_eqD o with ⟨p, q, h1, h2, h3, h4⟩ | ⟨p, q, h1, h2, h3, h4, h5⟩
      · have z1 := v?_rp (now_rp hf rx e1) h1
        have z2 := v?_rp (now_rp hf ry e2) h2
        subst z1
        subst z2
        exact .inl ⟨h3, hk _ _ I α H μ (Ext.refl _ _) hf (.val .bl) h4⟩
      · exact .inr ⟨p, q, (now_rp hf rx e1).dp (Same.refl _) h1, (now_rp hf ry e2).dp (Same.refl _) h2, h3, h4, hk _ _ I α H μ (Ext.refl _ _) hf (.val .bl) h5⟩
theorem snd_ne : OSnd g oNe (rNeA g.K) := by
  intro I α H μ F x y dx dy k Q hf rx ry o hk
  unfold oNe oEqF at o
  cases e1 : nowD μ dx with
  | none => rw [e1] at o; exact o.elim
  | some a =>
    cases e2 : nowD μ dy with
    | none => rw [e1, e2] at o; exact o.elim
    | some b =>
      rw [e1, e2] at o
      rcases eqv_eqD o with ⟨p, q, h1, h2, h3, h4⟩ | ⟨p, q, h1, h2, h3, h4, h5⟩
      · have z1 := v?_rp (now_rp hf rx e1) h1
        have z2 := v?_rp (now_rp hf ry e2) h2
        subst z1
        subst z2
        exact .inl ⟨h3, hk _ _ I α H μ (Ext.refl _ _) hf (.val .bl) h4⟩
      · exact .inr ⟨p, q, (now_rp hf rx e1).dp (Same.refl _) h1, (now_rp hf ry e2).dp (Same.refl _) h2, h3, h4, hk _ _ I α H μ (Ext.refl _ _) hf (.val .bl) h5⟩
end
/-! ### contracts -/
abbrev Ct := List Sl → Sto → KE → KX → Prop
def spOf (g : G) (c : Ct) : Sp := fun vs H Q E => ∃ I α μ F ds k e, Hf g I α H μ F ∧ RpSL g I (ad α) vs ds ∧ c ds μ k e ∧ okE g I α F k Q ∧ okX g I α F e E
/-- a def of plain data -/
abbrev CtP := List D → (D → Prop) → (Exn → Prop) → Prop
def ctP (c : CtP) : Ct := fun ds μ k e => μ = [] ∧ ∃ xs, ds = xs.map Sl.val ∧ c xs (fun d => ∀ ν, k (.val d) ν) (fun x => ∀ ν, e x ν)
/-- a def that changes one thing of the store, its cell 0 -/
abbrev CtS := List Sl → MO → (D → MO → Prop) → (Exn → MO → Prop) → Prop
def ctS (c : CtS) : Ct := fun ds μ k e => ∃ m, μ = [m] ∧ c ds m (fun d m' => ∀ ν, k (.val d) (m' :: ν)) (fun x m' => ∀ ν, e x (m' :: ν))
section
variable {P : Program} {w : World} {K : PySem.W.Frag} {mg : Str → Option Value} {base : Heap} {cl : Nat → Addr}
/-- THE RULE for a def: its body's reading over plain data -/
theorem fn_ok {x qual : Str} {st : Stmt} {f : Addr} {fd : FuncData} {N ps : List Str} {k : Nat} {c : Ct} {T : TrS} (F : Fun K x qual st f fd) (S : FnScope N ps (defScope st)) (len : ∀ ds μ k e, c ds μ k e → ds.length = ps.length)
    (hbody : ∀ (cdv : Value) (A : Around) (outer : List Env) (s : Shared) (H : Hp) (E : XK), Room k (A.deeper (envOfC qual (defScope st) s.heap.objs.size f cdv)) →
      Takes (cxOf (L2.CX P w) P w K mg base N qual (defScope st) f cdv A outer s H E) (fun cls d _ H => E cls d H) →
      DSs (cxOf (L2.CX P w) P w K mg base N qual (defScope st) f cdv A outer s H E) cl (fun cls d _ H => E cls d H) (defBody st) T)
    (hvc : ∀ ds μ k e, c ds μ k e → T ⟨fun _ μ' => k (.val .non) μ', k, fun _ _ => False, fun _ _ => False, fun x _ μ' => e x μ'⟩ (ds.map some ++ List.replicate (N.length - ds.length) none) μ) :
    FnOk P w K mg base (L2.CX P w) (k + 1) f fd ps (spOf ⟨K, cl⟩ c) := by
  refine F.okX S (fun vs H Q E h => ?_) (fun cdv A outer s H vs Q E hr h => ⟨_, hbody cdv A outer s H E hr (takes_of rfl rfl rfl rfl), ?_⟩)
  · obtain ⟨I, α, μ, F, ds, k, e, hf, r, hc, _, _⟩ := h
    rw [r.length]
    exact len ds μ k e hc
  · obtain ⟨I, α, μ, F, ds, k, e, hf, r, hc, hk, hx⟩ := h
    have en : En ⟨K, cl⟩ I (ad α) (L2.start N vs) (ds.map some ++ List.replicate (N.length - ds.length) none) := by
      unfold L2.start
      rw [r.length]
      exact En.start r
    exact ⟨I, α, _, μ, F, _, hf, en, hvc ds μ k e hc, fun σ' ρ' I' α' H' μ' x hf' _ q => hk _ _ I' α' H' μ' x hf' (.val .non) q, fun _ _ _ _ _ _ _ _ _ z => z.elim, fun _ _ _ _ _ _ _ _ _ z => z.elim, hk,
      fun x cls dx σ' ρ' I' α' H' μ' e' hf' _ er q => hx x cls dx I' α' H' μ' e' hf' er q⟩
end
/-! ### a def whose reading wants to know that no repr is under way -/
structure FnG (P : Program) (w : World) (K : PySem.W.Frag) (mg : Str → Option Value) (base : Heap) (k : Nat) (f : Addr) (fd : FuncData) (ps : List Str) (sp : Sp) : Prop where
  len : ∀ vs H Q E, sp vs H Q E → vs.length = ps.length
  run : ∀ (A : Around) (outer : List Env) (s : Shared) (H : Hp) (args : Args) (us : List Value) (vs : List V) (Q : VK) (E : XK), Room k A → A.guards = some [] → Env0 P w K mg base A outer s H → BindsTo s fd args (ps.zip us) → Vals vs us → sp vs H Q E →
    codeAny (model P w) A (.call (.ref f) args) (CR (L2.CX P w) outer P w H s Q E) s
section
variable {P : Program} {w : World} {K : PySem.W.Frag} {mg : Str → Option Value} {base : Heap} {cl : Nat → Addr}
theorem fnG_of {k : Nat} {f : Addr} {name qual : Str} {params : Arguments} {body : List Stmt} {scope : Scope} {dV kV doc pm cdv ct oc : Value} {an od : Option Addr}
    {osl : Array (Option Value)} {N ps : List Str} {sp : Sp} (lk : K.lookup f = some ⟨oc, od, .func (PySem.W.fnOf name qual params body scope dV kV doc pm an cdv ct), osl⟩) (hcd : PySem.W.codeIn K cdv qual = true) (S : FnScope N ps scope)
    (len : ∀ vs H Q E, sp vs H Q E → vs.length = ps.length)
    (hbody : ∀ (A : Around) (outer : List Env) (s : Shared) (H : Hp) (vs : List V) (Q : VK) (E : XK), Room k (A.deeper (envOfC qual scope s.heap.objs.size f cdv)) → A.guards = some [] → sp vs H Q E →
      ∃ t, PSs (cxOf (L2.CX P w) P w K mg base N qual scope f cdv A outer s H E) body t ∧ t { nx := fun _ H' => Q .non H', rt := Q } (L2.start N vs) H) :
    FnG P w K mg base (k + 1) f (PySem.W.fnOf name qual params body scope dV kV doc pm an cdv ct) ps sp := by
  refine ⟨len, fun A outer s H args us vs Q E hr hG e0 hb r hsp => ?_⟩
  have F : FnOk P w K mg base (L2.CX P w) (k + 1) f (PySem.W.fnOf name qual params body scope dV kV doc pm an cdv ct) ps (fun vs' H' Q' E' => sp vs' H' Q' E') → True := fun _ => trivial
  have hl := len _ _ _ _ hsp
  have KX : K.In s.heap := e0.mod.kin.keeps fun b o e => (e0.bs b o e).1
  have lim : s.heap.NoLimit := e0.mod.nolimit.keeps fun b o e => (e0.bs b o e).1
  have hkind : ∀ y ∈ ps.zip us, scope.names.lookup y.1 = some .local ∨ (scope.names.lookup y.1 = some .cell ∧ ((cellsFrom (s.heap.objs.size + 1) scope.names []).lookup y.1).isSome = true) := fun ⟨n, v⟩ hy => by
    rcases S.par n (List.of_mem_zip hy).1 with q | q
    · exact .inl q
    · exact .inr ⟨q, PySem.W.cellsFrom_some _ _ _ (.inl q)⟩
  refine codeAny_call_function hr.depth (KX _ _ lk) rfl S.co S.gen rfl (PySem.W.codeRec_of KX hcd) (hb _ _ _ _ ?_)
  refine wpAny_newFunctionEnv_cells S.kind hkind fun env he s1 x => ?_
  subst he
  refine ⟨lim.keeps x.toInCall.keep, codeAny_func ?_⟩
  obtain ⟨t, ht, hq⟩ := hbody A outer s H vs Q E (hr.deeper _) hG hsp
  have I : L2.Inv (cxOf (L2.CX P w) P w K mg base N qual scope f cdv A outer s H E) [] (L2.start N vs) H s1 := inv_start S hr.hd e0 hl r x
  refine wpAny_mono (ht.run [] s1 (L2.start N vs) H _ I hq) (fun fl s' hs => ?_) fun e s' hs => hs
  have fin : ∀ {σ' : L2.St} {H' : Hp} {v : V} {u : Value}, L2.Inv (cxOf (L2.CX P w) P w K mg base N qual scope f cdv A outer s H E) [] σ' H' s' → RelV v u → Q v H' → CE outer P w H s Q u s' :=
    fun {σ' H' v u} J rv q => ⟨v, H', J.os, J.bare, J.base, J.hok, rv, q⟩
  cases fl with
  | ret u =>
    obtain ⟨v, σ', H', J, rv, q⟩ := hs
    exact fin J rv q
  | next =>
    obtain ⟨σ', H', J, q⟩ := hs
    exact fin (v := V.non) (u := Value.none) J rfl q
  | brk =>
    obtain ⟨_, _, _, q⟩ := hs
    exact False.elim q
  | cont =>
    obtain ⟨_, _, _, q⟩ := hs
    exact False.elim q
/-- THE RULE for such a def -/
theorem fn_okG {x qual : Str} {st : Stmt} {f : Addr} {fd : FuncData} {N ps : List Str} {k : Nat} {c : Ct} {T : TrS} (F : Fun K x qual st f fd) (S : FnScope N ps (defScope st)) (len : ∀ ds μ k e, c ds μ k e → ds.length = ps.length)
    (hbody : ∀ (cdv : Value) (A : Around) (outer : List Env) (s : Shared) (H : Hp) (E : XK), Room k (A.deeper (envOfC qual (defScope st) s.heap.objs.size f cdv)) → A.guards = some [] →
      Takes (cxOf (L2.CX P w) P w K mg base N qual (defScope st) f cdv A outer s H E) (fun cls d _ H => E cls d H) →
      DSs (cxOf (L2.CX P w) P w K mg base N qual (defScope st) f cdv A outer s H E) cl (fun cls d _ H => E cls d H) (defBody st) T)
    (hvc : ∀ ds μ k e, c ds μ k e → T ⟨fun _ μ' => k (.val .non) μ', k, fun _ _ => False, fun _ _ => False, fun x _ μ' => e x μ'⟩ (ds.map some ++ List.replicate (N.length - ds.length) none) μ) :
    FnG P w K mg base (k + 1) f fd ps (spOf ⟨K, cl⟩ c) := by
  obtain ⟨oc, od, kV, doc, pm, an, cdv, ct, osl, rfl, lk, hcd⟩ := F.ex
  refine fnG_of lk hcd S (fun vs H Q E h => ?_) (fun A outer s H vs Q E hr hG h => ⟨_, hbody cdv A outer s H E hr hG (takes_of rfl rfl rfl rfl), ?_⟩)
  · obtain ⟨I, α, μ, F, ds, k, e, hf, r, hc, _, _⟩ := h
    rw [r.length]
    exact len ds μ k e hc
  · obtain ⟨I, α, μ, F, ds, k, e, hf, r, hc, hk, hx⟩ := h
    have en : En ⟨K, cl⟩ I (ad α) (L2.start N vs) (ds.map some ++ List.replicate (N.length - ds.length) none) := by
      unfold L2.start
      rw [r.length]
      exact En.start r
    exact ⟨I, α, _, μ, F, _, hf, en, hvc ds μ k e hc, fun σ' ρ' I' α' H' μ' x hf' _ q => hk _ _ I' α' H' μ' x hf' (.val .non) q, fun _ _ _ _ _ _ _ _ _ z => z.elim, fun _ _ _ _ _ _ _ _ _ z => z.elim, hk,
      fun x cls dx σ' ρ' I' α' H' μ' e' hf' _ er q => hx x cls dx I' α' H' μ' e' hf' er q⟩
end
/-- the callee runs here -/
structure Runs (X : Cx) (f : Addr) (fd : FuncData) (ps : List Str) (sp : Sp) : Prop where
  len : ∀ vs H Q E, sp vs H Q E → vs.length = ps.length
  run : ∀ (s : Shared) (H : Hp) (args : Args) (us : List Value) (vs : List V) (Q : VK) (E : XK), Env0 X.prog X.w X.K X.mg X.base X.A X.stack s H → BindsTo s fd args (ps.zip us) → Vals vs us → sp vs H Q E →
    codeAny (model X.prog X.w) X.A (.call (.ref f) args) (CR (L2.CX X.prog X.w) X.stack X.prog X.w H s Q E) s
theorem FnOk.runs {X : Cx} {k : Nat} {f : Addr} {fd : FuncData} {ps : List Str} {sp : Sp} (F : FnOk X.prog X.w X.K X.mg X.base (L2.CX X.prog X.w) k f fd ps sp) (hr : Room k X.A) : Runs X f fd ps sp :=
  ⟨F.len, fun s H args us vs Q E e0 hb r h => F.run X.A X.stack s H args us vs Q E hr e0 hb r h⟩
theorem FnG.runs {X : Cx} {k : Nat} {f : Addr} {fd : FuncData} {ps : List Str} {sp : Sp} (F : FnG X.prog X.w X.K X.mg X.base k f fd ps sp) (hr : Room k X.A) (hG : X.A.guards = some []) : Runs X f fd ps sp :=
  ⟨F.len, fun s H args us vs Q E e0 hb r h => F.run X.A X.stack s H args us vs Q E hr hG e0 hb r h⟩
/-! ### own calls -/
/-- how the arguments come: n by place, the names ks; gV puts both in the parameters' order -/
def tCallG (n m : Nat) (sp : Sp) (gV : List V → List V → List V) (E : L2.St → XK) (t tk : TA) : TE := fun σ H Q => t σ H fun vs H1 => tk σ H1 fun zs H2 => vs.length = n ∧ zs.length = m ∧ sp (gV vs zs) H2 Q (E σ)
section
variable {X : Cx} {n : Nat} {f : Addr} {fd : FuncData} {ps ks : List Str} {sp : Sp} {E : L2.St → XK} {x : Str} {p pos : Pos} {e : Expr} {es : List Expr} {kws : List Keyword} {t tk : TA} {gg : List Value → List Value → List Value} {gV : List V → List V → List V}
theorem run_g {pins : List (Addr × Obj)} {σ : L2.St} {H : Hp} {s : Shared} {Q : VK} {us ws : List Value} {vs zs : List V} {E : XK} (R : Runs X f fd ps sp) (hb : KBn X.K fd ps n ks gg gV) (hx : PassesAt (L2.CX X.prog X.w) X σ E)
    (I : Inv X pins σ H s) (r : Vals vs us) (rz : Vals zs ws) (l1 : vs.length = n) (l2 : zs.length = ks.length) (h : sp (gV vs zs) H Q E) : wpAny (model X.prog X.w) X.A (call (.ref f) us (ks.zip ws)) (EP X pins σ Q) X.xe s := by
  have r2 := hb.rel r rz
  refine wpAny_call (codeAny_mono (R.run s H ⟨us, ks.zip ws⟩ (gg us ws) (gV vs zs) Q E I.env0 (hb.to s us ws I.kIn (r.length.symm.trans l1) (rz.length.symm.trans l2)) r2 h) fun r s' hq => ?_)
  cases r with
  | error e => exact hx pins H s e s' I hq
  | ok fl =>
    cases fl with
    | ret u => exact I.after hq
    | next => exact False.elim hq
    | brk => exact False.elim hq
    | cont => exact False.elim hq
theorem pe_callG (R : Runs X f fd ps sp) (hg : Gl X x) (hm : X.mg x = some (.ref f)) (hk : PySem.W.keepIn X.K (.ref f) = true) (hb : KBn X.K fd ps n ks gg gV) (hx : ∀ σ, PassesAt (L2.CX X.prog X.w) X σ (E σ))
    (ha : PA X (e :: es) t) (hkw : PK X kws tk) (hall : (backToKw pos (keywordEach kws X.env)).all (·.1.isSome) = true := by rfl) (hks : (backToKw pos (keywordEach kws X.env)).filterMap (·.1) = ks := by rfl)
    (hdb : (x == ("__debug__" : Str)) = false := by decide) (he : starEach (e :: es) X.env = (false, eval e X.env) :: starEach es X.env := by rfl)
    (hpl : ((backTo pos (starEach (e :: es) X.env)).any (·.1) || (backToKw pos (keywordEach kws X.env)).any (·.1.isNone)) = false := by rfl) :
    PE X (.Call (.Name x p) (e :: es) kws pos) (tCallG n ks.length sp gV E t tk) := by
  refine ⟨fun pins s σ H Q I h => ?_⟩
  refine wpAny_Call_Name_kw (ld_glob I hg hm ?_ hdb)
  refine PySem.W.callWith_KW (h₀ := X.base) I.ok.mod.kin hk hall (thn (ha.run pos pins s σ H _ I h) fun us s1 ⟨vs, H1, I1, r, q⟩ => ?_) hpl he
  refine thn (hkw.run pos pins s1 σ H1 _ I1 q) fun ws s2 ⟨zs, H2, I2, rz, l1, l2, q2⟩ => ⟨I2.kIn, ?_⟩
  rw [hks]
  exact run_g R hb (hx σ) I2 r rz l1 l2 q2
theorem pe_callG0 (R : Runs X f fd ps sp) (hg : Gl X x) (hm : X.mg x = some (.ref f)) (hk : PySem.W.keepIn X.K (.ref f) = true) (hb : KBn X.K fd ps n ks gg gV) (hx : ∀ σ, PassesAt (L2.CX X.prog X.w) X σ (E σ))
    (hkw : PK X kws tk) (hall : (backToKw pos (keywordEach kws X.env)).all (·.1.isSome) = true := by rfl) (hks : (backToKw pos (keywordEach kws X.env)).filterMap (·.1) = ks := by rfl)
    (hdb : (x == ("__debug__" : Str)) = false := by decide)
    (hpl : ((backTo pos (starEach [] X.env)).any (·.1) || (backToKw pos (keywordEach kws X.env)).any (·.1.isNone)) = false := by rfl) :
    PE X (.Call (.Name x p) [] kws pos) (tCallG n ks.length sp gV E tNil tk) := by
  refine ⟨fun pins s σ H Q I h => ?_⟩
  refine wpAny_Call_Name_kw (ld_glob I hg hm ?_ hdb)
  refine PySem.W.callWith_KW0 (h₀ := X.base) I.ok.mod.kin hk hall (thn (hkw.run pos pins s σ H _ I h) fun ws s2 ⟨zs, H2, I2, rz, l1, l2, q2⟩ => ⟨I2.kIn, ?_⟩) hpl
  rw [hks]
  exact run_g R hb (hx σ) I2 .nil rz l1 l2 q2
end
theorem pass0At {X : Cx} (σ : L2.St) : PassesAt (L2.CX X.prog X.w) X σ (fun _ _ _ => False) := fun _ _ _ _ _ _ h => by
  obtain ⟨_, _, _, _, _, _, _, _, _, _, _, _, z⟩ := h
  exact z.elim
/-- keywords over plain data -/
abbrev DK (X : Cx) (cl : Nat → Addr) (W : WX) (kws : List Keyword) (T : TrA) : Prop := PK X kws (liftA ⟨X.K, cl⟩ W T)
section
variable {X : Cx} {cl : Nat → Addr} {W : WX}
theorem PK.of {kws : List Keyword} {t t' : TA} (h : PK X kws t) (w : ∀ σ H Q, t' σ H Q → t σ H Q) : PK X kws t' := ⟨fun pos pins s σ H Q I q => h.run pos pins s σ H Q I (w σ H Q q)⟩
theorem dk_nil : DK X cl W [] T_nil := by
  refine PK.of pk_nil fun σ H Q h => ?_
  obtain ⟨I, α, ρ, μ, F, k, E, hf, en, t, hk, hx⟩ := h
  exact hk [] [] I α H μ (Ext.refl _ _) hf .nil t
theorem dk_cons {nm : Option Str} {e : Expr} {kpos : Pos} {es : List Keyword} {Ta : TrE} {Tr : TrA} (ha : DE X cl W e Ta) (hr : DK X cl W es Tr) : DK X cl W (⟨nm, e, kpos⟩ :: es) (T_cons Ta Tr) := by
  refine PK.of (pk_cons ha hr) fun σ H Q h => ?_
  obtain ⟨I, α, ρ, μ, F, k, E, hf, en, t, hk, hx⟩ := h
  refine lift_go hf en t (fun v d I1 α1 H1 μ1 x1 hf1 r1 t1 => ?_) hx
  refine liftA_go hf1 (en.mono x1) t1 (fun vs ds I2 α2 H2 μ2 x2 hf2 r2 t2 => ?_) (hx.mono x1)
  exact hk (v :: vs) (d :: ds) I2 α2 H2 μ2 (x1.trans x2) hf2 (.cons (r1.mono x2) r2) t2
end
/-- a caller's things stand aside while plain data is worked on -/
def asideOf (α : Al) (H F : Hp) : Hp := fun a => if a ∈ owned α ∨ (F a).isSome = true then H a else none
section
variable {g : G} {I I' H H' : Hp} {α : Al} {μ : Sto} {F : Hp}
theorem Hf.leave (h : Hf g I α H μ F) : Hf g I [] H [] (asideOf α H F) :=
  ⟨h.sub, rfl, fun k p o e => by simp at e, by exact List.nodup_nil, fun b hb => (nomatch hb), fun b o e => by
    unfold asideOf at e
    by_cases c : b ∈ owned α ∨ (F b).isSome = true
    · rw [if_pos c] at e
      refine ⟨e, ?_, by simp [owned]⟩
      rcases c with c | c
      · exact (h.own b c).1
      · obtain ⟨u, hu⟩ := Option.isSome_iff_exists.mp c
        exact (h.frm b u hu).2.1
    · rw [if_neg c] at e
      cases e⟩
theorem Hf.back {β : Al} {ν : Sto} (h : Hf g I α H μ F) (h' : Hf g I' β H' ν (asideOf α H F)) (x : Same I I') : Hf g I' α H' μ F := by
  have st : ∀ b, b ∈ owned α → ∃ o, H b = some o ∧ H' b = some o ∧ I' b = none := fun b hb => by
    cases q : H b with
    | none => exact absurd q (h.own b hb).2
    | some o =>
      have z : asideOf α H F b = some o := by
        unfold asideOf
        rw [if_pos (.inl hb)]
        exact q
      obtain ⟨h1, h2, _⟩ := h'.frm b o z
      exact ⟨o, rfl, h1, h2⟩
  refine ⟨h'.sub, h.len, fun k p o e1 e2 => (h.sto k p o e1 e2).mono (Ext.of x _) fun b hb => ?_, h.nod, fun b hb => ?_, fun b o e => ?_⟩
  · obtain ⟨o, h1, h2, _⟩ := st b (mem_owned e1 hb)
    rw [h1, h2]
  · obtain ⟨o, h1, h2, h3⟩ := st b hb
    exact ⟨h3, by rw [h2]; exact fun z => by cases z⟩
  · obtain ⟨h1, h2, h3⟩ := h.frm b o e
    have z : asideOf α H F b = some o := by
      unfold asideOf
      rw [if_pos (.inr (by rw [e]; rfl))]
      exact h1
    obtain ⟨q1, q2, _⟩ := h'.frm b o z
    exact ⟨q1, q2, h3⟩
end
/-- the plain values among values -/
def vals? : List Sl → Option (List D)
  | [] => some []
  | .val d :: r => match vals? r with
    | some ds => some (d :: ds)
    | none => none
  | .cell _ :: _ => none
theorem vals?_eq : ∀ {ds : List Sl} {xs : List D}, vals? ds = some xs → ds = xs.map Sl.val
  | [], xs, h => by cases h; rfl
  | .val d :: r, xs, h => by
    unfold vals? at h
    cases q : vals? r with
    | none => rw [q] at h; cases h
    | some ds =>
      rw [q] at h
      cases h
      rw [vals?_eq q]
      rfl
  | .cell _ :: _, _, h => by cases h
/-- the arguments in the parameters' order -/
def pick {β : Type} (π : List Nat) (l : List β) : List β := π.filterMap fun i => l[i]?
theorem pick_rp {g : G} {I : Hp} {α : List Addr} {vs : List V} {ds : List Sl} (r : RpSL g I α vs ds) : ∀ π : List Nat, RpSL g I α (pick π vs) (pick π ds)
  | [] => .nil
  | i :: π => by
    unfold pick
    rw [List.filterMap_cons, List.filterMap_cons]
    cases e : vs[i]? with
    | none =>
      have e2 : ds[i]? = none := List.getElem?_eq_none (by rw [← r.length]; exact List.getElem?_eq_none_iff.mp e)
      rw [e2]
      exact pick_rp r π
    | some v =>
      obtain ⟨d, h1, h2⟩ := r.get e
      rw [h1]
      exact .cons h2 (pick_rp r π)
theorem pick_vals {vs : List V} {us : List Value} (r : Vals vs us) : ∀ π : List Nat, Vals (pick π vs) (pick π us)
  | [] => .nil
  | i :: π => by
    unfold pick
    rw [List.filterMap_cons, List.filterMap_cons]
    cases e : vs[i]? with
    | none =>
      have e2 : us[i]? = none := r.none_of e
      rw [e2]
      exact pick_vals r π
    | some v =>
      obtain ⟨d, h1, h2⟩ := r.get e
      rw [h1]
      exact .cons h2 (pick_vals r π)
/-- f(..): n by place, m by name -/
def T_call (c : CtP) (n m : Nat) (π : List Nat) (Ta Tk : TrA) : TrE := fun ρ μ k E => Ta ρ μ (fun ds μ1 => Tk ρ μ1 (fun es μ2 => ds.length = n ∧ es.length = m ∧ match vals? (pick π (ds ++ es)) with | some xs => c xs (fun d => k (.val d) μ2) (fun x => E x μ2) | none => False) E) E
abbrev KB (K : PySem.W.Frag) (fd : FuncData) (ps : List Str) (n : Nat) (ks : List Str) (π : List Nat) : Prop := KBn K fd ps n ks (fun us ws => pick π (us ++ ws)) (fun vs zs => pick π (vs ++ zs))
theorem kb_mk {K : PySem.W.Frag} {x qual : Str} {st : Stmt} {f : Addr} {fd : FuncData} {ps : List Str} {n : Nat} {ks : List Str} {π : List Nat} (F : Fun K x qual st f fd)
    (h : ∀ (kV doc pm : Value) (an : Option Addr) (cdv ct : Value) (us ws : List Value), us.length = n → ws.length = ks.length → bindArgs (PySem.W.fnOf x qual (defArgs st) (defBody st) (defScope st) .none kV doc pm an cdv ct) ⟨us, ks.zip ws⟩ = pure (ps.zip (pick π (us ++ ws)))) : KB K fd ps n ks π := by
  obtain ⟨oc, od, kV, doc, pm, an, cdv, ct, osl, rfl, lk, hcd⟩ := F.ex
  exact ⟨fun s us ws _ h1 h2 => .of_eq (h kV doc pm an cdv ct us ws h1 h2), fun r1 r2 => pick_vals (r1.append r2) π⟩
section
variable {X : Cx} {cl : Nat → Addr} {W : WX} {k n m : Nat} {f : Addr} {fd : FuncData} {ps ks : List Str} {x : Str} {p pos : Pos} {e : Expr} {es : List Expr} {kws : List Keyword} {π : List Nat} {c : CtP} {Ta Tk : TrA}
theorem lift_callP {g : G} {σ : L2.St} {H : Hp} {Q : VK}
    (h : lift g W (T_call c n m π Ta Tk) σ H Q) : tCallG n m (spOf g (ctP c)) (fun vs zs => pick π (vs ++ zs)) (fun σ cls d H => W cls d σ H) (liftA g W Ta) (liftA g W Tk) σ H Q := by
  obtain ⟨I, α, ρ, μ, F, k, E, hf, en, t, hk, hx⟩ := h
  refine liftA_go hf en t (fun vs ds I1 α1 H1 μ1 x1 hf1 r1 t1 => ?_) hx
  refine liftA_go hf1 (en.mono x1) t1 (fun zs es I2 α2 H2 μ2 x2 hf2 r2 t2 => ?_) (hx.mono x1)
  obtain ⟨l1, l2, t3⟩ := t2
  refine ⟨by rw [r1.length]; exact l1, by rw [r2.length]; exact l2, ?_⟩
  have r3 := pick_rp ((r1.mono x2).append r2) π
  cases q : vals? (pick π (ds ++ es)) with
  | none => rw [q] at t3; exact t3.elim
  | some xs =>
    rw [q] at t3
    rw [vals?_eq q] at r3
    refine ⟨I2, [], [], asideOf α2 H2 F, xs.map Sl.val, fun s _ => ∃ d, s = .val d ∧ k (.val d) μ2, fun x _ => E x μ2, hf2.leave, RpSL.ofL r3.toL, ⟨rfl, xs, rfl, ?_⟩, fun v d I' α' H' μ' x' hf' r' t' => ?_, fun x cls dx I' α' H' μ' x' hf' er t' => ?_⟩
    · have e1 : (fun d => ∀ ν : Sto, ∃ d', (Sl.val d) = Sl.val d' ∧ k (.val d') μ2) = fun d => k (.val d) μ2 := by
        funext d
        exact propext ⟨fun z => by obtain ⟨d', e, q⟩ := z []; cases e; exact q, fun z _ => ⟨d, rfl, z⟩⟩
      have e2 : (fun x => ∀ ν : Sto, E x μ2) = fun x => E x μ2 := by
        funext x
        exact propext ⟨fun z => z [], fun z _ => z⟩
      rw [e1, e2]
      exact t3
    · obtain ⟨d', e, q'⟩ := t'
      subst e
      have hb := hf2.back hf' x'.hp
      cases r' with
      | val r' => exact hk v _ I' α2 H' μ2 ((x1.trans x2).trans (Ext.of x'.hp _)) hb (.val r') q'
    · exact hx x cls dx I' α2 H' μ2 ((x1.trans x2).trans (Ext.of x'.hp _)) (hf2.back hf' x'.hp) er t'
theorem d_call (R : Runs X f fd ps (spOf ⟨X.K, cl⟩ (ctP c))) (hx : ∀ σ, PassesAt (L2.CX X.prog X.w) X σ (fun cls d H => W cls d σ H)) (hm : X.mg x = some (.ref f)) (hk : PySem.W.keepIn X.K (.ref f) = true) (hb : KB X.K fd ps n ks π)
    (ha : DA X cl W (e :: es) Ta) (hkw : DK X cl W kws Tk)
    (hg : Gl X x := by rfl) (hall : (backToKw pos (keywordEach kws X.env)).all (·.1.isSome) = true := by rfl) (hks : (backToKw pos (keywordEach kws X.env)).filterMap (·.1) = ks := by rfl)
    (hdb : (x == ("__debug__" : Str)) = false := by decide) (he : starEach (e :: es) X.env = (false, eval e X.env) :: starEach es X.env := by rfl)
    (hpl : ((backTo pos (starEach (e :: es) X.env)).any (·.1) || (backToKw pos (keywordEach kws X.env)).any (·.1.isNone)) = false := by rfl) :
    DE X cl W (.Call (.Name x p) (e :: es) kws pos) (T_call c n ks.length π Ta Tk) :=
  PE.of (pe_callG R hg hm hk hb hx ha hkw hall hks hdb he hpl) fun σ H Q h => lift_callP h
end
end Dv
/-! Dv4: calls that change one thing, walks, for, comprehensions. -/
namespace Dv
open PySem PySem.Spec PyProof.Rows L2
/-! ### a call that changes one thing of the store -/
def mFlat : MO → Bool
  | .draw _ => true
  | .dead => true
  | .lst xs => xs.all fun s => (valD? s).isSome
  | .ins _ fs => fs.all fun s => (valD? s.2).isSome
def cellOf? : List Sl → Option Nat
  | [] => none
  | .cell k :: _ => some k
  | .val _ :: r => cellOf? r
def ren (k : Nat) : List Sl → Option (List Sl)
  | [] => some []
  | .val d :: r => match ren k r with
    | some xs => some (.val d :: xs)
    | none => none
  | .cell j :: r => if j = k then match ren k r with
    | some xs => some (.cell 0 :: xs)
    | none => none else none
def T_callS (c : CtS) (n m : Nat) (π : List Nat) (Ta Tk : TrA) : TrE := fun ρ μ k E => Ta ρ μ (fun ds μ1 => Tk ρ μ1 (fun es μ2 => ds.length = n ∧ es.length = m ∧ match cellOf? (pick π (ds ++ es)) with
  | some j => match μ2[j]?, ren j (pick π (ds ++ es)) with
    | some m, some xs => mFlat m = true ∧ c xs m (fun d m' => mFlat m' = true ∧ k (.val d) (μ2.set j m')) (fun x m' => mFlat m' = true ∧ E x (μ2.set j m'))
    | _, _ => False
  | none => False) E) E
section
variable {g : G} {I I' H H' : Hp} {α : Al} {μ : Sto} {F : Hp}
theorem RpSL.flat {α β : List Addr} : ∀ {vs : List V} {xs : List Sl}, RpSL g I α vs xs → (xs.all fun s => (valD? s).isSome) = true → RpSL g I β vs xs
  | _, _, .nil, _ => .nil
  | _, _, .cons (.val r) t, h => .cons (.val r) (RpSL.flat t (by rw [List.all_cons] at h; exact (Bool.and_eq_true_iff.mp h).2))
  | _, _, .cons (.cell _) _, h => by rw [List.all_cons] at h; exact absurd (Bool.and_eq_true_iff.mp h).1 (by intro z; cases z)
theorem RpSF.flat {α β : List Addr} : ∀ {vs : List (Str × V)} {xs : List (Str × Sl)}, RpSF g I α vs xs → (xs.all fun s => (valD? s.2).isSome) = true → RpSF g I β vs xs
  | _, _, .nil, _ => .nil
  | _, _, .cons (.val r) t, h => .cons (.val r) (RpSF.flat t (by rw [List.all_cons] at h; exact (Bool.and_eq_true_iff.mp h).2))
  | _, _, .cons (.cell _) _, h => by rw [List.all_cons] at h; exact absurd (Bool.and_eq_true_iff.mp h).1 (by intro z; cases z)
theorem MRep.flat {α β : List Addr} {a : Addr} {fp : List Addr} {m : MO} (h : MRep g I α H a fp m) (f : mFlat m = true) : MRep g I β H a fp m := by
  cases m with
  | lst xs =>
    obtain ⟨e, vs, h1, h2⟩ := h
    exact ⟨e, vs, h1, h2.flat f⟩
  | ins c fs =>
    obtain ⟨e, dx, vs, h1, h2⟩ := h
    exact ⟨e, dx, vs, h1, h2.flat f⟩
  | draw n => exact h
  | dead => exact h
/-- all but the j-th thing stand aside -/
theorem owned_set {j : Nat} {p : Addr × List Addr} (hj : α[j]? = some p) (h : (owned α).Nodup) : ∀ b, b ∈ owned (α.set j (p.1, [])) ↔ b ∈ owned α ∧ b ∉ p.2 := by
  intro b
  have hjl := (List.getElem?_eq_some_iff.mp hj).1
  have nd : List.Pairwise (fun a b : Addr × List Addr => ∀ x ∈ a.2, ∀ y ∈ b.2, x ≠ y) α := by
    unfold owned at h
    unfold List.Nodup at h
    rw [List.pairwise_flatMap] at h
    exact h.2.imp fun hab x hx y hy => hab x hx y hy
  have pw := List.pairwise_iff_getElem.mp nd
  constructor
  · intro hb
    obtain ⟨q, hq, hbq⟩ := List.mem_flatMap.mp hb
    obtain ⟨i, hi⟩ := List.mem_iff_getElem?.mp hq
    by_cases hij : j = i
    · subst hij
      rw [List.getElem?_set_self hjl] at hi
      cases hi
      cases hbq
    · rw [List.getElem?_set_ne hij] at hi
      refine ⟨mem_owned hi hbq, fun hp => ?_⟩
      obtain ⟨hil, ei⟩ := List.getElem?_eq_some_iff.mp hi
      obtain ⟨_, ej⟩ := List.getElem?_eq_some_iff.mp hj
      rcases Nat.lt_or_gt_of_ne hij with hlt | hgt
      · exact pw j i hjl hil hlt b (by rw [ej]; exact hp) b (by rw [ei]; exact hbq) rfl
      · exact pw i j hil hjl hgt b (by rw [ei]; exact hbq) b (by rw [ej]; exact hp) rfl
  · rintro ⟨hb, hn⟩
    obtain ⟨q, hq, hbq⟩ := List.mem_flatMap.mp hb
    obtain ⟨i, hi⟩ := List.mem_iff_getElem?.mp hq
    by_cases hij : j = i
    · subst hij
      rw [hj] at hi
      cases hi
      exact absurd hbq hn
    · exact mem_owned (k := i) (p := q) (by rw [List.getElem?_set_ne hij]; exact hi) hbq
theorem Hf.leaveC {j : Nat} {a : Addr} {fp : List Addr} {m : MO} (h : Hf g I α H μ F) (hj : α[j]? = some (a, fp)) (hm : μ[j]? = some m) (fm : mFlat m = true) : Hf g I [(a, fp)] H [m] (asideOf (α.set j (a, [])) H F) := by
  have os := owned_set hj h.nod
  have eo : owned [(a, fp)] = fp := by unfold owned; simp
  have hr := h.sto j _ m hj hm
  refine ⟨h.sub, rfl, fun k p o e1 e2 => ?_, ?_, fun b hb => ?_, fun b o e => ?_⟩
  · cases k with
    | zero =>
      cases e1
      cases e2
      exact hr.flat fm
    | succ k => simp at e1
  · rw [eo]
    have nd := h.nod
    unfold owned List.Nodup at nd
    rw [List.pairwise_flatMap] at nd
    exact nd.1 _ (List.mem_of_getElem? hj)
  · rw [eo] at hb
    exact h.own b (mem_owned hj hb)
  · unfold asideOf at e
    by_cases c : b ∈ owned (α.set j (a, [])) ∨ (F b).isSome = true
    · rw [if_pos c] at e
      refine ⟨e, ?_, ?_⟩
      · rcases c with c | c
        · exact (h.own b ((os b).mp c).1).1
        · obtain ⟨u, hu⟩ := Option.isSome_iff_exists.mp c
          exact (h.frm b u hu).2.1
      · rw [eo]
        rcases c with c | c
        · exact ((os b).mp c).2
        · obtain ⟨u, hu⟩ := Option.isSome_iff_exists.mp c
          exact fun z => (h.frm b u hu).2.2 (mem_owned hj z)
    · rw [if_neg c] at e
      cases e
theorem Hf.backC {j : Nat} {a : Addr} {fp : List Addr} {β : Al} {ν : Sto} {m' : MO} (h : Hf g I α H μ F) (hj : α[j]? = some (a, fp)) (h' : Hf g I' β H' (m' :: ν) (asideOf (α.set j (a, [])) H F)) (x : Ext I [a] I' (ad β)) (fm : mFlat m' = true) :
    ∃ fp', Hf g I' (α.set j (a, fp')) H' (μ.set j m') F ∧ ad (α.set j (a, fp')) = ad α := by
  have os := owned_set hj h.nod
  have hjl := (List.getElem?_eq_some_iff.mp hj).1
  obtain ⟨fp', hB⟩ := ad_get.mp (x.ad 0 a rfl)
  have hr := h'.sto 0 (a, fp') m' hB rfl
  have ea : ad (α.set j (a, fp')) = ad α := by
    unfold ad
    rw [List.map_set]
    refine List.ext_getElem? fun i => ?_
    by_cases hi : j = i
    · subst hi
      rw [List.getElem?_set_self (by rw [List.length_map]; exact hjl), List.getElem?_map, hj]
      rfl
    · rw [List.getElem?_set_ne hi]
  have st : ∀ b, b ∈ owned (α.set j (a, [])) → ∃ o, H b = some o ∧ H' b = some o ∧ I' b = none ∧ b ∉ owned β := fun b hb => by
    cases q : H b with
    | none => exact absurd q (h.own b ((os b).mp hb).1).2
    | some o =>
      have z : asideOf (α.set j (a, [])) H F b = some o := by
        unfold asideOf
        rw [if_pos (.inl hb)]
        exact q
      obtain ⟨h1, h2, h3⟩ := h'.frm b o z
      exact ⟨o, rfl, h1, h2, h3⟩
  -- what the new state owns
  have ow : ∀ b, b ∈ owned (α.set j (a, fp')) → b ∈ owned (α.set j (a, [])) ∨ b ∈ fp' := fun b hb => by
    obtain ⟨q, hq, hbq⟩ := List.mem_flatMap.mp hb
    obtain ⟨i, hi⟩ := List.mem_iff_getElem?.mp hq
    by_cases hij : j = i
    · subst hij
      rw [List.getElem?_set_self hjl] at hi
      cases hi
      exact .inr hbq
    · rw [List.getElem?_set_ne hij] at hi
      exact .inl (mem_owned (k := i) (p := q) (by rw [List.getElem?_set_ne hij]; exact hi) hbq)
  refine ⟨fp', ⟨h'.sub, by rw [List.length_set, List.length_set]; exact h.len, fun i p o e1 e2 => ?_, ?_, fun b hb => ?_, fun b o e => ?_⟩, ea⟩
  · rw [ea]
    by_cases hi : j = i
    · subst hi
      rw [List.getElem?_set_self hjl] at e1
      rw [List.getElem?_set_self (by rw [← h.len]; exact hjl)] at e2
      cases e1
      cases e2
      exact hr.flat fm
    · rw [List.getElem?_set_ne hi] at e1 e2
      refine (h.sto i p o e1 e2).mono (Ext.of x.hp _) fun b hb => ?_
      obtain ⟨o', h1, h2, _⟩ := st b (mem_owned (k := i) (p := p) (by rw [List.getElem?_set_ne hi]; exact e1) hb)
      rw [h1, h2]
  · have nd := h.nod
    have nd' := h'.nod
    unfold owned List.Nodup at nd nd' ⊢
    rw [List.pairwise_flatMap] at nd nd' ⊢
    refine ⟨fun q hq => ?_, ?_⟩
    · obtain ⟨i, hi⟩ := List.mem_iff_getElem?.mp hq
      by_cases hij : j = i
      · subst hij
        rw [List.getElem?_set_self hjl] at hi
        cases hi
        exact nd'.1 _ (List.mem_of_getElem? hB)
      · rw [List.getElem?_set_ne hij] at hi
        exact nd.1 q (List.mem_of_getElem? hi)
    · rw [List.pairwise_iff_getElem]
      intro i1 i2 h1 h2 hlt u hu v hv
      rw [List.length_set] at h1 h2
      by_cases c1 : j = i1
      · subst c1
        rw [List.getElem_set_self] at hu
        rw [List.getElem_set_ne (by omega)] at hv
        have z := st v (mem_owned (k := i2) (p := α[i2]) (by rw [List.getElem?_set_ne (by omega)]; exact List.getElem?_eq_getElem h2) hv)
        obtain ⟨_, _, _, _, z⟩ := z
        exact fun e => z (by rw [← e]; exact mem_owned hB hu)
      · by_cases c2 : j = i2
        · subst c2
          rw [List.getElem_set_self] at hv
          rw [List.getElem_set_ne (by omega)] at hu
          have z := st u (mem_owned (k := i1) (p := α[i1]) (by rw [List.getElem?_set_ne (by omega)]; exact List.getElem?_eq_getElem h1) hu)
          obtain ⟨_, _, _, _, z⟩ := z
          exact fun e => z (by rw [e]; exact mem_owned hB hv)
        · rw [List.getElem_set_ne c1] at hu
          rw [List.getElem_set_ne c2] at hv
          exact (List.pairwise_iff_getElem.mp nd.2) i1 i2 h1 h2 hlt u hu v hv
  · rcases ow b hb with hb | hb'
    · obtain ⟨o, h1, h2, h3, _⟩ := st b hb
      exact ⟨h3, by rw [h2]; exact fun z => by cases z⟩
    · exact h'.own b (mem_owned hB hb')
  · obtain ⟨h1, h2, h3⟩ := h.frm b o e
    have z : asideOf (α.set j (a, [])) H F b = some o := by
      unfold asideOf
      rw [if_pos (.inr (by rw [e]; rfl))]
      exact h1
    obtain ⟨q1, q2, q3⟩ := h'.frm b o z
    refine ⟨q1, q2, fun hm => ?_⟩
    rcases ow b hm with hm | hm
    · exact h3 ((os b).mp hm).1
    · exact q3 (mem_owned hB hm)
theorem ren_rp {j : Nat} {a : Addr} (hj : (ad α)[j]? = some a) : ∀ {vs : List V} {ds xs : List Sl}, RpSL g I (ad α) vs ds → ren j ds = some xs → RpSL g I [a] vs xs
  | _, _, xs, .nil, e => by cases e; exact .nil
  | _, _, xs, .cons (.val (d := d) r) (ds := ds) t, e => by
    unfold ren at e
    cases q : ren j ds with
    | none => rw [q] at e; cases e
    | some ys =>
      rw [q] at e
      cases e
      exact .cons (.val r) (ren_rp hj t q)
  | _, _, xs, .cons (.cell (k := k) h) (ds := ds) t, e => by
    unfold ren at e
    by_cases c : k = j
    · subst c
      rw [if_pos rfl] at e
      cases q : ren k ds with
      | none => rw [q] at e; cases e
      | some ys =>
        rw [q] at e
        cases e
        rw [hj] at h
        cases h
        exact .cons (.cell rfl) (ren_rp hj t q)
    · rw [if_neg c] at e
      cases e
theorem cellOf_rp : ∀ {vs : List V} {ds : List Sl} {j : Nat}, RpSL g I (ad α) vs ds → cellOf? ds = some j → ∃ a, (ad α)[j]? = some a
  | _, _, j, .nil, e => by cases e
  | _, _, j, .cons (.val _) t, e => cellOf_rp (j := j) t e
  | _, _, j, .cons (.cell h) _, e => by cases e; exact ⟨_, h⟩
end
section
variable {X : Cx} {cl : Nat → Addr} {W : WX} {k n m : Nat} {f : Addr} {fd : FuncData} {ps ks : List Str} {x : Str} {p pos : Pos} {e : Expr} {es : List Expr} {kws : List Keyword} {π : List Nat} {c : CtS} {Ta Tk : TrA}
theorem lift_callS {g : G} {σ : L2.St} {H : Hp} {Q : VK}
    (h : lift g W (T_callS c n m π Ta Tk) σ H Q) : tCallG n m (spOf g (ctS c)) (fun vs zs => pick π (vs ++ zs)) (fun σ cls d H => W cls d σ H) (liftA g W Ta) (liftA g W Tk) σ H Q := by
  obtain ⟨I, α, ρ, μ, F, k, E, hf, en, t, hk, hx⟩ := h
  refine liftA_go hf en t (fun vs ds I1 α1 H1 μ1 x1 hf1 r1 t1 => ?_) hx
  refine liftA_go hf1 (en.mono x1) t1 (fun zs es I2 α2 H2 μ2 x2 hf2 r2 t2 => ?_) (hx.mono x1)
  obtain ⟨l1, l2, t3⟩ := t2
  refine ⟨by rw [r1.length]; exact l1, by rw [r2.length]; exact l2, ?_⟩
  have r3 := pick_rp ((r1.mono x2).append r2) π
  cases q : cellOf? (pick π (ds ++ es)) with
  | none => rw [q] at t3; exact t3.elim
  | some j =>
    simp only [q] at t3
    cases q1 : μ2[j]? with
    | none => simp only [q1] at t3
    | some mo =>
      cases q2 : ren j (pick π (ds ++ es)) with
      | none => simp only [q1, q2] at t3
      | some xs =>
        simp only [q1, q2] at t3
        obtain ⟨fm, t3⟩ := t3
        obtain ⟨a, ha⟩ := cellOf_rp r3 q
        obtain ⟨fp, haj⟩ := ad_get.mp ha
        refine ⟨I2, [(a, fp)], [mo], asideOf (α2.set j (a, [])) H2 F, xs, fun s ν => ∃ d m' ν', s = .val d ∧ ν = m' :: ν' ∧ mFlat m' = true ∧ k (.val d) (μ2.set j m'), fun x ν => ∃ m' ν', ν = m' :: ν' ∧ mFlat m' = true ∧ E x (μ2.set j m'), hf2.leaveC haj q1 fm, ren_rp ha r3 q2, ⟨mo, rfl, ?_⟩, fun v d I' α' H' μ' x' hf' r' t' => ?_, fun x cls dx I' α' H' μ' x' hf' er t' => ?_⟩
        · have e1 : (fun d m' => ∀ ν : Sto, ∃ d' m'' ν', (Sl.val d) = Sl.val d' ∧ m' :: ν = m'' :: ν' ∧ mFlat m'' = true ∧ k (.val d') (μ2.set j m'')) = fun d m' => mFlat m' = true ∧ k (.val d) (μ2.set j m') := by
            funext d m'
            exact propext ⟨fun z => by obtain ⟨d', m'', ν', e, e2, q⟩ := z []; cases e; cases e2; exact q, fun z ν => ⟨d, m', ν, rfl, rfl, z⟩⟩
          have e2 : (fun x m' => ∀ ν : Sto, ∃ m'' ν', m' :: ν = m'' :: ν' ∧ mFlat m'' = true ∧ E x (μ2.set j m'')) = fun x m' => mFlat m' = true ∧ E x (μ2.set j m') := by
            funext x m'
            exact propext ⟨fun z => by obtain ⟨m'', ν', e2, q⟩ := z []; cases e2; exact q, fun z ν => ⟨m', ν, rfl, z⟩⟩
          rw [e1, e2]
          exact t3
        · obtain ⟨d', m', ν', e, e2, fm', q'⟩ := t'
          subst e
          subst e2
          obtain ⟨fp', hb, ea⟩ := hf2.backC haj hf' x' fm'
          have xx : Ext I (ad α) I' (ad (α2.set j (a, fp'))) := by rw [ea]; exact (x1.trans x2).trans (Ext.of x'.hp _)
          cases r' with
          | val r' => exact hk v _ I' _ H' _ xx hb (.val r') q'
        · obtain ⟨m', ν', e2, fm', q'⟩ := t'
          subst e2
          obtain ⟨fp', hb, ea⟩ := hf2.backC haj hf' x' fm'
          have xx : Ext I (ad α) I' (ad (α2.set j (a, fp'))) := by rw [ea]; exact (x1.trans x2).trans (Ext.of x'.hp _)
          exact hx x cls dx I' _ H' _ xx hb er q'
theorem d_callS (R : Runs X f fd ps (spOf ⟨X.K, cl⟩ (ctS c))) (hx : ∀ σ, PassesAt (L2.CX X.prog X.w) X σ (fun cls d H => W cls d σ H)) (hm : X.mg x = some (.ref f)) (hk : PySem.W.keepIn X.K (.ref f) = true) (hb : KB X.K fd ps n ks π)
    (ha : DA X cl W (e :: es) Ta) (hkw : DK X cl W kws Tk)
    (hg : Gl X x := by rfl) (hall : (backToKw pos (keywordEach kws X.env)).all (·.1.isSome) = true := by rfl) (hks : (backToKw pos (keywordEach kws X.env)).filterMap (·.1) = ks := by rfl)
    (hdb : (x == ("__debug__" : Str)) = false := by decide) (he : starEach (e :: es) X.env = (false, eval e X.env) :: starEach es X.env := by rfl)
    (hpl : ((backTo pos (starEach (e :: es) X.env)).any (·.1) || (backToKw pos (keywordEach kws X.env)).any (·.1.isNone)) = false := by rfl) :
    DE X cl W (.Call (.Name x p) (e :: es) kws pos) (T_callS c n ks.length π Ta Tk) :=
  PE.of (pe_callG R hg hm hk hb hx ha hkw hall hks hdb he hpl) fun σ H Q h => lift_callS h
theorem d_call0 {c : CtP} (R : Runs X f fd ps (spOf ⟨X.K, cl⟩ (ctP c))) (hx : ∀ σ, PassesAt (L2.CX X.prog X.w) X σ (fun cls d H => W cls d σ H)) (hm : X.mg x = some (.ref f)) (hk : PySem.W.keepIn X.K (.ref f) = true) (hb : KB X.K fd ps 0 ks π)
    (hkw : DK X cl W kws Tk)
    (hg : Gl X x := by rfl) (hall : (backToKw pos (keywordEach kws X.env)).all (·.1.isSome) = true := by rfl) (hks : (backToKw pos (keywordEach kws X.env)).filterMap (·.1) = ks := by rfl)
    (hdb : (x == ("__debug__" : Str)) = false := by decide)
    (hpl : ((backTo pos (starEach [] X.env)).any (·.1) || (backToKw pos (keywordEach kws X.env)).any (·.1.isNone)) = false := by rfl) :
    DE X cl W (.Call (.Name x p) [] kws pos) (T_call c 0 ks.length π T_nil Tk) :=
  PE.of (pe_callG0 R hg hm hk hb hx hkw hall hks hdb hpl) fun σ H Q h => by
    have z := lift_callP (n := 0) (m := ks.length) h
    obtain ⟨I, α, ρ, μ, F, k', E, hf, en, t, hk', hx'⟩ := z
    exact hk' [] [] I α H μ (Ext.refl _ _) hf .nil t
end
end Dv
/-! Dv5: displays, subscripts, built-ins. -/
namespace Dv
open PySem PySem.Spec PyProof.Rows L2
/-! ### displays -/
def T_tup (Ta : TrA) : TrE := fun ρ μ k E => Ta ρ μ (fun ds μ1 => match vals? ds with | some xs => xs.length ≤ 1000 ∧ k (.val (.tup xs)) μ1 | none => False) E
def T_lst (Ta : TrA) : TrE := fun ρ μ k E => Ta ρ μ (fun ds μ1 => match vals? ds with | some xs => xs.length ≤ 1000 ∧ k (.val (.lst xs)) μ1 | none => False) E
/-- a list that is to change -/
def T_lstC (Ta : TrA) : TrE := fun ρ μ k E => Ta ρ μ (fun ds μ1 => ds.length ≤ 1000 ∧ k (.cell μ1.length) (μ1 ++ [.lst ds])) E
/-- {} -/
def T_dic0 : TrE := fun _ μ k _ => ∀ a, k (.val (.obj a (.dK []))) μ
theorem line1000 {n : Nat} (h : n ≤ 1000) : n ≤ sizeLine := Nat.le_trans h (by decide)
section
variable {X : Cx} {cl : Nat → Addr} {W : WX} {es : List Expr} {Ta : TrA} {pos : Pos}
theorem d_tup {x1} (h : DA X cl W es Ta) : DE X cl W (.Tuple es x1 pos) (T_tup Ta) := by
  refine PE.of (pe_tup h) fun σ H Q h => ?_
  obtain ⟨I, α, ρ, μ, F, k, E, hf, en, t, hk, hx⟩ := h
  refine liftA_go hf en t (fun vs ds I1 α1 H1 μ1 x1 hf1 r1 t1 => ?_) hx
  cases q : vals? ds with
  | none => rw [q] at t1; exact t1.elim
  | some xs =>
    rw [q] at t1
    rw [vals?_eq q] at r1
    refine ⟨by rw [r1.toL.length]; exact line1000 t1.1, fun p hp => ?_⟩
    obtain ⟨hf2, x2⟩ := hf1.new (o := .tup vs) hp
    exact hk _ _ _ α1 _ μ1 (x1.trans (Ext.of x2 _)) hf2 (.val (.tup (SqT.of upd_same) (r1.toL.mono x2))) t1.2
theorem d_lst (h : DA X cl W es Ta) : DE X cl W (.List es pos) (T_lst Ta) := by
  refine PE.of (pe_lst h) fun σ H Q h => ?_
  obtain ⟨I, α, ρ, μ, F, k, E, hf, en, t, hk, hx⟩ := h
  refine liftA_go hf en t (fun vs ds I1 α1 H1 μ1 x1 hf1 r1 t1 => ?_) hx
  cases q : vals? ds with
  | none => rw [q] at t1; exact t1.elim
  | some xs =>
    rw [q] at t1
    rw [vals?_eq q] at r1
    refine ⟨by rw [r1.toL.length]; exact line1000 t1.1, fun p hp => ?_⟩
    obtain ⟨hf2, x2⟩ := hf1.new (o := .lst vs) hp
    exact hk _ _ _ α1 _ μ1 (x1.trans (Ext.of x2 _)) hf2 (.val (.lst (SqL.of upd_same) (r1.toL.mono x2))) t1.2
theorem d_lstC (h : DA X cl W es Ta) : DE X cl W (.List es pos) (T_lstC Ta) := by
  refine PE.of (pe_lst h) fun σ H Q h => ?_
  obtain ⟨I, α, ρ, μ, F, k, E, hf, en, t, hk, hx⟩ := h
  refine liftA_go hf en t (fun vs ds I1 α1 H1 μ1 x1 hf1 r1 t1 => ?_) hx
  refine ⟨by rw [r1.length]; exact line1000 t1.1, fun p hp => ?_⟩
  obtain ⟨hf2, x2, hp2⟩ := hf1.newC (o := .lst vs) (m := .lst ds) hp fun H' e => ⟨rfl, vs, e, r1.mono ⟨Same.refl _, fun k a h => by
    rw [List.getElem?_append_left (by have := (List.getElem?_eq_some_iff.mp h).1; exact this)]
    exact h⟩⟩
  exact hk _ _ _ _ _ _ (x1.trans x2) hf2 (.cell hp2) t1.2
theorem d_dic0 : DE X cl W (.Dict [] [] pos) T_dic0 := by
  refine PE.of pe_dnewK fun σ H Q h => ?_
  obtain ⟨I, α, ρ, μ, F, k, E, hf, en, t, hk, hx⟩ := h
  intro p hp
  obtain ⟨hf2, x2⟩ := hf.new (o := .dK []) hp
  exact hk _ _ _ α _ μ (Ext.of x2 _) hf2 (.val (.obj upd_same)) (t p)
end
/-! ### subscripts -/
def oIx : OD := fun x y μ k => match y with
  | .val (.int i) => match x with
    | .val (.lst ds) => match atI ds i with | some d => k (.val d) μ | none => False
    | .val (.tup ds) => match atI ds i with | some d => k (.val d) μ | none => False
    | .val (.str z) => z.length ≤ sizeLine ∧ match atI z.cps.toList i with | some c => k (.val (.str ⟨#[c]⟩)) μ | none => False
    | .cell j => match μ[j]? with
      | some (.lst xs) => match atI xs i with | some s => k s μ | none => False
      | _ => False
    | _ => False
  | _ => False
theorem RpL.atI {g : G} {I : Hp} {vs : List V} {ds : List D} {i : Int} {d : D} (r : RpL g I vs ds) (h : L2.atI ds i = some d) : ∃ v, L2.atI vs i = some v ∧ Rp g I v d := by
  unfold L2.atI at h ⊢
  rw [r.length]
  cases q : ixN ds.length i with
  | none => rw [q] at h; cases h
  | some j =>
    rw [q] at h
    exact r.getD h
theorem RpSL.atI {g : G} {I : Hp} {α : List Addr} {vs : List V} {ds : List Sl} {i : Int} {d : Sl} (r : RpSL g I α vs ds) (h : L2.atI ds i = some d) : ∃ v, L2.atI vs i = some v ∧ RpS g I α v d := by
  unfold L2.atI at h ⊢
  rw [r.length]
  cases q : ixN ds.length i with
  | none => rw [q] at h; cases h
  | some j =>
    rw [q] at h
    exact r.getD h
theorem snd_ix {g : G} : OSnd g oIx (rIx g.K) := by
  intro I α H μ F x y dx dy k Q hf rx ry o hk
  cases ry with
  | cell => exact (show False from o).elim
  | val ry =>
    cases ry with
    | @int i =>
      cases rx with
      | @cell j a h =>
        have o' : (match μ[j]? with | some (.lst xs) => (match atI xs i with | some s => k s μ | none => False) | _ => False) := o
        cases q : μ[j]? with
        | none => rw [q] at o'; exact o'.elim
        | some m =>
          rw [q] at o'
          cases m with
          | lst xs =>
            obtain ⟨fp, ha, _, vs, hv, hr⟩ := hf.cell h q
            cases z : atI xs i with
            | none => simp only [z] at o'
            | some s =>
              simp only [z] at o'
              obtain ⟨v, hv2, rv⟩ := hr.atI z
              exact .inl ⟨a, vs, i, v, rfl, rfl, SqL.of hv, hv2, hk _ _ I α H μ (Ext.refl _ _) hf rv o'⟩
          | _ => exact (show False from o').elim
      | val rx =>
        cases rx with
        | @lst a vs ds h r =>
          have o' : (match atI ds i with | some d => k (.val d) μ | none => False) := o
          cases z : atI ds i with
          | none => rw [z] at o'; exact o'.elim
          | some d =>
            rw [z] at o'
            obtain ⟨v, hv2, rv⟩ := r.atI z
            exact .inl ⟨a, vs, i, v, rfl, rfl, hf.sub.seq h, hv2, hk _ _ I α H μ (Ext.refl _ _) hf (.val rv) o'⟩
        | @tup a vs ds h r =>
          have o' : (match atI ds i with | some d => k (.val d) μ | none => False) := o
          cases z : atI ds i with
          | none => rw [z] at o'; exact o'.elim
          | some d =>
            rw [z] at o'
            obtain ⟨v, hv2, rv⟩ := r.atI z
            exact .inr (.inl ⟨a, vs, i, v, rfl, rfl, sqT_same hf.sub h, hv2, hk _ _ I α H μ (Ext.refl _ _) hf (.val rv) o'⟩)
        | @str z =>
          have o' : z.length ≤ sizeLine ∧ (match atI z.cps.toList i with | some c => k (.val (.str ⟨#[c]⟩)) μ | none => False) := o
          obtain ⟨o1, o2⟩ := o'
          cases zz : atI z.cps.toList i with
          | none => rw [zz] at o2; exact o2.elim
          | some c =>
            rw [zz] at o2
            exact .inr (.inr ⟨z, i, c, rfl, rfl, o1, zz, hk _ _ I α H μ (Ext.refl _ _) hf (.val .str) o2⟩)
        | _ => exact (show False from o).elim
    | _ => exact (show False from o).elim
theorem d_ix {X : Cx} {cl : Nat → Addr} {W : WX} {a b : Expr} {Ta Tb : TrE} {pos : Pos} (ha : DE X cl W a Ta) (hb : DE X cl W b Tb) (hs : PlainIx b := by exact fun _ _ => rfl) : DE X cl W (.Subscript a b pos) (T_op oIx Ta Tb) :=
  PE.of (pe_ix ix_seq ha hb hs) fun σ H Q h => lift_op snd_ix h
/-! ### slices -/
abbrev TrO := Rho → Sto → (Option Int → Sto → Prop) → KX → Prop
def okO (g : G) (I : Hp) (α : Al) (F : Hp) (k : Option Int → Sto → Prop) (Q : Option Int → Hp → Prop) : Prop := ∀ o I' α' H' μ', Ext I (ad α) I' (ad α') → Hf g I' α' H' μ' F → k o μ' → Q o H'
def liftO (g : G) (W : WX) (T : TrO) : TO := fun σ H Q => ∃ I α ρ μ F k E, Hf g I α H μ F ∧ En g I (ad α) σ ρ ∧ T ρ μ k E ∧ okO g I α F k Q ∧ okX g I α F E (fun cls dx H => W cls dx σ H)
abbrev DO (X : Cx) (cl : Nat → Addr) (W : WX) (e : Option Expr) (T : TrO) : Prop := PO X e (liftO ⟨X.K, cl⟩ W T)
def T_no : TrO := fun _ μ k _ => k none μ
def T_part (Ta : TrE) : TrO := fun ρ μ k E => Ta ρ μ (fun s μ1 => match s with | .val (.int i) => k (some i) μ1 | _ => False) E
def cutL {β : Type} (xs : List β) (lo hi : Option Int) : List β := (xs.drop (HT.sIx xs.length 0 lo)).take (HT.sIx xs.length xs.length hi - HT.sIx xs.length 0 lo)
/-- x[lo:hi]: what comes -/
def oSl (x : Sl) (lo hi : Option Int) (μ : Sto) (k : KE) : Prop := match x with
  | .val (.lst ds) => k (.val (.lst (cutL ds lo hi))) μ
  | .val (.str z) => z.length ≤ sizeLine ∧ k (.val (.str (cutS z lo hi))) μ
  | _ => False
def T_sl (Ta : TrE) (Tl Th : TrO) : TrE := fun ρ μ k E => Ta ρ μ (fun x μ1 => Tl ρ μ1 (fun lo μ2 => Th ρ μ2 (fun hi μ3 => oSl x lo hi μ3 k) E) E) E
section
variable {X : Cx} {cl : Nat → Addr} {W : WX} {e : Expr} {Ta : TrE} {lo hi : Option Expr} {Tl Th : TrO} {pos p2 : Pos}
theorem PO.of {t t' : TO} {e : Option Expr} (h : PO X e t) (w : ∀ σ H Q, t' σ H Q → t σ H Q) : PO X e t' := ⟨fun pins s σ H Q I q => h.run pins s σ H Q I (w σ H Q q)⟩
theorem do_none : DO X cl W none T_no := PO.of po_none fun σ H Q h => by
  obtain ⟨I, α, ρ, μ, F, k, E, hf, en, t, hk, hx⟩ := h
  exact hk none I α H μ (Ext.refl _ _) hf t
theorem do_some (h : DE X cl W e Ta) : DO X cl W (some e) (T_part Ta) := PO.of (po_some h) fun σ H Q h => by
  obtain ⟨I, α, ρ, μ, F, k, E, hf, en, t, hk, hx⟩ := h
  refine lift_go hf en t (fun v d I1 α1 H1 μ1 x1 hf1 r1 t1 => ?_) hx
  cases r1 with
  | cell => exact (show False from t1).elim
  | val r =>
    cases r with
    | @int i => exact ⟨i, rfl, hk _ I1 α1 H1 μ1 x1 hf1 t1⟩
    | _ => exact (show False from t1).elim
def rSlA (K : PySem.W.Frag) : V → Option Int → Option Int → Hp → VK → Prop := fun x lo hi H Q => rSlL K x lo hi H Q ∨ rSlS x lo hi H Q
theorem d_sl (he : DE X cl W e Ta) (hl : DO X cl W lo Tl) (hu : DO X cl W hi Th) : DE X cl W (.Subscript e (.Slice lo hi none p2) pos) (T_sl Ta Tl Th) := by
  refine PE.of (pe_slice (r := rSlA X.K) (SlR.or sl_list sl_str) he hl hu) fun σ H Q h => ?_
  obtain ⟨I, α, ρ, μ, F, k, E, hf, en, t, hk, hx⟩ := h
  refine lift_go hf en t (fun v d I1 α1 H1 μ1 x1 hf1 r1 t1 => ?_) hx
  refine ⟨I1, α1, ρ, μ1, F, _, E, hf1, en.mono x1, t1, fun l I2 α2 H2 μ2 x2 hf2 t2 => ?_, hx.mono x1⟩
  refine ⟨I2, α2, ρ, μ2, F, _, E, hf2, en.mono (x1.trans x2), t2, fun u I3 α3 H3 μ3 x3 hf3 t3 => ?_, hx.mono (x1.trans x2)⟩
  have x13 := x1.trans (x2.trans x3)
  cases r1 with
  | cell => exact (show False from t3).elim
  | val r =>
    cases r with
    | @lst a vs ds h r =>
      refine .inl ⟨a, vs, rfl, hf3.sub.seq ((x2.trans x3).hp.seq h), fun p hp => ?_⟩
      obtain ⟨hf4, x4⟩ := hf3.new (o := .lst (cutV vs l u)) hp
      have rr : RpL ⟨X.K, cl⟩ I3 (cutV vs l u) (cutL ds l u) := by
        unfold cutV cutL
        have r' := r.mono (x2.trans x3).hp
        rw [r.length]
        exact (r'.drop _).take _
      exact hk _ _ _ α3 _ μ3 (x13.trans (Ext.of x4 _)) hf4 (.val (.lst (SqL.of upd_same) (rr.mono x4))) t3
    | @str z =>
      have t3' : z.length ≤ sizeLine ∧ k (.val (.str (cutS z l u))) μ3 := t3
      exact .inr ⟨z, rfl, t3'.1, hk _ _ _ α3 _ μ3 x13 hf3 (.val .str) t3'.2⟩
    | _ => exact (show False from t3).elim
end
/-! ### is, in -/
def oNotB : OD := fun x y μ k => match x, y with
  | .val (.bl a), .val (.bl b) => k (.val (.bl (!decide (a = b)))) μ
  | _, _ => False
def oIsB : OD := fun x y μ k => match x, y with
  | .val (.bl a), .val (.bl b) => k (.val (.bl (decide (a = b)))) μ
  | _, _ => False
theorem snd_notB {g : G} : OSnd g oNotB rNotB := by
  intro I α H μ F x y dx dy k Q hf rx ry o hk
  cases rx with
  | cell => exact (show False from o).elim
  | val rx =>
    cases ry with
    | cell => cases rx <;> exact (show False from o).elim
    | val ry =>
      cases rx with
      | @bl a =>
        cases ry with
        | @bl b => exact ⟨a, b, rfl, rfl, hk _ _ I α H μ (Ext.refl _ _) hf (.val .bl) o⟩
        | _ => exact (show False from o).elim
      | _ => exact (show False from o).elim
theorem snd_isB {g : G} : OSnd g oIsB rIsB := by
  intro I α H μ F x y dx dy k Q hf rx ry o hk
  cases rx with
  | cell => exact (show False from o).elim
  | val rx =>
    cases ry with
    | cell => cases rx <;> exact (show False from o).elim
    | val ry =>
      cases rx with
      | @bl a =>
        cases ry with
        | @bl b => exact ⟨a, b, rfl, rfl, hk _ _ I α H μ (Ext.refl _ _) hf (.val .bl) o⟩
        | _ => exact (show False from o).elim
      | _ => exact (show False from o).elim
/-- x in y: a sign in a text, a scalar among scalars -/
def oInF (f : Bool → Bool) : OD := fun x y μ k => match x, y with
  | .val (.str a), .val (.str z) => match a.cps.toList with
    | [c] => k (.val (.bl (f (decide (c ∈ z.cps.toList))))) μ
    | _ => False
  | .val d, .val (.tup ds) => match d.v?, ds.mapM D.v? with
    | some v, some vs => k (.val (.bl (f (inV v vs)))) μ
    | _, _ => False
  | .val d, .val (.lst ds) => match d.v?, ds.mapM D.v? with
    | some v, some vs => k (.val (.bl (f (inV v vs)))) μ
    | _, _ => False
  | _, _ => False
def oIn : OD := oInF id
def oNin : OD := oInF not
theorem v?_flat {d : D} {v : V} (h : d.v? = some v) : flatV v = true := by
  cases d <;> cases h <;> rfl
theorem mapM_v? {g : G} {I : Hp} : ∀ {us : List V} {ds : List D} {vs : List V}, RpL g I us ds → ds.mapM D.v? = some vs → us = vs ∧ vs.all flatV = true
  | _, _, vs, .nil, h => by cases h; exact ⟨rfl, rfl⟩
  | _, _, vs, .cons (d := d) (ds := ds) r t, h => by
    rw [List.mapM_cons] at h
    cases q : d.v? with
    | none => rw [q] at h; cases h
    | some w =>
      cases q2 : ds.mapM D.v? with
      | none => rw [q, q2] at h; cases h
      | some ws =>
        rw [q, q2] at h
        have e : w :: ws = vs := Option.some.inj h
        subst e
        obtain ⟨e1, e2⟩ := mapM_v? t q2
        rw [e1, v?_rp r q]
        exact ⟨rfl, by rw [List.all_cons, v?_flat q, e2]; rfl⟩
def rInA (K : PySem.W.Frag) (neg : Bool) : R2 := fun x y H Q => (∃ (c : Nat) (z : Str), x = .str ⟨#[c]⟩ ∧ y = .str z ∧ Q (.bl (if neg then !decide (c ∈ z.cps.toList) else decide (c ∈ z.cps.toList))) H) ∨ rIn K neg x y H Q
theorem op_inA {X : Cx} : OpR X (compareOp .In) (rInA X.K false) := OpR.or op_in_sign op_in_seq
theorem op_ninA {X : Cx} : OpR X (compareOp .NotIn) (rInA X.K true) := OpR.or op_notIn_sign op_notIn_seq
theorem snd_inF {g : G} {f : Bool → Bool} {neg : Bool} (hf' : ∀ b, f b = if neg then !b else b) : OSnd g (oInF f) (rInA g.K neg) := by
  intro I α H μ F x y dx dy k Q hf rx ry o hk
  cases rx with
  | cell => exact (show False from o).elim
  | @val _ d rx =>
    cases ry with
    | cell => cases rx <;> exact (show False from o).elim
    | val ry =>
      have seq : ∀ {p : Addr} {us : List V} {ds : List D}, (SqL g.K H p us ∨ SqT g.K H p us) → RpL g I us ds → (match d.v?, ds.mapM D.v? with | some v, some vs => k (.val (.bl (f (inV v vs)))) μ | _, _ => False) → rInA g.K neg x (.ref p) H Q := by
        intro p us ds h r o
        cases q : d.v? with
        | none => rw [q] at o; exact o.elim
        | some v =>
          cases q2 : ds.mapM D.v? with
          | none => rw [q, q2] at o; exact o.elim
          | some vs =>
            rw [q, q2] at o
            obtain ⟨e1, e2⟩ := mapM_v? r q2
            subst e1
            have e3 := v?_rp rx q
            subst e3
            have o' : k (.val (.bl (f (inV x us)))) μ := o
            rw [hf'] at o'
            exact .inr ⟨p, us, rfl, h, v?_flat q, e2, hk _ _ I α H μ (Ext.refl _ _) hf (.val .bl) o'⟩
      cases ry with
      | @str z =>
        cases rx with
        | @str a =>
          have o' : (match a.cps.toList with | [c] => k (.val (.bl (f (decide (c ∈ z.cps.toList))))) μ | _ => False) := o
          split at o'
          · rename_i c e
            have ea : a = ⟨#[c]⟩ := by
              cases a with
              | mk cps =>
                have e' : cps = #[c] := by
                  apply Array.ext'
                  exact e
                rw [e']
            subst ea
            rw [hf'] at o'
            exact .inl ⟨c, z, rfl, rfl, hk _ _ I α H μ (Ext.refl _ _) hf (.val .bl) o'⟩
          · exact o'.elim
        | _ => exact (show False from o).elim
      | @tup a us ds h r => exact seq (.inr (sqT_same hf.sub h)) r (by cases rx <;> exact o)
      | @lst a us ds h r => exact seq (.inl (hf.sub.seq h)) r (by cases rx <;> exact o)
      | _ => cases rx <;> exact (show False from o).elim
theorem snd_in {g : G} : OSnd g oIn (rInA g.K false) := snd_inF fun _ => rfl
theorem snd_nin {g : G} : OSnd g oNin (rInA g.K true) := snd_inF fun _ => rfl
end Dv
/-! Dv6: built-in calls, walks, for, comprehensions. -/
namespace Dv
open PySem PySem.Spec PyProof.Rows L2
/-! ### built-in calls -/
section
variable {X : Cx} {cl : Nat → Addr} {W : WX} {x : Str} {p pos : Pos} {e : Expr} {es : List Expr} {Ta : TrA} {id T : String} {r : List V → Hp → VK → Prop} {o : OC}
theorem lift_cb {g : G} (hs : CSnd g o r) {σ : L2.St} {H : Hp} {Q : VK} (h : lift g W (T_cb o Ta) σ H Q) : tCB r (liftA g W Ta) σ H Q := by
  obtain ⟨I, α, ρ, μ, F, k, E, hf, en, t, hk, hx⟩ := h
  refine liftA_go hf en t (fun v d I1 α1 H1 μ1 x1 hf1 r1 t1 => ?_) hx
  exact hs I1 α1 H1 μ1 F v d k Q hf1 r1 t1 (hk.mono x1)
theorem d_callB (hc : CallR X (.builtin id) r) (hs : CSnd ⟨X.K, cl⟩ o r) (hm : X.mg x = none) (hv : bootBuiltins x = some (.builtin id)) (ha : DA X cl W (e :: es) Ta) (hg : Gl X x := by rfl) (hn : x ≠ "__name__" := by decide) (hdb : (x == ("__debug__" : Str)) = false := by decide)
    (he : starEach (e :: es) X.env = (false, eval e X.env) :: starEach es X.env := by rfl) (hpl : (backTo pos (starEach es X.env)).any (·.1) = false := by rfl) : DE X cl W (.Call (.Name x p) (e :: es) [] pos) (T_cb o Ta) :=
  PE.of (pe_callB hc hg hm hv ha hn hdb he hpl) fun σ H Q h => lift_cb hs h
theorem d_callTy (hc : CallR X (.type T) r) (hs : CSnd ⟨X.K, cl⟩ o r) (hm : X.mg x = none) (hv : bootBuiltins x = some (.type T)) (ha : DA X cl W (e :: es) Ta) (hg : Gl X x := by rfl) (hn : x ≠ "__name__" := by decide) (hdb : (x == ("__debug__" : Str)) = false := by decide)
    (he : starEach (e :: es) X.env = (false, eval e X.env) :: starEach es X.env := by rfl) (hpl : (backTo pos (starEach es X.env)).any (·.1) = false := by rfl) : DE X cl W (.Call (.Name x p) (e :: es) [] pos) (T_cb o Ta) :=
  PE.of (pe_callTy hc hg hm hv ha hn hdb he hpl) fun σ H Q h => lift_cb hs h
end
/-- the kinds of plain values -/
def D.kind : D → Option String
  | .non => some "NoneType"
  | .bl _ => some "bool"
  | .int _ => some "int"
  | .str _ => some "str"
  | .lst _ => some "list"
  | .tup _ => some "tuple"
  | .obj _ (.dK _) => some "dict"
  | .obj _ (.dT _) => some "dict"
  | _ => none
def isa (t n : String) : Option Bool := if (["int", "bool", "str", "list", "tuple"].contains n && ["NoneType", "bool", "int", "str", "list", "tuple", "dict"].contains t) = true then some (t == n || (t == "bool" && n == "int")) else none
theorem isa_kit {t n : String} {b : Bool} (h : isa t n = some b) : kitB t n = some b := by
  unfold isa at h
  split at h
  · rename_i c
    rw [Bool.and_eq_true, List.contains_iff_mem, List.contains_iff_mem] at c
    obtain ⟨c1, c2⟩ := c
    cases h
    simp only [List.mem_cons, List.not_mem_nil, or_false] at c1 c2
    rcases c1 with rfl | rfl | rfl | rfl | rfl <;> rcases c2 with rfl | rfl | rfl | rfl | rfl | rfl | rfl <;> decide +kernel
  · cases h
theorem kind_ty {g : G} {I H : Hp} {v : V} {d : D} {t : String} (s : Same I H) (r : Rp g I v d) (h : d.kind = some t) : TyX g.K H v (.type t) := by
  cases r with
  | non => cases h; exact .base .non
  | bl => cases h; exact .base (.bl _)
  | int => cases h; exact .base (.int _)
  | str => cases h; exact .base (.str _)
  | ty => cases h
  | lst q _ =>
    cases h
    rcases s.seq q with (q | ⟨o, q⟩) | ⟨o, its, n, q, c, _⟩
    · exact .base (.lst q)
    · exact .base (.frz q)
    · exact .kList q c
  | tup q _ =>
    cases h
    rcases sqT_same s q with (q | ⟨o, q⟩) | ⟨o, its, n, q, c, _⟩
    · exact .base (.tup q)
    · exact .fTuple q
    · exact .kTuple q c
  | @obj a o q =>
    cases o <;> cases h
    · exact .base (.dK (s _ _ q))
    · exact .base (.dT (s _ _ q))
  | ins => cases h
def isAny (t : String) : List D → Option Bool
  | [] => some false
  | .ty n :: r => match isa t n with
    | some true => match isAny t r with
      | some _ => some true
      | none => none
    | some false => isAny t r
    | none => none
  | _ => none
def oIsi : OC := fun ds μ k => match ds with
  | [.val d, .val (.ty n)] => match d.kind with
    | some t => match isa t n with
      | some b => k (.val (.bl b)) μ
      | none => False
    | none => False
  | [.val d, .val (.tup ts)] => match d.kind with
    | some t => match isAny t ts with
      | some b => k (.val (.bl b)) μ
      | none => False
    | none => False
  | _ => False
def rIsiA (K : PySem.W.Frag) : List V → Hp → VK → Prop := fun xs H Q => rIsi K xs H Q ∨
  ∃ (x : V) (tp : Addr) (cs : List V) (t : Value) (us : List Value) (b : Bool), xs = [x, .ref tp] ∧ SqT K H tp cs ∧ Paired ClsV cs us ∧ TyX K H x t ∧ PySem.W.kitAny K t us = some b ∧ Q (.bl b) H
theorem call_isiA {X : Cx} : CallR X (.builtin "isinstance") (rIsiA X.K) := by
  intro pins s σ H xs us Q I r h
  rcases h with h | h
  · exact call_isi pins s σ H xs us Q I r h
  · obtain ⟨x, tp, cs, t, ws, b, rfl, hT, k, ty, e, q⟩ := h
    obtain ⟨u1, u2, rfl, r1, r2⟩ := vals2 r
    cases (show u2 = Value.ref tp from r2)
    obtain ⟨P, Z, p, hx⟩ := kit_of I r1 ty
    obtain ⟨its, rv, ⟨o, h1, h2, n, h3⟩, _⟩ := I.tuple hT
    have e3 := ClsV.all k rv
    subst e3
    obtain ⟨oc, od, dt, sl⟩ := o
    simp only at h2 h3
    subst h2 h3
    exact PySem.W.kia_tup Z I.kIn p h1 e hx fun tk => ⟨.bl b, H, I.tok tk, rfl, q⟩
theorem isAny_ok {g : G} {I : Hp} {K : PySem.W.Frag} {t : String} : ∀ {vs : List V} {ts : List D} {b : Bool}, RpL g I vs ts → isAny t ts = some b → ∃ us, Paired ClsV vs us ∧ PySem.W.kitAny K (.type t) us = some b
  | _, _, b, .nil, h => by cases h; exact ⟨[], .nil, rfl⟩
  | _, _, b, .cons (d := d) (ds := ds) r q, h => by
    cases r with
    | @ty n =>
      unfold isAny at h
      cases e : isa t n with
      | none => rw [e] at h; cases h
      | some c =>
        rw [e] at h
        cases c with
        | true =>
          cases e2 : isAny t ds with
          | none => simp only [e2] at h; cases h
          | some c2 =>
            simp only [e2] at h
            cases h
            obtain ⟨us, h1, h2⟩ := isAny_ok (K := K) q e2
            exact ⟨.type n :: us, .cons (.ty n) h1, kitAny_cons (kit_ty (isa_kit e)) (fun z => by cases z) fun _ => rfl⟩
        | false =>
          have h' : isAny t ds = some b := h
          obtain ⟨us, h1, h2⟩ := isAny_ok (K := K) q h'
          exact ⟨.type n :: us, .cons (.ty n) h1, kitAny_cons (kit_ty (isa_kit e)) (fun _ => h2) fun z => by cases z⟩
    | _ => cases h
theorem snd_isi {g : G} : CSnd g oIsi (rIsiA g.K) := by
  intro I α H μ F xs ds k Q hf r o hk
  unfold oIsi at o
  split at o
  · rename_i d n
    cases r with
    | cons r1 r2 =>
      cases r2 with
      | cons r2 r3 =>
        cases r3
        cases r1 with
        | val r1 =>
          cases r2 with
          | val r2 =>
            cases r2
            cases e : d.kind with
            | none => rw [e] at o; exact o.elim
            | some t =>
              rw [e] at o
              cases e2 : isa t n with
              | none => simp only [e2] at o
              | some b =>
                simp only [e2] at o
                exact .inl ⟨_, _, .type t, .type n, b, rfl, .ty n, kind_ty hf.sub r1 e, kit_ty (isa_kit e2), hk _ _ I α H μ (Ext.refl _ _) hf (.val .bl) o⟩
  · rename_i d ts
    cases r with
    | cons r1 r2 =>
      cases r2 with
      | cons r2 r3 =>
        cases r3
        cases r1 with
        | val r1 =>
          cases r2 with
          | val r2 =>
            cases r2 with
            | @tup a vs _ hq rl =>
              cases e : d.kind with
              | none => rw [e] at o; exact o.elim
              | some t =>
                rw [e] at o
                cases e2 : isAny t ts with
                | none => simp only [e2] at o
                | some b =>
                  simp only [e2] at o
                  obtain ⟨us, h1, h2⟩ := isAny_ok (K := g.K) rl e2
                  exact .inr ⟨_, a, vs, .type t, us, b, rfl, sqT_same hf.sub hq, h1, kind_ty hf.sub r1 e, h2, hk _ _ I α H μ (Ext.refl _ _) hf (.val .bl) o⟩
  · exact o.elim
/-- how long -/
def oLen : OC := fun ds μ k => match ds with
  | [.val (.str z)] => z.length ≤ sizeLine ∧ k (.val (.int z.length)) μ
  | [.val (.lst xs)] => k (.val (.int xs.length)) μ
  | [.val (.tup xs)] => k (.val (.int xs.length)) μ
  | [.cell j] => match μ[j]? with
    | some (.lst xs) => k (.val (.int xs.length)) μ
    | _ => False
  | _ => False
theorem snd_len {g : G} : CSnd g oLen (fun xs H Q => ∃ x n, xs = [x] ∧ LenV g.K x H n ∧ Q (.int n) H) := by
  intro I α H μ F xs ds k Q hf r o hk
  unfold oLen at o
  split at o
  · cases r with
    | cons r1 r2 =>
      cases r2
      cases r1 with
      | val r1 =>
        cases r1
        exact ⟨_, _, rfl, ⟨o.1, rfl⟩, hk _ _ I α H μ (Ext.refl _ _) hf (.val .int) o.2⟩
  · cases r with
    | cons r1 r2 =>
      cases r2
      cases r1 with
      | val r1 =>
        cases r1 with
        | lst h rl => exact ⟨_, _, rfl, .inl ⟨_, hf.sub.seq h, rfl⟩, hk _ _ I α H μ (Ext.refl _ _) hf (.val .int) (by rw [rl.length]; exact o)⟩
  · cases r with
    | cons r1 r2 =>
      cases r2
      cases r1 with
      | val r1 =>
        cases r1 with
        | tup h rl => exact ⟨_, _, rfl, .inr ⟨_, sqT_same hf.sub h, rfl⟩, hk _ _ I α H μ (Ext.refl _ _) hf (.val .int) (by rw [rl.length]; exact o)⟩
  · rename_i j
    cases r with
    | cons r1 r2 =>
      cases r2
      cases r1 with
      | @cell _ a h =>
        cases q : μ[j]? with
        | none => rw [q] at o; exact o.elim
        | some m =>
          rw [q] at o
          cases m with
          | lst xs =>
            obtain ⟨fp, ha, _, vs, hv, hr⟩ := hf.cell h q
            exact ⟨_, _, rfl, .inl ⟨vs, SqL.of hv, rfl⟩, hk _ _ I α H μ (Ext.refl _ _) hf (.val .int) (by rw [hr.length]; exact o)⟩
          | _ => exact (show False from o).elim
  · exact o.elim
def oAbs : OC := fun ds μ k => match ds with
  | [.val (.int i)] => k (.val (.int (if i < 0 then -i else i))) μ
  | _ => False
def oInt : OC := fun ds μ k => match ds with
  | [.val (.int i)] => k (.val (.int i)) μ
  | _ => False
theorem snd_abs {g : G} : CSnd g oAbs (fun xs H Q => ∃ i, xs = [.int i] ∧ Q (.int (if i < 0 then -i else i)) H) := by
  intro I α H μ F xs ds k Q hf r o hk
  unfold oAbs at o
  split at o
  · cases r with
    | cons r1 r2 =>
      cases r2
      cases r1 with
      | val r1 =>
        cases r1
        exact ⟨_, rfl, hk _ _ I α H μ (Ext.refl _ _) hf (.val .int) o⟩
  · exact o.elim
theorem snd_int {g : G} : CSnd g oInt (fun xs H Q => (∃ i, xs = [.int i] ∧ Q (.int i) H) ∨ ∃ k, xs = [.bl k] ∧ Q (.int (if k then 1 else 0)) H) := by
  intro I α H μ F xs ds k Q hf r o hk
  unfold oInt at o
  split at o
  · cases r with
    | cons r1 r2 =>
      cases r2
      cases r1 with
      | val r1 =>
        cases r1
        exact .inl ⟨_, rfl, hk _ _ I α H μ (Ext.refl _ _) hf (.val .int) o⟩
  · exact o.elim
def bl? : D → Option Bool
  | .bl b => some b
  | _ => none
def int? : D → Option Int
  | .int b => some b
  | _ => none
theorem mapM_bl {g : G} {I : Hp} : ∀ {vs : List V} {ds : List D} {bs : List Bool}, RpL g I vs ds → ds.mapM bl? = some bs → vs = bs.map V.bl
  | _, _, bs, .nil, h => by cases h; rfl
  | _, _, bs, .cons (d := d) (ds := ds) r t, h => by
    rw [List.mapM_cons] at h
    cases q : bl? d with
    | none => rw [q] at h; cases h
    | some w =>
      cases q2 : ds.mapM bl? with
      | none => rw [q, q2] at h; cases h
      | some ws =>
        rw [q, q2] at h
        have e : w :: ws = bs := Option.some.inj h
        subst e
        cases d <;> cases q
        cases r
        rw [mapM_bl t q2]
        rfl
def oAllF (f : List Bool → Bool) : OC := fun ds μ k => match ds with
  | [.val (.lst xs)] => match xs.mapM bl? with
    | some bs => k (.val (.bl (f bs))) μ
    | none => False
  | _ => False
def oAll : OC := oAllF fun bs => bs.all id
def oAny : OC := oAllF fun bs => bs.any id
theorem snd_allF {g : G} {f : List Bool → Bool} : CSnd g (oAllF f) (fun vs H Q => ∃ (a : Addr) (bs : List Bool), vs = [V.ref a] ∧ SqL g.K H a (bs.map V.bl) ∧ Q (.bl (f bs)) H) := by
  intro I α H μ F xs ds k Q hf r o hk
  unfold oAllF at o
  split at o
  · rename_i ys
    cases r with
    | cons r1 r2 =>
      cases r2
      cases r1 with
      | val r1 =>
        cases r1 with
        | @lst a vs _ h rl =>
          cases q : ys.mapM bl? with
          | none => rw [q] at o; exact o.elim
          | some bs =>
            rw [q] at o
            have e := mapM_bl rl q
            subst e
            exact ⟨a, bs, rfl, hf.sub.seq h, hk _ _ I α H μ (Ext.refl _ _) hf (.val .bl) o⟩
  · exact o.elim
theorem snd_all {g : G} : CSnd g oAll (rAll g.K) := snd_allF
theorem snd_any {g : G} : CSnd g oAny (rAny g.K) := snd_allF
/-- list(x) -/
def oList : OC := fun ds μ k => match ds with
  | [.val (.lst xs)] => k (.val (.lst xs)) μ
  | [.val (.tup xs)] => k (.val (.lst xs)) μ
  | _ => False
theorem snd_list {g : G} : CSnd g oList (fun xs H Q => ∃ p ys, xs = [.ref p] ∧ (SqL g.K H p ys ∨ SqT g.K H p ys) ∧ ∀ l, H l = none → Q (.ref l) (upd H l (.lst ys))) := by
  intro I α H μ F xs ds k Q hf r o hk
  unfold oList at o
  split at o
  · cases r with
    | cons r1 r2 =>
      cases r2
      cases r1 with
      | val r1 =>
        cases r1 with
        | lst h rl =>
          refine ⟨_, _, rfl, .inl (hf.sub.seq h), fun p hp => ?_⟩
          obtain ⟨hf2, x2⟩ := hf.new (o := .lst _) hp
          exact hk _ _ _ α _ μ (Ext.of x2 _) hf2 (.val (.lst (SqL.of upd_same) (rl.mono x2))) o
  · cases r with
    | cons r1 r2 =>
      cases r2
      cases r1 with
      | val r1 =>
        cases r1 with
        | tup h rl =>
          refine ⟨_, _, rfl, .inr (sqT_same hf.sub h), fun p hp => ?_⟩
          obtain ⟨hf2, x2⟩ := hf.new (o := .lst _) hp
          exact hk _ _ _ α _ μ (Ext.of x2 _) hf2 (.val (.lst (SqL.of upd_same) (rl.mono x2))) o
  · exact o.elim
/-- repr of plain data -/
def oRepr : OC := fun ds μ k => match ds with
  | [.val d] => match d.py with
    | some p => p.showable = true ∧ p.hasDict = false ∧ p.depth ≤ 60 ∧ p.shown.length ≤ sizeLine ∧ k (.val (.str p.shown)) μ
    | none => False
  | _ => False
def rRepr (K : PySem.W.Frag) : List V → Hp → VK → Prop := fun xs H Q => ∃ x p, xs = [x] ∧ Dp K H x p ∧ p.showable = true ∧ p.hasDict = false ∧ p.depth ≤ 60 ∧ p.shown.length ≤ sizeLine ∧ Q (.str p.shown) H
theorem shown_bool (b : Bool) : (PyData.bool b).shown = (if b then "True" else "False" : Str) := by cases b <;> simp [PyData.shown]
theorem call_reprA {X : Cx} (hG : X.A.guards = some []) (hu : X.A.units + 64 < cLine) : CallR X (.builtin "repr") (rRepr X.K) := by
  intro pins s σ H xs us Q I r h
  obtain ⟨x, p, rfl, d, h1, h2, h3, h4, q⟩ := h
  obtain ⟨u, rfl, rx⟩ := vals1 r
  cases d with
  | non =>
    cases rx
    exact PySem.P.repr_of_none ⟨.str _, H, I.tok _, ⟨_, rfl⟩, by simpa [PyData.shown] using q⟩
  | bl b =>
    cases rx
    exact PySem.P.repr_of_bool ⟨.str _, H, I.tok _, ⟨_, rfl⟩, by rw [shown_bool] at q; exact q⟩
  | int i =>
    obtain ⟨t, rfl⟩ := rx
    exact PySem.P.repr_of_int (by simpa [PyData.showable] using h1) ⟨.str _, H, I.tok _, ⟨_, rfl⟩, by simpa [PyData.shown] using q⟩
  | str z =>
    obtain ⟨t, rfl⟩ := rx
    exact PySem.P.repr_of_str ⟨.str _, H, I.tok _, ⟨_, rfl⟩, by simpa [PyData.shown] using q⟩ (by simpa [PyData.shown] using h4)
  | @lst a ys ds hs ha =>
    cases rx
    obtain ⟨as, rr⟩ := Dp.reads I _ _ (Value.ref a) (Dp.lst hs ha) rfl
    exact repr_of_reads' rr h1 (fun z => by rw [h2] at z; cases z) hG (by omega) (fun b o e => e) (fun h' u tk hk => ⟨.str _, H, I.kept hk, ⟨u, rfl⟩, q⟩) h4
  | @tup a ys ds hs ha =>
    cases rx
    obtain ⟨as, rr⟩ := Dp.reads I _ _ (Value.ref a) (Dp.tup hs ha) rfl
    exact repr_of_reads' rr h1 (fun z => by rw [h2] at z; cases z) hG (by omega) (fun b o e => e) (fun h' u tk hk => ⟨.str _, H, I.kept hk, ⟨u, rfl⟩, q⟩) h4
theorem snd_repr {g : G} : CSnd g oRepr (rRepr g.K) := by
  intro I α H μ F xs ds k Q hf r o hk
  unfold oRepr at o
  split at o
  · rename_i d
    cases r with
    | cons r1 r2 =>
      cases r2
      cases r1 with
      | val r1 =>
        cases e : d.py with
        | none => rw [e] at o; exact o.elim
        | some p =>
          rw [e] at o
          obtain ⟨o1, o2, o3, o4, o5⟩ := o
          exact ⟨_, p, rfl, Rp.dp hf.sub r1 e, o1, o2, o3, o4, hk _ _ I α H μ (Ext.refl _ _) hf (.val .str) o5⟩
  · exact o.elim
/-! ### methods of texts -/
def T_m0 (o : OU) (Ta : TrE) : TrE := T_un o Ta
def oUpper : OU := fun x μ k => match x with
  | .val (.str z) => z.length ≤ 5592405 ∧ k (.val (.str (Txt.upper z))) μ
  | _ => False
theorem d_upper {X : Cx} {cl : Nat → Addr} {W : WX} {o : Expr} {To : TrE} {apos pos : Pos} (ho : DE X cl W o To) (hbase : attributeBase o "upper" X.env (eval o X.env) = eval o X.env := by rfl) (hline : (apos.endLine == pos.line) = true := by rfl) :
    DE X cl W (.Call (.Attribute o "upper" apos) [] [] pos) (T_m0 oUpper To) := by
  refine PE.of (pe_upper ho hbase hline) fun σ H Q h => ?_
  obtain ⟨I, α, ρ, μ, F, k, E, hf, en, t, hk, hx⟩ := h
  refine lift_go hf en t (fun v d I1 α1 H1 μ1 x1 hf1 r1 t1 => ?_) hx
  cases r1 with
  | cell => exact (show False from t1).elim
  | val r =>
    cases r with
    | @str z =>
      have t2 : z.length ≤ 5592405 ∧ k (.val (.str (Txt.upper z))) μ1 := t1
      exact ⟨⟨z, rfl⟩, z, rfl, rfl, t2.1, hk _ _ I1 α1 H1 μ1 x1 hf1 (.val .str) t2.2⟩
    | _ => exact (show False from t1).elim
/-! ### walks -/
structure WalkD (g : G) (J : It) (xs : List D) (Gh : Hp → Hp → Prop) : Prop where
  goes : ∀ i I H, i < xs.length → Gh I H → J.go i H
  stops : ∀ I H, Gh I H → J.stop xs.length H
  yields : ∀ i I H x H' d, xs[i]? = some d → Gh I H → J.yld i H x H' → (H' = H ∧ Rp g I x d) ∨ ∃ p o, H p = none ∧ H' = upd H p o ∧ (I p = none → Rp g (upd I p o) x d)
abbrev TrI := Rho → Sto → (List D → (Sto → Prop) → Sto → Prop) → KX → Prop
def okI (g : G) (I : Hp) (α : Al) (F : Hp) (k : List D → (Sto → Prop) → Sto → Prop) (R : It → Hp → Prop) : Prop :=
  ∀ J xs Gd Gh I' α' H' μ', Ext I (ad α) I' (ad α') → Hf g I' α' H' μ' F → WalkD g J xs Gh → (∀ I2 α2 H2 μ2 F2, Ext I' (ad α') I2 (ad α2) → Hf g I2 α2 H2 μ2 F2 → Gd μ2 → Gh I2 H2) → k xs Gd μ' → R J H'
def liftI (g : G) (W : WX) (S : TrI) : TI := fun σ H R => ∃ I α ρ μ F k E, Hf g I α H μ F ∧ En g I (ad α) σ ρ ∧ S ρ μ k E ∧ okI g I α F k R ∧ okX g I α F E (fun cls dx H => W cls dx σ H)
theorem PI.of {X : Cx} {tg iter : Expr} {t t' : TI} (h : PI X tg iter t) (w : ∀ σ H R, t' σ H R → t σ H R) : PI X tg iter t' := ⟨fun pins s σ H R I q => h.run pins s σ H R I (w σ H R q)⟩
abbrev DI (X : Cx) (cl : Nat → Addr) (W : WX) (tg iter : Expr) (S : TrI) : Prop := PI X tg iter (liftI ⟨X.K, cl⟩ W S)
/-- over a list, a tuple, a text -/
def iAny (K : PySem.W.Frag) (tl : TE) : TI := fun σ H R => tl σ H fun x H1 => (∃ a, x = .ref a ∧ (∃ xs, SqL K H1 a xs) ∧ R (Itl K a) H1) ∨ (∃ a, x = .ref a ∧ (∃ xs, SqT K H1 a xs) ∧ R (Itt K a) H1) ∨ ∃ z, x = .str z ∧ R (Its z) H1
theorem pi_any {X : Cx} {tg l : Expr} {tl : TE} (hl : PE X l tl) : PI X tg l (iAny X.K tl) := by
  refine ⟨fun pins s σ H R I h => ?_⟩
  refine thn (hl.run pins s σ H _ I h) fun v s1 ⟨x, H1, I1, r1, q1⟩ => ?_
  rcases q1 with ⟨a, e, ⟨xs, hq⟩, q⟩ | ⟨a, e, ⟨xs, hq⟩, q⟩ | ⟨z, e, q⟩
  · subst e
    cases r1
    obtain ⟨its, rv, p, hz⟩ := I1.list hq
    refine wpAny_pyIter_list p.isList ?_
    exact pi_one (tk := s1.toks) I1 _ (turn_list a _) ⟨_, Heap.get?_push_size _ rfl, rfl, rfl⟩ q
  · subst e
    cases r1
    obtain ⟨its, rv, p, hz⟩ := I1.tuple hq
    refine wpAny_pyIter_tuple (show s1.heap.IsTuple a its.toArray from p) ?_
    exact pi_one (tk := s1.toks) I1 _ (turn_tuple a _) ⟨_, Heap.get?_push_size _ rfl, rfl, rfl⟩ q
  · subst e
    obtain ⟨t, rfl⟩ := r1
    cases ha : z.cps.all (· < 128)
    · exact wpAny_pyIter_wide ha (pi_one (tk := s1.toks) I1 _ (turn_str _ z t "str_iterator" (.inr rfl)) ⟨_, Heap.get?_push_size _ rfl, rfl, rfl⟩ q)
    · exact wpAny_pyIter_ascii ha (pi_one (tk := s1.toks) I1 _ (turn_str _ z t "str_ascii_iterator" (.inl rfl)) ⟨_, Heap.get?_push_size _ rfl, rfl, rfl⟩ q)
def S_seq (Te : TrE) : TrI := fun ρ μ k E => Te ρ μ (fun s μ1 => match s with
  | .val (.lst ds) => k ds (fun _ => True) μ1
  | .val (.tup ds) => k ds (fun _ => True) μ1
  | .val (.str z) => k (z.cps.toList.map fun c => D.str ⟨#[c]⟩) (fun _ => True) μ1
  | .cell j => match μ1[j]? with
    | some (.lst xs) => match xs.mapM valD? with
      | some ds => k ds (fun μ' => μ'[j]? = some (.lst xs)) μ1
      | none => False
    | _ => False
  | _ => False) E
theorem walk_seqL {g : G} {a : Addr} {ds : List D} : WalkD g (Itl g.K a) ds (fun I H => ∃ vs, SqL g.K H a vs ∧ RpL g I vs ds) := by
  refine ⟨fun i I H hi ⟨vs, q, r⟩ => ?_, fun I H ⟨vs, q, r⟩ => ⟨vs, q, by rw [r.length]; exact Nat.le_refl _⟩, fun i I H x H' d hd ⟨vs, q, r⟩ y => ?_⟩
  · have hi' : i < vs.length := by rw [r.length]; exact hi
    exact ⟨vs, vs[i], q, List.getElem?_eq_getElem hi'⟩
  · obtain ⟨e, y⟩ := y
    obtain ⟨v, h1, h2⟩ := r.getD hd
    have := y vs q
    rw [h1] at this
    cases this
    exact .inl ⟨e, h2⟩
theorem walk_seqT {g : G} {a : Addr} {ds : List D} : WalkD g (Itt g.K a) ds (fun I H => ∃ vs, SqT g.K H a vs ∧ RpL g I vs ds) := by
  refine ⟨fun i I H hi ⟨vs, q, r⟩ => ?_, fun I H ⟨vs, q, r⟩ => ⟨vs, q, by rw [r.length]; exact Nat.le_refl _⟩, fun i I H x H' d hd ⟨vs, q, r⟩ y => ?_⟩
  · have hi' : i < vs.length := by rw [r.length]; exact hi
    exact ⟨vs, vs[i], q, List.getElem?_eq_getElem hi'⟩
  · obtain ⟨e, y⟩ := y
    obtain ⟨v, h1, h2⟩ := r.getD hd
    have := y vs q
    rw [h1] at this
    cases this
    exact .inl ⟨e, h2⟩
theorem walk_text {g : G} {z : Str} : WalkD g (Its z) (z.cps.toList.map fun c => D.str ⟨#[c]⟩) (fun _ _ => True) := by
  refine ⟨fun i I H hi _ => ?_, fun I H _ => ?_, fun i I H x H' d hd _ y => ?_⟩
  · show i < z.cps.size
    simpa using hi
  · show z.cps.size ≤ _
    simp
  · obtain ⟨e, c, hc, rfl⟩ := y
    rw [List.getElem?_map] at hd
    have : z.cps.toList[i]? = some c := by simpa using hc
    rw [this] at hd
    cases hd
    exact .inl ⟨e, .str⟩
theorem RpSL.toL' {g : G} {I : Hp} {α : List Addr} : ∀ {vs : List V} {ds : List D}, RpSL g I α vs (ds.map Sl.val) → RpL g I vs ds := RpSL.toL
theorem di_seq {X : Cx} {cl : Nat → Addr} {W : WX} {tg l : Expr} {Te : TrE} (hl : DE X cl W l Te) : DI X cl W tg l (S_seq Te) := by
  refine PI.of (pi_any hl) fun σ H R h => ?_
  obtain ⟨I, α, ρ, μ, F, k, E, hf, en, t, hk, hx⟩ := h
  refine lift_go hf en t (fun v d I1 α1 H1 μ1 x1 hf1 r1 t1 => ?_) hx
  cases r1 with
  | @cell j a h =>
    have t2 : (match μ1[j]? with | some (.lst xs) => (match xs.mapM valD? with | some ds => k ds (fun μ' => μ'[j]? = some (.lst xs)) μ1 | none => False) | _ => False) := t1
    cases q : μ1[j]? with
    | none => rw [q] at t2; exact t2.elim
    | some m =>
      rw [q] at t2
      cases m with
      | lst xs =>
        obtain ⟨fp, ha, _, vs, hv, hr⟩ := hf1.cell h q
        cases z : xs.mapM valD? with
        | none => simp only [z] at t2
        | some ds =>
          simp only [z] at t2
          have e := mapM_val z
          subst e
          refine .inl ⟨a, rfl, ⟨vs, SqL.of hv⟩, hk _ ds _ _ I1 α1 H1 μ1 x1 hf1 walk_seqL (fun I2 α2 H2 μ2 F2 x2 hf2 gd => ?_) t2⟩
          obtain ⟨fp2, ha2, _, ws, hw, hr2⟩ := hf2.cell (x2.ad _ _ h) gd
          exact ⟨ws, SqL.of hw, hr2.toL⟩
      | _ => exact (show False from t2).elim
  | val r =>
    cases r with
    | @lst a vs ds h r => exact .inl ⟨a, rfl, ⟨vs, hf1.sub.seq h⟩, hk _ ds _ _ I1 α1 H1 μ1 x1 hf1 walk_seqL (fun I2 α2 H2 μ2 F2 x2 hf2 _ => ⟨vs, hf2.sub.seq (x2.hp.seq h), r.mono x2.hp⟩) t1⟩
    | @tup a vs ds h r => exact .inr (.inl ⟨a, rfl, ⟨vs, sqT_same hf1.sub h⟩, hk _ ds _ _ I1 α1 H1 μ1 x1 hf1 walk_seqT (fun I2 α2 H2 μ2 F2 x2 hf2 _ => ⟨vs, sqT_same hf2.sub (sqT_same x2.hp h), r.mono x2.hp⟩) t1⟩)
    | @str z => exact .inr (.inr ⟨z, rfl, hk _ _ _ _ I1 α1 H1 μ1 x1 hf1 walk_text (fun _ _ _ _ _ _ _ _ => trivial) t1⟩)
    | _ => exact (show False from t1).elim
/-- range(n), range(a, b) -/
def rangeD (lo : Int) (n : Nat) : List D := (List.range n).map fun (i : Nat) => D.int (lo + (i : Int))
def S_range1 (Ta : TrA) : TrI := fun ρ μ k E => Ta ρ μ (fun ds μ1 => match ds with
  | [.val (.int n)] => (-(2 ^ 62) ≤ n ∧ n < 2 ^ 62) ∧ k (rangeD 0 n.toNat) (fun _ => True) μ1
  | _ => False) E
def S_range2 (Ta : TrA) : TrI := fun ρ μ k E => Ta ρ μ (fun ds μ1 => match ds with
  | [.val (.int a), .val (.int n)] => (-(2 ^ 62) ≤ a ∧ a < 2 ^ 62 ∧ -(2 ^ 62) ≤ n ∧ n < 2 ^ 62) ∧ k (rangeD a (n - a).toNat) (fun _ => True) μ1
  | _ => False) E
theorem walk_rng {g : G} {lo : Int} {n : Nat} : WalkD g (Itr lo n) (rangeD lo n) (fun _ _ => True) := by
  have hl : (rangeD lo n).length = n := by simp [rangeD]
  refine ⟨fun i I H hi _ => ?_, fun I H _ => ?_, fun i I H x H' d hd _ y => ?_⟩
  · rw [hl] at hi
    exact hi
  · rw [hl]
    exact Nat.le_refl _
  · obtain ⟨e, rfl⟩ := y
    have hi : i < n := by rw [← hl]; exact (List.getElem?_eq_some_iff.mp hd).1
    unfold rangeD at hd
    rw [List.getElem?_map, List.getElem?_range hi] at hd
    cases hd
    exact .inl ⟨e, .int⟩
theorem di_range1 {X : Cx} {cl : Nat → Addr} {W : WX} {tg a : Expr} {p pos : Pos} {Ta : TrA} (hm : X.mg "range" = none) (ha : DA X cl W [a] Ta) (hg : Gl X "range" := by rfl) (hs : starEach [a] X.env = [(false, eval a X.env)] := by rfl) : DI X cl W tg (.Call (.Name "range" p) [a] [] pos) (S_range1 Ta) := by
  refine PI.of (pi_range1 hg hm ha hs) fun σ H R h => ?_
  obtain ⟨I, α, ρ, μ, F, k, E, hf, en, t, hk, hx⟩ := h
  refine liftA_go hf en t (fun vs ds I1 α1 H1 μ1 x1 hf1 r1 t1 => ?_) hx
  split at t1
  · cases r1 with
    | cons r1 r2 =>
      cases r2
      cases r1 with
      | val r1 =>
        cases r1
        exact ⟨_, rfl, t1.1.1, t1.1.2, hk _ _ _ _ I1 α1 H1 μ1 x1 hf1 walk_rng (fun _ _ _ _ _ _ _ _ => trivial) t1.2⟩
  · exact t1.elim
theorem di_range2 {X : Cx} {cl : Nat → Addr} {W : WX} {tg a b : Expr} {p pos : Pos} {Ta : TrA} (hm : X.mg "range" = none) (ha : DA X cl W [a, b] Ta) (hg : Gl X "range" := by rfl) (hs : starEach [a, b] X.env = [(false, eval a X.env), (false, eval b X.env)] := by rfl) (hs2 : starEach [b] X.env = [(false, eval b X.env)] := by rfl) :
    DI X cl W tg (.Call (.Name "range" p) [a, b] [] pos) (S_range2 Ta) := by
  refine PI.of (pi_range2 hg hm ha hs hs2) fun σ H R h => ?_
  obtain ⟨I, α, ρ, μ, F, k, E, hf, en, t, hk, hx⟩ := h
  refine liftA_go hf en t (fun vs ds I1 α1 H1 μ1 x1 hf1 r1 t1 => ?_) hx
  split at t1
  · cases r1 with
    | cons r1 r2 =>
      cases r2 with
      | cons r2 r3 =>
        cases r3
        cases r1 with
        | val r1 =>
          cases r2 with
          | val r2 =>
            cases r1
            cases r2
            exact ⟨_, _, rfl, t1.1, hk _ _ _ _ I1 α1 H1 μ1 x1 hf1 walk_rng (fun _ _ _ _ _ _ _ _ => trivial) t1.2⟩
  · exact t1.elim
/-! ### targets -/
inductive Tgt where
  | name (i : Nat) | names (js : List Nat)
def gNs : List Nat → TGs
  | [] => gNil
  | i :: r => gCons (gName i) (gNs r)
def gOf (K : PySem.W.Frag) : Tgt → TG
  | .name i => gName i
  | .names js => gTup K js.length (gNs js)
def setAll : List Nat → List D → Rho → Option Rho
  | [], [], ρ => some ρ
  | j :: js, d :: ds, ρ => setAll js ds (ρ.set j (some (.val d)))
  | _, _, _ => none
def setT : Tgt → D → Rho → Option Rho
  | .name i, d, ρ => some (ρ.set i (some (.val d)))
  | .names js, .tup ds, ρ => setAll js ds ρ
  | _, _, _ => none
def tgIn : Tgt → List Nat
  | .name i => [i]
  | .names js => js
theorem wipe_in {σ : L2.St} {v : Option V} : ∀ {vs : List Nat} {j : Nat}, j ∈ vs → wipe (σ.set j v) vs = wipe σ vs := by
  intro vs
  induction vs with
  | nil => intro j h; cases h
  | cons u us ih =>
    intro j h
    by_cases hj : j ∈ us
    · show (wipe (σ.set j v) us).set u none = (wipe σ us).set u none
      rw [ih hj]
    · have e : j = u := by
        rcases List.mem_cons.mp h with h | h
        · exact h
        · exact absurd h hj
      subst e
      have key : ∀ (us : List Nat) (τ : L2.St), j ∉ us → wipe (τ.set j v) us = (wipe τ us).set j v := by
        intro us
        induction us with
        | nil => intro τ _; rfl
        | cons w ws ih2 =>
          intro τ hn
          show (wipe (τ.set j v) ws).set w none = ((wipe τ ws).set w none).set j v
          rw [ih2 τ (fun z => hn (List.mem_cons_of_mem _ z)), List.set_comm _ _ (fun z => hn (by rw [z]; exact List.mem_cons_self ..))]
      show (wipe (σ.set j v) us).set j none = (wipe σ us).set j none
      rw [key us σ hj, List.set_set]
theorem wipe_wipe {σ : L2.St} : ∀ vs : List Nat, wipe (wipe σ vs) vs = wipe σ vs := by
  have key : ∀ (us vs : List Nat), (∀ j ∈ us, j ∈ vs) → ∀ σ : L2.St, wipe (wipe σ us) vs = wipe σ vs := by
    intro us
    induction us with
    | nil => intro vs _ σ; rfl
    | cons u us ih =>
      intro vs h σ
      show wipe ((wipe σ us).set u none) vs = wipe σ vs
      rw [wipe_in (h u (List.mem_cons_self ..))]
      exact ih vs (fun j hj => h j (List.mem_cons_of_mem _ hj)) σ
  exact fun vs => key vs vs (fun _ h => h) σ
section
variable {g : G} {I : Hp} {α : List Addr}
theorem gNs_go {H : Hp} {Q : L2.St → Hp → Prop} : ∀ {js : List Nat} {vs : List V} {ds : List D} {σ : L2.St} {ρ ρ' : Rho} {own : List Nat}, RpL g I vs ds → En g I α σ ρ → setAll js ds ρ = some ρ' → (∀ j ∈ js, j ∈ own ∨ own = []) →
    (∀ σ', En g I α σ' ρ' → wipe σ' own = wipe σ own ∨ own = [] → Q σ' H) → gNs js vs σ H Q
  | [], _, _, σ, ρ, ρ', own, .nil, en, e, _, k => by
    cases e
    exact ⟨rfl, k σ en (.inl rfl)⟩
  | j :: js, _, _, σ, ρ, ρ', own, .cons (v := v) (vs := vs) r t, en, e, hj, k => by
    refine ⟨v, vs, rfl, ?_⟩
    show gNs js vs (σ.set j (some v)) H Q
    refine gNs_go (own := own) t (en.set (.val r)) e (fun i hi => hj i (List.mem_cons_of_mem _ hi)) fun σ' en' hw => k σ' en' ?_
    rcases hw with hw | hw
    · rcases hj j (List.mem_cons_self ..) with h | h
      · exact .inl (hw.trans (wipe_in h))
      · exact .inr h
    · exact .inr hw
  | [], _, _, _, _, _, _, .cons _ _, _, e, _, _ => by cases e
  | _ :: _, _, _, _, _, _, _, .nil, _, e, _, _ => by cases e
/-- a value goes to a target -/
theorem gOf_go {H : Hp} {Q : L2.St → Hp → Prop} {tg : Tgt} {v : V} {d : D} {σ : L2.St} {ρ ρ' : Rho} (own : List Nat) (s : Same I H) (r : Rp g I v d) (en : En g I α σ ρ) (e : setT tg d ρ = some ρ') (hj : ∀ j ∈ tgIn tg, j ∈ own ∨ own = [])
    (k : ∀ σ', En g I α σ' ρ' → wipe σ' own = wipe σ own ∨ own = [] → Q σ' H) : gOf g.K tg v σ H Q := by
  cases tg with
  | name i =>
    cases e
    refine k _ (en.set (.val r)) ?_
    rcases hj i (List.mem_singleton.mpr rfl) with h | h
    · exact .inl (wipe_in h)
    · exact .inr h
  | names js =>
    cases r with
    | @tup a vs ds h rl =>
      have e' : setAll js ds ρ = some ρ' := e
      have hl : ∀ (js : List Nat) (ds : List D) (ρ ρ' : Rho), setAll js ds ρ = some ρ' → ds.length = js.length := by
        intro js
        induction js with
        | nil =>
          intro ds ρ ρ' e
          cases ds with
          | nil => rfl
          | cons _ _ => cases e
        | cons j js ih =>
          intro ds ρ ρ' e
          cases ds with
          | nil => cases e
          | cons d ds => exact congrArg Nat.succ (ih ds _ _ e)
      exact ⟨a, vs, rfl, sqT_same s h, by rw [rl.length]; exact hl js ds ρ ρ' e', gNs_go (own := own) rl en e' hj k⟩
    | _ => cases e
end
/-! ### for -/
def T_for (S : TrI) (tg : Tgt) (Tb : TrS) : TrS := fun N ρ μ => S ρ μ (fun xs Gd μ1 => ∃ Inv : Nat → Rho → Sto → Prop, Inv 0 ρ μ1 ∧ (∀ i ρ' μ', i ≤ xs.length → Inv i ρ' μ' → Gd μ') ∧
  (∀ i x ρ' μ', xs[i]? = some x → Inv i ρ' μ' → match setT tg x ρ' with
    | some ρ2 => Tb { N with nx := Inv (i + 1), ct := Inv (i + 1), bk := N.nx } ρ2 μ'
    | none => False) ∧ ∀ ρ' μ', Inv xs.length ρ' μ' → N.nx ρ' μ') (fun x μ1 => N.ex x ρ μ1)
theorem ds_for {X : Cx} {cl : Nat → Addr} {W : WX} {tgE iter : Expr} {body : List Stmt} {S : TrI} {tg : Tgt} {Tb : TrS} {pos : Pos} (hp : PassesOwn (model X.prog X.w) X.A X.env X.xe) (hc : X.calm = true) (hi : DI X cl W tgE iter S) (hg : PG X tgE (gOf X.K tg)) (hb : DSs X cl W body Tb)
    (hs : ∀ x, foldedSetIterable iter X.env x = pure x := by intro _; rfl) : DS X cl W (.For tgE iter body [] pos) (T_for S tg Tb) := by
  refine PS.of (ps_for hp hc hi hg hb hs) fun D σ H h => ?_
  obtain ⟨I, α, ρ, μ, F, N, hf, en, t, n1, n2, n3, n4, n5⟩ := h
  refine ⟨I, α, ρ, μ, F, _, _, hf, en, t, fun J xs Gd Gh I1 α1 H1 μ1 x1 hf1 wk gd t1 => ?_, n5.at en⟩
  obtain ⟨Inv, h0, hG, hs', hd⟩ := t1
  refine ⟨fun i m σ' H' => m = xs.length - i ∧ i ≤ xs.length ∧ ∃ I' α' ρ' μ', Ext I1 (ad α1) I' (ad α') ∧ Hf ⟨X.K, cl⟩ I' α' H' μ' F ∧ En ⟨X.K, cl⟩ I' (ad α') σ' ρ' ∧ Inv i ρ' μ', ⟨xs.length, by simp, Nat.zero_le _, I1, α1, ρ, μ1, Ext.refl _ _, hf1, en.mono x1, h0⟩, ?_⟩
  rintro i m σ' H' ⟨rfl, hi', I', α', ρ', μ', x', hf', en', inv⟩
  have G' := gd I' α' H' μ' F x' hf' (hG i ρ' μ' hi' inv)
  by_cases hlt : i < xs.length
  · refine .inr ⟨wk.goes i I' H' hlt G', fun σ2 H2 => ∃ I2 α2 ρ2 μ2, Ext I1 (ad α1) I2 (ad α2) ∧ Hf ⟨X.K, cl⟩ I2 α2 H2 μ2 F ∧ En ⟨X.K, cl⟩ I2 (ad α2) σ2 ρ2 ∧ Inv (i + 1) ρ2 μ2, fun σ2 H2 p => ⟨xs.length - (i + 1), by omega, rfl, hlt, p⟩, fun x H2 y => ?_⟩
    have hx := List.getElem?_eq_getElem hlt
    have turn := hs' i _ ρ' μ' hx inv
    -- the item at a heap that may have grown by it
    have fin : ∀ {Ia : Hp}, Same I' Ia → Hf ⟨X.K, cl⟩ Ia α' H2 μ' F → Rp ⟨X.K, cl⟩ Ia x xs[i] → gOf X.K tg x σ' H2 fun σ2 H3 => liftS ⟨X.K, cl⟩ W Tb { D with nx := fun σ2 H2 => ∃ I2 α2 ρ2 μ2, Ext I1 (ad α1) I2 (ad α2) ∧ Hf ⟨X.K, cl⟩ I2 α2 H2 μ2 F ∧ En ⟨X.K, cl⟩ I2 (ad α2) σ2 ρ2 ∧ Inv (i + 1) ρ2 μ2, ct := fun σ2 H2 => ∃ I2 α2 ρ2 μ2, Ext I1 (ad α1) I2 (ad α2) ∧ Hf ⟨X.K, cl⟩ I2 α2 H2 μ2 F ∧ En ⟨X.K, cl⟩ I2 (ad α2) σ2 ρ2 ∧ Inv (i + 1) ρ2 μ2, bk := D.nx } σ2 H3 := by
      intro Ia sa hfa ra
      cases q : setT tg xs[i] ρ' with
      | none => rw [q] at turn; exact turn.elim
      | some ρ2 =>
        rw [q] at turn
        have xa : Ext I1 (ad α1) Ia (ad α') := x'.trans (Ext.of sa _)
        refine gOf_go (g := ⟨X.K, cl⟩) [] hfa.sub ra (en'.mono (Ext.of sa _)) q (fun _ _ => .inr rfl) fun σ3 en3 _ => ?_
        refine ⟨Ia, α', ρ2, μ', F, _, hfa, en3, turn, fun σ4 ρ4 I4 α4 H4 μ4 x4 hf4 en4 q4 => ⟨I4, α4, ρ4, μ4, xa.trans x4, hf4, en4, q4⟩, n1.mono (x1.trans xa), fun σ4 ρ4 I4 α4 H4 μ4 x4 hf4 en4 q4 => ⟨I4, α4, ρ4, μ4, xa.trans x4, hf4, en4, q4⟩, n4.mono (x1.trans xa), n5.mono (x1.trans xa)⟩
    rcases wk.yields i I' H' x H2 xs[i] hx G' y with ⟨e, rx⟩ | ⟨p, o, hp', e, rx⟩
    · subst e
      exact fin (Same.refl _) hf' rx
    · subst e
      obtain ⟨hf2, x2⟩ := hf'.new (o := o) hp'
      exact fin x2 hf2 (rx (hf'.sub.free hp'))
  · have e : i = xs.length := by omega
    subst e
    exact .inl ⟨wk.stops I' H' G', n1 σ' ρ' I' α' H' μ' (x1.trans x') hf' en' (hd ρ' μ' inv)⟩
/-! ### comprehensions -/
def W0 : WX := fun _ _ _ _ => False
def T_yes : TrT := fun _ μ k _ => k true μ
def T_lc (S : TrI) (tg : Tgt) (Tt : TrT) (Te : TrE) (own : List Nat) : TrE := fun ρ μ k E => S ρ μ (fun xs Gd μ1 => ∃ Inv : Nat → List D → Sto → Prop, Inv 0 [] μ1 ∧ (∀ i acc μ', i ≤ xs.length → Inv i acc μ' → Gd μ' ∧ acc.length ≤ i) ∧ xs.length < sizeLine ∧
  (∀ i x acc μ', xs[i]? = some x → Inv i acc μ' → match setT tg x (wipeD ρ own) with
    | some ρ2 => Tt ρ2 μ' (fun b μ2 => if b = true then Te ρ2 μ2 (fun y μ3 => match y with | .val d => Inv (i + 1) (acc ++ [d]) μ3 | .cell _ => False) (fun _ _ => False) else Inv (i + 1) acc μ2) (fun _ _ => False)
    | none => False) ∧ ∀ acc μ', Inv xs.length acc μ' → k (.val (.lst acc)) μ') E
theorem lift_lc {X : Cx} {cl : Nat → Addr} {W : WX} {S : TrI} {tg : Tgt} {Tt : TrT} {Te : TrE} {own : List Nat} (ho : ∀ j ∈ tgIn tg, j ∈ own) (hown : own ≠ []) {σ : L2.St} {H : Hp} {Q : VK} (h : lift ⟨X.K, cl⟩ W (T_lc S tg Tt Te own) σ H Q) :
    tLc (liftI ⟨X.K, cl⟩ W S) (gOf X.K tg) (liftT ⟨X.K, cl⟩ W0 Tt) (lift ⟨X.K, cl⟩ W0 Te) own σ H Q := by
  obtain ⟨I, α, ρ, μ, F, k, E, hf, en, t, hk, hx⟩ := h
  refine ⟨I, α, ρ, μ, F, _, E, hf, en, t, fun J xs Gd Gh I1 α1 H1 μ1 x1 hf1 wk gd t1 => ?_, hx⟩
  obtain ⟨Inv, h0, hG, hz, hs', hd⟩ := t1
  intro D hD
  have FD : F D = none := by
    cases q : F D with
    | none => rfl
    | some o =>
      have := (hf1.frm D o q).1
      rw [hD] at this
      cases this
  refine ⟨fun i m H' => m = xs.length - i ∧ i ≤ xs.length ∧ ∃ I' α' μ' vs acc, Ext I1 (ad α1) I' (ad α') ∧ Hf ⟨X.K, cl⟩ I' α' H' μ' (upd F D (.lst vs)) ∧ RpL ⟨X.K, cl⟩ I' vs acc ∧ Inv i acc μ', ⟨xs.length, by simp, Nat.zero_le _, I1, α1, μ1, [], [], Ext.refl _ _, hf1.aside hD, .nil, h0⟩, ?_⟩
  rintro i m H' ⟨rfl, hi', I', α', μ', vs, acc, x', hf', ra, inv⟩
  obtain ⟨gd', hlen⟩ := hG i acc μ' hi' inv
  have G' := gd I' α' H' μ' _ x' hf' gd'
  have lessF : Same F (upd F D (.lst vs)) := fun b o e => by rw [upd_ne (ne_of_none e FD)]; exact e
  by_cases hlt : i < xs.length
  · refine .inr ⟨wk.goes i I' H' hlt G', fun H2 => ∃ I2 α2 μ2 vs2 acc2, Ext I1 (ad α1) I2 (ad α2) ∧ Hf ⟨X.K, cl⟩ I2 α2 H2 μ2 (upd F D (.lst vs2)) ∧ RpL ⟨X.K, cl⟩ I2 vs2 acc2 ∧ Inv (i + 1) acc2 μ2, fun H2 p => ⟨xs.length - (i + 1), by omega, rfl, hlt, p⟩, fun x H2 y => ?_⟩
    have hx := List.getElem?_eq_getElem hlt
    have turn := hs' i _ acc μ' hx inv
    have fin : ∀ {Ia : Hp}, Same I' Ia → Hf ⟨X.K, cl⟩ Ia α' H2 μ' (upd F D (.lst vs)) → Rp ⟨X.K, cl⟩ Ia x xs[i] → gOf X.K tg x (wipe σ own) H2 fun σ2 H3 => wipe σ2 own = wipe σ own ∧ liftT ⟨X.K, cl⟩ W0 Tt σ2 H3 fun b H3 =>
        if b = true then lift ⟨X.K, cl⟩ W0 Te σ2 H3 fun y H4 => ∃ ac, H4 D = some (.lst ac) ∧ ac.length < sizeLine ∧ (fun H2 => ∃ I2 α2 μ2 vs2 acc2, Ext I1 (ad α1) I2 (ad α2) ∧ Hf ⟨X.K, cl⟩ I2 α2 H2 μ2 (upd F D (.lst vs2)) ∧ RpL ⟨X.K, cl⟩ I2 vs2 acc2 ∧ Inv (i + 1) acc2 μ2) (upd H4 D (.lst (ac ++ [y]))) else (fun H2 => ∃ I2 α2 μ2 vs2 acc2, Ext I1 (ad α1) I2 (ad α2) ∧ Hf ⟨X.K, cl⟩ I2 α2 H2 μ2 (upd F D (.lst vs2)) ∧ RpL ⟨X.K, cl⟩ I2 vs2 acc2 ∧ Inv (i + 1) acc2 μ2) H3 := by
      intro Ia sa hfa rxa
      cases q : setT tg xs[i] (wipeD ρ own) with
      | none => rw [q] at turn; exact turn.elim
      | some ρ2 =>
        rw [q] at turn
        have xa : Ext I1 (ad α1) Ia (ad α') := x'.trans (Ext.of sa _)
        have ew : En ⟨X.K, cl⟩ Ia (ad α') (wipe σ own) (wipeD ρ own) := (en.mono (x1.trans xa)).wipe own
        refine gOf_go (g := ⟨X.K, cl⟩) own hfa.sub rxa ew q (fun j hj => .inl (ho j hj)) fun σ3 en3 hw => ?_
        have hw' : wipe σ3 own = wipe σ own := by
          rcases hw with hw | hw
          · rw [hw, wipe_wipe]
          · exact absurd hw hown
        refine ⟨hw', liftT_go hfa en3 turn (fun b Ib αb Hb μb xb hfb tb => ?_) (fun _ _ _ _ _ _ _ _ _ _ z => z.elim)⟩
        cases b with
        | false => exact ⟨Ib, αb, μb, vs, acc, xa.trans xb, hfb, (ra.mono sa).mono xb.hp, tb⟩
        | true =>
          refine lift_go hfb (en3.mono xb) tb (fun yv yd Ic αc Hc μc xc hfc rc tc => ?_) (fun _ _ _ _ _ _ _ _ _ _ z => z.elim)
          cases rc with
          | cell => exact (show False from tc).elim
          | @val _ d rc =>
            obtain ⟨hD1, hD2, hD3⟩ := hfc.frm D (.lst vs) upd_same
            refine ⟨vs, hD1, by rw [ra.length]; omega, Ic, αc, μc, vs ++ [yv], acc ++ [d], xa.trans (xb.trans xc), ?_, (((ra.mono sa).mono xb.hp).mono xc.hp).append (.cons rc .nil), tc⟩
            have z := hfc.reput (o' := .lst (vs ++ [yv])) (show upd F D (.lst vs) D = some (.lst vs) from upd_same)
            rw [upd_upd] at z
            exact z
    rcases wk.yields i I' H' x H2 xs[i] hx G' y with ⟨e, rx⟩ | ⟨p, o, hp', e, rx⟩
    · subst e
      exact fin (Same.refl _) hf' rx
    · subst e
      obtain ⟨hf2, x2⟩ := hf'.new (o := o) hp'
      exact fin x2 hf2 (rx (hf'.sub.free hp'))
  · have e : i = xs.length := by omega
    subst e
    refine .inl ⟨wk.stops I' H' G', ?_⟩
    obtain ⟨hf2, x2⟩ := hf'.settle (a := D) (o := .lst vs) upd_same
    have hf3 := hf2.less (F' := F) fun b o e => by
      have hb : b ≠ D := ne_of_none e FD
      show (if b = D then none else upd F D (.lst vs) b) = some o
      rw [if_neg hb, upd_ne hb]
      exact e
    exact hk _ _ _ α' H' μ' ((x1.trans x').trans (Ext.of x2 _)) hf3 (.val (.lst (SqL.of upd_same) (ra.mono x2))) (hd acc μ' inv)
section
variable {X : Cx} {cl : Nat → Addr} {W : WX} {S : TrI} {tg : Tgt} {Tt : TrT} {Te : TrE} {own : List (Str × Nat)} {elt tgE iter : Expr} {ifs : List Expr} {scope : Scope} {pos : Pos}
abbrev DTs (X : Cx) (cl : Nat → Addr) (W : WX) (e : List Expr) (T : TrT) : Prop := PTs X e (liftT ⟨X.K, cl⟩ W T)
theorem dts_nil : DTs X cl W [] T_yes := ⟨fun pins s σ H Q I h => by
  refine pts_nil.run pins s σ H Q I ?_
  obtain ⟨I, α, ρ, μ, F, k, E, hf, en, t, hk, hx⟩ := h
  exact hk true I α H μ (Ext.refl _ _) hf t⟩
theorem dts_one {c : Expr} (h : DT X cl W c Tt) : DTs X cl W [c] Tt := pts_one h
theorem d_lc (hc : X.calm = true) (hN : X.N.Nodup) (hi : DI X cl W tgE iter S) (ok : BlkOk X.N X.env.scope scope own) (ho : ∀ j ∈ tgIn tg, j ∈ own.map (·.2)) (hown : own.map (·.2) ≠ [])
    (hg : ∀ (s : Shared) (H : Hp) (C : Addr) (cls : List (Str × Addr)) (fp : List Addr), PG (X.blk s H scope (compEnvC scope cls C X.env) fp) tgE (gOf X.K tg))
    (ht : ∀ (s : Shared) (H : Hp) (C : Addr) (cls : List (Str × Addr)) (fp : List Addr), DTs (X.blk s H scope (compEnvC scope cls C X.env) fp) cl W0 ifs Tt)
    (he : ∀ (s : Shared) (H : Hp) (C : Addr) (cls : List (Str × Addr)) (fp : List Addr), DE (X.blk s H scope (compEnvC scope cls C X.env) fp) cl W0 elt Te) (hs : ∀ x, foldedSetIterable iter X.env x = pure x := by intro _; rfl) :
    DE X cl W (.ListComp elt [⟨tgE, iter, ifs, 0⟩] scope pos) (T_lc S tg Tt Te (own.map (·.2))) :=
  PE.of (pe_lc hc hN hi ok hg ht he hs) fun σ H Q h => lift_lc ho hown h
/-- name = [..] on one line -/
theorem ds_setLc {i : Nat} {y : Str} {py spos : Pos} (hc : X.calm = true) (hN : X.N.Nodup) (hy : X.N[i]? = some y) (hyl : X.env.scope.names.lookup y = some .local)
    (hsw : swapsWith (.ListComp elt [⟨tgE, iter, ifs, 0⟩] scope pos) (some (.Name y py)) spos.line X.env = pure true) (hi : DI X cl W tgE iter S) (ok : BlkOk X.N X.env.scope scope own) (ho : ∀ j ∈ tgIn tg, j ∈ own.map (·.2)) (hown : own.map (·.2) ≠ [])
    (hg : ∀ (s : Shared) (H : Hp) (C : Addr) (cls : List (Str × Addr)) (fp : List Addr), PG (X.blk s H scope (compEnvC scope cls C X.env) fp) tgE (gOf X.K tg))
    (ht : ∀ (s : Shared) (H : Hp) (C : Addr) (cls : List (Str × Addr)) (fp : List Addr), DTs (X.blk s H scope (compEnvC scope cls C X.env) fp) cl W0 ifs Tt)
    (he : ∀ (s : Shared) (H : Hp) (C : Addr) (cls : List (Str × Addr)) (fp : List Addr), DE (X.blk s H scope (compEnvC scope cls C X.env) fp) cl W0 elt Te) (hs : ∀ x, foldedSetIterable iter X.env x = pure x := by intro _; rfl) :
    DS X cl W (.Assign [.Name y py] (.ListComp elt [⟨tgE, iter, ifs, 0⟩] scope pos) spos) (T_asg (T_lc S tg Tt Te (own.map (·.2))) i) := by
  refine PS.of (ps_setLc (tt := liftT ⟨X.K, cl⟩ W0 Tt) (te := lift ⟨X.K, cl⟩ W0 Te) hc hN hy hyl hsw hi ok hg ht he hs) fun D σ H h => ?_
  obtain ⟨I, α, ρ, μ, F, N, hf, en, t, n1, n2, n3, n4, n5⟩ := h
  refine lift_lc (cl := cl) ho hown (lift_go hf en t (fun v d I1 α1 H1 μ1 x1 hf1 r1 t1 => ?_) (n5.at en))
  exact n1 _ _ I1 α1 H1 μ1 x1 hf1 ((en.mono x1).set r1) t1
/-- a tuple's parts to names -/
theorem ds_asgT {e : Expr} {Te : TrE} {tgE : Expr} (he : DE X cl W e Te) (hg : PG X tgE (gOf X.K tg)) (hs : swapsWithSole [tgE] e pos.line X.env = pure false := by rfl) (hw : swappedStores [tgE] e X.env = pure none := by rfl)
    (h1 : (assignEach [tgE] X.env).map (·.2) = [assign tgE X.env] := by rfl) : DS X cl W (.Assign [tgE] e pos) (fun N ρ μ => Te ρ μ (fun s μ1 => match s with | .val d => (match setT tg d ρ with | some ρ2 => N.nx ρ2 μ1 | none => False) | .cell _ => False) (fun x μ1 => N.ex x ρ μ1)) := by
  refine PS.of (ps_asg he hg hs hw h1) fun D σ H h => ?_
  obtain ⟨I, α, ρ, μ, F, N, hf, en, t, n1, n2, n3, n4, n5⟩ := h
  refine lift_go hf en t (fun v d I1 α1 H1 μ1 x1 hf1 r1 t1 => ?_) (n5.at en)
  cases r1 with
  | cell => exact (show False from t1).elim
  | @val _ d r1 =>
    have t2 : (match setT tg d ρ with | some ρ2 => N.nx ρ2 μ1 | none => False) := t1
    cases q : setT tg d ρ with
    | none => rw [q] at t2; exact t2.elim
    | some ρ2 =>
      rw [q] at t2
      exact gOf_go (g := ⟨X.K, cl⟩) [] hf1.sub r1 (en.mono x1) q (fun _ _ => .inr rfl) fun σ3 en3 _ => n1 _ _ I1 α1 H1 μ1 x1 hf1 en3 t2
end
end Dv
/-! Dv7: while, stores by place, new lists that are to change, + of lists, sums, the drawing state. -/
namespace Dv
open PySem PySem.Spec PyProof.Rows L2
/-! ### while -/
def T_while (Tt : TrT) (Tb : TrS) : TrS := fun N ρ μ => ∃ Inv : Nat → Rho → Sto → Prop, (∃ m, Inv m ρ μ) ∧ ∀ m ρ' μ', Inv m ρ' μ' →
  Tt ρ' μ' (fun b μ2 => if b = true then Tb { N with nx := fun ρ3 μ3 => ∃ m', m' < m ∧ Inv m' ρ3 μ3, ct := fun ρ3 μ3 => ∃ m', m' < m ∧ Inv m' ρ3 μ3, bk := N.nx } ρ' μ2 else N.nx ρ' μ2) (fun x μ2 => N.ex x ρ' μ2)
theorem ds_while {X : Cx} {cl : Nat → Addr} {W : WX} {c : Expr} {body : List Stmt} {Tt : TrT} {Tb : TrS} {pos : Pos} (hp : PassesOwn (model X.prog X.w) X.A X.env X.xe) (hc : DT X cl W c Tt) (hb : DSs X cl W body Tb) : DS X cl W (.While c body [] pos) (T_while Tt Tb) := by
  refine PS.of (ps_while hp hc hb) fun D σ H h => ?_
  obtain ⟨I, α, ρ, μ, F, N, hf, en, ⟨Inv, ⟨m0, h0⟩, turn⟩, n1, n2, n3, n4, n5⟩ := h
  refine ⟨fun m σ' H' => ∃ I' α' ρ' μ', Ext I (ad α) I' (ad α') ∧ Hf ⟨X.K, cl⟩ I' α' H' μ' F ∧ En ⟨X.K, cl⟩ I' (ad α') σ' ρ' ∧ Inv m ρ' μ', ⟨m0, I, α, ρ, μ, Ext.refl _ _, hf, en, h0⟩, ?_⟩
  rintro m σ' H' ⟨I', α', ρ', μ', x', hf', en', inv⟩
  refine liftT_go hf' en' (turn m ρ' μ' inv) (fun b I1 α1 H1 μ1 x1 hf1 t1 => ?_) ((n5.mono x').at en')
  cases b with
  | false => exact n1 _ _ _ _ _ _ (x'.trans x1) hf1 (en'.mono x1) t1
  | true =>
    refine ⟨fun σ3 H3 => ∃ m', m' < m ∧ ∃ I3 α3 ρ3 μ3, Ext I (ad α) I3 (ad α3) ∧ Hf ⟨X.K, cl⟩ I3 α3 H3 μ3 F ∧ En ⟨X.K, cl⟩ I3 (ad α3) σ3 ρ3 ∧ Inv m' ρ3 μ3, fun σ3 H3 p => p, ?_⟩
    have x2 := x'.trans x1
    exact ⟨I1, α1, ρ', μ1, F, _, hf1, en'.mono x1, t1, fun σ4 ρ4 I4 α4 H4 μ4 x4 hf4 en4 ⟨m', hm, q4⟩ => ⟨m', hm, I4, α4, ρ4, μ4, x2.trans x4, hf4, en4, q4⟩, n1.mono x2, fun σ4 ρ4 I4 α4 H4 μ4 x4 hf4 en4 ⟨m', hm, q4⟩ => ⟨m', hm, I4, α4, ρ4, μ4, x2.trans x4, hf4, en4, q4⟩, n4.mono x2, n5.mono x2⟩
/-! ### o[i] = e, o a list of the store -/
def T_setIx (Te To Ti : TrE) : TrS := fun N ρ μ => Te ρ μ (fun v μ1 => To ρ μ1 (fun o μ2 => Ti ρ μ2 (fun i μ3 => match o, i with
  | .cell j, .val (.int k) => match μ3[j]? with
    | some (.lst xs) => match ixN xs.length k with
      | some n => N.nx ρ (μ3.set j (.lst (xs.set n v)))
      | none => False
    | _ => False
  | _, _ => False) (fun x μ3 => N.ex x ρ μ3)) (fun x μ2 => N.ex x ρ μ2)) (fun x μ1 => N.ex x ρ μ1)
theorem ds_setIx {X : Cx} {cl : Nat → Addr} {W : WX} {o i e : Expr} {Te To Ti : TrE} {pos pos' : Pos} (he : DE X cl W e Te) (ho : DE X cl W o To) (hi : DE X cl W i Ti)
    (ha : ∀ v, assign (.Subscript o i pos) X.env v = (do
      let ov ← holding [v] (eval o X.env)
      let iv ← holding [v, ov] (eval i X.env)
      standAt pos
      holding [v, ov, iv] (setItem ov iv v)
      release [v, ov, iv] []) := by intro _; rfl)
    (hs : swapsWithSole [.Subscript o i pos] e pos'.line X.env = pure false := by rfl) (hw : swappedStores [.Subscript o i pos] e X.env = pure none := by rfl)
    (h1 : (assignEach [.Subscript o i pos] X.env).map (·.2) = [assign (.Subscript o i pos) X.env] := by rfl) : DS X cl W (.Assign [.Subscript o i pos] e pos') (T_setIx Te To Ti) := by
  refine PS.of (ps_asg he (pg_sub ho hi set_list ha) hs hw h1) fun D σ H h => ?_
  obtain ⟨I, α, ρ, μ, F, N, hf, en, t, n1, n2, n3, n4, n5⟩ := h
  refine lift_go hf en t (fun v d I1 α1 H1 μ1 x1 hf1 r1 t1 => ?_) (n5.at en)
  refine lift_go hf1 (en.mono x1) t1 (fun ov od I2 α2 H2 μ2 x2 hf2 r2 t2 => ?_) ((n5.mono x1).at (en.mono x1))
  have x12 := x1.trans x2
  refine lift_go hf2 (en.mono x12) t2 (fun iv id I3 α3 H3 μ3 x3 hf3 r3 t3 => ?_) ((n5.mono x12).at (en.mono x12))
  cases r2 with
  | val => exact (show False from t3).elim
  | @cell j a hj =>
    cases r3 with
    | cell => exact (show False from t3).elim
    | val r3 =>
      cases r3 with
      | @int k =>
        have t4 : (match μ3[j]? with | some (.lst xs) => (match ixN xs.length k with | some n => N.nx ρ (μ3.set j (.lst (xs.set n d))) | none => False) | _ => False) := t3
        cases q : μ3[j]? with
        | none => rw [q] at t4; exact t4.elim
        | some m =>
          rw [q] at t4
          cases m with
          | lst xs =>
            obtain ⟨fp, ha', hfp, vs, hv, hr⟩ := hf3.cell (x3.ad _ _ hj) q
            subst hfp
            cases z : ixN xs.length k with
            | none => simp only [z] at t4
            | some n =>
              simp only [z] at t4
              refine ⟨a, vs, k, n, rfl, rfl, hv, by rw [hr.length]; exact z, ?_⟩
              have hf4 := hf3.put (o := .lst (vs.set n v)) (m := .lst (xs.set n d)) ha' fun H' e => ⟨rfl, _, e, hr.set n (r1.mono (x2.trans x3))⟩
              have x13 := x12.trans x3
              exact n1 _ _ _ _ _ _ x13 hf4 (en.mono x13) t4
          | _ => exact (show False from t4).elim
      | _ => exact (show False from t3).elim
/-! ### new lists that are to change -/
def T_slC (Ta : TrE) (Tl Th : TrO) : TrE := fun ρ μ k E => Ta ρ μ (fun x μ1 => Tl ρ μ1 (fun lo μ2 => Th ρ μ2 (fun hi μ3 => match x with
  | .val (.lst ds) => k (.cell μ3.length) (μ3 ++ [.lst ((cutL ds lo hi).map Sl.val)])
  | .cell j => match μ3[j]? with
    | some (.lst xs) => k (.cell μ3.length) (μ3 ++ [.lst (cutL xs lo hi)])
    | _ => False
  | _ => False) E) E) E
theorem RpSL.take {g : G} {I : Hp} {α : List Addr} : ∀ {vs : List V} {ds : List Sl} (n : Nat), RpSL g I α vs ds → RpSL g I α (vs.take n) (ds.take n)
  | _, _, 0, _ => .nil
  | _, _, _ + 1, .nil => .nil
  | _, _, n + 1, .cons r t => .cons r (RpSL.take n t)
theorem RpSL.drop {g : G} {I : Hp} {α : List Addr} : ∀ {vs : List V} {ds : List Sl} (n : Nat), RpSL g I α vs ds → RpSL g I α (vs.drop n) (ds.drop n)
  | _, _, 0, r => r
  | _, _, _ + 1, .nil => .nil
  | _, _, n + 1, .cons _ t => RpSL.drop n t
theorem ext_snoc {I : Hp} {α : List Addr} {p : Addr} : Ext I α I (α ++ [p]) := ⟨Same.refl _, fun k a h => by
  rw [List.getElem?_append_left (List.getElem?_eq_some_iff.mp h).1]
  exact h⟩
theorem d_slC {X : Cx} {cl : Nat → Addr} {W : WX} {e : Expr} {Ta : TrE} {lo hi : Option Expr} {Tl Th : TrO} {pos p2 : Pos} (he : DE X cl W e Ta) (hl : DO X cl W lo Tl) (hu : DO X cl W hi Th) : DE X cl W (.Subscript e (.Slice lo hi none p2) pos) (T_slC Ta Tl Th) := by
  refine PE.of (pe_slice sl_list he hl hu) fun σ H Q h => ?_
  obtain ⟨I, α, ρ, μ, F, k, E, hf, en, t, hk, hx⟩ := h
  refine lift_go hf en t (fun v d I1 α1 H1 μ1 x1 hf1 r1 t1 => ?_) hx
  refine ⟨I1, α1, ρ, μ1, F, _, E, hf1, en.mono x1, t1, fun l I2 α2 H2 μ2 x2 hf2 t2 => ?_, hx.mono x1⟩
  refine ⟨I2, α2, ρ, μ2, F, _, E, hf2, en.mono (x1.trans x2), t2, fun u I3 α3 H3 μ3 x3 hf3 t3 => ?_, hx.mono (x1.trans x2)⟩
  have x13 := x1.trans (x2.trans x3)
  cases r1 with
  | @cell j a hj =>
    have t4 : (match μ3[j]? with | some (.lst xs) => k (.cell μ3.length) (μ3 ++ [.lst (cutL xs l u)]) | _ => False) := t3
    cases q : μ3[j]? with
    | none => rw [q] at t4; exact t4.elim
    | some m =>
      rw [q] at t4
      cases m with
      | lst xs =>
        obtain ⟨fp, ha', hfp, vs, hv, hr⟩ := hf3.cell ((x2.trans x3).ad _ _ hj) q
        refine ⟨a, vs, rfl, SqL.of hv, fun p hp => ?_⟩
        have rr : RpSL ⟨X.K, cl⟩ I3 (ad α3) (cutV vs l u) (cutL xs l u) := by
          unfold cutV cutL
          rw [hr.length]
          exact (hr.drop _).take _
        obtain ⟨hf4, x4, hp4⟩ := hf3.newC (o := .lst (cutV vs l u)) (m := .lst (cutL xs l u)) hp fun H' e => ⟨rfl, _, e, rr.mono ext_snoc⟩
        exact hk _ _ _ _ _ _ (x13.trans x4) hf4 (.cell hp4) t4
      | _ => exact (show False from t4).elim
  | val r =>
    cases r with
    | @lst a vs ds h r =>
      refine ⟨a, vs, rfl, hf3.sub.seq ((x2.trans x3).hp.seq h), fun p hp => ?_⟩
      have rr : RpL ⟨X.K, cl⟩ I3 (cutV vs l u) (cutL ds l u) := by
        unfold cutV cutL
        have r' := r.mono (x2.trans x3).hp
        rw [r.length]
        exact (r'.drop _).take _
      obtain ⟨hf4, x4, hp4⟩ := hf3.newC (o := .lst (cutV vs l u)) (m := .lst ((cutL ds l u).map Sl.val)) hp fun H' e => ⟨rfl, _, e, (RpSL.ofL rr).mono ext_snoc⟩
      exact hk _ _ _ _ _ _ (x13.trans x4) hf4 (.cell hp4) t3
    | _ => exact (show False from t3).elim
/-- what stood aside comes into the store -/
theorem Hf.adopt {g : G} {I : Hp} {α : Al} {H : Hp} {μ : List MO} {F : Hp} {p : Addr} {o : HO} {m : MO} (h : Hf g I α H μ F) (hF : F p = some o)
    (hm : ∀ H' : Hp, H' p = some o → MRep g I (ad α ++ [p]) H' p [p] m) :
    Hf g I (α ++ [(p, [p])]) H (μ ++ [m]) (fun b => if b = p then none else F b) ∧ Ext I (ad α) I (ad (α ++ [(p, [p])])) ∧ (ad (α ++ [(p, [p])]))[μ.length]? = some p := by
  obtain ⟨h1, h2, h3⟩ := h.frm p o hF
  have ea : ad (α ++ [(p, [p])]) = ad α ++ [p] := by unfold ad; rw [List.map_append]; rfl
  have x : Ext I (ad α) I (ad (α ++ [(p, [p])])) := by rw [ea]; exact ext_snoc
  have eo : owned (α ++ [(p, [p])]) = owned α ++ [p] := by rw [owned_append]; rfl
  refine ⟨⟨h.sub, by rw [List.length_append, List.length_append, h.len]; rfl, fun k q m' e1 e2 => ?_, ?_, fun b hb => ?_, fun b u e => ?_⟩, x, ?_⟩
  · by_cases hk : k < α.length
    · rw [List.getElem?_append_left hk] at e1
      rw [List.getElem?_append_left (by rw [← h.len]; exact hk)] at e2
      exact (h.sto k q m' e1 e2).mono x fun b hb => rfl
    · have hk' : k = α.length := by
        have := (List.getElem?_eq_some_iff.mp e1).1
        rw [List.length_append] at this
        have : k < α.length + 1 := this
        omega
      subst hk'
      rw [List.getElem?_append_right (Nat.le_refl _), Nat.sub_self] at e1
      rw [List.getElem?_append_right (by rw [h.len]; exact Nat.le_refl _), h.len, Nat.sub_self] at e2
      cases e1
      cases e2
      rw [ea]
      exact hm _ h1
  · rw [eo]
    refine List.nodup_append.mpr ⟨h.nod, by simp, fun a ha b hb e => ?_⟩
    rw [List.mem_singleton] at hb
    subst hb
    exact h3 (by rw [← e]; exact ha)
  · rw [eo] at hb
    rcases List.mem_append.mp hb with hb | hb
    · exact h.own b hb
    · rw [List.mem_singleton] at hb
      subst hb
      exact ⟨h2, by rw [h1]; exact fun z => by cases z⟩
  · by_cases hb : b = p
    · rw [if_pos hb] at e
      cases e
    · rw [if_neg hb] at e
      obtain ⟨q1, q2, q3⟩ := h.frm b u e
      refine ⟨q1, q2, fun hm => ?_⟩
      rw [eo] at hm
      rcases List.mem_append.mp hm with hm | hm
      · exact q3 hm
      · exact hb (List.mem_singleton.mp hm)
  · rw [ea, List.getElem?_append_right (by unfold ad; rw [List.length_map, h.len]; exact Nat.le_refl _)]
    unfold ad
    rw [List.length_map, h.len, Nat.sub_self]
    rfl
/-! ### a comprehension whose list is to change -/
def T_lcC (S : TrI) (tg : Tgt) (Tt : TrT) (Te : TrE) (own : List Nat) : TrE := fun ρ μ k E => S ρ μ (fun xs Gd μ1 => ∃ Inv : Nat → List D → Sto → Prop, Inv 0 [] μ1 ∧ (∀ i acc μ', i ≤ xs.length → Inv i acc μ' → Gd μ' ∧ acc.length ≤ i) ∧ xs.length < sizeLine ∧
  (∀ i x acc μ', xs[i]? = some x → Inv i acc μ' → match setT tg x (wipeD ρ own) with
    | some ρ2 => Tt ρ2 μ' (fun b μ2 => if b = true then Te ρ2 μ2 (fun y μ3 => match y with | .val d => Inv (i + 1) (acc ++ [d]) μ3 | .cell _ => False) (fun _ _ => False) else Inv (i + 1) acc μ2) (fun _ _ => False)
    | none => False) ∧ ∀ acc μ', Inv xs.length acc μ' → k (.cell μ'.length) (μ' ++ [.lst (acc.map Sl.val)])) E
theorem lift_lcC {X : Cx} {cl : Nat → Addr} {W : WX} {S : TrI} {tg : Tgt} {Tt : TrT} {Te : TrE} {own : List Nat} (ho : ∀ j ∈ tgIn tg, j ∈ own) (hown : own ≠ []) {σ : L2.St} {H : Hp} {Q : VK} (h : lift ⟨X.K, cl⟩ W (T_lcC S tg Tt Te own) σ H Q) :
    tLc (liftI ⟨X.K, cl⟩ W S) (gOf X.K tg) (liftT ⟨X.K, cl⟩ W0 Tt) (lift ⟨X.K, cl⟩ W0 Te) own σ H Q := by
  obtain ⟨I, α, ρ, μ, F, k, E, hf, en, t, hk, hx⟩ := h
  refine ⟨I, α, ρ, μ, F, _, E, hf, en, t, fun J xs Gd Gh I1 α1 H1 μ1 x1 hf1 wk gd t1 => ?_, hx⟩
  obtain ⟨Inv, h0, hG, hz, hs', hd⟩ := t1
  intro D hD
  have FD : F D = none := by
    cases q : F D with
    | none => rfl
    | some o =>
      have := (hf1.frm D o q).1
      rw [hD] at this
      cases this
  refine ⟨fun i m H' => m = xs.length - i ∧ i ≤ xs.length ∧ ∃ I' α' μ' vs acc, Ext I1 (ad α1) I' (ad α') ∧ Hf ⟨X.K, cl⟩ I' α' H' μ' (upd F D (.lst vs)) ∧ RpL ⟨X.K, cl⟩ I' vs acc ∧ Inv i acc μ', ⟨xs.length, by simp, Nat.zero_le _, I1, α1, μ1, [], [], Ext.refl _ _, hf1.aside hD, .nil, h0⟩, ?_⟩
  rintro i m H' ⟨rfl, hi', I', α', μ', vs, acc, x', hf', ra, inv⟩
  obtain ⟨gd', hlen⟩ := hG i acc μ' hi' inv
  have G' := gd I' α' H' μ' _ x' hf' gd'
  have lessF : Same F (upd F D (.lst vs)) := fun b o e => by rw [upd_ne (ne_of_none e FD)]; exact e
  by_cases hlt : i < xs.length
  · refine .inr ⟨wk.goes i I' H' hlt G', fun H2 => ∃ I2 α2 μ2 vs2 acc2, Ext I1 (ad α1) I2 (ad α2) ∧ Hf ⟨X.K, cl⟩ I2 α2 H2 μ2 (upd F D (.lst vs2)) ∧ RpL ⟨X.K, cl⟩ I2 vs2 acc2 ∧ Inv (i + 1) acc2 μ2, fun H2 p => ⟨xs.length - (i + 1), by omega, rfl, hlt, p⟩, fun x H2 y => ?_⟩
    have hx := List.getElem?_eq_getElem hlt
    have turn := hs' i _ acc μ' hx inv
    have fin : ∀ {Ia : Hp}, Same I' Ia → Hf ⟨X.K, cl⟩ Ia α' H2 μ' (upd F D (.lst vs)) → Rp ⟨X.K, cl⟩ Ia x xs[i] → gOf X.K tg x (wipe σ own) H2 fun σ2 H3 => wipe σ2 own = wipe σ own ∧ liftT ⟨X.K, cl⟩ W0 Tt σ2 H3 fun b H3 =>
        if b = true then lift ⟨X.K, cl⟩ W0 Te σ2 H3 fun y H4 => ∃ ac, H4 D = some (.lst ac) ∧ ac.length < sizeLine ∧ (fun H2 => ∃ I2 α2 μ2 vs2 acc2, Ext I1 (ad α1) I2 (ad α2) ∧ Hf ⟨X.K, cl⟩ I2 α2 H2 μ2 (upd F D (.lst vs2)) ∧ RpL ⟨X.K, cl⟩ I2 vs2 acc2 ∧ Inv (i + 1) acc2 μ2) (upd H4 D (.lst (ac ++ [y]))) else (fun H2 => ∃ I2 α2 μ2 vs2 acc2, Ext I1 (ad α1) I2 (ad α2) ∧ Hf ⟨X.K, cl⟩ I2 α2 H2 μ2 (upd F D (.lst vs2)) ∧ RpL ⟨X.K, cl⟩ I2 vs2 acc2 ∧ Inv (i + 1) acc2 μ2) H3 := by
      intro Ia sa hfa rxa
      cases q : setT tg xs[i] (wipeD ρ own) with
      | none => rw [q] at turn; exact turn.elim
      | some ρ2 =>
        rw [q] at turn
        have xa : Ext I1 (ad α1) Ia (ad α') := x'.trans (Ext.of sa _)
        have ew : En ⟨X.K, cl⟩ Ia (ad α') (wipe σ own) (wipeD ρ own) := (en.mono (x1.trans xa)).wipe own
        refine gOf_go (g := ⟨X.K, cl⟩) own hfa.sub rxa ew q (fun j hj => .inl (ho j hj)) fun σ3 en3 hw => ?_
        have hw' : wipe σ3 own = wipe σ own := by
          rcases hw with hw | hw
          · rw [hw, wipe_wipe]
          · exact absurd hw hown
        refine ⟨hw', liftT_go hfa en3 turn (fun b Ib αb Hb μb xb hfb tb => ?_) (fun _ _ _ _ _ _ _ _ _ _ z => z.elim)⟩
        cases b with
        | false => exact ⟨Ib, αb, μb, vs, acc, xa.trans xb, hfb, (ra.mono sa).mono xb.hp, tb⟩
        | true =>
          refine lift_go hfb (en3.mono xb) tb (fun yv yd Ic αc Hc μc xc hfc rc tc => ?_) (fun _ _ _ _ _ _ _ _ _ _ z => z.elim)
          cases rc with
          | cell => exact (show False from tc).elim
          | @val _ d rc =>
            obtain ⟨hD1, hD2, hD3⟩ := hfc.frm D (.lst vs) upd_same
            refine ⟨vs, hD1, by rw [ra.length]; omega, Ic, αc, μc, vs ++ [yv], acc ++ [d], xa.trans (xb.trans xc), ?_, (((ra.mono sa).mono xb.hp).mono xc.hp).append (.cons rc .nil), tc⟩
            have z := hfc.reput (o' := .lst (vs ++ [yv])) (show upd F D (.lst vs) D = some (.lst vs) from upd_same)
            rw [upd_upd] at z
            exact z
    rcases wk.yields i I' H' x H2 xs[i] hx G' y with ⟨e, rx⟩ | ⟨p, o, hp', e, rx⟩
    · subst e
      exact fin (Same.refl _) hf' rx
    · subst e
      obtain ⟨hf2, x2⟩ := hf'.new (o := o) hp'
      exact fin x2 hf2 (rx (hf'.sub.free hp'))
  · have e : i = xs.length := by omega
    subst e
    refine .inl ⟨wk.stops I' H' G', ?_⟩
    obtain ⟨hf2, x2, hp2⟩ := hf'.adopt (p := D) (o := .lst vs) (m := .lst (acc.map Sl.val)) upd_same fun H2 e => ⟨rfl, vs, e, (RpSL.ofL ra)⟩
    have hf3 := hf2.less (F' := F) fun b o e => by
      have hb : b ≠ D := ne_of_none e FD
      show (if b = D then none else upd F D (.lst vs) b) = some o
      rw [if_neg hb, upd_ne hb]
      exact e
    exact hk _ _ _ _ H' _ ((x1.trans x').trans x2) hf3 (.cell hp2) (hd acc μ' inv)
section
variable {X : Cx} {cl : Nat → Addr} {W : WX} {S : TrI} {tg : Tgt} {Tt : TrT} {Te : TrE} {own : List (Str × Nat)} {elt tgE iter : Expr} {ifs : List Expr} {scope : Scope} {pos : Pos}
theorem d_lcC (hc : X.calm = true) (hN : X.N.Nodup) (hi : DI X cl W tgE iter S) (ok : BlkOk X.N X.env.scope scope own) (ho : ∀ j ∈ tgIn tg, j ∈ own.map (·.2)) (hown : own.map (·.2) ≠ [])
    (hg : ∀ (s : Shared) (H : Hp) (C : Addr) (cls : List (Str × Addr)) (fp : List Addr), PG (X.blk s H scope (compEnvC scope cls C X.env) fp) tgE (gOf X.K tg))
    (ht : ∀ (s : Shared) (H : Hp) (C : Addr) (cls : List (Str × Addr)) (fp : List Addr), DTs (X.blk s H scope (compEnvC scope cls C X.env) fp) cl W0 ifs Tt)
    (he : ∀ (s : Shared) (H : Hp) (C : Addr) (cls : List (Str × Addr)) (fp : List Addr), DE (X.blk s H scope (compEnvC scope cls C X.env) fp) cl W0 elt Te) (hs : ∀ x, foldedSetIterable iter X.env x = pure x := by intro _; rfl) :
    DE X cl W (.ListComp elt [⟨tgE, iter, ifs, 0⟩] scope pos) (T_lcC S tg Tt Te (own.map (·.2))) :=
  PE.of (pe_lc hc hN hi ok hg ht he hs) fun σ H Q h => lift_lcC ho hown h
end
/-! ### + of lists, sums -/
def rCatA (K : PySem.W.Frag) : R2 := fun x y H Q => ∃ l b xs zs, x = .ref l ∧ y = .ref b ∧ SqL K H l xs ∧ SqL K H b zs ∧ xs.length + zs.length ≤ sizeLine ∧ ∀ p, H p = none → Q (.ref p) (upd H p (.lst (xs ++ zs)))
theorem op_catA {X : Cx} : OpR X (binaryOp .Add) (rCatA X.K) := by
  intro pins s σ H x y v u Q I rx ry h
  obtain ⟨l, b, xs, zs, rfl, rfl, hH, hB, hz, q⟩ := h
  cases rx
  cases ry
  obtain ⟨its, r, ⟨⟨cls, dd, data, sl⟩, n, ho, hc, hdd, hd⟩, hl⟩ := I.list hH
  obtain ⟨its2, r2, ⟨⟨cls2, dd2, data2, sl2⟩, n2, ho2, hc2, hdd2, hd2⟩, hl2⟩ := I.list hB
  simp only at hc hd hc2 hd2 hdd hdd2
  subst hc hd hc2 hd2 hdd hdd2
  have e : its.toArray ++ its2.toArray = (its ++ its2).toArray := by simp
  have l1 := r.length
  have l2 := r2.length
  refine concat_meets ⟨_, ho, rfl⟩ ⟨_, ho2, rfl⟩ noFill_list_add seq_list_add PySem.F.slot_list_add PySem.F.entry_list_add (PySem.F.args_list_add_2 _ _) (list_addW l b its.toArray its2.toArray n n2 none none sl sl2 (by simp only [List.size_toArray]; omega)) ⟨ho, ho2, ?_⟩
  rw [e]
  exact ⟨.ref _, _, I.lnew (t' := s.toks) (r.append r2) (by rw [List.length_append]; omega), rfl, q _ I.fresh⟩
/-- + of ints, texts, lists -/
def oAddL : OD := fun x y μ k => match x, y with
  | .val (.lst xs), .val (.lst ys) => xs.length + ys.length ≤ sizeLine ∧ k (.val (.lst (xs ++ ys))) μ
  | x, y => oAdd x y μ k
def rAddL (K : PySem.W.Frag) : R2 := fun x y H Q => rAddA x y H Q ∨ rCatA K x y H Q
theorem op_addL {X : Cx} : OpR X (binaryOp .Add) (rAddL X.K) := OpR.or op_addA op_catA
theorem snd_addL {g : G} : OSnd g oAddL (rAddL g.K) := by
  intro I α H μ F x y dx dy k Q hf rx ry o hk
  unfold oAddL at o
  split at o
  · cases rx with
    | val rx =>
      cases ry with
      | val ry =>
        cases rx with
        | lst h1 r1 =>
          cases ry with
          | lst h2 r2 =>
            refine .inr ⟨_, _, _, _, rfl, rfl, hf.sub.seq h1, hf.sub.seq h2, by rw [r1.length, r2.length]; exact o.1, fun p hp => ?_⟩
            obtain ⟨hf2, x2⟩ := hf.new (o := .lst _) hp
            exact hk _ _ _ α _ μ (Ext.of x2 _) hf2 (.val (.lst (SqL.of upd_same) ((r1.append r2).mono x2))) o.2
  · exact .inl (snd_add I α H μ F x y dx dy k Q hf rx ry o hk)
def oSum : OC := fun ds μ k => match ds with
  | [.val (.lst xs)] => match xs.mapM int? with
    | some ns => k (.val (.int ns.sum)) μ
    | none => False
  | _ => False
theorem mapM_int {g : G} {I : Hp} : ∀ {vs : List V} {ds : List D} {bs : List Int}, RpL g I vs ds → ds.mapM int? = some bs → vs = bs.map V.int
  | _, _, bs, .nil, h => by cases h; rfl
  | _, _, bs, .cons (d := d) (ds := ds) r t, h => by
    rw [List.mapM_cons] at h
    cases q : int? d with
    | none => rw [q] at h; cases h
    | some w =>
      cases q2 : ds.mapM int? with
      | none => rw [q, q2] at h; cases h
      | some ws =>
        rw [q, q2] at h
        have e : w :: ws = bs := Option.some.inj h
        subst e
        cases d <;> cases q
        cases r
        rw [mapM_int t q2]
        rfl
theorem snd_sum {g : G} : CSnd g oSum (rSum g.K) := by
  intro I α H μ F xs ds k Q hf r o hk
  unfold oSum at o
  split at o
  · rename_i ys
    cases r with
    | cons r1 r2 =>
      cases r2
      cases r1 with
      | val r1 =>
        cases r1 with
        | @lst a vs _ h rl =>
          cases q : ys.mapM int? with
          | none => rw [q] at o; exact o.elim
          | some ns =>
            rw [q] at o
            have e := mapM_int rl q
            subst e
            exact ⟨a, ns, rfl, hf.sub.seq h, hk _ _ I α H μ (Ext.refl _ _) hf (.val .int) o⟩
  · exact o.elim
/-! ### the drawing state, as one thing and as two lists -/
section
variable {g : G} {I H : Hp} {F : Hp} {a b : Addr}
theorem Hf.unpack {n : Nat} {fp : List Addr} (h : Hf g I [(a, fp)] H [.draw n] F) : ∃ b cs gs m, fp = [a, b] ∧ cs ≠ [] ∧ 0 ≤ m ∧ m ≤ (n : Int) ∧
    Hf g I [(a, [a]), (b, [b])] H [.lst [.cell 1, .val (.lst ((cs : List Int).map D.int)), .val (.int m)], .lst ((gs : List Int).map fun i => .val (.int i))] F := by
  obtain ⟨b, c, gs, cs, m, e, h1, h2, h3, h4, h5, h6⟩ := h.sto 0 (a, fp) (.draw n) rfl rfl
  have e : fp = [a, b] := e
  subst e
  refine ⟨b, cs, gs, m, rfl, h4, h5, h6, ?_⟩
  have nd := h.nod
  have eo : owned [(a, [a, b])] = [a, b] := by simp [owned]
  have eo2 : owned [(a, [a]), (b, [b])] = [a, b] := by simp [owned]
  refine ⟨h.sub, rfl, fun k p o e1 e2 => ?_, by rw [eo2]; rw [eo] at nd; exact nd, fun x hx => h.own x (by rw [eo]; rw [eo2] at hx; exact hx), fun x o e => ?_⟩
  · match k, e1, e2 with
    | 0, e1, e2 =>
      cases e1
      cases e2
      exact ⟨rfl, _, h1, .cons (.cell rfl) (.cons (.val (.lst h3 (RpL.ints cs))) (.cons (.val .int) .nil))⟩
    | 1, e1, e2 =>
      cases e1
      cases e2
      refine ⟨rfl, _, h2, ?_⟩
      have z := RpSL.ofL (g := g) (I := I) (α := ad [(a, [a]), (b, [b])]) (RpL.ints gs)
      rw [List.map_map] at z
      exact z
    | k + 2, e1, e2 => simp at e1
  · obtain ⟨q1, q2, q3⟩ := h.frm x o e
    exact ⟨q1, q2, by rw [eo2]; rw [eo] at q3; exact q3⟩
theorem ints_of {α : List Addr} : ∀ {vs : List V} {gs : List Int}, RpSL g I α vs (gs.map fun i => Sl.val (D.int i)) → vs = gs.map V.int
  | _, [], .nil => rfl
  | _, _ :: r, .cons (.val h) t => by
    cases h
    rw [ints_of (gs := r) t]
    rfl
/-- back: cell 0 holds the j-th, the plain cells, the count -/
theorem Hf.pack {α : Al} {μ : Sto} {j : Nat} {cs gs : List Int} {m : Int} {n : Nat} {fa : List Addr} (h : Hf g I α H μ F) (h0 : α[0]? = some (a, fa)) (m0 : μ[0]? = some (.lst [.cell j, .val (.lst (cs.map D.int)), .val (.int m)])) (hj : j ≠ 0) (mj : μ[j]? = some (.lst (gs.map fun i => .val (.int i))))
    (hc : cs ≠ []) (hm : 0 ≤ m) (hn : m ≤ (n : Int)) : ∃ b, Hf g I [(a, [a, b])] H [.draw n] F := by
  obtain ⟨e0, vs, hv, hr⟩ := h.sto 0 _ _ h0 m0
  have e0 : fa = [a] := e0
  subst e0
  cases hr with
  | cons r1 r2 =>
    cases r2 with
    | cons r2 r3 =>
      cases r3 with
      | cons r3 r4 =>
        cases r4
        cases r1 with
        | @cell _ b hb =>
          obtain ⟨fb, hbj⟩ := ad_get.mp hb
          obtain ⟨eb, ws, hw, hrw⟩ := h.sto j _ _ hbj mj
          have eb : fb = [b] := eb
          subst eb
          cases r2 with
          | val r2 =>
            cases r2 with
            | @lst c us _ hs hl =>
              cases r3 with
              | val r3 =>
                cases r3
                have e1 := hl.ints_inv
                subst e1
                have e2 := ints_of hrw
                subst e2
                have ma : a ∈ owned α := mem_owned h0 (List.mem_singleton.mpr rfl)
                have mb : b ∈ owned α := mem_owned hbj (List.mem_singleton.mpr rfl)
                have nab : a ≠ b := fun e => h.other h0 hbj hj (List.mem_singleton.mpr rfl) (by rw [e]; exact List.mem_singleton.mpr rfl)
                have eo : owned [(a, [a, b])] = [a, b] := by simp [owned]
                refine ⟨b, ⟨h.sub, rfl, fun k p o e1 e2 => ?_, by rw [eo]; simp [nab], fun x hx => ?_, fun x o e => ?_⟩⟩
                · match k, e1, e2 with
                  | 0, e1, e2 =>
                    cases e1
                    cases e2
                    exact ⟨b, c, gs, cs, m, rfl, hv, hw, hs, hc, hm, hn⟩
                  | k + 1, e1, e2 => simp at e1
                · rw [eo] at hx
                  simp only [List.mem_cons, List.not_mem_nil, or_false] at hx
                  rcases hx with rfl | rfl
                  · exact h.own _ ma
                  · exact h.own _ mb
                · obtain ⟨q1, q2, q3⟩ := h.frm x o e
                  refine ⟨q1, q2, fun hx => ?_⟩
                  rw [eo] at hx
                  simp only [List.mem_cons, List.not_mem_nil, or_false] at hx
                  rcases hx with rfl | rfl
                  · exact q3 ma
                  · exact q3 mb
end
/-- one draw: some number below the size -/
def cDraw : CtS := fun ds m Q _ => ∃ (size : Int) (n : Nat), ds = [.cell 0, .val (.int size)] ∧ m = .draw n ∧ 0 < size ∧ size.natAbs.log2 < 9000 ∧ n < 1099511627776 ∧ ∀ r : Int, 0 ≤ r → r < size → Q (.int r) (.draw (n + 1))
def intSls (gs : List Int) : List Sl := gs.map fun i => .val (.int i)
/-- the same, the state as two lists -/
def ctDraw2 : Ct := fun ds μ k _ => ∃ (size : Int) (cs gs : List Int) (m : Int), ds = [.cell 0, .val (.int size)] ∧ μ = [.lst [.cell 1, .val (.lst (cs.map D.int)), .val (.int m)], .lst (intSls gs)] ∧ 0 < size ∧ size.natAbs.log2 < 9000 ∧ cs ≠ [] ∧ 0 ≤ m ∧ m < 1099511627776 ∧
  ∀ (r : Int) (j : Nat) (gs' : List Int) (μ' : Sto), 0 ≤ r → r < size → j ≠ 0 → μ'[0]? = some (.lst [.cell j, .val (.lst (cs.map D.int)), .val (.int (m + 1))]) → μ'[j]? = some (.lst (intSls gs')) → k (.val (.int r)) μ'
theorem draw_imp {g : G} (vs : List V) (H : Hp) (Q : VK) (E : XK) (h : spOf g (ctS cDraw) vs H Q E) : spOf g ctDraw2 vs H Q E := by
  obtain ⟨I, α, μ, F, ds, k, e, hf, r, ⟨mo, hm, size, n, hds, hmo, h1, h2, h3, h4⟩, hk, hx⟩ := h
  subst hm
  subst hmo
  subst hds
  obtain ⟨p, rfl⟩ : ∃ p, α = [p] := by
    have := hf.len
    match α, this with
    | [p], _ => exact ⟨p, rfl⟩
  obtain ⟨a, fp⟩ := p
  obtain ⟨b, cs, gs, m, e1, q1, q2, q3, hf2⟩ := hf.unpack
  subst e1
  refine ⟨I, [(a, [a]), (b, [b])], _, F, [.cell 0, .val (.int size)], fun s μ' => ∃ (r : Int) (j : Nat) (gs' : List Int), s = .val (.int r) ∧ 0 ≤ r ∧ r < size ∧ j ≠ 0 ∧ μ'[0]? = some (.lst [.cell j, .val (.lst (cs.map D.int)), .val (.int (m + 1))]) ∧ μ'[j]? = some (.lst (intSls gs')), fun _ _ => False, hf2, ?_, ⟨size, cs, gs, m, rfl, rfl, h1, h2, q1, q2, by omega, fun r j gs' μ' a1 a2 a3 a4 a5 => ⟨r, j, gs', rfl, a1, a2, a3, a4, a5⟩⟩, fun v d I' α' H' μ' x' hf' r' t' => ?_, fun _ _ _ _ _ _ _ _ _ _ z => z.elim⟩
  · cases r with
    | cons r1 r2 =>
      cases r2 with
      | cons r2 r3 =>
        cases r3
        cases r1 with
        | cell h0 =>
          cases r2 with
          | val r2 => exact .cons (.cell h0) (.cons (.val r2) .nil)
  · obtain ⟨rr, j, gs', e, a1, a2, a3, a4, a5⟩ := t'
    subst e
    obtain ⟨fa, h0⟩ := ad_get.mp (x'.ad 0 a rfl)
    obtain ⟨b', hp⟩ := hf'.pack (n := n + 1) h0 a4 a3 a5 q1 (by omega) (by omega)
    cases r' with
    | val r' => exact hk v _ I' [(a, [a, b'])] H' [.draw (n + 1)] ⟨x'.hp, fun k c hc => by exact hc⟩ hp (.val r') (h4 rr a1 a2 [])
/-- the drawing state made -/
def ctStart : Ct := fun ds μ k _ => μ = [] ∧ ∃ ns : List Int, ds = [.val (.lst (ns.map D.int))] ∧ ns.length ≤ 63 ∧ ∀ (j i : Nat) (μ' : Sto) (gs cs : List Int), μ'[j]? = some (.lst [.cell i, .val (.lst (cs.map D.int)), .val (.int 0)]) → i ≠ j → μ'[i]? = some (.lst (intSls gs)) → cs ≠ [] → k (.cell j) μ'
def T_start (Ta : TrA) : TrE := fun ρ μ k E => Ta ρ μ (fun ds μ1 => match ds with
  | [.val (.lst xs)] => (∃ ns : List Int, xs = ns.map D.int ∧ ns.length ≤ 63) ∧ k (.cell μ1.length) (μ1 ++ [.draw 0])
  | _ => False) E
theorem d_start {X : Cx} {cl : Nat → Addr} {W : WX} {f : Addr} {fd : FuncData} {ps : List Str} {x : Str} {p pos : Pos} {e : Expr} {Ta : TrA} {gg : List Value → List Value → List Value} {gV : List V → List V → List V}
    (R : Runs X f fd ps (spOf ⟨X.K, cl⟩ ctStart)) (hx : ∀ σ, PassesAt (L2.CX X.prog X.w) X σ (fun cls d H => W cls d σ H)) (hm : X.mg x = some (.ref f)) (hk : PySem.W.keepIn X.K (.ref f) = true) (hb : KBn X.K fd ps 1 [] gg gV)
    (hgV : ∀ v, gV [v] [] = [v]) (ha : DA X cl W [e] Ta) (hg : Gl X x := by rfl)
    (hdb : (x == ("__debug__" : Str)) = false := by decide) (he : starEach [e] X.env = (false, eval e X.env) :: starEach [] X.env := by rfl)
    (hpl : ((backTo pos (starEach [e] X.env)).any (·.1) || (backToKw pos (keywordEach [] X.env)).any (·.1.isNone)) = false := by rfl) :
    DE X cl W (.Call (.Name x p) [e] [] pos) (T_start Ta) := by
  refine PE.of (pe_callG R hg hm hk hb hx ha pk_nil rfl rfl hdb he hpl) fun σ H Q h => ?_
  obtain ⟨I, α, ρ, μ, F, k, E, hf, en, t, hk', hx'⟩ := h
  refine liftA_go hf en t (fun vs ds I1 α1 H1 μ1 x1 hf1 r1 t1 => ?_) hx'
  show vs.length = 1 ∧ ([] : List V).length = 0 ∧ spOf ⟨X.K, cl⟩ ctStart (gV vs []) H1 Q _
  split at t1
  · rename_i xs
    obtain ⟨⟨ns, e1, hl⟩, t1⟩ := t1
    subst e1
    cases r1 with
    | cons r1 r2 =>
      cases r2
      rename_i v
      refine ⟨rfl, rfl, ?_⟩
      rw [hgV]
      refine ⟨I1, [], [], asideOf α1 H1 F, [.val (.lst (ns.map D.int))], fun s μ' => ∃ (j i : Nat) (gs cs : List Int), s = .cell j ∧ μ'[j]? = some (.lst [.cell i, .val (.lst (cs.map D.int)), .val (.int 0)]) ∧ i ≠ j ∧ μ'[i]? = some (.lst (intSls gs)) ∧ cs ≠ [], fun _ _ => False, hf1.leave, ?_, ⟨rfl, ns, rfl, hl, fun j i μ' gs cs a1 a2 a3 a4 => ⟨j, i, gs, cs, rfl, a1, a2, a3, a4⟩⟩, fun v' d I' α' H' μ' x' hf' r' t' => ?_, fun _ _ _ _ _ _ _ _ _ _ z => z.elim⟩
      · cases r1 with
        | val r1 => exact .cons (.val r1) .nil
      · obtain ⟨j, i, gs, cs, e, a1, a2, a3, a4⟩ := t'
        subst e
        cases r' with
        | @cell _ a hj =>
          obtain ⟨fa, haj⟩ := ad_get.mp hj
          obtain ⟨e0, us, hu, hr⟩ := hf'.sto j _ _ haj a1
          have e0 : fa = [a] := e0
          subst e0
          cases hr with
          | cons q1 q2 =>
            cases q2 with
            | cons q2 q3 =>
              cases q3 with
              | cons q3 q4 =>
                cases q4
                cases q1 with
                | @cell _ b hbi =>
                  obtain ⟨fb, hb2⟩ := ad_get.mp hbi
                  obtain ⟨eb, ws, hw, hrw⟩ := hf'.sto i _ _ hb2 a3
                  have eb : fb = [b] := eb
                  subst eb
                  cases q2 with
                  | val q2 =>
                    cases q2 with
                    | @lst c us2 _ hs hl2 =>
                      cases q3 with
                      | val q3 =>
                        cases q3
                        have z1 := hl2.ints_inv
                        subst z1
                        have z2 := ints_of hrw
                        subst z2
                        have ma : a ∈ owned α' := mem_owned haj (List.mem_singleton.mpr rfl)
                        have mb : b ∈ owned α' := mem_owned hb2 (List.mem_singleton.mpr rfl)
                        have nab : a ≠ b := fun e => hf'.other haj hb2 a2 (List.mem_singleton.mpr rfl) (by rw [e]; exact List.mem_singleton.mpr rfl)
                        have hbk := hf1.back hf' x'.hp
                        have out : ∀ x, x ∈ owned α' → x ∉ owned α1 := fun x hx hx1 => by
                          cases q : H1 x with
                          | none => exact (hf1.own x hx1).2 q
                          | some o =>
                            have z : asideOf α1 H1 F x = some o := by
                              unfold asideOf
                              rw [if_pos (.inl hx1)]
                              exact q
                            exact (hf'.frm x o z).2.2 hx
                        have outF : ∀ x, x ∈ owned α' → F x = none := fun x hx => by
                          cases q : F x with
                          | none => rfl
                          | some o =>
                            have z : asideOf α1 H1 F x = some o := by
                              unfold asideOf
                              rw [if_pos (.inr (by rw [q]; rfl))]
                              exact (hf1.frm x o q).1
                            exact absurd hx (hf'.frm x o z).2.2
                        have ea : ad (α1 ++ [(a, [a, b])]) = ad α1 ++ [a] := by unfold ad; rw [List.map_append]; rfl
                        have eo : owned (α1 ++ [(a, [a, b])]) = owned α1 ++ [a, b] := by rw [owned_append]; simp [owned]
                        have xx : Ext I1 (ad α1) I' (ad (α1 ++ [(a, [a, b])])) := by rw [ea]; exact (Ext.of x'.hp _).trans ext_snoc
                        have nw : Hf ⟨X.K, cl⟩ I' (α1 ++ [(a, [a, b])]) H' (μ1 ++ [.draw 0]) F := by
                          refine ⟨hf'.sub, by rw [List.length_append, List.length_append, hf1.len]; rfl, fun k p o e1 e2 => ?_, ?_, fun x hx => ?_, fun x o e => ?_⟩
                          · by_cases hk : k < α1.length
                            · rw [List.getElem?_append_left hk] at e1
                              rw [List.getElem?_append_left (by rw [← hf1.len]; exact hk)] at e2
                              exact (hbk.sto k p o e1 e2).mono (by rw [ea]; exact ext_snoc) fun _ _ => rfl
                            · have hk' : k = α1.length := by
                                have := (List.getElem?_eq_some_iff.mp e1).1
                                rw [List.length_append] at this
                                have : k < α1.length + 1 := this
                                omega
                              subst hk'
                              rw [List.getElem?_append_right (Nat.le_refl _), Nat.sub_self] at e1
                              rw [List.getElem?_append_right (by rw [hf1.len]; exact Nat.le_refl _), hf1.len, Nat.sub_self] at e2
                              cases e1
                              cases e2
                              exact ⟨b, c, gs, cs, 0, rfl, hu, hw, hs, a4, Int.le_refl _, Int.le_refl _⟩
                          · rw [eo]
                            refine List.nodup_append.mpr ⟨hf1.nod, by simp [nab], fun x hx y hy e => ?_⟩
                            subst e
                            simp only [List.mem_cons, List.not_mem_nil, or_false] at hy
                            rcases hy with rfl | rfl
                            · exact out _ ma hx
                            · exact out _ mb hx
                          · rw [eo] at hx
                            rcases List.mem_append.mp hx with hx | hx
                            · exact hbk.own x hx
                            · simp only [List.mem_cons, List.not_mem_nil, or_false] at hx
                              rcases hx with rfl | rfl
                              · exact hf'.own _ ma
                              · exact hf'.own _ mb
                          · obtain ⟨p1, p2, p3⟩ := hbk.frm x o e
                            refine ⟨p1, p2, fun hx => ?_⟩
                            rw [eo] at hx
                            rcases List.mem_append.mp hx with hx | hx
                            · exact p3 hx
                            · simp only [List.mem_cons, List.not_mem_nil, or_false] at hx
                              rcases hx with rfl | rfl
                              · rw [outF _ ma] at e; cases e
                              · rw [outF _ mb] at e; cases e
                        refine hk' _ _ I' _ H' _ (x1.trans xx) nw (.cell ?_) t1
                        rw [ea, List.getElem?_append_right (by unfold ad; rw [List.length_map, hf1.len]; exact Nat.le_refl _)]
                        unfold ad
                        rw [List.length_map, hf1.len, Nat.sub_self]
                        rfl
  · exact t1.elim
end Dv
/-! Dv8: the end of a law. -/
namespace Dv
open PySem PySem.Spec PyProof.Rows L2
theorem FnG.ofOk {P : Program} {w : World} {K : PySem.W.Frag} {mg : Str → Option Value} {base : Heap} {k : Nat} {f : Addr} {fd : FuncData} {ps : List Str} {sp : Sp} (F : FnOk P w K mg base (L2.CX P w) k f fd ps sp) : FnG P w K mg base k f fd ps sp :=
  ⟨F.len, fun A outer s H args us vs Q E hr _ e0 hb r h => F.run A outer s H args us vs Q E hr e0 hb r h⟩
/-- the law's own def: a list of at most 63 ints comes, True is given -/
def cLaw : CtP := fun xs Q _ => ∃ ns : List Int, xs = [.lst (ns.map D.int)] ∧ ns.length ≤ 63 ∧ Q (.bl true)
theorem sp_law {g : G} {H : Hp} {a : Addr} {ns : List Int} (h : SqL g.K H a (ns.map V.int)) (hl : ns.length ≤ 63) : spOf g (ctP cLaw) [.ref a] H (fun v _ => v = .bl true) (fun _ _ _ => False) := by
  refine ⟨H, [], [], fun _ => none, [.val (.lst (ns.map D.int))], fun s _ => s = .val (.bl true), fun _ _ => False, ⟨Same.refl _, rfl, fun k p o e => by simp at e, List.nodup_nil, fun b hb => (nomatch hb), fun b o e => by cases e⟩, .cons (.val (.lst h (RpL.ints ns))) .nil, ⟨rfl, [.lst (ns.map D.int)], rfl, ns, rfl, hl, fun _ => rfl⟩, fun v d I' α' H' μ' _ _ r q => ?_, fun _ _ _ _ _ _ _ _ _ _ z => z.elim⟩
  subst q
  cases r with
  | val r => cases r; rfl
/-- the call of the law by who asks it -/
theorem law_callG {P : Program} {w : World} {K : PySem.W.Frag} {mg mb : Str → Option Value} {k : Nat} {fa a : Addr} {fd : FuncData} {x : Str} {s₁ : Shared} {vs : List Value} {ns : List Int} {cl : Nat → Addr}
    (KX : K.In s₁.heap) (hns : s₁.heap.Ns mainGlobals mg) (hb : s₁.heap.Ns builtinsNs mb) (hbb : ∀ x : Str, x ≠ "__name__" → mb x = bootBuiltins x) (hlim : s₁.heap.NoLimit) (hg : s₁.gens = #[])
    (ha : s₁.heap.get? a = some { cls := .type "list", data := .seq vs.toArray }) (hi : IntsAre vs ns) (hl : ns.length ≤ 63) (hr : Room k callerA)
    (F : ∀ base : Heap, K.In base → base.Ns mainGlobals mg → FnG P w K mg base k fa fd [x] (spOf ⟨K, cl⟩ (ctP cLaw))) (hbind : ∀ (s : Shared) (u : Value), BindsTo s fd ⟨[u], []⟩ [(x, u)]) :
    codeAny (model P w) callerA (.call (.ref fa) ⟨[.ref a], []⟩) (fun r s' => r = .ok (.ret (.bool true)) ∧ OldK s₁.heap s'.heap ∧ s'.os = s₁.os ∧ AllBare s'.gens) s₁ := by
  have rv := vals_ints hi
  have lenV := hi.length
  have hz : ns.length ≤ sizeLine := Nat.le_trans hl (by decide)
  have core : ∀ H : Hp, Only H → SqL K H a (ns.map V.int) → HOk P w H s₁.heap → (∀ b, H b ≠ none → b = a) → (H a ≠ none → K.lookup a = none) →
      codeAny (model P w) callerA (.call (.ref fa) ⟨[.ref a], []⟩) (fun r s' => r = .ok (.ret (.bool true)) ∧ OldK s₁.heap s'.heap ∧ s'.os = s₁.os ∧ AllBare s'.gens) s₁ := by
    intro H hO hS hok hA hK
    have old : ∀ {b : Addr} {o : Obj}, s₁.heap.get? b = some o → H b = none → (hidT s₁.heap H).get? b = some o := hidT_get
    have at_a : ∀ {b : Addr} {u : HO}, H b = some u → b = a := fun q => hA _ (by rw [q]; exact fun z => nomatch z)
    have noA : ∀ {b : Addr} {o : Obj} {es : Array DictEntry} {ep : Nat}, s₁.heap.get? b = some o → o.data = .dict es ep → H b = none := by
      intro b o es ep e d
      cases q : H b with
      | none => rfl
      | some u =>
        have e2 := at_a q
        subst e2
        rw [ha] at e
        cases e
        exact absurd (show Data.seq vs.toArray _ = Data.dict es ep from d) (fun z => nomatch z)
    have nsK : ∀ {b : Addr} {m : Str → Option Value}, s₁.heap.Ns b m → (hidT s₁.heap H).Ns b m := by
      rintro b m ⟨o, es, ep, e, d, r⟩
      exact ⟨o, es, ep, old e (noA e d), d, r⟩
    have hKb : K.In (hidT s₁.heap H) := by
      intro b o e
      refine old (KX b o e) ?_
      cases q : H b with
      | none => rfl
      | some u =>
        have e2 := at_a q
        subst e2
        rw [hK (by rw [q]; exact fun z => nomatch z)] at e
        cases e
    obtain ⟨mc, lim1, lim2⟩ := hlim
    have hM : Mod K mg (hidT s₁.heap H) := ⟨hKb, nsK hns, ⟨mb, nsK hb, hbb⟩, mc, nsK lim1, lim2⟩
    have e0 : Env0 P w K mg (hidT s₁.heap H) callerA [] s₁ H := ⟨rfl, hM, fun b o e => of_hidT e, Nat.le_of_eq (hidT_size _ _), trivial, fun b hb => absurd (show b ∈ ([] : List Addr) from hb) (by simp), hok, .of_eq hg⟩
    have go := (F _ hKb (nsK hns)).run callerA [] s₁ H ⟨[.ref a], []⟩ [.ref a] [.ref a] _ _ hr rfl e0 (hbind s₁ (.ref a)) (.cons rfl .nil) (sp_law hS hl)
    refine codeAny_mono go fun r s' h => ?_
    cases r with
    | error e =>
      obtain ⟨_, _, _, _, _, _, _, _, _, _, _, _, z⟩ := h
      exact z.elim
    | ok fl =>
      cases fl with
      | ret u =>
        obtain ⟨v, H', os, bare, un, hok', r', q⟩ := h
        cases (show v = .bl true from q)
        obtain rfl : u = Value.bool true := r'
        refine ⟨rfl, OldK.of_keep fun b o e => ?_, os, bare⟩
        cases q : H b with
        | none => exact un.keep b o e q (fun z => nomatch z) (by simp)
        | some u =>
          rcases hO b with z | ⟨ob, xs, z⟩
          · rw [q] at z
            cases z
          · have z2 := un.frzs b ob _ z
            obtain ⟨e1, _⟩ := hok b _ z
            obtain ⟨e2, _⟩ := hok' b _ z2
            rw [e] at e1
            cases e1
            exact e2
      | next => exact False.elim h
      | brk => exact False.elim h
      | cont => exact False.elim h
  cases hk : K.lookup a with
  | some o =>
    have e := KX a o hk
    rw [ha] at e
    cases e
    refine core (fun _ => none) (fun _ => .inl rfl) (.inr ⟨_, vs.toArray, _, hk, rfl, rfl, rfl, by rw [List.size_toArray, lenV]; exact hz, by simpa using rv⟩) (fun b u z => (nomatch (show (none : Option HO) = some u from z))) (fun b z => absurd rfl z) fun z => absurd rfl z
  | none =>
    have only : ∀ b (u : HO), (if b = a then some (HO.frz { cls := .type "list", data := .seq vs.toArray } (.lst (ns.map V.int))) else none) = some u → b = a ∧ u = .frz { cls := .type "list", data := .seq vs.toArray } (.lst (ns.map V.int)) := by
      intro b u z
      by_cases hb : b = a
      · rw [if_pos hb] at z
        cases z
        exact ⟨hb, rfl⟩
      · rw [if_neg hb] at z
        cases z
    refine core (fun b => if b = a then some (.frz { cls := .type "list", data := .seq vs.toArray } (.lst (ns.map V.int))) else none) (fun b => ?_) (.inl (.inr ⟨{ cls := .type "list", data := .seq vs.toArray }, if_pos rfl⟩)) (fun b u z => ?_) (fun b z => ?_) fun _ => hk
    · by_cases hb : b = a
      · exact .inr ⟨_, _, if_pos hb⟩
      · exact .inl (if_neg hb)
    · obtain ⟨e1, e2⟩ := only b u z
      subst e1
      subst e2
      exact ⟨ha, by rw [List.length_map]; exact hz, vs, _, rv, ha⟩
    · by_cases hb : b = a
      · exact hb
      · exact absurd (if_neg hb) z
/-- what k_head leaves, from the law's def -/
theorem walk_law {l : PySem.W.OpenLaw} {k : Nat} {q : Program} {loose : List Str} {XP : (Str → Option Value) → Heap → Prop} {YP : World → Heap → Prop} {d : DefRec} {K : Params → PySem.W.Frag} {x : Str}
    (hn : l.most = some 63) (hdf : d.params.defaults = []) (hr : Room k callerA) (hY : ∀ (w : World) (h : Heap), YP w h → (K w.params).In h)
    (F : ∀ (w : World) (mg : Str → Option Value) (fa : Addr) (h : Heap), (K w.params).In h → h.Ns mainGlobals mg → mg d.name = some (.ref fa) →
      ∃ (fd : FuncData) (cl : Nat → Addr), (∀ (s : Shared) (u : Value), BindsTo s fd ⟨[u], []⟩ [(x, u)]) ∧
        ∀ base : Heap, (K w.params).In base → base.Ns mainGlobals mg → FnG l.prog w (K w.params) mg base k fa fd [x] (spOf ⟨K w.params, cl⟩ (ctP cLaw))) :
    PySem.W.WalkO q loose XP YP l.row.toRowW d [] (fun f vs => PySem.call f vs) := by
  refine Att.attach_call hn hdf fun w s₀ s₁ mg mb fa o pm cd doc a vs ns G Y ho hd hcd hmg hobj hints hlen hg => ?_
  obtain ⟨fd, cl, hb, hF⟩ := F w mg fa _ (hY w _ Y) G.T.g hmg
  exact law_callG (hY w _ Y) G.T.g G.T.b G.T.builtins G.T.nolimit hg hobj hints hlen hr hF hb
/-- the arguments of plain data in the slots -/
theorem vcP {c : CtP} {T : TrS} {n : Nat} (h : ∀ xs k (e : KX), c xs (fun d => ∀ ν, k (.val d) ν) (fun x => ∀ ν, e x ν) → T ⟨fun _ μ' => k (.val .non) μ', k, fun _ _ => False, fun _ _ => False, fun x _ μ' => e x μ'⟩ (xs.map (fun d => some (.val d)) ++ List.replicate (n - xs.length) none) []) :
    ∀ ds μ k e, ctP c ds μ k e → T ⟨fun _ μ' => k (.val .non) μ', k, fun _ _ => False, fun _ _ => False, fun x _ μ' => e x μ'⟩ (ds.map some ++ List.replicate (n - ds.length) none) μ := by
  rintro ds μ k e ⟨rfl, xs, rfl, hc⟩
  have z := h xs k e hc
  rw [List.map_map, List.length_map]
  exact z
theorem pick_nil {β : Type} (l : List β) : pick [] l = [] := rfl
theorem pick_cons {β : Type} (i : Nat) (π : List Nat) (l : List β) : pick (i :: π) l = match l[i]? with | some x => x :: pick π l | none => pick π l := by
  unfold pick
  rw [List.filterMap_cons]
  cases l[i]? <;> rfl
end Dv
/-! Dv9: constants of the module, more operators, helps for the plain part. -/
namespace Dv
open PySem PySem.Spec PyProof.Rows L2
/-! ### constants of the module -/
def GC (K : PySem.W.Frag) (mg : Str → Option Value) (x : Str) (d : D) : Prop := ∃ u v, mg x = some u ∧ RelV v u ∧ ∀ (cl : Nat → Addr) (I : Hp), Rp ⟨K, cl⟩ I v d
theorem d_gc {X : Cx} {cl : Nat → Addr} {W : WX} {x : Str} {d : D} {pos : Pos} (h : GC X.K X.mg x d) (hg : Gl X x := by rfl) (hd : (x == ("__debug__" : Str)) = false := by decide) : DE X cl W (.Name x pos) (T_c d) := by
  obtain ⟨u, v, h1, h2, h3⟩ := h
  exact d_glob hg h1 h2 (h3 cl) hd
section
variable {K : PySem.W.Frag} {mg : Str → Option Value} {x : Str}
theorem gc_str {z : Str} {t : Nat} (h : mg x = some (.str z t)) : GC K mg x (.str z) := ⟨_, .str z, h, ⟨t, rfl⟩, fun _ _ => .str⟩
theorem gc_int {z : Int} {t : Nat} (h : mg x = some (.int z t)) : GC K mg x (.int z) := ⟨_, .int z, h, ⟨t, rfl⟩, fun _ _ => .int⟩
theorem gc_tup {a : Addr} {o : Obj} {its : Array Value} {n : Nat} {vs : List V} {ds : List D} (h : mg x = some (.ref a)) (l : K.lookup a = some o) (hc : o.cls = .type "tuple") (hd : o.data = .seq its n) (hz : its.size ≤ sizeLine) (r : Vals vs its.toList)
    (q : ∀ (cl : Nat → Addr) (I : Hp), RpL ⟨K, cl⟩ I vs ds) : GC K mg x (.tup ds) :=
  ⟨_, .ref a, h, rfl, fun cl I => .tup (.inr ⟨o, its, n, l, hc, hd, hz, r⟩) (q cl I)⟩
end
def T_asgT (Te : TrE) (tg : Tgt) : TrS := fun N ρ μ => Te ρ μ (fun s μ1 => match s with | .val d => (match setT tg d ρ with | some ρ2 => N.nx ρ2 μ1 | none => False) | .cell _ => False) (fun x μ1 => N.ex x ρ μ1)
def oNeg : OU := fun x μ k => match x with
  | .val (.int i) => k (.val (.int (-i))) μ
  | _ => False
theorem snd_neg {g : G} : USnd g oNeg (fun x H Q => ∃ i, x = .int i ∧ Q (.int (-i)) H) := by
  intro I α H μ F x dx k Q hf r o hk
  cases r with
  | cell => exact (show False from o).elim
  | val r =>
    cases r with
    | @int i => exact ⟨i, rfl, hk _ _ I α H μ (Ext.refl _ _) hf (.val .int) o⟩
    | _ => exact (show False from o).elim
/-! ### helps for the plain part -/
theorem isa_str {d : D} {t : String} (h : d.kind = some t) : isa t "str" = some (match d with | .str _ => true | _ => false) := by
  cases d with
  | obj a o => cases o <;> cases h <;> rfl
  | ty => cases h
  | ins => cases h
  | _ => cases h; rfl
theorem isa_int {d : D} {t : String} (h : d.kind = some t) : isa t "int" = some (match d with | .int _ => true | .bl _ => true | _ => false) := by
  cases d with
  | obj a o => cases o <;> cases h <;> rfl
  | ty => cases h
  | ins => cases h
  | _ => cases h; rfl
theorem isa_bool {d : D} {t : String} (h : d.kind = some t) : isa t "bool" = some (match d with | .bl _ => true | _ => false) := by
  cases d with
  | obj a o => cases o <;> cases h <;> rfl
  | ty => cases h
  | ins => cases h
  | _ => cases h; rfl
/-- a comprehension that maps, the store as it is -/
def IvMap (f : D → D) (xs : List D) (μ : Sto) : Nat → List D → Sto → Prop := fun i acc μ' => μ' = μ ∧ acc = (xs.take i).map f
section
variable {f : D → D} {xs acc : List D} {μ μ' : Sto} {i : Nat} {x : D}
theorem IvMap.zero : IvMap f xs μ 0 [] μ := ⟨rfl, rfl⟩
theorem IvMap.le (h : IvMap f xs μ i acc μ') : acc.length ≤ i := by
  rw [h.2, List.length_map, List.length_take]
  exact Nat.min_le_left _ _
theorem IvMap.step (hx : xs[i]? = some x) (h : IvMap f xs μ i acc μ') : IvMap f xs μ (i + 1) (acc ++ [f x]) μ' := by
  refine ⟨h.1, ?_⟩
  rw [h.2, List.take_add_one, hx, List.map_append]
  rfl
theorem IvMap.done (h : IvMap f xs μ xs.length acc μ') : acc = xs.map f := by
  rw [h.2, List.take_length]
end
/-- .. that keeps some -/
def IvFil (p : D → Bool) (f : D → D) (xs : List D) (μ : Sto) : Nat → List D → Sto → Prop := fun i acc μ' => μ' = μ ∧ acc = ((xs.take i).filter p).map f
section
variable {p : D → Bool} {f : D → D} {xs acc : List D} {μ μ' : Sto} {i : Nat} {x : D}
theorem IvFil.zero : IvFil p f xs μ 0 [] μ := ⟨rfl, rfl⟩
theorem IvFil.le (h : IvFil p f xs μ i acc μ') : acc.length ≤ i := by
  rw [h.2, List.length_map]
  refine Nat.le_trans (List.length_filter_le _ _) ?_
  rw [List.length_take]
  exact Nat.min_le_left _ _
theorem IvFil.yes (hx : xs[i]? = some x) (hp : p x = true) (h : IvFil p f xs μ i acc μ') : IvFil p f xs μ (i + 1) (acc ++ [f x]) μ' := by
  refine ⟨h.1, ?_⟩
  rw [h.2, List.take_add_one, hx, List.filter_append, List.map_append]
  show _ = _ ++ (List.filter p [x]).map f
  rw [List.filter_cons_of_pos hp]
  rfl
theorem IvFil.no (hx : xs[i]? = some x) (hp : p x = false) (h : IvFil p f xs μ i acc μ') : IvFil p f xs μ (i + 1) acc μ' := by
  refine ⟨h.1, ?_⟩
  rw [h.2, List.take_add_one, hx, List.filter_append]
  show _ = (_ ++ List.filter p [x]).map f
  rw [List.filter_cons_of_neg (by rw [hp]; decide)]
  simp
theorem IvFil.done (h : IvFil p f xs μ xs.length acc μ') : acc = (xs.filter p).map f := by
  rw [h.2, List.take_length]
end
theorem mapM_bl_map {β : Type} (f : β → Bool) : ∀ xs : List β, (xs.map fun x => D.bl (f x)).mapM bl? = some (xs.map f)
  | [] => rfl
  | x :: r => by
    rw [List.map_cons, List.mapM_cons, mapM_bl_map f r]
    rfl
theorem mapM_int_map : ∀ ns : List Int, (ns.map D.int).mapM int? = some ns
  | [] => rfl
  | x :: r => by
    rw [List.map_cons, List.mapM_cons, mapM_int_map r]
    rfl
theorem cutL_map {β γ : Type} (f : β → γ) (xs : List β) (lo hi : Option Int) : cutL (xs.map f) lo hi = (cutL xs lo hi).map f := by
  unfold cutL
  rw [List.length_map, List.map_take, List.map_drop]
theorem pyL_ints : ∀ ns : List Int, D.pyL (ns.map D.int) = some (ns.map PyData.int)
  | [] => rfl
  | x :: r => by
    show (match D.py (.int x), D.pyL (r.map D.int) with | some a, some b => some (a :: b) | _, _ => none) = _
    rw [pyL_ints r]
    rfl
theorem py_ints (ns : List Int) : (D.lst (ns.map D.int)).py = some (.list (ns.map PyData.int)) := by
  show (D.pyL (ns.map D.int)).map PyData.list = _
  rw [pyL_ints]
  rfl
theorem shaped_int : ∀ ns : List Int, SeqAt.shaped (.list (ns.map PyData.int)) = true := by
  have h1 : ∀ ns : List Int, PyData.canLayAll0 (ns.map PyData.int) = true := fun ns => by
    induction ns with
    | nil => rfl
    | cons n r ih => exact ih
  have h2 : ∀ ns : List Int, PyData.depthAll (ns.map PyData.int) = 0 := fun ns => by
    induction ns with
    | nil => rfl
    | cons n r ih =>
      show max 0 (PyData.depthAll (r.map PyData.int)) = 0
      rw [ih]
      rfl
  intro ns
  show (PyData.canLayAll0 (ns.map PyData.int) && decide (PyData.depthAll (ns.map PyData.int) + 1 ≤ 64)) = true
  rw [h1, h2]
  rfl
theorem eqD_nil (f : Bool → Bool) (ns : List Int) (k : Bool → Prop) : eqD f (.lst (ns.map D.int)) (.lst []) k = k (f ns.isEmpty) := by
  show (match (D.lst (ns.map D.int)).py, (D.lst []).py with | some p, some q => SeqAt.shaped p = true ∧ SeqAt.shaped q = true ∧ k (f (PyData.eqv p q)) | _, _ => False) = _
  rw [py_ints]
  show (SeqAt.shaped (.list (ns.map PyData.int)) = true ∧ SeqAt.shaped (.list []) = true ∧ k (f (PyData.eqvAll (ns.map PyData.int) []))) = _
  have e : PyData.eqvAll (ns.map PyData.int) [] = ns.isEmpty := by cases ns <;> rfl
  rw [e]
  exact propext ⟨fun z => z.2.2, fun z => ⟨shaped_int ns, rfl, z⟩⟩
theorem eqD_nn (f : Bool → Bool) (k : Bool → Prop) : eqD f (.lst []) (.lst []) k = k (f true) := eqD_nil f [] k
theorem eqD_cn (f : Bool → Bool) (g : Int) (r : List Int) (k : Bool → Prop) : eqD f (.lst (.int g :: r.map D.int)) (.lst []) k = k (f false) := eqD_nil f (g :: r) k
theorem eqD_int (f : Bool → Bool) (a b : Int) (k : Bool → Prop) : eqD f (.int a) (.int b) k = k (f (decide (a = b))) := by
  show (scal (.int a) (.int b) = true ∧ k (f (decide (V.int a = V.int b)))) = _
  have e : decide (V.int a = V.int b) = decide (a = b) := by
    by_cases h : a = b
    · rw [decide_eq_true h, decide_eq_true (by rw [h])]
    · rw [decide_eq_false h, decide_eq_false (fun z => h (by cases z; rfl))]
  rw [e]
  exact propext ⟨fun z => z.2, fun z => ⟨rfl, z⟩⟩
theorem eqD_str (f : Bool → Bool) (a b : Str) (k : Bool → Prop) : eqD f (.str a) (.str b) k = k (f (decide (a = b))) := by
  show (scal (.str a) (.str b) = true ∧ k (f (decide (V.str a = V.str b)))) = _
  have e : decide (V.str a = V.str b) = decide (a = b) := by
    by_cases h : a = b
    · rw [decide_eq_true h, decide_eq_true (by rw [h])]
    · rw [decide_eq_false h, decide_eq_false (fun z => h (by cases z; rfl))]
  rw [e]
  exact propext ⟨fun z => z.2, fun z => ⟨rfl, z⟩⟩
theorem mapM_sls : ∀ gs : List Int, (intSls gs).mapM valD? = some (gs.map D.int)
  | [] => rfl
  | x :: r => by
    show (List.cons (Sl.val (.int x)) (intSls r)).mapM valD? = _
    rw [List.mapM_cons, mapM_sls r]
    rfl
theorem now_sls {μ : Sto} {j : Nat} {gs : List Int} (h : μ[j]? = some (.lst (intSls gs))) : nowD μ (.cell j) = some (.lst (gs.map D.int)) := by
  show (match μ[j]? with | some (.lst xs) => (xs.mapM valD?).map D.lst | _ => none) = _
  rw [h]
  show ((intSls gs).mapM valD?).map D.lst = _
  rw [mapM_sls]
  rfl
theorem now_val (μ : Sto) (d : D) : nowD μ (.val d) = some d := rfl
theorem atI_hd {β : Type} (a : β) (r : List β) : atI (a :: r) 0 = some a := by
  unfold atI
  have e : ixN (a :: r).length 0 = some 0 := by
    unfold ixN
    rw [if_pos (Int.le_refl 0), if_pos (by simp)]
    rfl
  rw [e]
  rfl
theorem atI_pos {β : Type} {xs : List β} {i : Int} (h0 : 0 ≤ i) (h1 : i < xs.length) : ∃ x, xs[i.toNat]? = some x ∧ atI xs i = some x := by
  have hl : i.toNat < xs.length := by omega
  refine ⟨xs[i.toNat], List.getElem?_eq_getElem hl, ?_⟩
  unfold atI
  have e : ixN xs.length i = some i.toNat := by
    unfold ixN
    rw [if_pos h0, if_pos h1]
  rw [e]
  exact List.getElem?_eq_getElem hl
theorem str_app (a b : Str) : (a ++ b).cps.toList = a.cps.toList ++ b.cps.toList := by
  show (a.cps ++ b.cps).toList = _
  exact Array.toList_append
theorem str_len (a b : Str) : (a ++ b).length = a.length + b.length := by
  show (a.cps ++ b.cps).size = _
  exact Array.size_append
theorem cps_len (z : Str) : z.cps.toList.length = z.length := Array.length_toList
theorem cutS_len (z : Str) (lo hi : Option Int) : (cutS z lo hi).length ≤ z.length := by
  rw [← cps_len, ← cps_len]
  show (((z.cps.toList.drop _).take _).toArray).toList.length ≤ _
  rw [List.length_take, List.length_drop]
  omega
/-- some item of a list of data -/
theorem ix_some {xs : List D} {i : Int} (P : D → Prop) (h : ∀ x ∈ xs, P x) (h0 : 0 ≤ i) (h1 : i < xs.length) : ∃ x, atI xs i = some x ∧ P x := by
  obtain ⟨x, e1, e2⟩ := atI_pos h0 h1
  exact ⟨x, e2, h x (List.mem_of_getElem? e1)⟩
theorem range_at {lo : Int} {n i : Nat} {x : D} (h : (rangeD lo n)[i]? = some x) : x = .int (lo + i) ∧ i < n := by
  unfold rangeD at h
  rw [List.getElem?_map] at h
  cases e : (List.range n)[i]? with
  | none => rw [e] at h; cases h
  | some j =>
    rw [e] at h
    cases h
    obtain ⟨h1, h2⟩ := List.getElem?_eq_some_iff.mp e
    rw [List.length_range] at h1
    rw [List.getElem_range] at h2
    exact ⟨by rw [h2], h1⟩
theorem range_len (lo : Int) (n : Nat) : (rangeD lo n).length = n := by simp [rangeD]
/-- what repr asks of plain data -/
def okR (d : D) (s : Str) : Prop := ∃ p, d.py = some p ∧ p.showable = true ∧ p.hasDict = false ∧ p.depth ≤ 60 ∧ p.shown.length ≤ sizeLine ∧ s = p.shown
theorem oRepr_go {d : D} {s : Str} {μ : Sto} {k : KE} (h : okR d s) (q : k (.val (.str s)) μ) : oRepr [.val d] μ k := by
  obtain ⟨p, h1, h2, h3, h4, h5, rfl⟩ := h
  show (match d.py with | some p => p.showable = true ∧ p.hasDict = false ∧ p.depth ≤ 60 ∧ p.shown.length ≤ sizeLine ∧ k (.val (.str p.shown)) μ | none => False)
  rw [h1]
  exact ⟨h2, h3, h4, h5, q⟩
theorem okR_b2 (a b : Bool) : okR (.lst [.bl a, .bl b]) (PyData.list [.bool a, .bool b]).shown := by
  refine ⟨_, rfl, ?_, ?_, ?_, ?_, rfl⟩
  all_goals cases a <;> cases b <;> decide +kernel
theorem lg9 {s : Int} (h0 : 0 ≤ s) (h1 : s < 9223372036854775808) : s.natAbs.log2 < 9000 := by
  have h : s.natAbs < 2 ^ 63 := by omega
  by_cases hz : s.natAbs = 0
  · rw [hz]
    decide
  · exact Nat.lt_trans ((Nat.log2_lt hz).mpr h) (by decide)
theorem sIx_one {β : Type} (x : β) (r : List β) (d : Nat) : HT.sIx (x :: r).length d (some 1) = 1 := by
  have z := HT.sIx_nat (x :: r).length d 1
  rw [Nat.min_eq_left (by simp)] at z
  exact z
theorem cutL_head {β : Type} (xs : List β) : cutL xs none (some 1) = xs.take 1 := by
  cases xs with
  | nil => rfl
  | cons x r =>
    unfold cutL
    rw [sIx_one, HT.sIx_none]
    rfl
theorem cutL_tail {β : Type} (x : β) (r : List β) : cutL (x :: r) (some 1) none = r := by
  unfold cutL
  rw [sIx_one, HT.sIx_none, List.length_cons, Nat.add_sub_cancel]
  exact List.take_length ..
end Dv
namespace My
open PySem PySem.Spec PyProof.Rows L2 Dv
/-! contracts of k02 -/
def letters : Str := "abcdefghijklmnopqrstuvwxyz"
def wordD : D → Bool
  | .str z => decide (1 ≤ (z.length : Int)) && (decide ((z.length : Int) ≤ 8) && z.cps.toList.all fun c => decide (c ∈ letters.cps.toList))
  | _ => false
def weatherD : D → Bool
  | .str z => inV (.str z) [.str "wet", .str "dry", .str "open"]
  | _ => false
def okD (d : D) : Prop := (∃ t, d.kind = some t) ∧ ∀ z, d = .str z → z.length ≤ 1000
def c_is_word : CtP := fun xs Q _ => ∃ d, xs = [d] ∧ okD d ∧ Q (.bl (wordD d))
def c_is_weather : CtP := fun xs Q _ => ∃ d, xs = [d] ∧ okD d ∧ Q (.bl (weatherD d))
/-! is_word -/
abbrev N_is_word : List Str := ["value", "letter"]
def t_is_word_0 : TrS := T_ret (T_andV (T_cb oIsi (T_cons (T_var 0) (T_cons (T_c (.ty "str")) T_nil))) (T_andV (T_chain oLe oLe (T_c (.int 1)) (T_cb oLen (T_cons (T_var 0) T_nil)) (T_c (.int 8))) (T_cb oAll (T_cons (T_lc (S_seq (T_var 0)) (.name 1) T_yes (T_op oIn (T_var 1) (T_c (.str "abcdefghijklmnopqrstuvwxyz"))) [1]) T_nil))))
abbrev Vc_is_word : Prop := ∀ ds μ (k : KE) (e : KX), (ctP c_is_word : Ct) ds μ k e → t_is_word_0 ⟨fun _ μ' => k (.val .non) μ', k, fun _ _ => False, fun _ _ => False, fun x _ μ' => e x μ'⟩ (ds.map some ++ List.replicate (N_is_word.length - ds.length) none) μ
/-! is_weather -/
abbrev N_is_weather : List Str := ["value"]
def t_is_weather_0 : TrS := T_ret (T_andV (T_cb oIsi (T_cons (T_var 0) (T_cons (T_c (.ty "str")) T_nil))) (T_op oIn (T_var 0) (T_c (.tup [.str "wet", .str "dry", .str "open"]))))
abbrev Vc_is_weather : Prop := ∀ ds μ (k : KE) (e : KX), (ctP c_is_weather : Ct) ds μ k e → t_is_weather_0 ⟨fun _ μ' => k (.val .non) μ', k, fun _ _ => False, fun _ _ => False, fun x _ μ' => e x μ'⟩ (ds.map some ++ List.replicate (N_is_weather.length - ds.length) none) μ
/-! _law_start -/
abbrev N_law_start : List Str := ["_law_script", "_law_spare", "_law_great"]
def t_law_start_0 : TrS := T_asg (T_op oAddL (T_c (.int 5)) (T_op oMod (T_cb oSum (T_cons (T_sl (T_var 0) T_no (T_part (T_c (.int 1)))) T_nil)) (T_c (.int 1000003)))) 1
def t_law_start_1 : TrS := T_ret (T_lstC (T_cons (T_lcC (S_seq (T_var 0)) (.name 2) (T_t (T_op oGe (T_cb oAbs (T_cons (T_var 2) T_nil)) (T_op oPow (T_c (.int 10)) (T_c (.int 18))))) (T_cb oAbs (T_cons (T_var 2) T_nil)) [2]) (T_cons (T_op oAddL (T_cb oList (T_cons (T_var 0) T_nil)) (T_lst (T_cons (T_var 1) T_nil))) (T_cons (T_c (.int 0)) T_nil))))
def t_law_start : TrS := (T_seq t_law_start_0 t_law_start_1)
abbrev Vc_law_start : Prop := ∀ ds μ (k : KE) (e : KX), (ctStart : Ct) ds μ k e → t_law_start ⟨fun _ μ' => k (.val .non) μ', k, fun _ _ => False, fun _ _ => False, fun x _ μ' => e x μ'⟩ (ds.map some ++ List.replicate (N_law_start.length - ds.length) none) μ
/-! _law_draw -/
abbrev N_law_draw : List Str := ["_law_state", "_law_size", "_law_digit", "_law_mixed"]
def t_law_draw_0 : TrS := T_setIx (T_op oAddL (T_op oIx (T_var 0) (T_c (.int 2))) (T_c (.int 1))) (T_var 0) (T_c (.int 2))
def t_law_draw_1a_0 : TrS := T_setIx (T_slC (T_op oIx (T_var 0) (T_c (.int 0))) (T_part (T_c (.int 1))) T_no) (T_var 0) (T_c (.int 0))
def t_law_draw_1 : TrS := T_while (T_and (T_t (T_op oNe (T_op oIx (T_var 0) (T_c (.int 0))) (T_lst T_nil))) (T_t (T_op oEq (T_op oIx (T_op oIx (T_var 0) (T_c (.int 0))) (T_c (.int 0))) (T_c (.int 0))))) t_law_draw_1a_0
def t_law_draw_2a_0 : TrS := T_asg (T_op oMod (T_cb oInt (T_cons (T_op oIx (T_op oIx (T_var 0) (T_c (.int 0))) (T_c (.int 0))) T_nil)) (T_var 1)) 2
def t_law_draw_2a_1 : TrS := T_setIx (T_op oFdiv (T_op oIx (T_op oIx (T_var 0) (T_c (.int 0))) (T_c (.int 0))) (T_var 1)) (T_op oIx (T_var 0) (T_c (.int 0))) (T_c (.int 0))
def t_law_draw_2a_2 : TrS := T_ret (T_var 2)
def t_law_draw_2a : TrS := (T_seq t_law_draw_2a_0 (T_seq t_law_draw_2a_1 t_law_draw_2a_2))
def t_law_draw_2 : TrS := T_ifS (T_t (T_op oNe (T_op oIx (T_var 0) (T_c (.int 0))) (T_lst T_nil))) t_law_draw_2a T_next
def t_law_draw_3 : TrS := T_asg (T_op oMod (T_cb oInt (T_cons (T_op oIx (T_op oIx (T_var 0) (T_c (.int 1))) (T_op oMod (T_cb oInt (T_cons (T_op oIx (T_var 0) (T_c (.int 2))) T_nil)) (T_cb oLen (T_cons (T_op oIx (T_var 0) (T_c (.int 1))) T_nil)))) T_nil)) (T_c (.int 2147483647))) 3
def t_law_draw_4 : TrS := T_asg (T_op oMod (T_cb oInt (T_cons (T_op oPow (T_op oAddL (T_op oAddL (T_op oMul (T_var 3) (T_c (.int 16807))) (T_op oMul (T_op oIx (T_var 0) (T_c (.int 2))) (T_c (.int 39373)))) (T_c (.int 7))) (T_c (.int 5))) T_nil)) (T_c (.int 2147483647))) 3
def t_law_draw_5 : TrS := T_ret (T_op oMod (T_op oFdiv (T_op oMod (T_cb oInt (T_cons (T_op oPow (T_op oAddL (T_op oAddL (T_op oMul (T_var 3) (T_c (.int 48271))) (T_op oMul (T_op oIx (T_var 0) (T_c (.int 2))) (T_c (.int 40692)))) (T_c (.int 13))) (T_c (.int 5))) T_nil)) (T_c (.int 2147483629))) (T_c (.int 16))) (T_var 1))
def t_law_draw : TrS := (T_seq t_law_draw_0 (T_seq t_law_draw_1 (T_seq t_law_draw_2 (T_seq t_law_draw_3 (T_seq t_law_draw_4 t_law_draw_5)))))
abbrev Vc_law_draw : Prop := ∀ ds μ (k : KE) (e : KX), (ctDraw2 : Ct) ds μ k e → t_law_draw ⟨fun _ μ' => k (.val .non) μ', k, fun _ _ => False, fun _ _ => False, fun x _ μ' => e x μ'⟩ (ds.map some ++ List.replicate (N_law_draw.length - ds.length) none) μ
/-! law -/
abbrev N_law : List Str := ["_law_script", "_law_state", "_law_turn", "_law_signs", "_law_size", "_law_text", "_law_k", "_law_due", "_law_at", "_law_odd", "_law_near", "_law_bent", "_law_things", "_law_thing"]
def t_law_0 : TrS := T_asg (T_start (T_cons (T_var 0) T_nil)) 1
def t_law_1a_0 : TrS := T_asg (T_c (.str "abcdefghijklmnopqrstuvwxyz")) 3
def t_law_1a_1 : TrS := T_asg (T_callS cDraw 2 0 [0, 1] (T_cons (T_var 1) (T_cons (T_c (.int 11)) T_nil)) T_nil) 4
def t_law_1a_2 : TrS := T_asg (T_c (.str "")) 5
def t_law_1a_3a_0 : TrS := T_asg (T_op oAddL (T_var 5) (T_op oIx (T_var 3) (T_callS cDraw 2 0 [0, 1] (T_cons (T_var 1) (T_cons (T_c (.int 26)) T_nil)) T_nil))) 5
def t_law_1a_3 : TrS := T_for (S_range1 (T_cons (T_var 4) T_nil)) (.name 6) t_law_1a_3a_0
def t_law_1a_4 : TrS := T_asg (T_chain oLe oLe (T_c (.int 1)) (T_var 4) (T_c (.int 8))) 7
def t_law_1a_5a_0 : TrS := T_ret (T_c (.bl false))
def t_law_1a_5 : TrS := T_ifS (T_t (T_op oNe (T_cb oRepr (T_cons (T_lst (T_cons (T_call c_is_word 1 0 [0] (T_cons (T_var 5) T_nil) T_nil) (T_cons (T_call c_is_word 0 1 [0] T_nil (T_cons (T_var 5) T_nil)) T_nil))) T_nil)) (T_cb oRepr (T_cons (T_lst (T_cons (T_var 7) (T_cons (T_var 7) T_nil))) T_nil)))) t_law_1a_5a_0 T_next
def t_law_1a_6 : TrS := T_asg (T_callS cDraw 2 0 [0, 1] (T_cons (T_var 1) (T_cons (T_op oAddL (T_var 4) (T_c (.int 1))) T_nil)) T_nil) 8
def t_law_1a_7 : TrS := T_asg (T_op oIx (T_lst (T_cons (T_c (.str "A")) (T_cons (T_c (.str "1")) (T_cons (T_c (.str " ")) (T_cons (T_c (.str "-")) (T_cons (T_c (.str "_")) (T_cons (T_c (.str "\n")) (T_cons (T_c (.str "/")) (T_cons (T_c (.str ".")) (T_cons (T_c (.str "~")) T_nil)))))))))) (T_callS cDraw 2 0 [0, 1] (T_cons (T_var 1) (T_cons (T_c (.int 9)) T_nil)) T_nil)) 9
def t_law_1a_8a_0 : TrS := T_ret (T_c (.bl false))
def t_law_1a_8 : TrS := T_ifS (T_t (T_op oNotB (T_call c_is_word 1 0 [0] (T_cons (T_op oAddL (T_op oAddL (T_sl (T_var 5) T_no (T_part (T_var 8))) (T_var 9)) (T_sl (T_var 5) (T_part (T_var 8)) T_no)) T_nil) T_nil) (T_c (.bl false)))) t_law_1a_8a_0 T_next
def t_law_1a_9 : TrS := T_asg (T_op oIx (T_lst (T_cons (T_c (.str "wet")) (T_cons (T_c (.str "dry")) (T_cons (T_c (.str "open")) T_nil)))) (T_callS cDraw 2 0 [0, 1] (T_cons (T_var 1) (T_cons (T_c (.int 3)) T_nil)) T_nil)) 10
def t_law_1a_10 : TrS := T_asg (T_op oIx (T_lst (T_cons (T_op oAddL (T_var 10) (T_c (.str "s"))) (T_cons (T_sl (T_var 10) T_no (T_part (T_un oNeg (T_c (.int 1))))) (T_cons (T_m0 oUpper (T_var 10)) (T_cons (T_op oAddL (T_c (.str " ")) (T_var 10)) (T_cons (T_c (.str "")) (T_cons (T_op oAddL (T_var 10) (T_c (.str "\n"))) T_nil))))))) (T_callS cDraw 2 0 [0, 1] (T_cons (T_var 1) (T_cons (T_c (.int 6)) T_nil)) T_nil)) 11
def t_law_1a_11a_0 : TrS := T_ret (T_c (.bl false))
def t_law_1a_11 : TrS := T_ifS (T_or (T_t (T_op oNotB (T_call c_is_word 1 0 [0] (T_cons (T_var 10) T_nil) T_nil) (T_c (.bl true)))) (T_or (T_t (T_op oNotB (T_call c_is_weather 1 0 [0] (T_cons (T_var 10) T_nil) T_nil) (T_c (.bl true)))) (T_t (T_op oNotB (T_call c_is_weather 0 1 [0] T_nil (T_cons (T_var 11) T_nil)) (T_c (.bl false)))))) t_law_1a_11a_0 T_next
def t_law_1a : TrS := (T_seq t_law_1a_0 (T_seq t_law_1a_1 (T_seq t_law_1a_2 (T_seq t_law_1a_3 (T_cut t_law_1a_4 (T_seq t_law_1a_5 (T_seq t_law_1a_6 (T_seq t_law_1a_7 (T_seq t_law_1a_8 (T_seq t_law_1a_9 (T_seq t_law_1a_10 t_law_1a_11)))))))))))
def t_law_1 : TrS := T_for (S_range1 (T_cons (T_c (.int 8)) T_nil)) (.name 2) t_law_1a
def t_law_2 : TrS := T_asg (T_lst (T_cons (T_c .non) (T_cons (T_c (.bl true)) (T_cons (T_c (.int 5)) (T_cons (T_lst (T_cons (T_c (.str "a")) T_nil)) (T_cons (T_tup (T_cons (T_c (.str "wet")) T_nil)) (T_cons T_dic0 (T_cons (T_lst (T_cons (T_c (.str "wet")) T_nil)) (T_cons (T_c (.int 1)) T_nil))))))))) 12
def t_law_3 : TrS := T_ret (T_op oEq (T_lc (S_seq (T_var 12)) (.name 13) (T_or (T_t (T_op oNotB (T_call c_is_word 1 0 [0] (T_cons (T_var 13) T_nil) T_nil) (T_c (.bl false)))) (T_t (T_op oNotB (T_call c_is_weather 1 0 [0] (T_cons (T_var 13) T_nil) T_nil) (T_c (.bl false))))) (T_var 13) [13]) (T_lst T_nil))
def t_law : TrS := (T_seq t_law_0 (T_seq t_law_1 (T_seq t_law_2 t_law_3)))
abbrev Vc_law : Prop := ∀ ds μ (k : KE) (e : KX), (ctP cLaw : Ct) ds μ k e → t_law ⟨fun _ μ' => k (.val .non) μ', k, fun _ _ => False, fun _ _ => False, fun x _ μ' => e x μ'⟩ (ds.map some ++ List.replicate (N_law.length - ds.length) none) μ
end My
namespace My
open PySem PySem.Spec PyProof.Rows L2 Dv
def top (i : Nat) : Stmt := PySem.Challenge.pw_saidchances_k02_words_and_weather.main.body.getD i (.Pass ⟨0, 0, 0, 0⟩)
abbrev s_is_word : Stmt := top 3
theorem sc_is_word : FnScope N_is_word ["value"] (defScope s_is_word) := ⟨rfl, rfl, rfl, by decide +kernel, rfl, by decide +kernel, by decide +kernel⟩
abbrev s_is_weather : Stmt := top 4
theorem sc_is_weather : FnScope N_is_weather ["value"] (defScope s_is_weather) := ⟨rfl, rfl, rfl, by decide +kernel, rfl, by decide +kernel, by decide +kernel⟩
abbrev s_law_start : Stmt := top 6
theorem sc_law_start : FnScope N_law_start ["_law_script"] (defScope s_law_start) := ⟨rfl, rfl, rfl, by decide +kernel, rfl, by decide +kernel, by decide +kernel⟩
abbrev s_law_draw : Stmt := top 7
theorem sc_law_draw : FnScope N_law_draw ["_law_state", "_law_size"] (defScope s_law_draw) := ⟨rfl, rfl, rfl, by decide +kernel, rfl, by decide +kernel, by decide +kernel⟩
abbrev s_law : Stmt := top 8
theorem sc_law : FnScope N_law ["_law_script"] (defScope s_law) := ⟨rfl, rfl, rfl, by decide +kernel, rfl, by decide +kernel, by decide +kernel⟩
structure Ad where
  a_is_word : Addr
  d_is_word : FuncData
  a_is_weather : Addr
  d_is_weather : FuncData
  a_law_start : Addr
  d_law_start : FuncData
  a_law_draw : Addr
  d_law_draw : FuncData
  a_law : Addr
  d_law : FuncData
structure Tx (K : PySem.W.Frag) (mg : Str → Option Value) (A : Ad) : Prop where
  F_is_word : Fun K "is_word" "is_word" s_is_word A.a_is_word A.d_is_word
  m_is_word : mg "is_word" = some (.ref A.a_is_word)
  F_is_weather : Fun K "is_weather" "is_weather" s_is_weather A.a_is_weather A.d_is_weather
  m_is_weather : mg "is_weather" = some (.ref A.a_is_weather)
  F_law_start : Fun K "_law_start" "_law_start" s_law_start A.a_law_start A.d_law_start
  m_law_start : mg "_law_start" = some (.ref A.a_law_start)
  F_law_draw : Fun K "_law_draw" "_law_draw" s_law_draw A.a_law_draw A.d_law_draw
  m_law_draw : mg "_law_draw" = some (.ref A.a_law_draw)
  F_law : Fun K "law" "law" s_law A.a_law A.d_law
  m_law : mg "law" = some (.ref A.a_law)
  n_isinstance : mg "isinstance" = none
  n_str : mg "str" = none
  n_len : mg "len" = none
  n_all : mg "all" = none
  n_sum : mg "sum" = none
  n_list : mg "list" = none
  n_abs : mg "abs" = none
  n_int : mg "int" = none
  n_range : mg "range" = none
  n_repr : mg "repr" = none
  m_LETTERS : GC K mg "LETTERS" (.str "abcdefghijklmnopqrstuvwxyz")
  m_WEATHERS : GC K mg "WEATHERS" (.tup [.str "wet", .str "dry", .str "open"])
section
variable {P : Program} {w : World} {K : PySem.W.Frag} {mg : Str → Option Value} {A : Ad} {base : Heap} {cl : Nat → Addr}
theorem Tx.kb_law_start_1 (T : Tx K mg A) : KB K A.d_law_start ["_law_script"] 1 [] [0] := kb_mk T.F_law_start fun _ _ _ _ _ _ us ws h1 h2 => match us, ws, h1, h2 with | [_], [], _, _ => rfl
theorem Tx.kb_law_draw_2 (T : Tx K mg A) : KB K A.d_law_draw ["_law_state", "_law_size"] 2 [] [0, 1] := kb_mk T.F_law_draw fun _ _ _ _ _ _ us ws h1 h2 => match us, ws, h1, h2 with | [_, _], [], _, _ => rfl
theorem Tx.kb_is_word_0_value (T : Tx K mg A) : KB K A.d_is_word ["value"] 0 ["value"] [0] := kb_mk T.F_is_word fun _ _ _ _ _ _ us ws h1 h2 => match us, ws, h1, h2 with | [], [_], _, _ => rfl
theorem Tx.kb_is_word_1 (T : Tx K mg A) : KB K A.d_is_word ["value"] 1 [] [0] := kb_mk T.F_is_word fun _ _ _ _ _ _ us ws h1 h2 => match us, ws, h1, h2 with | [_], [], _, _ => rfl
theorem Tx.kb_is_weather_1 (T : Tx K mg A) : KB K A.d_is_weather ["value"] 1 [] [0] := kb_mk T.F_is_weather fun _ _ _ _ _ _ us ws h1 h2 => match us, ws, h1, h2 with | [_], [], _, _ => rfl
theorem Tx.kb_is_weather_0_value (T : Tx K mg A) : KB K A.d_is_weather ["value"] 0 ["value"] [0] := kb_mk T.F_is_weather fun _ _ _ _ _ _ us ws h1 h2 => match us, ws, h1, h2 with | [], [_], _, _ => rfl
abbrev Ok_is_word (K : PySem.W.Frag) (mg : Str → Option Value) (A : Ad) : Prop := FnOk P w K mg base (L2.CX P w) 1 A.a_is_word A.d_is_word ["value"] (spOf ⟨K, cl⟩ (ctP c_is_word))
theorem o_is_word (T : Tx K mg A) (hv : Vc_is_word) (len : ∀ ds μ (k : KE) (e : KX), ((ctP c_is_word) : Ct) ds μ k e → ds.length = 1) : Ok_is_word (P := P) (w := w) (base := base) (cl := cl) K mg A :=
  fn_ok (T := t_is_word_0) T.F_is_word sc_is_word len (fun cdv A outer s H E hr tk =>
      (dss_one (ds_ret (d_and (d_callB call_isiA snd_isi T.n_isinstance (by decide +kernel) (da_cons (d_var 0) (da_cons (d_bltn (by rfl) T.n_str (by decide +kernel) (v := .ty "str") (u := .type "str") rfl (fun _ => .ty)) da_nil))) (d_and (d_chain op_le op_le snd_le snd_le d_int (d_callB call_len snd_len T.n_len (by decide +kernel) (da_cons (d_var 0) da_nil)) d_int) (d_one (d_callB (cr_all rfl) snd_all T.n_all (by decide +kernel) (da_cons (d_lc (own := [("letter", 1)]) rfl sc_is_word.nd (di_seq (d_var 0)) (blkOk_by (N := N_is_word) (sc := defScope s_is_word) (by decide +kernel)) (by decide) (by decide) (fun _ _ _ _ _ => (pg_name (i := 1) sc_is_word.nd rfl (by first | exact .inl rfl | exact .inr rfl))) (fun _ _ _ _ _ => by exact dts_nil) (fun _ _ _ _ _ => by exact (d_cmp op_inA snd_in (d_var 1) (d_gc T.m_LETTERS) (by with_unfolding_all rfl)))) da_nil)))))))) hv
abbrev Ok_is_weather (K : PySem.W.Frag) (mg : Str → Option Value) (A : Ad) : Prop := FnOk P w K mg base (L2.CX P w) 1 A.a_is_weather A.d_is_weather ["value"] (spOf ⟨K, cl⟩ (ctP c_is_weather))
theorem o_is_weather (T : Tx K mg A) (hv : Vc_is_weather) (len : ∀ ds μ (k : KE) (e : KX), ((ctP c_is_weather) : Ct) ds μ k e → ds.length = 1) : Ok_is_weather (P := P) (w := w) (base := base) (cl := cl) K mg A :=
  fn_ok (T := t_is_weather_0) T.F_is_weather sc_is_weather len (fun cdv A outer s H E hr tk =>
      (dss_one (ds_ret (d_and (d_callB call_isiA snd_isi T.n_isinstance (by decide +kernel) (da_cons (d_var 0) (da_cons (d_bltn (by rfl) T.n_str (by decide +kernel) (v := .ty "str") (u := .type "str") rfl (fun _ => .ty)) da_nil))) (d_one (d_cmp op_inA snd_in (d_var 0) (d_gc T.m_WEATHERS) (by with_unfolding_all rfl))))))) hv
abbrev Ok_law_start (K : PySem.W.Frag) (mg : Str → Option Value) (A : Ad) : Prop := FnOk P w K mg base (L2.CX P w) 1 A.a_law_start A.d_law_start ["_law_script"] (spOf ⟨K, cl⟩ ctStart)
theorem o_law_start (T : Tx K mg A) (hv : Vc_law_start) (len : ∀ ds μ (k : KE) (e : KX), (ctStart : Ct) ds μ k e → ds.length = 1) : Ok_law_start (P := P) (w := w) (base := base) (cl := cl) K mg A :=
  fn_ok (T := t_law_start) T.F_law_start sc_law_start len (fun cdv A outer s H E hr tk =>
      (dss_cons (ds_set (i := 1) sc_law_start.nd rfl (by first | exact .inl rfl | exact .inr rfl) (d_op op_addL snd_addL d_int (d_op op_mod snd_mod (d_callB (cr_sum rfl) snd_sum T.n_sum (by decide +kernel) (da_cons (d_sl (d_var 0) do_none (do_some d_int)) da_nil)) d_int)))
      (dss_one (ds_ret (d_lstC (da_cons (d_lcC (own := [("_law_great", 2)]) rfl sc_law_start.nd (di_seq (d_var 0)) (blkOk_by (N := N_law_start) (sc := defScope s_law_start) (by decide +kernel)) (by decide) (by decide) (fun _ _ _ _ _ => (pg_name (i := 2) sc_law_start.nd rfl (by first | exact .inl rfl | exact .inr rfl))) (fun _ _ _ _ _ => by exact (dts_one (dt_cmp op_ge snd_ge (d_callB call_abs snd_abs T.n_abs (by decide +kernel) (da_cons (d_var 2) da_nil)) (d_op op_pow snd_pow d_int d_int) (nomark _)))) (fun _ _ _ _ _ => by exact (d_callB call_abs snd_abs T.n_abs (by decide +kernel) (da_cons (d_var 2) da_nil)))) (da_cons (d_op op_addL snd_addL (d_callTy call_list_of snd_list T.n_list (by decide +kernel) (da_cons (d_var 0) da_nil)) (d_lst (da_cons (d_var 1) da_nil))) (da_cons d_int da_nil)))))))) hv
abbrev Ok_law_draw (K : PySem.W.Frag) (mg : Str → Option Value) (A : Ad) : Prop := FnOk P w K mg base (L2.CX P w) 1 A.a_law_draw A.d_law_draw ["_law_state", "_law_size"] (spOf ⟨K, cl⟩ (ctS cDraw))
theorem o_law_draw (T : Tx K mg A) (hv : Vc_law_draw) (len : ∀ ds μ (k : KE) (e : KX), (ctDraw2 : Ct) ds μ k e → ds.length = 2) : Ok_law_draw (P := P) (w := w) (base := base) (cl := cl) K mg A :=
  (fn_ok (T := t_law_draw) T.F_law_draw sc_law_draw len (fun cdv A outer s H E hr tk =>
      (dss_cons (ds_setIx (d_op op_addL snd_addL (d_ix (d_var 0) d_int) d_int) (d_var 0) d_int)
      (dss_cons (ds_while (passes_of rfl) (DW.pt (dw_and (dt_cmp (op_neA hr.units) snd_ne (d_ix (d_var 0) d_int) (d_lst da_nil) (nomark _)) (dw_and1 (dt_cmp (op_eqA hr.units) snd_eq (d_ix (d_ix (d_var 0) d_int) d_int) d_int (nomark _))))) (dss_one (ds_setIx (d_slC (d_ix (d_var 0) d_int) (do_some d_int) do_none) (d_var 0) d_int)))
      (dss_cons (ds_if (dt_cmp (op_neA hr.units) snd_ne (d_ix (d_var 0) d_int) (d_lst da_nil) (nomark _)) (dss_cons (ds_set (i := 2) sc_law_draw.nd rfl (by first | exact .inl rfl | exact .inr rfl) (d_op op_mod snd_mod (d_callTy call_int1 snd_int T.n_int (by decide +kernel) (da_cons (d_ix (d_ix (d_var 0) d_int) d_int) da_nil)) (d_var 1)))
      (dss_cons (ds_setIx (d_op op_fdivW snd_fdiv (d_ix (d_ix (d_var 0) d_int) d_int) (d_var 1)) (d_ix (d_var 0) d_int) d_int)
      (dss_one (ds_ret (d_var 2))))) dss_nil)
      (dss_cons (ds_set (i := 3) sc_law_draw.nd rfl (by first | exact .inl rfl | exact .inr rfl) (d_op op_mod snd_mod (d_callTy call_int1 snd_int T.n_int (by decide +kernel) (da_cons (d_ix (d_ix (d_var 0) d_int) (d_op op_mod snd_mod (d_callTy call_int1 snd_int T.n_int (by decide +kernel) (da_cons (d_ix (d_var 0) d_int) da_nil)) (d_callB call_len snd_len T.n_len (by decide +kernel) (da_cons (d_ix (d_var 0) d_int) da_nil)))) da_nil)) d_int))
      (dss_cons (ds_set (i := 3) sc_law_draw.nd rfl (by first | exact .inl rfl | exact .inr rfl) (d_op op_mod snd_mod (d_callTy call_int1 snd_int T.n_int (by decide +kernel) (da_cons (d_op op_pow snd_pow (d_op op_addL snd_addL (d_op op_addL snd_addL (d_op op_mulA snd_mul (d_var 3) d_int) (d_op op_mulA snd_mul (d_ix (d_var 0) d_int) d_int)) d_int) d_int) da_nil)) d_int))
      (dss_one (ds_ret (d_op op_mod snd_mod (d_op op_fdivW snd_fdiv (d_op op_mod snd_mod (d_callTy call_int1 snd_int T.n_int (by decide +kernel) (da_cons (d_op op_pow snd_pow (d_op op_addL snd_addL (d_op op_addL snd_addL (d_op op_mulA snd_mul (d_var 3) d_int) (d_op op_mulA snd_mul (d_ix (d_var 0) d_int) d_int)) d_int) d_int) da_nil)) d_int) d_int) (d_var 1)))))))))) hv).imp fun vs H Q E h => draw_imp vs H Q E h
abbrev Ok_law (K : PySem.W.Frag) (mg : Str → Option Value) (A : Ad) : Prop := FnG P w K mg base 2 A.a_law A.d_law ["_law_script"] (spOf ⟨K, cl⟩ (ctP cLaw))
theorem o_law (T : Tx K mg A) (hv : Vc_law) (len : ∀ ds μ (k : KE) (e : KX), ((ctP cLaw) : Ct) ds μ k e → ds.length = 1) (O_is_word : Ok_is_word (P := P) (w := w) (base := base) (cl := cl) K mg A) (O_is_weather : Ok_is_weather (P := P) (w := w) (base := base) (cl := cl) K mg A) (O_law_start : Ok_law_start (P := P) (w := w) (base := base) (cl := cl) K mg A) (O_law_draw : Ok_law_draw (P := P) (w := w) (base := base) (cl := cl) K mg A) : Ok_law (P := P) (w := w) (base := base) (cl := cl) K mg A :=
  fn_okG (T := t_law) T.F_law sc_law len (fun cdv A outer s H E hr hG tk =>
      (dss_cons (ds_set (i := 1) sc_law.nd rfl (by first | exact .inl rfl | exact .inr rfl) (d_start (Dv.FnOk.runs O_law_start (hr.mono (by decide))) (fun σ => passAt tk σ) T.m_law_start T.F_law_start.kp T.kb_law_start_1 (fun _ => rfl) (da_cons (d_var 0) da_nil)))
      (dss_cons (ds_for (passes_of rfl) rfl (di_range1 T.n_range (da_cons d_int da_nil)) (pg_name (i := 2) sc_law.nd rfl (by first | exact .inl rfl | exact .inr rfl)) (dss_cons (ds_set (i := 3) sc_law.nd rfl (by first | exact .inl rfl | exact .inr rfl) d_str)
      (dss_cons (ds_set (i := 4) sc_law.nd rfl (by first | exact .inl rfl | exact .inr rfl) (d_callS (ks := []) (Dv.FnOk.runs O_law_draw (hr.mono (by decide))) (fun σ => passAt tk σ) T.m_law_draw T.F_law_draw.kp (T.kb_law_draw_2)  (da_cons (d_var 1) (da_cons d_int da_nil)) dk_nil))
      (dss_cons (ds_set (i := 5) sc_law.nd rfl (by first | exact .inl rfl | exact .inr rfl) d_str)
      (dss_cons (ds_for (passes_of rfl) rfl (di_range1 T.n_range (da_cons (d_var 4) da_nil)) (pg_name (i := 6) sc_law.nd rfl (by first | exact .inl rfl | exact .inr rfl)) (dss_one (ds_set (i := 5) sc_law.nd rfl (by first | exact .inl rfl | exact .inr rfl) (d_op op_addL snd_addL (d_var 5) (d_ix (d_var 3) (d_callS (ks := []) (Dv.FnOk.runs O_law_draw (hr.mono (by decide))) (fun σ => passAt tk σ) T.m_law_draw T.F_law_draw.kp (T.kb_law_draw_2)  (da_cons (d_var 1) (da_cons d_int da_nil)) dk_nil))))))
      (dss_cut (ds_set (i := 7) sc_law.nd rfl (by first | exact .inl rfl | exact .inr rfl) (d_chain op_le op_le snd_le snd_le d_int (d_var 4) d_int))
      (dss_cons (ds_if (dt_cmp (op_neA hr.units) snd_ne (d_callB (call_reprA hG hr.units) snd_repr T.n_repr (by decide +kernel) (da_cons (d_lst (da_cons (d_call (ks := []) (Dv.FnOk.runs O_is_word (hr.mono (by decide))) (fun σ => passAt tk σ) T.m_is_word T.F_is_word.kp (T.kb_is_word_1)  (da_cons (d_var 5) da_nil) dk_nil) (da_cons (d_call0 (ks := ["value"]) (Dv.FnOk.runs O_is_word (hr.mono (by decide))) (fun σ => passAt tk σ) T.m_is_word T.F_is_word.kp (T.kb_is_word_0_value)  (dk_cons (d_var 5) dk_nil)) da_nil))) da_nil)) (d_callB (call_reprA hG hr.units) snd_repr T.n_repr (by decide +kernel) (da_cons (d_lst (da_cons (d_var 7) (da_cons (d_var 7) da_nil))) da_nil)) (nomark _)) (dss_one (ds_ret d_bl)) dss_nil)
      (dss_cons (ds_set (i := 8) sc_law.nd rfl (by first | exact .inl rfl | exact .inr rfl) (d_callS (ks := []) (Dv.FnOk.runs O_law_draw (hr.mono (by decide))) (fun σ => passAt tk σ) T.m_law_draw T.F_law_draw.kp (T.kb_law_draw_2)  (da_cons (d_var 1) (da_cons (d_op op_addL snd_addL (d_var 4) d_int) da_nil)) dk_nil))
      (dss_cons (ds_set (i := 9) sc_law.nd rfl (by first | exact .inl rfl | exact .inr rfl) (d_ix (d_lst (da_cons d_str (da_cons d_str (da_cons d_str (da_cons d_str (da_cons d_str (da_cons d_str (da_cons d_str (da_cons d_str (da_cons d_str da_nil)))))))))) (d_callS (ks := []) (Dv.FnOk.runs O_law_draw (hr.mono (by decide))) (fun σ => passAt tk σ) T.m_law_draw T.F_law_draw.kp (T.kb_law_draw_2)  (da_cons (d_var 1) (da_cons d_int da_nil)) dk_nil)))
      (dss_cons (ds_if (dt_cmp op_notBl snd_notB (d_call (ks := []) (Dv.FnOk.runs O_is_word (hr.mono (by decide))) (fun σ => passAt tk σ) T.m_is_word T.F_is_word.kp (T.kb_is_word_1)  (da_cons (d_op op_addL snd_addL (d_op op_addL snd_addL (d_sl (d_var 5) do_none (do_some (d_var 8))) (d_var 9)) (d_sl (d_var 5) (do_some (d_var 8)) do_none)) da_nil) dk_nil) d_bl (nomark _)) (dss_one (ds_ret d_bl)) dss_nil)
      (dss_cons (ds_set (i := 10) sc_law.nd rfl (by first | exact .inl rfl | exact .inr rfl) (d_ix (d_lst (da_cons d_str (da_cons d_str (da_cons d_str da_nil)))) (d_callS (ks := []) (Dv.FnOk.runs O_law_draw (hr.mono (by decide))) (fun σ => passAt tk σ) T.m_law_draw T.F_law_draw.kp (T.kb_law_draw_2)  (da_cons (d_var 1) (da_cons d_int da_nil)) dk_nil)))
      (dss_cons (ds_set (i := 11) sc_law.nd rfl (by first | exact .inl rfl | exact .inr rfl) (d_ix (d_lst (da_cons (d_op op_addL snd_addL (d_var 10) d_str) (da_cons (d_sl (d_var 10) do_none (do_some (d_un un_neg snd_neg d_int))) (da_cons (d_upper (d_var 10)) (da_cons (d_op op_addL snd_addL d_str (d_var 10)) (da_cons d_str (da_cons (d_op op_addL snd_addL (d_var 10) d_str) da_nil))))))) (d_callS (ks := []) (Dv.FnOk.runs O_law_draw (hr.mono (by decide))) (fun σ => passAt tk σ) T.m_law_draw T.F_law_draw.kp (T.kb_law_draw_2)  (da_cons (d_var 1) (da_cons d_int da_nil)) dk_nil)))
      (dss_one (ds_if (DW.pt (dw_or (dt_cmp op_notBl snd_notB (d_call (ks := []) (Dv.FnOk.runs O_is_word (hr.mono (by decide))) (fun σ => passAt tk σ) T.m_is_word T.F_is_word.kp (T.kb_is_word_1)  (da_cons (d_var 10) da_nil) dk_nil) d_bl (nomark _)) (dw_or (dt_cmp op_notBl snd_notB (d_call (ks := []) (Dv.FnOk.runs O_is_weather (hr.mono (by decide))) (fun σ => passAt tk σ) T.m_is_weather T.F_is_weather.kp (T.kb_is_weather_1)  (da_cons (d_var 10) da_nil) dk_nil) d_bl (nomark _)) (dw_or1 (dt_cmp op_notBl snd_notB (d_call0 (ks := ["value"]) (Dv.FnOk.runs O_is_weather (hr.mono (by decide))) (fun σ => passAt tk σ) T.m_is_weather T.F_is_weather.kp (T.kb_is_weather_0_value)  (dk_cons (d_var 11) dk_nil)) d_bl (nomark _)))))) (dss_one (ds_ret d_bl)) dss_nil))))))))))))))
      (dss_cons (ds_set (i := 12) sc_law.nd rfl (by first | exact .inl rfl | exact .inr rfl) (d_lst (da_cons d_non (da_cons d_bl (da_cons d_int (da_cons (d_lst (da_cons d_str da_nil)) (da_cons (d_tup (da_cons d_str da_nil)) (da_cons d_dic0 (da_cons (d_lst (da_cons d_str da_nil)) (da_cons d_int da_nil))))))))))
      (dss_one (ds_ret (d_cmp (op_eqA hr.units) snd_eq (d_lc (own := [("_law_thing", 13)]) rfl sc_law.nd (di_seq (d_var 12)) (blkOk_by (N := N_law) (sc := defScope s_law) (by decide +kernel)) (by decide) (by decide) (fun _ _ _ _ _ => (pg_name (i := 13) sc_law.nd rfl (by first | exact .inl rfl | exact .inr rfl))) (fun _ _ _ _ _ => by exact (dts_one (DW.pt (dw_or (dt_cmp op_notBl snd_notB (d_call (ks := []) (Dv.FnOk.runs O_is_word (hr.mono (by decide))) (fun σ => pass0At σ) T.m_is_word T.F_is_word.kp (T.kb_is_word_1)  (da_cons (d_var 13) da_nil) dk_nil) d_bl (nomark _)) (dw_or1 (dt_cmp op_notBl snd_notB (d_call (ks := []) (Dv.FnOk.runs O_is_weather (hr.mono (by decide))) (fun σ => pass0At σ) T.m_is_weather T.F_is_weather.kp (T.kb_is_weather_1)  (da_cons (d_var 13) da_nil) dk_nil) d_bl (nomark _))))))) (fun _ _ _ _ _ => by exact (d_var 13))) (d_lst da_nil) (nomark _)))))))) hv
end
end My
namespace My
open PySem PySem.Spec PyProof.Rows L2 Dv
theorem len_law_start : ∀ ds μ (k : KE) (e : KX), (ctStart : Ct) ds μ k e → ds.length = 1 := by
  rintro ds μ k e ⟨rfl, xs, rfl, _⟩
  rfl
theorem len_law_draw : ∀ ds μ (k : KE) (e : KX), (ctDraw2 : Ct) ds μ k e → ds.length = 2 := by
  rintro ds μ k e ⟨_, _, _, _, rfl, _⟩
  rfl
theorem len_law : ∀ ds μ (k : KE) (e : KX), (ctP cLaw : Ct) ds μ k e → ds.length = 1 := by
  rintro ds μ k e ⟨rfl, xs, rfl, d, rfl, _⟩
  rfl
def absI (i : Int) : Int := if i < 0 then -i else i
def absD : D → D
  | .int i => .int (absI i)
  | d => d
def bigD : D → Bool
  | .int i => decide ((10 : Int) ^ 18 ≤ absI i)
  | _ => false
theorem v_law_start : Vc_law_start := by
  rintro ds μ k e ⟨rfl, ns, rfl, hl, hk⟩
  unfold t_law_start N_law_start t_law_start_0 t_law_start_1
  have e1 : cutL (ns.map D.int) none (some 1) = (ns.take 1).map D.int := by
    rw [cutL_map]
    congr 1
    exact cutL_head ns
  simp only [T_seq, T_dic0, T_cut, T_ret, T_asg, T_drop, T_ifS, T_next, T_var, T_c, T_nil, T_cons, T_op, T_un, T_cb, T_t, T_chain, T_and, T_or, T_not, T_andV, T_orV, T_notV, T_if, T_tup, T_lst, T_lstC, T_no, T_part, T_sl, T_slC, S_seq, S_range1, S_range2, T_lc, T_lcC, T_for, T_while, T_setIx, T_call, T_callS, T_start, T_m0, T_yes, T_asgT, vals?, pick_nil, pick_cons, setT, setAll, wipeD, List.getElem?_cons_zero, List.getElem?_cons_succ, List.set_cons_zero, List.set_cons_succ, List.cons_append, List.nil_append, List.append_nil, List.length_cons, List.length_nil, List.map_cons, List.map_nil, oIsi, oLen, oAbs, oInt, oAll, oAny, oAllF, oList, oSum, oIx, oSl, oLt, oLe, oGt, oGe, oSub, oMul, oMod, oFdiv, oPow, oAdd, oAddL, oI, oI0, oIsB, oNotB, oUpper, cellOf?, ren, oIn, oNin, oInF, Nat.reduceSub, Nat.reduceAdd, List.reduceReplicate, true_and, if_true, if_false, Bool.false_eq_true, ite_true, ite_false, eq_self, decide_true, decide_false, Bool.not_true, Bool.not_false, id, oEq, oNe, oEqF, now_val, eqD_str, eqD_int, eqD_nn, e1, mapM_int_map]
  refine ⟨by decide, ?_⟩
  refine ⟨IvFil bigD absD (ns.map D.int) [], .zero, fun i acc μ' _ q => q.le, ?_, fun i x acc μ' hx q => ?_, fun acc μ' q => ?_⟩
  · rw [List.length_map]
    exact Nat.lt_of_le_of_lt hl (by decide)
  · have hx2 := hx
    rw [List.getElem?_map] at hx2
    cases e : ns[i]? with
    | none => rw [e] at hx2; cases hx2
    | some c =>
      rw [e] at hx2
      cases hx2
      have q1 := fun h => q.yes (p := bigD) (f := absD) hx h
      have q2 := fun h => q.no (p := bigD) (f := absD) hx h
      simp only [T_seq, T_dic0, T_cut, T_ret, T_asg, T_drop, T_ifS, T_next, T_var, T_c, T_nil, T_cons, T_op, T_un, T_cb, T_t, T_chain, T_and, T_or, T_not, T_andV, T_orV, T_notV, T_if, T_tup, T_lst, T_lstC, T_no, T_part, T_sl, T_slC, S_seq, S_range1, S_range2, T_lc, T_lcC, T_for, T_while, T_setIx, T_call, T_callS, T_start, T_m0, T_yes, T_asgT, vals?, pick_nil, pick_cons, setT, setAll, wipeD, List.getElem?_cons_zero, List.getElem?_cons_succ, List.set_cons_zero, List.set_cons_succ, List.cons_append, List.nil_append, List.append_nil, List.length_cons, List.length_nil, List.map_cons, List.map_nil, oIsi, oLen, oAbs, oInt, oAll, oAny, oAllF, oList, oSum, oIx, oSl, oLt, oLe, oGt, oGe, oSub, oMul, oMod, oFdiv, oPow, oAdd, oAddL, oI, oI0, oIsB, oNotB, oUpper, cellOf?, ren, oIn, oNin, oInF, Nat.reduceSub, Nat.reduceAdd, List.reduceReplicate, true_and, if_true, if_false, Bool.false_eq_true, ite_true, ite_false, eq_self, decide_true, decide_false, Bool.not_true, Bool.not_false, id, oEq, oNe, oEqF, now_val, eqD_str, eqD_int, eqD_nn]
      refine ⟨⟨by decide, by decide, by decide⟩, ?_⟩
      by_cases hb : (10 : Int) ^ 18 ≤ absI c
      · have hb' : bigD (.int c) = true := decide_eq_true hb
        have z : decide ((10 : Int) ^ ((18 : Int).toNat) ≤ (if c < 0 then -c else c)) = true := decide_eq_true hb
        rw [z, if_pos rfl]
        exact q1 hb'
      · have hb' : bigD (.int c) = false := decide_eq_false hb
        have z : decide ((10 : Int) ^ ((18 : Int).toNat) ≤ (if c < 0 then -c else c)) = false := decide_eq_false hb
        rw [z, if_neg Bool.false_ne_true]
        exact q2 hb'
  · have e1 := q.done
    obtain ⟨rfl, _⟩ := q
    simp only [T_seq, T_dic0, T_cut, T_ret, T_asg, T_drop, T_ifS, T_next, T_var, T_c, T_nil, T_cons, T_op, T_un, T_cb, T_t, T_chain, T_and, T_or, T_not, T_andV, T_orV, T_notV, T_if, T_tup, T_lst, T_lstC, T_no, T_part, T_sl, T_slC, S_seq, S_range1, S_range2, T_lc, T_lcC, T_for, T_while, T_setIx, T_call, T_callS, T_start, T_m0, T_yes, T_asgT, vals?, pick_nil, pick_cons, setT, setAll, wipeD, List.getElem?_cons_zero, List.getElem?_cons_succ, List.set_cons_zero, List.set_cons_succ, List.cons_append, List.nil_append, List.append_nil, List.length_cons, List.length_nil, List.map_cons, List.map_nil, oIsi, oLen, oAbs, oInt, oAll, oAny, oAllF, oList, oSum, oIx, oSl, oLt, oLe, oGt, oGe, oSub, oMul, oMod, oFdiv, oPow, oAdd, oAddL, oI, oI0, oIsB, oNotB, oUpper, cellOf?, ren, oIn, oNin, oInF, Nat.reduceSub, Nat.reduceAdd, List.reduceReplicate, true_and, if_true, if_false, Bool.false_eq_true, ite_true, ite_false, eq_self, decide_true, decide_false, Bool.not_true, Bool.not_false, id, oEq, oNe, oEqF, now_val, eqD_str, eqD_int, eqD_nn]
    have e2 : acc.map Sl.val = intSls ((ns.filter fun i => decide ((10 : Int) ^ 18 ≤ absI i)).map absI) := by
      rw [e1, List.filter_map, List.map_map, List.map_map]
      unfold intSls
      rw [List.map_map]
      rfl
    rw [e2]
    refine ⟨by decide, ?_, by decide, ?_⟩
    · rw [List.length_map]
      exact Nat.le_trans (Nat.succ_le_succ hl) (by decide)
    · refine hk 1 0 _ _ (ns ++ [5 + (ns.take 1).sum % 1000003]) ?_ (by decide) rfl (by simp)
      rw [List.map_append]
      rfl
theorem ixN3_0 : ixN 3 0 = some 0 := rfl
theorem ixN3_1 : ixN 3 1 = some 1 := rfl
theorem ixN3_2 : ixN 3 2 = some 2 := rfl
theorem atI3_0 {β : Type} (a b c : β) : atI [a, b, c] 0 = some a := rfl
theorem atI3_1 {β : Type} (a b c : β) : atI [a, b, c] 1 = some b := rfl
theorem atI3_2 {β : Type} (a b c : β) : atI [a, b, c] 2 = some c := rfl
theorem sls_cons (g : Int) (gs : List Int) : intSls (g :: gs) = .val (.int g) :: intSls gs := rfl
/-- what the loop of a draw keeps -/
def IvDraw (size : Int) (cs : List Int) (m : Int) : Nat → Rho → Sto → Prop := fun n ρ μ => ρ = [some (.cell 0), some (.val (.int size)), none, none] ∧ ∃ (j : Nat) (gs : List Int), n = gs.length ∧ j ≠ 0 ∧ μ[0]? = some (.lst [.cell j, .val (.lst (cs.map D.int)), .val (.int m)]) ∧ μ[j]? = some (.lst (intSls gs))
theorem v_law_draw : Vc_law_draw := by
  rintro ds μ k e ⟨size, cs, gs, m, rfl, rfl, hs0, hs1, hcs, hm0, hm1, hk⟩
  unfold t_law_draw N_law_draw t_law_draw_0 t_law_draw_1 t_law_draw_1a_0
  simp only [T_seq, T_dic0, T_cut, T_ret, T_asg, T_drop, T_ifS, T_next, T_var, T_c, T_nil, T_cons, T_op, T_un, T_cb, T_t, T_chain, T_and, T_or, T_not, T_andV, T_orV, T_notV, T_if, T_tup, T_lst, T_lstC, T_no, T_part, T_sl, T_slC, S_seq, S_range1, S_range2, T_lc, T_lcC, T_for, T_while, T_setIx, T_call, T_callS, T_start, T_m0, T_yes, T_asgT, vals?, pick_nil, pick_cons, setT, setAll, wipeD, List.getElem?_cons_zero, List.getElem?_cons_succ, List.set_cons_zero, List.set_cons_succ, List.cons_append, List.nil_append, List.append_nil, List.length_cons, List.length_nil, List.map_cons, List.map_nil, oIsi, oLen, oAbs, oInt, oAll, oAny, oAllF, oList, oSum, oIx, oSl, oLt, oLe, oGt, oGe, oSub, oMul, oMod, oFdiv, oPow, oAdd, oAddL, oI, oI0, oIsB, oNotB, oUpper, cellOf?, ren, oIn, oNin, oInF, Nat.reduceSub, Nat.reduceAdd, List.reduceReplicate, true_and, if_true, if_false, Bool.false_eq_true, ite_true, ite_false, eq_self, decide_true, decide_false, Bool.not_true, Bool.not_false, id, oEq, oNe, oEqF, now_val, eqD_str, eqD_int, eqD_nn, atI3_0, atI3_1, atI3_2, ixN3_0, ixN3_1, ixN3_2]
  refine ⟨IvDraw size cs (m + 1), ⟨_, rfl, 1, gs, rfl, by decide, rfl, rfl⟩, ?_⟩
  rintro n ρ μ ⟨rfl, j, gs, rfl, hj, h0, h1⟩
  have h2 := now_sls h1
  simp only [T_seq, T_dic0, T_cut, T_ret, T_asg, T_drop, T_ifS, T_next, T_var, T_c, T_nil, T_cons, T_op, T_un, T_cb, T_t, T_chain, T_and, T_or, T_not, T_andV, T_orV, T_notV, T_if, T_tup, T_lst, T_lstC, T_no, T_part, T_sl, T_slC, S_seq, S_range1, S_range2, T_lc, T_lcC, T_for, T_while, T_setIx, T_call, T_callS, T_start, T_m0, T_yes, T_asgT, vals?, pick_nil, pick_cons, setT, setAll, wipeD, List.getElem?_cons_zero, List.getElem?_cons_succ, List.set_cons_zero, List.set_cons_succ, List.cons_append, List.nil_append, List.append_nil, List.length_cons, List.length_nil, List.map_cons, List.map_nil, oIsi, oLen, oAbs, oInt, oAll, oAny, oAllF, oList, oSum, oIx, oSl, oLt, oLe, oGt, oGe, oSub, oMul, oMod, oFdiv, oPow, oAdd, oAddL, oI, oI0, oIsB, oNotB, oUpper, cellOf?, ren, oIn, oNin, oInF, Nat.reduceSub, Nat.reduceAdd, List.reduceReplicate, true_and, if_true, if_false, Bool.false_eq_true, ite_true, ite_false, eq_self, decide_true, decide_false, Bool.not_true, Bool.not_false, id, oEq, oNe, oEqF, now_val, eqD_str, eqD_int, eqD_nn, h0, h1, h2, oEq, oNe, oEqF, now_val, eqD_nil, eqD_int, atI3_0, atI3_1, atI3_2, ixN3_0, ixN3_1, ixN3_2]
  refine ⟨by decide, ?_⟩
  cases gs with
  | nil =>
    simp only [T_seq, T_dic0, T_cut, T_ret, T_asg, T_drop, T_ifS, T_next, T_var, T_c, T_nil, T_cons, T_op, T_un, T_cb, T_t, T_chain, T_and, T_or, T_not, T_andV, T_orV, T_notV, T_if, T_tup, T_lst, T_lstC, T_no, T_part, T_sl, T_slC, S_seq, S_range1, S_range2, T_lc, T_lcC, T_for, T_while, T_setIx, T_call, T_callS, T_start, T_m0, T_yes, T_asgT, vals?, pick_nil, pick_cons, setT, setAll, wipeD, List.getElem?_cons_zero, List.getElem?_cons_succ, List.set_cons_zero, List.set_cons_succ, List.cons_append, List.nil_append, List.append_nil, List.length_cons, List.length_nil, List.map_cons, List.map_nil, oIsi, oLen, oAbs, oInt, oAll, oAny, oAllF, oList, oSum, oIx, oSl, oLt, oLe, oGt, oGe, oSub, oMul, oMod, oFdiv, oPow, oAdd, oAddL, oI, oI0, oIsB, oNotB, oUpper, cellOf?, ren, oIn, oNin, oInF, Nat.reduceSub, Nat.reduceAdd, List.reduceReplicate, true_and, if_true, if_false, Bool.false_eq_true, ite_true, ite_false, eq_self, decide_true, decide_false, Bool.not_true, Bool.not_false, id, oEq, oNe, oEqF, now_val, eqD_str, eqD_int, eqD_nn, List.isEmpty_nil, Bool.not_true]
    unfold t_law_draw_2 t_law_draw_2a
    simp only [T_seq, T_dic0, T_cut, T_ret, T_asg, T_drop, T_ifS, T_next, T_var, T_c, T_nil, T_cons, T_op, T_un, T_cb, T_t, T_chain, T_and, T_or, T_not, T_andV, T_orV, T_notV, T_if, T_tup, T_lst, T_lstC, T_no, T_part, T_sl, T_slC, S_seq, S_range1, S_range2, T_lc, T_lcC, T_for, T_while, T_setIx, T_call, T_callS, T_start, T_m0, T_yes, T_asgT, vals?, pick_nil, pick_cons, setT, setAll, wipeD, List.getElem?_cons_zero, List.getElem?_cons_succ, List.set_cons_zero, List.set_cons_succ, List.cons_append, List.nil_append, List.append_nil, List.length_cons, List.length_nil, List.map_cons, List.map_nil, oIsi, oLen, oAbs, oInt, oAll, oAny, oAllF, oList, oSum, oIx, oSl, oLt, oLe, oGt, oGe, oSub, oMul, oMod, oFdiv, oPow, oAdd, oAddL, oI, oI0, oIsB, oNotB, oUpper, cellOf?, ren, oIn, oNin, oInF, Nat.reduceSub, Nat.reduceAdd, List.reduceReplicate, true_and, if_true, if_false, Bool.false_eq_true, ite_true, ite_false, eq_self, decide_true, decide_false, Bool.not_true, Bool.not_false, id, oEq, oNe, oEqF, now_val, eqD_str, eqD_int, eqD_nn, h0, h1, h2, oEq, oNe, oEqF, now_val, eqD_nil, eqD_nn, eqD_int, atI3_0, atI3_1, atI3_2, ixN3_0, ixN3_1, ixN3_2, List.isEmpty_nil, Bool.not_true]
    refine ⟨by decide, ?_⟩
    unfold t_law_draw_3 t_law_draw_4 t_law_draw_5
    simp only [T_seq, T_dic0, T_cut, T_ret, T_asg, T_drop, T_ifS, T_next, T_var, T_c, T_nil, T_cons, T_op, T_un, T_cb, T_t, T_chain, T_and, T_or, T_not, T_andV, T_orV, T_notV, T_if, T_tup, T_lst, T_lstC, T_no, T_part, T_sl, T_slC, S_seq, S_range1, S_range2, T_lc, T_lcC, T_for, T_while, T_setIx, T_call, T_callS, T_start, T_m0, T_yes, T_asgT, vals?, pick_nil, pick_cons, setT, setAll, wipeD, List.getElem?_cons_zero, List.getElem?_cons_succ, List.set_cons_zero, List.set_cons_succ, List.cons_append, List.nil_append, List.append_nil, List.length_cons, List.length_nil, List.map_cons, List.map_nil, oIsi, oLen, oAbs, oInt, oAll, oAny, oAllF, oList, oSum, oIx, oSl, oLt, oLe, oGt, oGe, oSub, oMul, oMod, oFdiv, oPow, oAdd, oAddL, oI, oI0, oIsB, oNotB, oUpper, cellOf?, ren, oIn, oNin, oInF, Nat.reduceSub, Nat.reduceAdd, List.reduceReplicate, true_and, if_true, if_false, Bool.false_eq_true, ite_true, ite_false, eq_self, decide_true, decide_false, Bool.not_true, Bool.not_false, id, oEq, oNe, oEqF, now_val, eqD_str, eqD_int, eqD_nn, h0, h1, h2, atI3_0, atI3_1, atI3_2]
    have hL : 0 < ((cs.map D.int).length : Int) := by
      rw [List.length_map]
      cases cs with
      | nil => exact absurd rfl hcs
      | cons _ _ => simp
    obtain ⟨x, hx, hx2⟩ := atI_pos (xs := cs.map D.int) (Int.emod_nonneg (m + 1) (by omega)) (Int.emod_lt_of_pos (m + 1) hL)
    obtain ⟨c, rfl⟩ : ∃ c, x = .int c := by
      rw [List.getElem?_map] at hx
      cases q : cs[((m + 1) % ((cs.map D.int).length : Int)).toNat]? with
      | none => rw [q] at hx; cases hx
      | some c =>
        rw [q] at hx
        cases hx
        exact ⟨c, rfl⟩
    simp only [T_seq, T_dic0, T_cut, T_ret, T_asg, T_drop, T_ifS, T_next, T_var, T_c, T_nil, T_cons, T_op, T_un, T_cb, T_t, T_chain, T_and, T_or, T_not, T_andV, T_orV, T_notV, T_if, T_tup, T_lst, T_lstC, T_no, T_part, T_sl, T_slC, S_seq, S_range1, S_range2, T_lc, T_lcC, T_for, T_while, T_setIx, T_call, T_callS, T_start, T_m0, T_yes, T_asgT, vals?, pick_nil, pick_cons, setT, setAll, wipeD, List.getElem?_cons_zero, List.getElem?_cons_succ, List.set_cons_zero, List.set_cons_succ, List.cons_append, List.nil_append, List.append_nil, List.length_cons, List.length_nil, List.map_cons, List.map_nil, oIsi, oLen, oAbs, oInt, oAll, oAny, oAllF, oList, oSum, oIx, oSl, oLt, oLe, oGt, oGe, oSub, oMul, oMod, oFdiv, oPow, oAdd, oAddL, oI, oI0, oIsB, oNotB, oUpper, cellOf?, ren, oIn, oNin, oInF, Nat.reduceSub, Nat.reduceAdd, List.reduceReplicate, true_and, if_true, if_false, Bool.false_eq_true, ite_true, ite_false, eq_self, decide_true, decide_false, Bool.not_true, Bool.not_false, id, oEq, oNe, oEqF, now_val, eqD_str, eqD_int, eqD_nn, hx2]
    have b1 := Int.emod_nonneg c (b := 2147483647) (by decide)
    have b2 := Int.emod_lt_of_pos c (b := 2147483647) (by decide)
    generalize c % 2147483647 = c1 at b1 b2 ⊢
    refine ⟨hL, by decide, .inr (.inl ⟨by omega, by omega⟩), .inr (.inl ⟨by omega, by omega⟩), ⟨by decide, by decide, by omega⟩, by decide, ?_⟩
    have d1 := fun X : Int => Int.emod_nonneg X (b := 2147483647) (by decide)
    have d2 := fun X : Int => Int.emod_lt_of_pos X (b := 2147483647) (by decide)
    have key : ∀ X : Int, ∃ Y, X % 2147483647 = Y ∧ 0 ≤ Y ∧ Y < 2147483647 := fun X => ⟨_, rfl, d1 X, d2 X⟩
    obtain ⟨c2, e2, g1, g2⟩ := key ((_ : Int) ^ (5 : Int).toNat)
    rw [e2]
    refine ⟨.inr (.inl ⟨by omega, by omega⟩), .inr (.inl ⟨by omega, by omega⟩), ⟨by decide, by decide, by omega⟩, by decide, ⟨by decide, by decide⟩, hs0, ?_⟩
    exact hk _ j [] μ (Int.emod_nonneg _ (by omega)) (Int.emod_lt_of_pos _ hs0) hj h0 h1
  | cons g r =>
    have hl : 0 < μ.length := (List.getElem?_eq_some_iff.mp h0).1
    simp only [T_seq, T_dic0, T_cut, T_ret, T_asg, T_drop, T_ifS, T_next, T_var, T_c, T_nil, T_cons, T_op, T_un, T_cb, T_t, T_chain, T_and, T_or, T_not, T_andV, T_orV, T_notV, T_if, T_tup, T_lst, T_lstC, T_no, T_part, T_sl, T_slC, S_seq, S_range1, S_range2, T_lc, T_lcC, T_for, T_while, T_setIx, T_call, T_callS, T_start, T_m0, T_yes, T_asgT, vals?, pick_nil, pick_cons, setT, setAll, wipeD, List.getElem?_cons_zero, List.getElem?_cons_succ, List.set_cons_zero, List.set_cons_succ, List.cons_append, List.nil_append, List.append_nil, List.length_cons, List.length_nil, List.map_cons, List.map_nil, oIsi, oLen, oAbs, oInt, oAll, oAny, oAllF, oList, oSum, oIx, oSl, oLt, oLe, oGt, oGe, oSub, oMul, oMod, oFdiv, oPow, oAdd, oAddL, oI, oI0, oIsB, oNotB, oUpper, cellOf?, ren, oIn, oNin, oInF, Nat.reduceSub, Nat.reduceAdd, List.reduceReplicate, true_and, if_true, if_false, Bool.false_eq_true, ite_true, ite_false, eq_self, decide_true, decide_false, Bool.not_true, Bool.not_false, id, oEq, oNe, oEqF, now_val, eqD_str, eqD_int, eqD_nn, List.isEmpty_cons, Bool.not_false, sls_cons, atI_hd, now_val, eqD_int]
    by_cases hg : g = 0
    · have h3 : (μ ++ [MO.lst (intSls r)])[0]? = some (.lst [.cell j, .val (.lst (cs.map D.int)), .val (.int (m + 1))]) := by
        rw [List.getElem?_append_left hl]
        exact h0
      simp only [T_seq, T_dic0, T_cut, T_ret, T_asg, T_drop, T_ifS, T_next, T_var, T_c, T_nil, T_cons, T_op, T_un, T_cb, T_t, T_chain, T_and, T_or, T_not, T_andV, T_orV, T_notV, T_if, T_tup, T_lst, T_lstC, T_no, T_part, T_sl, T_slC, S_seq, S_range1, S_range2, T_lc, T_lcC, T_for, T_while, T_setIx, T_call, T_callS, T_start, T_m0, T_yes, T_asgT, vals?, pick_nil, pick_cons, setT, setAll, wipeD, List.getElem?_cons_zero, List.getElem?_cons_succ, List.set_cons_zero, List.set_cons_succ, List.cons_append, List.nil_append, List.append_nil, List.length_cons, List.length_nil, List.map_cons, List.map_nil, oIsi, oLen, oAbs, oInt, oAll, oAny, oAllF, oList, oSum, oIx, oSl, oLt, oLe, oGt, oGe, oSub, oMul, oMod, oFdiv, oPow, oAdd, oAddL, oI, oI0, oIsB, oNotB, oUpper, cellOf?, ren, oIn, oNin, oInF, Nat.reduceSub, Nat.reduceAdd, List.reduceReplicate, true_and, if_true, if_false, Bool.false_eq_true, ite_true, ite_false, eq_self, decide_true, decide_false, Bool.not_true, Bool.not_false, id, oEq, oNe, oEqF, now_val, eqD_str, eqD_int, eqD_nn, decide_eq_true hg, id, cutL_tail, h3, ixN3_0]
      refine ⟨r.length, Nat.lt_succ_self _, rfl, μ.length, r, rfl, by omega, ?_, ?_⟩
      · rw [List.getElem?_set_self (by rw [List.length_append]; exact Nat.lt_of_lt_of_le hl (Nat.le_add_right _ _))]
      · rw [List.getElem?_set_ne (by omega), List.getElem?_append_right (Nat.le_refl _), Nat.sub_self]
        rfl
    · simp only [T_seq, T_dic0, T_cut, T_ret, T_asg, T_drop, T_ifS, T_next, T_var, T_c, T_nil, T_cons, T_op, T_un, T_cb, T_t, T_chain, T_and, T_or, T_not, T_andV, T_orV, T_notV, T_if, T_tup, T_lst, T_lstC, T_no, T_part, T_sl, T_slC, S_seq, S_range1, S_range2, T_lc, T_lcC, T_for, T_while, T_setIx, T_call, T_callS, T_start, T_m0, T_yes, T_asgT, vals?, pick_nil, pick_cons, setT, setAll, wipeD, List.getElem?_cons_zero, List.getElem?_cons_succ, List.set_cons_zero, List.set_cons_succ, List.cons_append, List.nil_append, List.append_nil, List.length_cons, List.length_nil, List.map_cons, List.map_nil, oIsi, oLen, oAbs, oInt, oAll, oAny, oAllF, oList, oSum, oIx, oSl, oLt, oLe, oGt, oGe, oSub, oMul, oMod, oFdiv, oPow, oAdd, oAddL, oI, oI0, oIsB, oNotB, oUpper, cellOf?, ren, oIn, oNin, oInF, Nat.reduceSub, Nat.reduceAdd, List.reduceReplicate, true_and, if_true, if_false, Bool.false_eq_true, ite_true, ite_false, eq_self, decide_true, decide_false, Bool.not_true, Bool.not_false, id, oEq, oNe, oEqF, now_val, eqD_str, eqD_int, eqD_nn, decide_eq_false hg, id]
      unfold t_law_draw_2 t_law_draw_2a t_law_draw_2a_0 t_law_draw_2a_1 t_law_draw_2a_2
      simp only [T_seq, T_dic0, T_cut, T_ret, T_asg, T_drop, T_ifS, T_next, T_var, T_c, T_nil, T_cons, T_op, T_un, T_cb, T_t, T_chain, T_and, T_or, T_not, T_andV, T_orV, T_notV, T_if, T_tup, T_lst, T_lstC, T_no, T_part, T_sl, T_slC, S_seq, S_range1, S_range2, T_lc, T_lcC, T_for, T_while, T_setIx, T_call, T_callS, T_start, T_m0, T_yes, T_asgT, vals?, pick_nil, pick_cons, setT, setAll, wipeD, List.getElem?_cons_zero, List.getElem?_cons_succ, List.set_cons_zero, List.set_cons_succ, List.cons_append, List.nil_append, List.append_nil, List.length_cons, List.length_nil, List.map_cons, List.map_nil, oIsi, oLen, oAbs, oInt, oAll, oAny, oAllF, oList, oSum, oIx, oSl, oLt, oLe, oGt, oGe, oSub, oMul, oMod, oFdiv, oPow, oAdd, oAddL, oI, oI0, oIsB, oNotB, oUpper, cellOf?, ren, oIn, oNin, oInF, Nat.reduceSub, Nat.reduceAdd, List.reduceReplicate, true_and, if_true, if_false, Bool.false_eq_true, ite_true, ite_false, eq_self, decide_true, decide_false, Bool.not_true, Bool.not_false, id, oEq, oNe, oEqF, now_val, eqD_str, eqD_int, eqD_nn, h0, h1, h2, oEq, oNe, oEqF, now_val, eqD_nil, eqD_nn, eqD_cn, eqD_int, atI3_0, atI3_1, atI3_2, ixN3_0, ixN3_1, ixN3_2, List.isEmpty_cons, Bool.not_false, sls_cons, atI_hd]
      have e3 : ixN ((intSls r).length + 1) 0 = some 0 := by
        unfold ixN
        rw [if_pos (Int.le_refl 0), if_pos (by omega)]
        rfl
      simp only [T_seq, T_dic0, T_cut, T_ret, T_asg, T_drop, T_ifS, T_next, T_var, T_c, T_nil, T_cons, T_op, T_un, T_cb, T_t, T_chain, T_and, T_or, T_not, T_andV, T_orV, T_notV, T_if, T_tup, T_lst, T_lstC, T_no, T_part, T_sl, T_slC, S_seq, S_range1, S_range2, T_lc, T_lcC, T_for, T_while, T_setIx, T_call, T_callS, T_start, T_m0, T_yes, T_asgT, vals?, pick_nil, pick_cons, setT, setAll, wipeD, List.getElem?_cons_zero, List.getElem?_cons_succ, List.set_cons_zero, List.set_cons_succ, List.cons_append, List.nil_append, List.append_nil, List.length_cons, List.length_nil, List.map_cons, List.map_nil, oIsi, oLen, oAbs, oInt, oAll, oAny, oAllF, oList, oSum, oIx, oSl, oLt, oLe, oGt, oGe, oSub, oMul, oMod, oFdiv, oPow, oAdd, oAddL, oI, oI0, oIsB, oNotB, oUpper, cellOf?, ren, oIn, oNin, oInF, Nat.reduceSub, Nat.reduceAdd, List.reduceReplicate, true_and, if_true, if_false, Bool.false_eq_true, ite_true, ite_false, eq_self, decide_true, decide_false, Bool.not_true, Bool.not_false, id, oEq, oNe, oEqF, now_val, eqD_str, eqD_int, eqD_nn, e3]
      refine ⟨by decide, hs0, ⟨hs0, hs1⟩, hk _ j (g / size :: r) _ (Int.emod_nonneg _ (by omega)) (Int.emod_lt_of_pos _ hs0) hj ?_ ?_⟩
      · rw [List.getElem?_set_ne (by omega)]
        exact h0
      · rw [List.getElem?_set_self (List.getElem?_eq_some_iff.mp h1).1]
        rfl
theorem len_is_word : ∀ ds μ (k : KE) (e : KX), (ctP c_is_word : Ct) ds μ k e → ds.length = 1 := by
  rintro ds μ k e ⟨rfl, xs, rfl, d, rfl, _⟩
  rfl
theorem len_is_weather : ∀ ds μ (k : KE) (e : KX), (ctP c_is_weather : Ct) ds μ k e → ds.length = 1 := by
  rintro ds μ k e ⟨rfl, xs, rfl, d, rfl, _⟩
  rfl
/-- a sign among the letters -/
def sgnIn : D → D
  | .str z => .bl (match z.cps.toList with | [c] => decide (c ∈ letters.cps.toList) | _ => false)
  | _ => .non
theorem v_is_word : Vc_is_word := vcP fun xs k e h => by
  obtain ⟨d, rfl, ⟨⟨t, ht⟩, hl⟩, hk⟩ := h
  unfold t_is_word_0 N_is_word
  cases d with
  | str z =>
    have hz := hl z rfl
    have hw : wordD (.str z) = (decide (1 ≤ (z.length : Int)) && (decide ((z.length : Int) ≤ 8) && z.cps.toList.all fun c => decide (c ∈ letters.cps.toList))) := rfl
    simp only [T_seq, T_dic0, T_cut, T_ret, T_asg, T_drop, T_ifS, T_next, T_var, T_c, T_nil, T_cons, T_op, T_un, T_cb, T_t, T_chain, T_and, T_or, T_not, T_andV, T_orV, T_notV, T_if, T_tup, T_lst, T_lstC, T_no, T_part, T_sl, T_slC, S_seq, S_range1, S_range2, T_lc, T_lcC, T_for, T_while, T_setIx, T_call, T_callS, T_start, T_m0, T_yes, T_asgT, vals?, pick_nil, pick_cons, setT, setAll, wipeD, List.getElem?_cons_zero, List.getElem?_cons_succ, List.set_cons_zero, List.set_cons_succ, List.cons_append, List.nil_append, List.append_nil, List.length_cons, List.length_nil, List.map_cons, List.map_nil, oIsi, oLen, oAbs, oInt, oAll, oAny, oAllF, oList, oSum, oIx, oSl, oLt, oLe, oGt, oGe, oSub, oMul, oMod, oFdiv, oPow, oAdd, oAddL, oI, oI0, oIsB, oNotB, oUpper, cellOf?, ren, oIn, oNin, oInF, Nat.reduceSub, Nat.reduceAdd, List.reduceReplicate, true_and, if_true, if_false, Bool.false_eq_true, ite_true, ite_false, eq_self, decide_true, decide_false, Bool.not_true, Bool.not_false, id, oEq, oNe, oEqF, now_val, eqD_str, eqD_int, eqD_nn, ht, isa_str ht]
    refine ⟨line1000 hz, ?_⟩
    by_cases h1 : 1 ≤ (z.length : Int)
    · rw [decide_eq_true h1] at hw ⊢
      by_cases h2 : (z.length : Int) ≤ 8
      · rw [decide_eq_true h2] at hw ⊢
        refine ⟨IvMap sgnIn (z.cps.toList.map fun c => D.str ⟨#[c]⟩) [], .zero, fun i acc μ' _ q => q.le, ?_, fun i x acc μ' hx q => ?_, fun acc μ' q => ?_⟩
        · rw [List.length_map]
          exact Nat.lt_of_le_of_lt hz (by decide)
        · have q' := q.step hx
          rw [List.getElem?_map] at hx
          cases e : z.cps.toList[i]? with
          | none => rw [e] at hx; cases hx
          | some c =>
            rw [e] at hx
            cases hx
            exact q'
        · have e1 := q.done
          obtain ⟨rfl, _⟩ := q
          rw [List.map_map] at e1
          rw [e1]
          have e2 := mapM_bl_map (fun c : Nat => decide (c ∈ letters.cps.toList)) z.cps.toList
          have e3 : (sgnIn ∘ fun c : Nat => D.str ⟨#[c]⟩) = fun c : Nat => D.bl (decide (c ∈ letters.cps.toList)) := rfl
          rw [e3, e2]
          have e4 : (z.cps.toList.map fun c : Nat => decide (c ∈ letters.cps.toList)).all id = z.cps.toList.all fun c => decide (c ∈ letters.cps.toList) := by
            rw [List.all_map]
            rfl
          have z := hk []
          rw [hw, ← e4] at z
          exact z
      · rw [decide_eq_false h2] at hw ⊢
        have z := hk []
        rw [hw] at z
        exact z
    · rw [decide_eq_false h1] at hw ⊢
      have z := hk []
      rw [hw] at z
      exact z
  | _ =>
    simp only [T_seq, T_dic0, T_cut, T_ret, T_asg, T_drop, T_ifS, T_next, T_var, T_c, T_nil, T_cons, T_op, T_un, T_cb, T_t, T_chain, T_and, T_or, T_not, T_andV, T_orV, T_notV, T_if, T_tup, T_lst, T_lstC, T_no, T_part, T_sl, T_slC, S_seq, S_range1, S_range2, T_lc, T_lcC, T_for, T_while, T_setIx, T_call, T_callS, T_start, T_m0, T_yes, T_asgT, vals?, pick_nil, pick_cons, setT, setAll, wipeD, List.getElem?_cons_zero, List.getElem?_cons_succ, List.set_cons_zero, List.set_cons_succ, List.cons_append, List.nil_append, List.append_nil, List.length_cons, List.length_nil, List.map_cons, List.map_nil, oIsi, oLen, oAbs, oInt, oAll, oAny, oAllF, oList, oSum, oIx, oSl, oLt, oLe, oGt, oGe, oSub, oMul, oMod, oFdiv, oPow, oAdd, oAddL, oI, oI0, oIsB, oNotB, oUpper, cellOf?, ren, oIn, oNin, oInF, Nat.reduceSub, Nat.reduceAdd, List.reduceReplicate, true_and, if_true, if_false, Bool.false_eq_true, ite_true, ite_false, eq_self, decide_true, decide_false, Bool.not_true, Bool.not_false, id, oEq, oNe, oEqF, now_val, eqD_str, eqD_int, eqD_nn, ht, isa_str ht]
    exact hk []
theorem v_is_weather : Vc_is_weather := vcP fun xs k e h => by
  obtain ⟨d, rfl, ⟨⟨t, ht⟩, hl⟩, hk⟩ := h
  unfold t_is_weather_0 N_is_weather
  cases d with
  | str z =>
    simp only [T_seq, T_dic0, T_cut, T_ret, T_asg, T_drop, T_ifS, T_next, T_var, T_c, T_nil, T_cons, T_op, T_un, T_cb, T_t, T_chain, T_and, T_or, T_not, T_andV, T_orV, T_notV, T_if, T_tup, T_lst, T_lstC, T_no, T_part, T_sl, T_slC, S_seq, S_range1, S_range2, T_lc, T_lcC, T_for, T_while, T_setIx, T_call, T_callS, T_start, T_m0, T_yes, T_asgT, vals?, pick_nil, pick_cons, setT, setAll, wipeD, List.getElem?_cons_zero, List.getElem?_cons_succ, List.set_cons_zero, List.set_cons_succ, List.cons_append, List.nil_append, List.append_nil, List.length_cons, List.length_nil, List.map_cons, List.map_nil, oIsi, oLen, oAbs, oInt, oAll, oAny, oAllF, oList, oSum, oIx, oSl, oLt, oLe, oGt, oGe, oSub, oMul, oMod, oFdiv, oPow, oAdd, oAddL, oI, oI0, oIsB, oNotB, oUpper, cellOf?, ren, oIn, oNin, oInF, Nat.reduceSub, Nat.reduceAdd, List.reduceReplicate, true_and, if_true, if_false, Bool.false_eq_true, ite_true, ite_false, eq_self, decide_true, decide_false, Bool.not_true, Bool.not_false, id, oEq, oNe, oEqF, now_val, eqD_str, eqD_int, eqD_nn, ht, isa_str ht]
    exact hk []
  | _ =>
    simp only [T_seq, T_dic0, T_cut, T_ret, T_asg, T_drop, T_ifS, T_next, T_var, T_c, T_nil, T_cons, T_op, T_un, T_cb, T_t, T_chain, T_and, T_or, T_not, T_andV, T_orV, T_notV, T_if, T_tup, T_lst, T_lstC, T_no, T_part, T_sl, T_slC, S_seq, S_range1, S_range2, T_lc, T_lcC, T_for, T_while, T_setIx, T_call, T_callS, T_start, T_m0, T_yes, T_asgT, vals?, pick_nil, pick_cons, setT, setAll, wipeD, List.getElem?_cons_zero, List.getElem?_cons_succ, List.set_cons_zero, List.set_cons_succ, List.cons_append, List.nil_append, List.append_nil, List.length_cons, List.length_nil, List.map_cons, List.map_nil, oIsi, oLen, oAbs, oInt, oAll, oAny, oAllF, oList, oSum, oIx, oSl, oLt, oLe, oGt, oGe, oSub, oMul, oMod, oFdiv, oPow, oAdd, oAddL, oI, oI0, oIsB, oNotB, oUpper, cellOf?, ren, oIn, oNin, oInF, Nat.reduceSub, Nat.reduceAdd, List.reduceReplicate, true_and, if_true, if_false, Bool.false_eq_true, ite_true, ite_false, eq_self, decide_true, decide_false, Bool.not_true, Bool.not_false, id, oEq, oNe, oEqF, now_val, eqD_str, eqD_int, eqD_nn, ht, isa_str ht]
    exact hk []
theorem in_letters {r : Int} (h0 : 0 ≤ r) (h1 : r < 26) : ∃ c, c ∈ letters.cps.toList ∧ atI letters.cps.toList r = some c := by
  obtain ⟨c, e1, e2⟩ := atI_pos (xs := letters.cps.toList) h0 (by rw [show letters.cps.toList.length = 26 from by decide +kernel]; exact h1)
  exact ⟨c, List.mem_of_getElem? e1, e2⟩
def oddP (d : D) : Prop := ∃ c, d = .str ⟨#[c]⟩ ∧ c ∉ letters.cps.toList
theorem odds : ∀ x ∈ [D.str "A", .str "1", .str " ", .str "-", .str "_", .str "\n", .str "/", .str ".", .str "~"], oddP x := by
  have go : ∀ (z : Str) (c : Nat), z = ⟨#[c]⟩ → decide (c ∈ letters.cps.toList) = false → oddP (.str z) := fun z c h1 h2 => ⟨c, by rw [h1], of_decide_eq_false h2⟩
  intro x hx
  simp only [List.mem_cons, List.not_mem_nil, or_false] at hx
  rcases hx with rfl | rfl | rfl | rfl | rfl | rfl | rfl | rfl | rfl
  · exact go _ 65 (by decide +kernel) (by decide +kernel)
  · exact go _ 49 (by decide +kernel) (by decide +kernel)
  · exact go _ 32 (by decide +kernel) (by decide +kernel)
  · exact go _ 45 (by decide +kernel) (by decide +kernel)
  · exact go _ 95 (by decide +kernel) (by decide +kernel)
  · exact go _ 10 (by decide +kernel) (by decide +kernel)
  · exact go _ 47 (by decide +kernel) (by decide +kernel)
  · exact go _ 46 (by decide +kernel) (by decide +kernel)
  · exact go _ 126 (by decide +kernel) (by decide +kernel)
theorem wordD_no {z : Str} {c : Nat} (h : c ∈ z.cps.toList) (hn : c ∉ letters.cps.toList) : wordD (.str z) = false := by
  have ha : (z.cps.toList.all fun c => decide (c ∈ letters.cps.toList)) = false := by
    cases q : z.cps.toList.all fun c => decide (c ∈ letters.cps.toList) with
    | false => rfl
    | true => exact absurd (of_decide_eq_true (List.all_eq_true.mp q c h)) hn
  show (decide (1 ≤ (z.length : Int)) && (decide ((z.length : Int) ≤ 8) && _)) = _
  rw [ha, Bool.and_false, Bool.and_false]
def nearP (d : D) : Prop := ∃ z : Str, d = .str z ∧ (z = "wet" ∨ z = "dry" ∨ z = "open")
theorem nears : ∀ x ∈ [D.str "wet", .str "dry", .str "open"], nearP x := by
  intro x hx
  simp only [List.mem_cons, List.not_mem_nil, or_false] at hx
  rcases hx with rfl | rfl | rfl
  · exact ⟨_, rfl, .inl rfl⟩
  · exact ⟨_, rfl, .inr (.inl rfl)⟩
  · exact ⟨_, rfl, .inr (.inr rfl)⟩
theorem near_ok {z : Str} (h : z = "wet" ∨ z = "dry" ∨ z = "open") : (z.length ≤ 4 ∧ (z ++ "s").length ≤ 5 ∧ (" " ++ z).length ≤ 5 ∧ (z ++ "\n").length ≤ 5 ∧ (Txt.upper z).length ≤ 5 ∧ (cutS z none (some (-1))).length ≤ 4) ∧ wordD (.str z) = true ∧ weatherD (.str z) = true ∧
    weatherD (.str (z ++ "s")) = false ∧ weatherD (.str (cutS z none (some (-1)))) = false ∧ weatherD (.str (Txt.upper z)) = false ∧ weatherD (.str (" " ++ z)) = false ∧ weatherD (.str "") = false ∧ weatherD (.str (z ++ "\n")) = false := by
  rcases h with rfl | rfl | rfl <;> decide +kernel
def bentP (d : D) : Prop := ∃ z : Str, d = .str z ∧ z.length ≤ 5 ∧ weatherD d = false
theorem v_law : Vc_law := vcP fun xs k e h => by
  obtain ⟨ns, rfl, hl, hk⟩ := h
  unfold t_law N_law t_law_0 t_law_1
  simp only [T_seq, T_dic0, T_cut, T_ret, T_asg, T_drop, T_ifS, T_next, T_var, T_c, T_nil, T_cons, T_op, T_un, T_cb, T_t, T_chain, T_and, T_or, T_not, T_andV, T_orV, T_notV, T_if, T_tup, T_lst, T_lstC, T_no, T_part, T_sl, T_slC, S_seq, S_range1, S_range2, T_lc, T_lcC, T_for, T_while, T_setIx, T_call, T_callS, T_start, T_m0, T_yes, T_asgT, vals?, pick_nil, pick_cons, setT, setAll, wipeD, List.getElem?_cons_zero, List.getElem?_cons_succ, List.set_cons_zero, List.set_cons_succ, List.cons_append, List.nil_append, List.append_nil, List.length_cons, List.length_nil, List.map_cons, List.map_nil, oIsi, oLen, oAbs, oInt, oAll, oAny, oAllF, oList, oSum, oIx, oSl, oLt, oLe, oGt, oGe, oSub, oMul, oMod, oFdiv, oPow, oAdd, oAddL, oI, oI0, oIsB, oNotB, oUpper, cellOf?, ren, oIn, oNin, oInF, Nat.reduceSub, Nat.reduceAdd, List.reduceReplicate, true_and, if_true, if_false, Bool.false_eq_true, ite_true, ite_false, eq_self, decide_true, decide_false, Bool.not_true, Bool.not_false, id, oEq, oNe, oEqF, now_val, eqD_str, eqD_int, eqD_nn]
  refine ⟨⟨ns, rfl, hl⟩, by decide, ?_⟩
  refine ⟨fun i ρ μ => (∃ o2 o3 o4 o5 o6 o7 o8 o9 o10 o11, ρ = [some (.val (.lst (ns.map D.int))), some (.cell 0), o2, o3, o4, o5, o6, o7, o8, o9, o10, o11, none, none]) ∧ ∃ n, n ≤ 20 * i ∧ μ = [.draw n], ⟨⟨_, _, _, _, _, _, _, _, _, _, rfl⟩, 0, by omega, rfl⟩, fun _ _ _ _ _ => trivial, ?_, ?_⟩
  · rintro i x ρ μ hx ⟨⟨o2, o3, o4, o5, o6, o7, o8, o9, o10, o11, rfl⟩, n, hn, rfl⟩
    obtain ⟨rfl, hi⟩ := range_at hx
    unfold t_law_1a t_law_1a_0 t_law_1a_1 t_law_1a_2 t_law_1a_3 t_law_1a_3a_0
    simp only [T_seq, T_dic0, T_cut, T_ret, T_asg, T_drop, T_ifS, T_next, T_var, T_c, T_nil, T_cons, T_op, T_un, T_cb, T_t, T_chain, T_and, T_or, T_not, T_andV, T_orV, T_notV, T_if, T_tup, T_lst, T_lstC, T_no, T_part, T_sl, T_slC, S_seq, S_range1, S_range2, T_lc, T_lcC, T_for, T_while, T_setIx, T_call, T_callS, T_start, T_m0, T_yes, T_asgT, vals?, pick_nil, pick_cons, setT, setAll, wipeD, List.getElem?_cons_zero, List.getElem?_cons_succ, List.set_cons_zero, List.set_cons_succ, List.cons_append, List.nil_append, List.append_nil, List.length_cons, List.length_nil, List.map_cons, List.map_nil, oIsi, oLen, oAbs, oInt, oAll, oAny, oAllF, oList, oSum, oIx, oSl, oLt, oLe, oGt, oGe, oSub, oMul, oMod, oFdiv, oPow, oAdd, oAddL, oI, oI0, oIsB, oNotB, oUpper, cellOf?, ren, oIn, oNin, oInF, Nat.reduceSub, Nat.reduceAdd, List.reduceReplicate, true_and, if_true, if_false, Bool.false_eq_true, ite_true, ite_false, eq_self, decide_true, decide_false, Bool.not_true, Bool.not_false, id, oEq, oNe, oEqF, now_val, eqD_str, eqD_int, eqD_nn]
    refine ⟨rfl, _, _, rfl, rfl, by first | decide | omega, by first | decide | exact lg9 (by omega) (by omega), by omega, fun sz sz_0 sz_1 => ⟨rfl, ?_⟩⟩
    simp only [T_seq, T_dic0, T_cut, T_ret, T_asg, T_drop, T_ifS, T_next, T_var, T_c, T_nil, T_cons, T_op, T_un, T_cb, T_t, T_chain, T_and, T_or, T_not, T_andV, T_orV, T_notV, T_if, T_tup, T_lst, T_lstC, T_no, T_part, T_sl, T_slC, S_seq, S_range1, S_range2, T_lc, T_lcC, T_for, T_while, T_setIx, T_call, T_callS, T_start, T_m0, T_yes, T_asgT, vals?, pick_nil, pick_cons, setT, setAll, wipeD, List.getElem?_cons_zero, List.getElem?_cons_succ, List.set_cons_zero, List.set_cons_succ, List.cons_append, List.nil_append, List.append_nil, List.length_cons, List.length_nil, List.map_cons, List.map_nil, oIsi, oLen, oAbs, oInt, oAll, oAny, oAllF, oList, oSum, oIx, oSl, oLt, oLe, oGt, oGe, oSub, oMul, oMod, oFdiv, oPow, oAdd, oAddL, oI, oI0, oIsB, oNotB, oUpper, cellOf?, ren, oIn, oNin, oInF, Nat.reduceSub, Nat.reduceAdd, List.reduceReplicate, true_and, if_true, if_false, Bool.false_eq_true, ite_true, ite_false, eq_self, decide_true, decide_false, Bool.not_true, Bool.not_false, id, oEq, oNe, oEqF, now_val, eqD_str, eqD_int, eqD_nn]
    refine ⟨⟨by omega, by omega⟩, ?_⟩
    refine ⟨fun j ρ μ => (∃ o6 z, ρ = [some (.val (.lst (ns.map D.int))), some (.cell 0), some (.val (.int (0 + (i : Int)))), some (.val (.str letters)), some (.val (.int sz)), some (.val (.str z)), o6, o7, o8, o9, o10, o11, none, none] ∧ z.length = j ∧ ∀ c ∈ z.cps.toList, c ∈ letters.cps.toList) ∧ ∃ n, n ≤ 20 * i + 1 + j ∧ μ = [.draw n], ⟨⟨_, _, rfl, rfl, fun c hc => nomatch hc⟩, n + 1, by omega, rfl⟩, fun _ _ _ _ _ => trivial, ?_, ?_⟩
    · rintro j x ρ μ hx ⟨⟨o6, z, rfl, hz, hc⟩, n, hn, rfl⟩
      obtain ⟨rfl, hj⟩ := range_at hx
      simp only [T_seq, T_dic0, T_cut, T_ret, T_asg, T_drop, T_ifS, T_next, T_var, T_c, T_nil, T_cons, T_op, T_un, T_cb, T_t, T_chain, T_and, T_or, T_not, T_andV, T_orV, T_notV, T_if, T_tup, T_lst, T_lstC, T_no, T_part, T_sl, T_slC, S_seq, S_range1, S_range2, T_lc, T_lcC, T_for, T_while, T_setIx, T_call, T_callS, T_start, T_m0, T_yes, T_asgT, vals?, pick_nil, pick_cons, setT, setAll, wipeD, List.getElem?_cons_zero, List.getElem?_cons_succ, List.set_cons_zero, List.set_cons_succ, List.cons_append, List.nil_append, List.append_nil, List.length_cons, List.length_nil, List.map_cons, List.map_nil, oIsi, oLen, oAbs, oInt, oAll, oAny, oAllF, oList, oSum, oIx, oSl, oLt, oLe, oGt, oGe, oSub, oMul, oMod, oFdiv, oPow, oAdd, oAddL, oI, oI0, oIsB, oNotB, oUpper, cellOf?, ren, oIn, oNin, oInF, Nat.reduceSub, Nat.reduceAdd, List.reduceReplicate, true_and, if_true, if_false, Bool.false_eq_true, ite_true, ite_false, eq_self, decide_true, decide_false, Bool.not_true, Bool.not_false, id, oEq, oNe, oEqF, now_val, eqD_str, eqD_int, eqD_nn]
      refine ⟨rfl, _, _, rfl, rfl, by first | decide | omega, by first | decide | exact lg9 (by omega) (by omega), by omega, fun r r_0 r_1 => ⟨rfl, ?_⟩⟩
      obtain ⟨c, hcl, hca⟩ := in_letters r_0 r_1
      simp only [T_seq, T_dic0, T_cut, T_ret, T_asg, T_drop, T_ifS, T_next, T_var, T_c, T_nil, T_cons, T_op, T_un, T_cb, T_t, T_chain, T_and, T_or, T_not, T_andV, T_orV, T_notV, T_if, T_tup, T_lst, T_lstC, T_no, T_part, T_sl, T_slC, S_seq, S_range1, S_range2, T_lc, T_lcC, T_for, T_while, T_setIx, T_call, T_callS, T_start, T_m0, T_yes, T_asgT, vals?, pick_nil, pick_cons, setT, setAll, wipeD, List.getElem?_cons_zero, List.getElem?_cons_succ, List.set_cons_zero, List.set_cons_succ, List.cons_append, List.nil_append, List.append_nil, List.length_cons, List.length_nil, List.map_cons, List.map_nil, oIsi, oLen, oAbs, oInt, oAll, oAny, oAllF, oList, oSum, oIx, oSl, oLt, oLe, oGt, oGe, oSub, oMul, oMod, oFdiv, oPow, oAdd, oAddL, oI, oI0, oIsB, oNotB, oUpper, cellOf?, ren, oIn, oNin, oInF, Nat.reduceSub, Nat.reduceAdd, List.reduceReplicate, true_and, if_true, if_false, Bool.false_eq_true, ite_true, ite_false, eq_self, decide_true, decide_false, Bool.not_true, Bool.not_false, id, oEq, oNe, oEqF, now_val, eqD_str, eqD_int, eqD_nn, hca]
      refine ⟨by decide +kernel, Nat.le_trans (Nat.add_le_add_right (show z.length ≤ 11 by omega) 1) (by decide +kernel), ⟨_, _, rfl, ?_, ?_⟩, n + 1, by omega, rfl⟩
      · rw [str_len, hz]
        rfl
      · intro c' hc'
        rw [str_app] at hc'
        rcases List.mem_append.mp hc' with h | h
        · exact hc c' h
        · rw [List.mem_singleton.mp h]
          exact hcl
    · rintro ρ μ ⟨⟨o6, z, rfl, hz, hc⟩, n, hn, rfl⟩
      rw [range_len] at hz hn
      have hz2 : (z.length : Int) = sz := by omega
      have hw : wordD (.str z) = (decide (1 ≤ sz) && decide (sz ≤ 8)) := by
        have ha : (z.cps.toList.all fun c => decide (c ∈ letters.cps.toList)) = true := List.all_eq_true.mpr fun c h => decide_eq_true (hc c h)
        show (decide (1 ≤ (z.length : Int)) && (decide ((z.length : Int) ≤ 8) && _)) = _
        rw [ha, hz2, Bool.and_true]
      unfold t_law_1a_4
      simp only [T_seq, T_dic0, T_cut, T_ret, T_asg, T_drop, T_ifS, T_next, T_var, T_c, T_nil, T_cons, T_op, T_un, T_cb, T_t, T_chain, T_and, T_or, T_not, T_andV, T_orV, T_notV, T_if, T_tup, T_lst, T_lstC, T_no, T_part, T_sl, T_slC, S_seq, S_range1, S_range2, T_lc, T_lcC, T_for, T_while, T_setIx, T_call, T_callS, T_start, T_m0, T_yes, T_asgT, vals?, pick_nil, pick_cons, setT, setAll, wipeD, List.getElem?_cons_zero, List.getElem?_cons_succ, List.set_cons_zero, List.set_cons_succ, List.cons_append, List.nil_append, List.append_nil, List.length_cons, List.length_nil, List.map_cons, List.map_nil, oIsi, oLen, oAbs, oInt, oAll, oAny, oAllF, oList, oSum, oIx, oSl, oLt, oLe, oGt, oGe, oSub, oMul, oMod, oFdiv, oPow, oAdd, oAddL, oI, oI0, oIsB, oNotB, oUpper, cellOf?, ren, oIn, oNin, oInF, Nat.reduceSub, Nat.reduceAdd, List.reduceReplicate, true_and, if_true, if_false, Bool.false_eq_true, ite_true, ite_false, eq_self, decide_true, decide_false, Bool.not_true, Bool.not_false, id, oEq, oNe, oEqF, now_val, eqD_str, eqD_int, eqD_nn]
      refine ⟨fun ρ μ => ρ = [some (.val (.lst (ns.map D.int))), some (.cell 0), some (.val (.int (0 + (i : Int)))), some (.val (.str letters)), some (.val (.int sz)), some (.val (.str z)), o6, some (.val (.bl (wordD (.str z)))), o8, o9, o10, o11, none, none] ∧ μ = [.draw n], ?_, ?_⟩
      · rw [hw]
        by_cases h1 : 1 ≤ sz
        · simp only [T_seq, T_dic0, T_cut, T_ret, T_asg, T_drop, T_ifS, T_next, T_var, T_c, T_nil, T_cons, T_op, T_un, T_cb, T_t, T_chain, T_and, T_or, T_not, T_andV, T_orV, T_notV, T_if, T_tup, T_lst, T_lstC, T_no, T_part, T_sl, T_slC, S_seq, S_range1, S_range2, T_lc, T_lcC, T_for, T_while, T_setIx, T_call, T_callS, T_start, T_m0, T_yes, T_asgT, vals?, pick_nil, pick_cons, setT, setAll, wipeD, List.getElem?_cons_zero, List.getElem?_cons_succ, List.set_cons_zero, List.set_cons_succ, List.cons_append, List.nil_append, List.append_nil, List.length_cons, List.length_nil, List.map_cons, List.map_nil, oIsi, oLen, oAbs, oInt, oAll, oAny, oAllF, oList, oSum, oIx, oSl, oLt, oLe, oGt, oGe, oSub, oMul, oMod, oFdiv, oPow, oAdd, oAddL, oI, oI0, oIsB, oNotB, oUpper, cellOf?, ren, oIn, oNin, oInF, Nat.reduceSub, Nat.reduceAdd, List.reduceReplicate, true_and, if_true, if_false, Bool.false_eq_true, ite_true, ite_false, eq_self, decide_true, decide_false, Bool.not_true, Bool.not_false, id, oEq, oNe, oEqF, now_val, eqD_str, eqD_int, eqD_nn, decide_eq_true h1, Bool.true_and]
        · simp only [T_seq, T_dic0, T_cut, T_ret, T_asg, T_drop, T_ifS, T_next, T_var, T_c, T_nil, T_cons, T_op, T_un, T_cb, T_t, T_chain, T_and, T_or, T_not, T_andV, T_orV, T_notV, T_if, T_tup, T_lst, T_lstC, T_no, T_part, T_sl, T_slC, S_seq, S_range1, S_range2, T_lc, T_lcC, T_for, T_while, T_setIx, T_call, T_callS, T_start, T_m0, T_yes, T_asgT, vals?, pick_nil, pick_cons, setT, setAll, wipeD, List.getElem?_cons_zero, List.getElem?_cons_succ, List.set_cons_zero, List.set_cons_succ, List.cons_append, List.nil_append, List.append_nil, List.length_cons, List.length_nil, List.map_cons, List.map_nil, oIsi, oLen, oAbs, oInt, oAll, oAny, oAllF, oList, oSum, oIx, oSl, oLt, oLe, oGt, oGe, oSub, oMul, oMod, oFdiv, oPow, oAdd, oAddL, oI, oI0, oIsB, oNotB, oUpper, cellOf?, ren, oIn, oNin, oInF, Nat.reduceSub, Nat.reduceAdd, List.reduceReplicate, true_and, if_true, if_false, Bool.false_eq_true, ite_true, ite_false, eq_self, decide_true, decide_false, Bool.not_true, Bool.not_false, id, oEq, oNe, oEqF, now_val, eqD_str, eqD_int, eqD_nn, decide_eq_false h1, Bool.false_and]
      rintro _ _ ⟨rfl, rfl⟩
      have hkd : okD (.str z) := ⟨⟨_, rfl⟩, fun z' e => by cases e; omega⟩
      unfold t_law_1a_5 t_law_1a_5a_0
      simp only [T_seq, T_dic0, T_cut, T_ret, T_asg, T_drop, T_ifS, T_next, T_var, T_c, T_nil, T_cons, T_op, T_un, T_cb, T_t, T_chain, T_and, T_or, T_not, T_andV, T_orV, T_notV, T_if, T_tup, T_lst, T_lstC, T_no, T_part, T_sl, T_slC, S_seq, S_range1, S_range2, T_lc, T_lcC, T_for, T_while, T_setIx, T_call, T_callS, T_start, T_m0, T_yes, T_asgT, vals?, pick_nil, pick_cons, setT, setAll, wipeD, List.getElem?_cons_zero, List.getElem?_cons_succ, List.set_cons_zero, List.set_cons_succ, List.cons_append, List.nil_append, List.append_nil, List.length_cons, List.length_nil, List.map_cons, List.map_nil, oIsi, oLen, oAbs, oInt, oAll, oAny, oAllF, oList, oSum, oIx, oSl, oLt, oLe, oGt, oGe, oSub, oMul, oMod, oFdiv, oPow, oAdd, oAddL, oI, oI0, oIsB, oNotB, oUpper, cellOf?, ren, oIn, oNin, oInF, Nat.reduceSub, Nat.reduceAdd, List.reduceReplicate, true_and, if_true, if_false, Bool.false_eq_true, ite_true, ite_false, eq_self, decide_true, decide_false, Bool.not_true, Bool.not_false, id, oEq, oNe, oEqF, now_val, eqD_str, eqD_int, eqD_nn]
      refine ⟨_, rfl, hkd, _, rfl, hkd, by decide, oRepr_go (okR_b2 _ _) ⟨by decide, oRepr_go (okR_b2 _ _) ?_⟩⟩
      simp only [T_seq, T_dic0, T_cut, T_ret, T_asg, T_drop, T_ifS, T_next, T_var, T_c, T_nil, T_cons, T_op, T_un, T_cb, T_t, T_chain, T_and, T_or, T_not, T_andV, T_orV, T_notV, T_if, T_tup, T_lst, T_lstC, T_no, T_part, T_sl, T_slC, S_seq, S_range1, S_range2, T_lc, T_lcC, T_for, T_while, T_setIx, T_call, T_callS, T_start, T_m0, T_yes, T_asgT, vals?, pick_nil, pick_cons, setT, setAll, wipeD, List.getElem?_cons_zero, List.getElem?_cons_succ, List.set_cons_zero, List.set_cons_succ, List.cons_append, List.nil_append, List.append_nil, List.length_cons, List.length_nil, List.map_cons, List.map_nil, oIsi, oLen, oAbs, oInt, oAll, oAny, oAllF, oList, oSum, oIx, oSl, oLt, oLe, oGt, oGe, oSub, oMul, oMod, oFdiv, oPow, oAdd, oAddL, oI, oI0, oIsB, oNotB, oUpper, cellOf?, ren, oIn, oNin, oInF, Nat.reduceSub, Nat.reduceAdd, List.reduceReplicate, true_and, if_true, if_false, Bool.false_eq_true, ite_true, ite_false, eq_self, decide_true, decide_false, Bool.not_true, Bool.not_false, id, oEq, oNe, oEqF, now_val, eqD_str, eqD_int, eqD_nn]
      clear hw
      generalize wordD (.str z) = b
      -- a sign that is no letter
      unfold t_law_1a_6 t_law_1a_7 t_law_1a_8 t_law_1a_8a_0
      simp only [T_seq, T_dic0, T_cut, T_ret, T_asg, T_drop, T_ifS, T_next, T_var, T_c, T_nil, T_cons, T_op, T_un, T_cb, T_t, T_chain, T_and, T_or, T_not, T_andV, T_orV, T_notV, T_if, T_tup, T_lst, T_lstC, T_no, T_part, T_sl, T_slC, S_seq, S_range1, S_range2, T_lc, T_lcC, T_for, T_while, T_setIx, T_call, T_callS, T_start, T_m0, T_yes, T_asgT, vals?, pick_nil, pick_cons, setT, setAll, wipeD, List.getElem?_cons_zero, List.getElem?_cons_succ, List.set_cons_zero, List.set_cons_succ, List.cons_append, List.nil_append, List.append_nil, List.length_cons, List.length_nil, List.map_cons, List.map_nil, oIsi, oLen, oAbs, oInt, oAll, oAny, oAllF, oList, oSum, oIx, oSl, oLt, oLe, oGt, oGe, oSub, oMul, oMod, oFdiv, oPow, oAdd, oAddL, oI, oI0, oIsB, oNotB, oUpper, cellOf?, ren, oIn, oNin, oInF, Nat.reduceSub, Nat.reduceAdd, List.reduceReplicate, true_and, if_true, if_false, Bool.false_eq_true, ite_true, ite_false, eq_self, decide_true, decide_false, Bool.not_true, Bool.not_false, id, oEq, oNe, oEqF, now_val, eqD_str, eqD_int, eqD_nn]
      refine ⟨rfl, _, _, rfl, rfl, by first | decide | omega, by first | decide | exact lg9 (by omega) (by omega), by omega, fun at_ at__0 at__1 => ⟨rfl, ?_⟩⟩
      simp only [T_seq, T_dic0, T_cut, T_ret, T_asg, T_drop, T_ifS, T_next, T_var, T_c, T_nil, T_cons, T_op, T_un, T_cb, T_t, T_chain, T_and, T_or, T_not, T_andV, T_orV, T_notV, T_if, T_tup, T_lst, T_lstC, T_no, T_part, T_sl, T_slC, S_seq, S_range1, S_range2, T_lc, T_lcC, T_for, T_while, T_setIx, T_call, T_callS, T_start, T_m0, T_yes, T_asgT, vals?, pick_nil, pick_cons, setT, setAll, wipeD, List.getElem?_cons_zero, List.getElem?_cons_succ, List.set_cons_zero, List.set_cons_succ, List.cons_append, List.nil_append, List.append_nil, List.length_cons, List.length_nil, List.map_cons, List.map_nil, oIsi, oLen, oAbs, oInt, oAll, oAny, oAllF, oList, oSum, oIx, oSl, oLt, oLe, oGt, oGe, oSub, oMul, oMod, oFdiv, oPow, oAdd, oAddL, oI, oI0, oIsB, oNotB, oUpper, cellOf?, ren, oIn, oNin, oInF, Nat.reduceSub, Nat.reduceAdd, List.reduceReplicate, true_and, if_true, if_false, Bool.false_eq_true, ite_true, ite_false, eq_self, decide_true, decide_false, Bool.not_true, Bool.not_false, id, oEq, oNe, oEqF, now_val, eqD_str, eqD_int, eqD_nn]
      refine ⟨by decide, ?_⟩
      refine ⟨rfl, _, _, rfl, rfl, by first | decide | omega, by first | decide | exact lg9 (by omega) (by omega), by omega, fun r r_0 r_1 => ⟨rfl, ?_⟩⟩
      obtain ⟨_, hx2, c, rfl, hcn⟩ := ix_some oddP odds r_0 r_1
      simp only [T_seq, T_dic0, T_cut, T_ret, T_asg, T_drop, T_ifS, T_next, T_var, T_c, T_nil, T_cons, T_op, T_un, T_cb, T_t, T_chain, T_and, T_or, T_not, T_andV, T_orV, T_notV, T_if, T_tup, T_lst, T_lstC, T_no, T_part, T_sl, T_slC, S_seq, S_range1, S_range2, T_lc, T_lcC, T_for, T_while, T_setIx, T_call, T_callS, T_start, T_m0, T_yes, T_asgT, vals?, pick_nil, pick_cons, setT, setAll, wipeD, List.getElem?_cons_zero, List.getElem?_cons_succ, List.set_cons_zero, List.set_cons_succ, List.cons_append, List.nil_append, List.append_nil, List.length_cons, List.length_nil, List.map_cons, List.map_nil, oIsi, oLen, oAbs, oInt, oAll, oAny, oAllF, oList, oSum, oIx, oSl, oLt, oLe, oGt, oGe, oSub, oMul, oMod, oFdiv, oPow, oAdd, oAddL, oI, oI0, oIsB, oNotB, oUpper, cellOf?, ren, oIn, oNin, oInF, Nat.reduceSub, Nat.reduceAdd, List.reduceReplicate, true_and, if_true, if_false, Bool.false_eq_true, ite_true, ite_false, eq_self, decide_true, decide_false, Bool.not_true, Bool.not_false, id, oEq, oNe, oEqF, now_val, eqD_str, eqD_int, eqD_nn, hx2]
      have l1 := cutS_len z none (some at_)
      have l2 := cutS_len z (some at_) none
      have l3 : (Str.mk #[c]).length = 1 := rfl
      have l4 : (cutS z none (some at_) ++ ⟨#[c]⟩ ++ cutS z (some at_) none).length ≤ 23 := by
        rw [str_len, str_len]
        omega
      have l5 : 23 ≤ sizeLine := by decide +kernel
      rw [str_len] at l4
      refine ⟨by omega, by omega, by omega, by omega, _, rfl, ⟨⟨_, rfl⟩, fun z' e => by cases e; rw [str_len]; omega⟩, ?_⟩
      rw [wordD_no (c := c) (by rw [str_app, str_app]; simp) hcn]
      simp only [T_seq, T_dic0, T_cut, T_ret, T_asg, T_drop, T_ifS, T_next, T_var, T_c, T_nil, T_cons, T_op, T_un, T_cb, T_t, T_chain, T_and, T_or, T_not, T_andV, T_orV, T_notV, T_if, T_tup, T_lst, T_lstC, T_no, T_part, T_sl, T_slC, S_seq, S_range1, S_range2, T_lc, T_lcC, T_for, T_while, T_setIx, T_call, T_callS, T_start, T_m0, T_yes, T_asgT, vals?, pick_nil, pick_cons, setT, setAll, wipeD, List.getElem?_cons_zero, List.getElem?_cons_succ, List.set_cons_zero, List.set_cons_succ, List.cons_append, List.nil_append, List.append_nil, List.length_cons, List.length_nil, List.map_cons, List.map_nil, oIsi, oLen, oAbs, oInt, oAll, oAny, oAllF, oList, oSum, oIx, oSl, oLt, oLe, oGt, oGe, oSub, oMul, oMod, oFdiv, oPow, oAdd, oAddL, oI, oI0, oIsB, oNotB, oUpper, cellOf?, ren, oIn, oNin, oInF, Nat.reduceSub, Nat.reduceAdd, List.reduceReplicate, true_and, if_true, if_false, Bool.false_eq_true, ite_true, ite_false, eq_self, decide_true, decide_false, Bool.not_true, Bool.not_false, id, oEq, oNe, oEqF, now_val, eqD_str, eqD_int, eqD_nn]
      -- weather
      unfold t_law_1a_9 t_law_1a_10 t_law_1a_11 t_law_1a_11a_0
      simp only [T_seq, T_dic0, T_cut, T_ret, T_asg, T_drop, T_ifS, T_next, T_var, T_c, T_nil, T_cons, T_op, T_un, T_cb, T_t, T_chain, T_and, T_or, T_not, T_andV, T_orV, T_notV, T_if, T_tup, T_lst, T_lstC, T_no, T_part, T_sl, T_slC, S_seq, S_range1, S_range2, T_lc, T_lcC, T_for, T_while, T_setIx, T_call, T_callS, T_start, T_m0, T_yes, T_asgT, vals?, pick_nil, pick_cons, setT, setAll, wipeD, List.getElem?_cons_zero, List.getElem?_cons_succ, List.set_cons_zero, List.set_cons_succ, List.cons_append, List.nil_append, List.append_nil, List.length_cons, List.length_nil, List.map_cons, List.map_nil, oIsi, oLen, oAbs, oInt, oAll, oAny, oAllF, oList, oSum, oIx, oSl, oLt, oLe, oGt, oGe, oSub, oMul, oMod, oFdiv, oPow, oAdd, oAddL, oI, oI0, oIsB, oNotB, oUpper, cellOf?, ren, oIn, oNin, oInF, Nat.reduceSub, Nat.reduceAdd, List.reduceReplicate, true_and, if_true, if_false, Bool.false_eq_true, ite_true, ite_false, eq_self, decide_true, decide_false, Bool.not_true, Bool.not_false, id, oEq, oNe, oEqF, now_val, eqD_str, eqD_int, eqD_nn]
      refine ⟨by decide, ?_⟩
      refine ⟨rfl, _, _, rfl, rfl, by first | decide | omega, by first | decide | exact lg9 (by omega) (by omega), by omega, fun q q_0 q_1 => ⟨rfl, ?_⟩⟩
      obtain ⟨_, hx3, y, rfl, hy⟩ := ix_some nearP nears q_0 q_1
      simp only [T_seq, T_dic0, T_cut, T_ret, T_asg, T_drop, T_ifS, T_next, T_var, T_c, T_nil, T_cons, T_op, T_un, T_cb, T_t, T_chain, T_and, T_or, T_not, T_andV, T_orV, T_notV, T_if, T_tup, T_lst, T_lstC, T_no, T_part, T_sl, T_slC, S_seq, S_range1, S_range2, T_lc, T_lcC, T_for, T_while, T_setIx, T_call, T_callS, T_start, T_m0, T_yes, T_asgT, vals?, pick_nil, pick_cons, setT, setAll, wipeD, List.getElem?_cons_zero, List.getElem?_cons_succ, List.set_cons_zero, List.set_cons_succ, List.cons_append, List.nil_append, List.append_nil, List.length_cons, List.length_nil, List.map_cons, List.map_nil, oIsi, oLen, oAbs, oInt, oAll, oAny, oAllF, oList, oSum, oIx, oSl, oLt, oLe, oGt, oGe, oSub, oMul, oMod, oFdiv, oPow, oAdd, oAddL, oI, oI0, oIsB, oNotB, oUpper, cellOf?, ren, oIn, oNin, oInF, Nat.reduceSub, Nat.reduceAdd, List.reduceReplicate, true_and, if_true, if_false, Bool.false_eq_true, ite_true, ite_false, eq_self, decide_true, decide_false, Bool.not_true, Bool.not_false, id, oEq, oNe, oEqF, now_val, eqD_str, eqD_int, eqD_nn, hx3, oNeg]
      obtain ⟨⟨n1, n2, n3, n4, n5, n6⟩, n7, n8, n9, n10, n11, n12, n13, n14⟩ := near_ok hy
      have l6 : 5592405 ≤ sizeLine := by decide +kernel
      have bents : ∀ x ∈ [D.str (y ++ "s"), .str (cutS y none (some (-1))), .str (Txt.upper y), .str (" " ++ y), .str "", .str (y ++ "\n")], bentP x := by
        intro x hx
        simp only [List.mem_cons, List.not_mem_nil, or_false] at hx
        rcases hx with rfl | rfl | rfl | rfl | rfl | rfl
        · exact ⟨_, rfl, n2, n9⟩
        · exact ⟨_, rfl, by omega, n10⟩
        · exact ⟨_, rfl, n5, n11⟩
        · exact ⟨_, rfl, n3, n12⟩
        · exact ⟨_, rfl, by decide, n13⟩
        · exact ⟨_, rfl, n4, n14⟩
      rw [str_len] at n2 n3 n4
      refine ⟨by omega, by omega, by omega, by omega, by omega, by decide, ?_⟩
      refine ⟨rfl, _, _, rfl, rfl, by first | decide | omega, by first | decide | exact lg9 (by omega) (by omega), by omega, fun t t_0 t_1 => ⟨rfl, ?_⟩⟩
      obtain ⟨_, hx4, v, rfl, hv, hv2⟩ := ix_some bentP bents t_0 t_1
      simp only [T_seq, T_dic0, T_cut, T_ret, T_asg, T_drop, T_ifS, T_next, T_var, T_c, T_nil, T_cons, T_op, T_un, T_cb, T_t, T_chain, T_and, T_or, T_not, T_andV, T_orV, T_notV, T_if, T_tup, T_lst, T_lstC, T_no, T_part, T_sl, T_slC, S_seq, S_range1, S_range2, T_lc, T_lcC, T_for, T_while, T_setIx, T_call, T_callS, T_start, T_m0, T_yes, T_asgT, vals?, pick_nil, pick_cons, setT, setAll, wipeD, List.getElem?_cons_zero, List.getElem?_cons_succ, List.set_cons_zero, List.set_cons_succ, List.cons_append, List.nil_append, List.append_nil, List.length_cons, List.length_nil, List.map_cons, List.map_nil, oIsi, oLen, oAbs, oInt, oAll, oAny, oAllF, oList, oSum, oIx, oSl, oLt, oLe, oGt, oGe, oSub, oMul, oMod, oFdiv, oPow, oAdd, oAddL, oI, oI0, oIsB, oNotB, oUpper, cellOf?, ren, oIn, oNin, oInF, Nat.reduceSub, Nat.reduceAdd, List.reduceReplicate, true_and, if_true, if_false, Bool.false_eq_true, ite_true, ite_false, eq_self, decide_true, decide_false, Bool.not_true, Bool.not_false, id, oEq, oNe, oEqF, now_val, eqD_str, eqD_int, eqD_nn, hx4]
      refine ⟨_, rfl, ⟨⟨_, rfl⟩, fun z' e => by cases e; omega⟩, ?_⟩
      rw [n7]
      simp only [T_seq, T_dic0, T_cut, T_ret, T_asg, T_drop, T_ifS, T_next, T_var, T_c, T_nil, T_cons, T_op, T_un, T_cb, T_t, T_chain, T_and, T_or, T_not, T_andV, T_orV, T_notV, T_if, T_tup, T_lst, T_lstC, T_no, T_part, T_sl, T_slC, S_seq, S_range1, S_range2, T_lc, T_lcC, T_for, T_while, T_setIx, T_call, T_callS, T_start, T_m0, T_yes, T_asgT, vals?, pick_nil, pick_cons, setT, setAll, wipeD, List.getElem?_cons_zero, List.getElem?_cons_succ, List.set_cons_zero, List.set_cons_succ, List.cons_append, List.nil_append, List.append_nil, List.length_cons, List.length_nil, List.map_cons, List.map_nil, oIsi, oLen, oAbs, oInt, oAll, oAny, oAllF, oList, oSum, oIx, oSl, oLt, oLe, oGt, oGe, oSub, oMul, oMod, oFdiv, oPow, oAdd, oAddL, oI, oI0, oIsB, oNotB, oUpper, cellOf?, ren, oIn, oNin, oInF, Nat.reduceSub, Nat.reduceAdd, List.reduceReplicate, true_and, if_true, if_false, Bool.false_eq_true, ite_true, ite_false, eq_self, decide_true, decide_false, Bool.not_true, Bool.not_false, id, oEq, oNe, oEqF, now_val, eqD_str, eqD_int, eqD_nn]
      refine ⟨_, rfl, ⟨⟨_, rfl⟩, fun z' e => by cases e; omega⟩, ?_⟩
      rw [n8]
      simp only [T_seq, T_dic0, T_cut, T_ret, T_asg, T_drop, T_ifS, T_next, T_var, T_c, T_nil, T_cons, T_op, T_un, T_cb, T_t, T_chain, T_and, T_or, T_not, T_andV, T_orV, T_notV, T_if, T_tup, T_lst, T_lstC, T_no, T_part, T_sl, T_slC, S_seq, S_range1, S_range2, T_lc, T_lcC, T_for, T_while, T_setIx, T_call, T_callS, T_start, T_m0, T_yes, T_asgT, vals?, pick_nil, pick_cons, setT, setAll, wipeD, List.getElem?_cons_zero, List.getElem?_cons_succ, List.set_cons_zero, List.set_cons_succ, List.cons_append, List.nil_append, List.append_nil, List.length_cons, List.length_nil, List.map_cons, List.map_nil, oIsi, oLen, oAbs, oInt, oAll, oAny, oAllF, oList, oSum, oIx, oSl, oLt, oLe, oGt, oGe, oSub, oMul, oMod, oFdiv, oPow, oAdd, oAddL, oI, oI0, oIsB, oNotB, oUpper, cellOf?, ren, oIn, oNin, oInF, Nat.reduceSub, Nat.reduceAdd, List.reduceReplicate, true_and, if_true, if_false, Bool.false_eq_true, ite_true, ite_false, eq_self, decide_true, decide_false, Bool.not_true, Bool.not_false, id, oEq, oNe, oEqF, now_val, eqD_str, eqD_int, eqD_nn]
      refine ⟨_, rfl, ⟨⟨_, rfl⟩, fun z' e => by cases e; omega⟩, ?_⟩
      rw [hv2]
      simp only [T_seq, T_dic0, T_cut, T_ret, T_asg, T_drop, T_ifS, T_next, T_var, T_c, T_nil, T_cons, T_op, T_un, T_cb, T_t, T_chain, T_and, T_or, T_not, T_andV, T_orV, T_notV, T_if, T_tup, T_lst, T_lstC, T_no, T_part, T_sl, T_slC, S_seq, S_range1, S_range2, T_lc, T_lcC, T_for, T_while, T_setIx, T_call, T_callS, T_start, T_m0, T_yes, T_asgT, vals?, pick_nil, pick_cons, setT, setAll, wipeD, List.getElem?_cons_zero, List.getElem?_cons_succ, List.set_cons_zero, List.set_cons_succ, List.cons_append, List.nil_append, List.append_nil, List.length_cons, List.length_nil, List.map_cons, List.map_nil, oIsi, oLen, oAbs, oInt, oAll, oAny, oAllF, oList, oSum, oIx, oSl, oLt, oLe, oGt, oGe, oSub, oMul, oMod, oFdiv, oPow, oAdd, oAddL, oI, oI0, oIsB, oNotB, oUpper, cellOf?, ren, oIn, oNin, oInF, Nat.reduceSub, Nat.reduceAdd, List.reduceReplicate, true_and, if_true, if_false, Bool.false_eq_true, ite_true, ite_false, eq_self, decide_true, decide_false, Bool.not_true, Bool.not_false, id, oEq, oNe, oEqF, now_val, eqD_str, eqD_int, eqD_nn]
      exact ⟨⟨_, _, _, _, _, _, _, _, _, _, rfl⟩, _, by omega, rfl⟩
  · rintro ρ μ ⟨⟨o2, o3, o4, o5, o6, o7, o8, o9, o10, o11, rfl⟩, n, hn, rfl⟩
    unfold t_law_2 t_law_3
    simp only [T_seq, T_dic0, T_cut, T_ret, T_asg, T_drop, T_ifS, T_next, T_var, T_c, T_nil, T_cons, T_op, T_un, T_cb, T_t, T_chain, T_and, T_or, T_not, T_andV, T_orV, T_notV, T_if, T_tup, T_lst, T_lstC, T_no, T_part, T_sl, T_slC, S_seq, S_range1, S_range2, T_lc, T_lcC, T_for, T_while, T_setIx, T_call, T_callS, T_start, T_m0, T_yes, T_asgT, vals?, pick_nil, pick_cons, setT, setAll, wipeD, List.getElem?_cons_zero, List.getElem?_cons_succ, List.set_cons_zero, List.set_cons_succ, List.cons_append, List.nil_append, List.append_nil, List.length_cons, List.length_nil, List.map_cons, List.map_nil, oIsi, oLen, oAbs, oInt, oAll, oAny, oAllF, oList, oSum, oIx, oSl, oLt, oLe, oGt, oGe, oSub, oMul, oMod, oFdiv, oPow, oAdd, oAddL, oI, oI0, oIsB, oNotB, oUpper, cellOf?, ren, oIn, oNin, oInF, Nat.reduceSub, Nat.reduceAdd, List.reduceReplicate, true_and, if_true, if_false, Bool.false_eq_true, ite_true, ite_false, eq_self, decide_true, decide_false, Bool.not_true, Bool.not_false, id, oEq, oNe, oEqF, now_val, eqD_str, eqD_int, eqD_nn]
    refine ⟨by decide, by decide, fun a => ⟨by decide, by decide, fun i acc μ' => acc = [] ∧ μ' = [.draw n], ⟨rfl, rfl⟩, fun i acc μ' _ q => by rw [q.1]; exact Nat.zero_le _, by decide, ?_, ?_⟩⟩
    · rintro i x acc μ' hx ⟨rfl, rfl⟩
      have hm := List.mem_of_getElem? hx
      have hp : okD x ∧ wordD x = false ∧ weatherD x = false := by
        simp only [List.mem_cons, List.not_mem_nil, or_false] at hm
        rcases hm with rfl | rfl | rfl | rfl | rfl | rfl | rfl | rfl <;> exact ⟨⟨⟨_, rfl⟩, fun z e => by cases e⟩, rfl, rfl⟩
      refine ⟨_, rfl, hp.1, ?_⟩
      rw [hp.2.1]
      simp only [T_seq, T_dic0, T_cut, T_ret, T_asg, T_drop, T_ifS, T_next, T_var, T_c, T_nil, T_cons, T_op, T_un, T_cb, T_t, T_chain, T_and, T_or, T_not, T_andV, T_orV, T_notV, T_if, T_tup, T_lst, T_lstC, T_no, T_part, T_sl, T_slC, S_seq, S_range1, S_range2, T_lc, T_lcC, T_for, T_while, T_setIx, T_call, T_callS, T_start, T_m0, T_yes, T_asgT, vals?, pick_nil, pick_cons, setT, setAll, wipeD, List.getElem?_cons_zero, List.getElem?_cons_succ, List.set_cons_zero, List.set_cons_succ, List.cons_append, List.nil_append, List.append_nil, List.length_cons, List.length_nil, List.map_cons, List.map_nil, oIsi, oLen, oAbs, oInt, oAll, oAny, oAllF, oList, oSum, oIx, oSl, oLt, oLe, oGt, oGe, oSub, oMul, oMod, oFdiv, oPow, oAdd, oAddL, oI, oI0, oIsB, oNotB, oUpper, cellOf?, ren, oIn, oNin, oInF, Nat.reduceSub, Nat.reduceAdd, List.reduceReplicate, true_and, if_true, if_false, Bool.false_eq_true, ite_true, ite_false, eq_self, decide_true, decide_false, Bool.not_true, Bool.not_false, id, oEq, oNe, oEqF, now_val, eqD_str, eqD_int, eqD_nn]
      refine ⟨_, rfl, hp.1, ?_⟩
      rw [hp.2.2]
      simp only [T_seq, T_dic0, T_cut, T_ret, T_asg, T_drop, T_ifS, T_next, T_var, T_c, T_nil, T_cons, T_op, T_un, T_cb, T_t, T_chain, T_and, T_or, T_not, T_andV, T_orV, T_notV, T_if, T_tup, T_lst, T_lstC, T_no, T_part, T_sl, T_slC, S_seq, S_range1, S_range2, T_lc, T_lcC, T_for, T_while, T_setIx, T_call, T_callS, T_start, T_m0, T_yes, T_asgT, vals?, pick_nil, pick_cons, setT, setAll, wipeD, List.getElem?_cons_zero, List.getElem?_cons_succ, List.set_cons_zero, List.set_cons_succ, List.cons_append, List.nil_append, List.append_nil, List.length_cons, List.length_nil, List.map_cons, List.map_nil, oIsi, oLen, oAbs, oInt, oAll, oAny, oAllF, oList, oSum, oIx, oSl, oLt, oLe, oGt, oGe, oSub, oMul, oMod, oFdiv, oPow, oAdd, oAddL, oI, oI0, oIsB, oNotB, oUpper, cellOf?, ren, oIn, oNin, oInF, Nat.reduceSub, Nat.reduceAdd, List.reduceReplicate, true_and, if_true, if_false, Bool.false_eq_true, ite_true, ite_false, eq_self, decide_true, decide_false, Bool.not_true, Bool.not_false, id, oEq, oNe, oEqF, now_val, eqD_str, eqD_int, eqD_nn]
    · rintro acc μ' ⟨rfl, rfl⟩
      simp only [T_seq, T_dic0, T_cut, T_ret, T_asg, T_drop, T_ifS, T_next, T_var, T_c, T_nil, T_cons, T_op, T_un, T_cb, T_t, T_chain, T_and, T_or, T_not, T_andV, T_orV, T_notV, T_if, T_tup, T_lst, T_lstC, T_no, T_part, T_sl, T_slC, S_seq, S_range1, S_range2, T_lc, T_lcC, T_for, T_while, T_setIx, T_call, T_callS, T_start, T_m0, T_yes, T_asgT, vals?, pick_nil, pick_cons, setT, setAll, wipeD, List.getElem?_cons_zero, List.getElem?_cons_succ, List.set_cons_zero, List.set_cons_succ, List.cons_append, List.nil_append, List.append_nil, List.length_cons, List.length_nil, List.map_cons, List.map_nil, oIsi, oLen, oAbs, oInt, oAll, oAny, oAllF, oList, oSum, oIx, oSl, oLt, oLe, oGt, oGe, oSub, oMul, oMod, oFdiv, oPow, oAdd, oAddL, oI, oI0, oIsB, oNotB, oUpper, cellOf?, ren, oIn, oNin, oInF, Nat.reduceSub, Nat.reduceAdd, List.reduceReplicate, true_and, if_true, if_false, Bool.false_eq_true, ite_true, ite_false, eq_self, decide_true, decide_false, Bool.not_true, Bool.not_false, id, oEq, oNe, oEqF, now_val, eqD_str, eqD_int, eqD_nn]
      exact ⟨by decide, hk _⟩
end My
namespace My
open PySem PySem.Spec PyProof.Rows L2 Dv
theorem all_mk {l : PySem.W.OpenLaw} {w : World} {K : PySem.W.Frag} {h : Heap} {mg : Str → Option Value} {fa f0 f1 f2 f3 f4 : Addr} (X : K.In h) (G : h.Ns mainGlobals mg) (hfa : mg "law" = some (.ref fa))
    {od0 an0 od1 an1 od2 an2 od3 an3 od4 an4 : Option Addr} {sl0 sl1 sl2 sl3 sl4 : Array (Option Value)} {oc0 kV0 dc0 pm0 cd0 ct0 oc1 kV1 dc1 pm1 cd1 ct1 oc2 kV2 dc2 pm2 cd2 ct2 oc3 kV3 dc3 pm3 cd3 ct3 oc4 kV4 dc4 pm4 cd4 ct4 : Value} {t_LETTERS : Nat} {a_WEATHERS : Addr} {t_WEATHERS0 t_WEATHERS1 t_WEATHERS2 n_WEATHERS : Nat} {o_WEATHERS : Option Addr} {s_WEATHERS : Array (Option Value)}
    (a0 : PySem.W.nsIn K mainGlobals "is_word" = some (some (.ref f0)))
    (l0 : K.lookup f0 = some ⟨oc0, od0, .func (PySem.W.fnOf "is_word" "is_word" (defArgs s_is_word) (defBody s_is_word) (defScope s_is_word) .none kV0 dc0 pm0 an0 cd0 ct0), sl0⟩)
    (c0 : PySem.W.codeIn K cd0 "is_word" = true)
    (k0 : PySem.W.keepIn K (.ref f0) = true)
    (a1 : PySem.W.nsIn K mainGlobals "is_weather" = some (some (.ref f1)))
    (l1 : K.lookup f1 = some ⟨oc1, od1, .func (PySem.W.fnOf "is_weather" "is_weather" (defArgs s_is_weather) (defBody s_is_weather) (defScope s_is_weather) .none kV1 dc1 pm1 an1 cd1 ct1), sl1⟩)
    (c1 : PySem.W.codeIn K cd1 "is_weather" = true)
    (k1 : PySem.W.keepIn K (.ref f1) = true)
    (a2 : PySem.W.nsIn K mainGlobals "_law_start" = some (some (.ref f2)))
    (l2 : K.lookup f2 = some ⟨oc2, od2, .func (PySem.W.fnOf "_law_start" "_law_start" (defArgs s_law_start) (defBody s_law_start) (defScope s_law_start) .none kV2 dc2 pm2 an2 cd2 ct2), sl2⟩)
    (c2 : PySem.W.codeIn K cd2 "_law_start" = true)
    (k2 : PySem.W.keepIn K (.ref f2) = true)
    (a3 : PySem.W.nsIn K mainGlobals "_law_draw" = some (some (.ref f3)))
    (l3 : K.lookup f3 = some ⟨oc3, od3, .func (PySem.W.fnOf "_law_draw" "_law_draw" (defArgs s_law_draw) (defBody s_law_draw) (defScope s_law_draw) .none kV3 dc3 pm3 an3 cd3 ct3), sl3⟩)
    (c3 : PySem.W.codeIn K cd3 "_law_draw" = true)
    (k3 : PySem.W.keepIn K (.ref f3) = true)
    (a4 : PySem.W.nsIn K mainGlobals "law" = some (some (.ref f4)))
    (l4 : K.lookup f4 = some ⟨oc4, od4, .func (PySem.W.fnOf "law" "law" (defArgs s_law) (defBody s_law) (defScope s_law) .none kV4 dc4 pm4 an4 cd4 ct4), sl4⟩)
    (c4 : PySem.W.codeIn K cd4 "law" = true)
    (k4 : PySem.W.keepIn K (.ref f4) = true)
    (n_isinstance : PySem.W.nsIn K mainGlobals "isinstance" = some none)
    (n_str : PySem.W.nsIn K mainGlobals "str" = some none)
    (n_len : PySem.W.nsIn K mainGlobals "len" = some none)
    (n_all : PySem.W.nsIn K mainGlobals "all" = some none)
    (n_sum : PySem.W.nsIn K mainGlobals "sum" = some none)
    (n_list : PySem.W.nsIn K mainGlobals "list" = some none)
    (n_abs : PySem.W.nsIn K mainGlobals "abs" = some none)
    (n_int : PySem.W.nsIn K mainGlobals "int" = some none)
    (n_range : PySem.W.nsIn K mainGlobals "range" = some none)
    (n_repr : PySem.W.nsIn K mainGlobals "repr" = some none)
    (g_LETTERS : PySem.W.nsIn K mainGlobals "LETTERS" = some (some (.str "abcdefghijklmnopqrstuvwxyz" t_LETTERS)))
    (g_WEATHERS : PySem.W.nsIn K mainGlobals "WEATHERS" = some (some (.ref a_WEATHERS)))
    (q_WEATHERS : K.lookup a_WEATHERS = some ⟨.type "tuple", o_WEATHERS, .seq #[.str "wet" t_WEATHERS0, .str "dry" t_WEATHERS1, .str "open" t_WEATHERS2] n_WEATHERS, s_WEATHERS⟩)
    : ∃ (fd : FuncData) (cl : Nat → Addr), (∀ (s : Shared) (v : Value), BindsTo s fd ⟨[v], []⟩ [("_law_script", v)]) ∧ ∀ base : Heap, K.In base → base.Ns mainGlobals mg → FnG l.prog w K mg base 2 fa fd ["_law_script"] (spOf ⟨K, cl⟩ (ctP cLaw)) := by
  have e := hfa.symm.trans (PySem.W.mg_of X G a4)
  cases e
  have T : Tx K mg ⟨f0, (PySem.W.fnOf "is_word" "is_word" (defArgs s_is_word) (defBody s_is_word) (defScope s_is_word) .none kV0 dc0 pm0 an0 cd0 ct0), f1, (PySem.W.fnOf "is_weather" "is_weather" (defArgs s_is_weather) (defBody s_is_weather) (defScope s_is_weather) .none kV1 dc1 pm1 an1 cd1 ct1), f2, (PySem.W.fnOf "_law_start" "_law_start" (defArgs s_law_start) (defBody s_law_start) (defScope s_law_start) .none kV2 dc2 pm2 an2 cd2 ct2), f3, (PySem.W.fnOf "_law_draw" "_law_draw" (defArgs s_law_draw) (defBody s_law_draw) (defScope s_law_draw) .none kV3 dc3 pm3 an3 cd3 ct3), fa, (PySem.W.fnOf "law" "law" (defArgs s_law) (defBody s_law) (defScope s_law) .none kV4 dc4 pm4 an4 cd4 ct4)⟩ := ⟨fun_mk (st := s_is_word) l0 c0 k0, PySem.W.mg_of X G a0, fun_mk (st := s_is_weather) l1 c1 k1, PySem.W.mg_of X G a1, fun_mk (st := s_law_start) l2 c2 k2, PySem.W.mg_of X G a2, fun_mk (st := s_law_draw) l3 c3 k3, PySem.W.mg_of X G a3, fun_mk (st := s_law) l4 c4 k4, PySem.W.mg_of X G a4, PySem.W.mg_none_of X G n_isinstance, PySem.W.mg_none_of X G n_str, PySem.W.mg_none_of X G n_len, PySem.W.mg_none_of X G n_all, PySem.W.mg_none_of X G n_sum, PySem.W.mg_none_of X G n_list, PySem.W.mg_none_of X G n_abs, PySem.W.mg_none_of X G n_int, PySem.W.mg_none_of X G n_range, PySem.W.mg_none_of X G n_repr, gc_str (PySem.W.mg_of X G g_LETTERS), gc_tup (vs := [.str "wet", .str "dry", .str "open"]) (PySem.W.mg_of X G g_WEATHERS) q_WEATHERS rfl rfl (show 3 ≤ sizeLine by decide) (.cons ⟨_, rfl⟩ (.cons ⟨_, rfl⟩ (.cons ⟨_, rfl⟩ (.nil)))) (fun _ _ => .cons .str (.cons .str (.cons .str (.nil))))⟩
  refine ⟨(PySem.W.fnOf "law" "law" (defArgs s_law) (defBody s_law) (defScope s_law) .none kV4 dc4 pm4 an4 cd4 ct4), fun _ => 0, fun s v => .of_eq rfl, fun base _ _ => ?_⟩
  have O_is_word := o_is_word (P := l.prog) (w := w) (base := base) (cl := fun _ => 0) T v_is_word len_is_word
  have O_is_weather := o_is_weather (P := l.prog) (w := w) (base := base) (cl := fun _ => 0) T v_is_weather len_is_weather
  have O_law_start := o_law_start (P := l.prog) (w := w) (base := base) (cl := fun _ => 0) T v_law_start len_law_start
  have O_law_draw := o_law_draw (P := l.prog) (w := w) (base := base) (cl := fun _ => 0) T v_law_draw len_law_draw
  have O_law := o_law (P := l.prog) (w := w) (base := base) (cl := fun _ => 0) T v_law len_law O_is_word O_is_weather O_law_start O_law_draw
  exact O_law
end My
open PySem PySem.W PyProof.Rows
set_option maxRecDepth 100000 in
set_option maxHeartbeats 0 in
theorem PySem.Challenge.cw_saidchances_k02_words_and_weather_holds : PySem.Challenge.rw_saidchances_k02_words_and_weather.Holds := by
  w_on; o_law; k_head; (case hw => w_witness2)
  k_fill
  refine Dv.walk_law (l := PySem.Challenge.rw_saidchances_k02_words_and_weather) (k := 2) (x := "_law_script") rfl rfl ⟨rfl, by decide, by decide⟩ (fun w h Y => PySem.W.kIn_of Y) ?F
  case F =>
    intro w mg fa h KX G hmg
    refine' My.all_mk KX G hmg ?a0 ?l0 ?c0 ?k0 ?a1 ?l1 ?c1 ?k1 ?a2 ?l2 ?c2 ?k2 ?a3 ?l3 ?c3 ?k3 ?a4 ?l4 ?c4 ?k4 ?n_isinstance ?n_str ?n_len ?n_all ?n_sum ?n_list ?n_abs ?n_int ?n_range ?n_repr ?g_LETTERS ?g_WEATHERS ?q_WEATHERS
    (case a0 => k_is)
    (case l0 => k_is)
    (case c0 => k_is)
    (case k0 => k_is)
    (case a1 => k_is)
    (case l1 => k_is)
    (case c1 => k_is)
    (case k1 => k_is)
    (case a2 => k_is)
    (case l2 => k_is)
    (case c2 => k_is)
    (case k2 => k_is)
    (case a3 => k_is)
    (case l3 => k_is)
    (case c3 => k_is)
    (case k3 => k_is)
    (case a4 => k_is)
    (case l4 => k_is)
    (case c4 => k_is)
    (case k4 => k_is)
    (case n_isinstance => k_is)
    (case n_str => k_is)
    (case n_len => k_is)
    (case n_all => k_is)
    (case n_sum => k_is)
    (case n_list => k_is)
    (case n_abs => k_is)
    (case n_int => k_is)
    (case n_range => k_is)
    (case n_repr => k_is)
    (case g_LETTERS => k_is)
    (case g_WEATHERS => k_is)
    (case q_WEATHERS => k_is)
