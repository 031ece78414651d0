import PyProof.Rows.All
import Wide.All
import OpenK.AllK
import Wide.FinOn
import HandS.ForMost
import HandS.ForExc
import HandS.Walk
import HandS.Wide
import HandS.WideBits
import HandS.Zip
import HandS.Defaults
import HandS.HeadHook2
import HandS.ExcValue
import HandS.ExcIs
import HandS.ExcField
import KE.KExcIs
import HandS.IsInst
import HandS.Steps
import HandS.More
import HandS.Head0
import HandS.Head1
import HandS.Head2
import HandS.HeadEnd
import HandS.EndBits
import HandS.HeadHook1
import HandS.HeadHook3
import HandS.HeadHook4
import KE.KStateDown
import PySem.Challenge.RW_mendfield_k72_long_rows_woven
set_option Elab.async false
set_option linter.all false
set_option maxRecDepth 100000
set_option maxHeartbeats 0
/-! The pure layer: what a Python expression or statement denotes as a plain function over data, and why the machine does it. -/
namespace PL
open PySem PySem.Spec PyProof.Rows L2
abbrev Fg := PySem.W.Frag

/-! ### data -/
inductive D where
  | non | bl (b : Bool) | int (i : Int) | str (x : Str) | lst (xs : List D) | tup (xs : List D) | scr (ns : List Int) | obj (a : Addr) (c : Nat) (fs : List (Nat × D)) | exc (c : Nat) (fs : List (Nat × D))
/-- the classes' names, the attributes' names -/
def clsL : List Str := ["BitField", "PrimeField", "RepeatCode", "RootCode", "CheckCode", "Line", "Desk", "MendError", "NoField", "ByNought", "NoPoints", "NoCode", "NoWord", "NoSign", "TooFar", "TooLarge", "NoText", "NoRows", "RowsFar", "NoOrder", "NotYet", "NoPlace"]
def fldL : List Str := ["many", "wide", "step", "raised", "depths", "bits", "prime", "field", "length", "kept_checks", "kept_places", "kept_rows", "size", "extra", "first", "kept_distance", "code", "depth", "stream", "place", "lost", "numbers"]
def clsN (c : Nat) : Str := clsL.getD c ""
def fldN (n : Nat) : Str := fldL.getD n ""
/-- where the class stands -/
def clsA (K : Fg) (c : Nat) : Addr := He.ga K (clsN c)

/-- what a class must have so that its instances' attributes are just their own -/
def ClsOk (K : Fg) (c : Nat) : Prop := Cls K (clsA K c) ∧ ∀ n, n < 22 → NoAttr K (clsA K c) (fldN n)
/-- an exception that was caught, held as a value -/
def ExcO (cls : Value) (d : Option Addr) (a : Addr) : HO := .ext fun h => ∃ (oe : Obj) (vs : Array Value), h.get? a = some oe ∧ Zc cls d oe ∧ oe.data = .fields vs
/-- what its class must have -/
structure XcOk (K : Fg) (c : Nat) : Prop where
  is : ExcC K (clsA K c)
  xf : XfC K (clsA K c)
  na : ∀ n, n < 22 → PySem.W.findIn K (.ref (clsA K c)) (fldN n) = some none
theorem fldN_inj {m n : Nat} (hm : m < 22) (hn : n < 22) (h : fldN m = fldN n) : m = n := by
  have q : ∀ m : Fin 22, ∀ n : Fin 22, fldN m.val = fldN n.val → m = n := by decide +kernel
  exact congrArg Fin.val (q ⟨m, hm⟩ ⟨n, hn⟩ h)
/-- an exception: its class, its own attributes -/
structure Exn where
  c : Nat
  fs : List (Nat × D)

theorem decide_ne {a b : Nat} (h : a ≠ b) : decide (a ≠ b) = true := decide_eq_true h
/-! ### heaps -/
def mask (O : List Addr) (H : Hp) : Hp := fun a => if a ∈ O then none else H a
def Dom (O : List Addr) (H : Hp) : Prop := ∀ p ∈ O, ∃ o, H p = some o
section
variable {K : Fg} {O O' : List Addr} {H H' H1 H2 : Hp} {p a : Addr} {o : HO}
theorem mask_nil : mask [] H = H := funext fun a => by unfold mask; rw [if_neg (by simp)]
theorem mask_same : Same (mask O H) H := fun b o e => by
  unfold mask at e
  split at e
  · cases e
  · exact e
theorem mask_mono (e : Same H H') : Same (mask O H) (mask O H') := fun b o q => by
  unfold mask at q ⊢
  split at q
  · cases q
  · rename_i h
    rw [if_neg h]
    exact e b o q
theorem mask_sub (h : ∀ q ∈ O', q ∈ O) : Same (mask O H) (mask O' H) := fun b o q => by
  unfold mask at q ⊢
  split at q
  · cases q
  · rename_i z
    rw [if_neg fun m => z (h b m)]
    exact q
theorem mask_out (h : a ∉ O) : mask O H a = H a := by unfold mask; rw [if_neg h]
theorem mask_upd (h : p ∈ O) : mask O (upd H p o) = mask O H := funext fun a => by
  unfold mask
  by_cases q : a ∈ O
  · rw [if_pos q, if_pos q]
  · rw [if_neg q, if_neg q, upd_ne fun e => q (by rw [e]; exact h)]
theorem Dom.mono (d : Dom O H) (e : Same H H') : Dom O H' := fun p hp => let ⟨o, h⟩ := d p hp; ⟨o, e p o h⟩
theorem Dom.not (d : Dom O H) (h : H p = none) : p ∉ O := fun hp => by
  obtain ⟨o, q⟩ := d p hp
  rw [h] at q; cases q
theorem Dom.cons (d : Dom O H) (h : H p = some o) : Dom (p :: O) H := fun q hq => by
  rcases List.mem_cons.mp hq with rfl | hq
  · exact ⟨o, h⟩
  · exact d q hq
theorem Same.new (h : H p = none) : Same H (upd H p o) := fun b u e => by rw [upd_ne (ne_of_none e h)]; exact e
/-- an object that the first heap does not know may change -/
theorem Same.mut (e : Same H H') (h : H p = none) : Same H (upd H' p o) := fun b u q => by rw [upd_ne (ne_of_none q h)]; exact e b u q
/-- what is masked does not see a new object -/
theorem mask_new (h : H p = none) : Same (mask O H) (mask (p :: O) (upd H p o)) := fun b u q => by
  have q' := mask_same b u q
  unfold mask at q ⊢
  split at q
  · cases q
  · rename_i z
    have hb : b ≠ p := ne_of_none q' h
    rw [if_neg (by simp [hb, z]), upd_ne hb]
    exact q
theorem mask_new' (h : H p = none) (e : Same H H') : Same (mask O H) (mask (p :: O) H') := fun b u q => by
  have q' := mask_same b u q
  unfold mask at q ⊢
  split at q
  · cases q
  · rename_i z
    have hb : b ≠ p := ne_of_none q' h
    rw [if_neg (by simp [hb, z])]
    exact e b u q'
theorem Same.sqL {xs : List V} (e : Same H H') (h : SqL K H a xs) : SqL K H' a xs := e.seq h
theorem Same.sqT {xs : List V} (e : Same H H') (h : SqT K H a xs) : SqT K H' a xs := by
  rcases h with (h | ⟨o, h⟩) | h
  · exact .inl (.inl (e _ _ h))
  · exact .inl (.inr ⟨o, e _ _ h⟩)
  · exact .inr h
end

/-! ### data in the heap -/
mutual
inductive Rep (K : Fg) (H : Hp) : V → D → Prop
  | non : Rep K H .non .non
  | bl (b : Bool) : Rep K H (.bl b) (.bl b)
  | int (i : Int) : Rep K H (.int i) (.int i)
  | str (x : Str) : Rep K H (.str x) (.str x)
  | lst {a : Addr} {vs : List V} {ds : List D} : H a = some (.lst vs) → Reps K H vs ds → Rep K H (.ref a) (.lst ds)
  | scr {a : Addr} {ns : List Int} : SqL K H a (ns.map V.int) → Rep K H (.ref a) (.scr ns)
  | tup {a : Addr} {vs : List V} {ds : List D} : SqT K H a vs → Reps K H vs ds → Rep K H (.ref a) (.tup ds)
  | obj {a dx : Addr} {c : Nat} {fv : List (Str × V)} {fs : List (Nat × D)} : H a = some (.ins (clsA K c) dx fv) → ClsOk K c → RepF K H fv fs → Rep K H (.ref a) (.obj a c fs)
  | exc0 {a : Addr} {c : Nat} : H a = some (ExcO (.ref (clsA K c)) none a) → XcOk K c → Rep K H (.ref a) (.exc c [])
  | exc1 {a q : Addr} {c : Nat} {fv : List (Str × V)} {fs : List (Nat × D)} : H a = some (ExcO (.ref (clsA K c)) (some q) a) → XcOk K c → H q = some (.xd fv) → RepF K H fv fs → Rep K H (.ref a) (.exc c fs)
inductive Reps (K : Fg) (H : Hp) : List V → List D → Prop
  | nil : Reps K H [] []
  | cons {v : V} {vs : List V} {d : D} {ds : List D} : Rep K H v d → Reps K H vs ds → Reps K H (v :: vs) (d :: ds)
inductive RepF (K : Fg) (H : Hp) : List (Str × V) → List (Nat × D) → Prop
  | nil : RepF K H [] []
  | cons {v : V} {n : Nat} {fv : List (Str × V)} {d : D} {fs : List (Nat × D)} : n < 22 → Rep K H v d → RepF K H fv fs → RepF K H ((fldN n, v) :: fv) ((n, d) :: fs)
end
section
variable {K : Fg} {H H' : Hp}
mutual
theorem Rep.mono (e : Same H H') : ∀ {v : V} {d : D}, Rep K H v d → Rep K H' v d
  | _, _, .non => .non
  | _, _, .bl b => .bl b
  | _, _, .int i => .int i
  | _, _, .str x => .str x
  | _, _, .lst h r => .lst (e _ _ h) (Reps.mono e r)
  | _, _, .scr h => .scr (Same.sqL e h)
  | _, _, .tup h r => .tup (Same.sqT e h) (Reps.mono e r)
  | _, _, .obj h k r => .obj (e _ _ h) k (RepF.mono e r)
  | _, _, .exc0 h k => .exc0 (e _ _ h) k
  | _, _, .exc1 h k g r => .exc1 (e _ _ h) k (e _ _ g) (RepF.mono e r)
theorem Reps.mono (e : Same H H') : ∀ {vs : List V} {ds : List D}, Reps K H vs ds → Reps K H' vs ds
  | _, _, .nil => .nil
  | _, _, .cons h r => .cons (Rep.mono e h) (Reps.mono e r)
theorem RepF.mono (e : Same H H') : ∀ {vs : List (Str × V)} {ds : List (Nat × D)}, RepF K H vs ds → RepF K H' vs ds
  | _, _, .nil => .nil
  | _, _, .cons hn h r => .cons hn (Rep.mono e h) (RepF.mono e r)
end
theorem Reps.length : ∀ {vs : List V} {ds : List D}, Reps K H vs ds → vs.length = ds.length
  | _, _, .nil => rfl
  | _, _, .cons _ r => congrArg Nat.succ (Reps.length r)
theorem Reps.get : ∀ {vs : List V} {ds : List D} {i : Nat} {d : D}, Reps K H vs ds → ds[i]? = some d → ∃ v, vs[i]? = some v ∧ Rep K H v d
  | _, _, _, _, .nil, e => by simp at e
  | _, _, 0, _, .cons r _, e => by simp at e; subst e; exact ⟨_, rfl, r⟩
  | _, _, i + 1, d, .cons _ t, e => by
    obtain ⟨u, h1, h2⟩ := Reps.get (i := i) (d := d) t (by simpa using e)
    exact ⟨u, by simpa using h1, h2⟩
theorem Reps.getV : ∀ {vs : List V} {ds : List D} {i : Nat} {v : V}, Reps K H vs ds → vs[i]? = some v → ∃ d, ds[i]? = some d ∧ Rep K H v d
  | _, _, _, _, .nil, e => by simp at e
  | _, _, 0, _, .cons r _, e => by simp at e; subst e; exact ⟨_, rfl, r⟩
  | _, _, i + 1, d, .cons _ t, e => by
    obtain ⟨u, h1, h2⟩ := Reps.getV (i := i) (v := d) t (by simpa using e)
    exact ⟨u, by simpa using h1, h2⟩
theorem Reps.append : ∀ {vs ws : List V} {ds es : List D}, Reps K H vs ds → Reps K H ws es → Reps K H (vs ++ ws) (ds ++ es)
  | _, _, _, _, .nil, s => s
  | _, _, _, _, .cons r t, s => .cons r (Reps.append t s)
theorem Reps.take : ∀ {vs : List V} {ds : List D} (n : Nat), Reps K H vs ds → Reps K H (vs.take n) (ds.take n)
  | _, _, 0, _ => .nil
  | _, _, _ + 1, .nil => .nil
  | _, _, n + 1, .cons r t => .cons r (Reps.take n t)
theorem Reps.drop : ∀ {vs : List V} {ds : List D} (n : Nat), Reps K H vs ds → Reps K H (vs.drop n) (ds.drop n)
  | _, _, 0, r => r
  | _, _, _ + 1, .nil => .nil
  | _, _, n + 1, .cons _ t => Reps.drop n t
theorem Reps.set {x : V} {d : D} (r : Rep K H x d) : ∀ {vs : List V} {ds : List D} (i : Nat), Reps K H vs ds → Reps K H (vs.set i x) (ds.set i d)
  | _, _, _, .nil => .nil
  | _, _, 0, .cons _ t => .cons r t
  | _, _, i + 1, .cons q t => .cons q (Reps.set r i t)
theorem Reps.one {v : V} {d : D} (r : Rep K H v d) : Reps K H [v] [d] := .cons r .nil
theorem Reps.reverse : ∀ {vs : List V} {ds : List D}, Reps K H vs ds → Reps K H vs.reverse ds.reverse
  | _, _, .nil => .nil
  | _, _, .cons r t => by
    rw [List.reverse_cons, List.reverse_cons]
    exact (Reps.reverse t).append (Reps.one r)
theorem RepF.get : ∀ {fv : List (Str × V)} {fs : List (Nat × D)} {n : Nat} {d : D}, n < 22 → RepF K H fv fs → fs.lookup n = some d → ∃ v, fv.lookup (fldN n) = some v ∧ Rep K H v d
  | _, _, _, _, _, .nil, e => by simp [List.lookup] at e
  | _, _, n, d, hn, .cons (n := m) (v := v) hm r t, e => by
    by_cases h : n = m
    · subst h
      have e2 : (n == n) = true := beq_self_eq_true n
      simp only [List.lookup, e2] at e
      cases e
      refine ⟨v, ?_, r⟩
      have e3 : (fldN n == fldN n) = true := beq_self_eq_true _
      simp only [List.lookup, e3]
    · have e2 : (n == m) = false := by simpa using h
      simp only [List.lookup, e2] at e
      obtain ⟨u, h1, h2⟩ := RepF.get hn t e
      refine ⟨u, ?_, h2⟩
      have e3 : (fldN n == fldN m) = false := by
        rw [beq_eq_false_iff_ne]
        exact fun z => h (fldN_inj hn hm z)
      simp only [List.lookup, e3]
      exact h1
theorem RepF.none {m : Str} (hm : ∀ n, n < 22 → fldN n ≠ m) : ∀ {fv : List (Str × V)} {fs : List (Nat × D)}, RepF K H fv fs → fv.lookup m = none
  | _, _, .nil => rfl
  | _, _, .cons (n := n) hn r t => by
    have e3 : (m == fldN n) = false := by
      rw [beq_eq_false_iff_ne]
      exact fun z => hm n hn z.symm
    simp only [List.lookup, e3]
    exact RepF.none hm t
theorem RepF.length : ∀ {fv : List (Str × V)} {fs : List (Nat × D)}, RepF K H fv fs → fv.length = fs.length
  | _, _, .nil => rfl
  | _, _, .cons _ _ t => congrArg Nat.succ (RepF.length t)
end
/-- an exception behind a raise -/
def RepX (K : Fg) (H : Hp) (C : Value) (dd : Option Addr) (x : Exn) : Prop :=
  C = .ref (clsA K x.c) ∧ ((x.fs = [] ∧ dd = none) ∨ (x.fs ≠ [] ∧ ∃ q fv, dd = some q ∧ H q = some (.xd fv) ∧ RepF K H fv x.fs))
theorem RepX.mono {K : Fg} {H H' : Hp} {C : Value} {dd : Option Addr} {x : Exn} (e : Same H H') (r : RepX K H C dd x) : RepX K H' C dd x := by
  obtain ⟨h1, h2⟩ := r
  refine ⟨h1, ?_⟩
  rcases h2 with h2 | ⟨h0, q, fv, h3, h4, h5⟩
  · exact .inl h2
  · exact .inr ⟨h0, q, fv, h3, e _ _ h4, h5.mono e⟩

/-! ### results -/
inductive Res (α : Type) where
  | ok (a : α) | exc (x : Exn) | bad
def Res.bind {α β : Type} : Res α → (α → Res β) → Res β
  | .ok a, k => k a
  | .exc x, _ => .exc x
  | .bad, _ => .bad
def Res.map {α β : Type} (g : α → β) : Res α → Res β
  | .ok a => .ok (g a)
  | .exc x => .exc x
  | .bad => .bad
@[simp] theorem Res.bind_ok {α β : Type} {a : α} {k : α → Res β} : (Res.ok a).bind k = k a := rfl
@[simp] theorem Res.bind_exc {α β : Type} {x : Exn} {k : α → Res β} : (Res.exc x : Res α).bind k = .exc x := rfl
@[simp] theorem Res.bind_bad {α β : Type} {k : α → Res β} : (Res.bad : Res α).bind k = .bad := rfl
@[simp] theorem Res.map_ok {α β : Type} {a : α} {g : α → β} : (Res.ok a).map g = .ok (g a) := rfl
@[simp] theorem Res.map_exc {α β : Type} {x : Exn} {g : α → β} : (Res.exc x : Res α).map g = .exc x := rfl
@[simp] theorem Res.map_bad {α β : Type} {g : α → β} : (Res.bad : Res α).map g = .bad := rfl
abbrev Env := List (Option D)
inductive Flow where
  | nx (ρ : Env) | rt (d : D) | ex (x : Exn) (ρ : Env) | ct (ρ : Env) | bad

/-- the heap at a def's entry, and what the def must not see of it -/
structure Bs where
  h : Hp
  o : List Addr
/-! ### the state: slots, heap, environment; the lists in the slots own are nobody else's -/
structure Rel (K : Fg) (H0 : Bs) (own : List Nat) (O : List Addr) (σ : L2.St) (H : Hp) (ρ : Env) : Prop where
  len : σ.length = ρ.length
  ex : Same H0.h H
  base : ∀ p ∈ H0.o, p ∈ O
  base0 : Dom H0.o H0.h
  dom : Dom O H
  slot : ∀ i d, ρ[i]? = some (some d) → i ∉ own → ∃ v, σ[i]? = some (some v) ∧ Rep K (mask O H) v d
  owned : ∀ i d, ρ[i]? = some (some d) → i ∈ own → ∃ p vs ds, σ[i]? = some (some (.ref p)) ∧ d = .lst ds ∧ p ∈ O ∧ H p = some (.lst vs) ∧ Reps K (mask O H) vs ds ∧ H0.h p = none
  sep : ∀ i j p, i ∈ own → j ∈ own → (∃ d, ρ[i]? = some (some d)) → (∃ d, ρ[j]? = some (some d)) → σ[i]? = some (some (.ref p)) → σ[j]? = some (some (.ref p)) → i = j
section
variable {K : Fg} {H0 : Bs} {H H' : Hp} {own own' : List Nat} {O : List Addr} {σ : L2.St} {ρ : Env} {p : Addr} {i : Nat} {v : V} {d : D} {vs : List V} {ds : List D}
theorem Rel.mono (r : Rel K H0 own O σ H ρ) (e : Same H H') : Rel K H0 own O σ H' ρ :=
  ⟨r.len, r.ex.trans e, r.base, r.base0, r.dom.mono e, fun i d h n => let ⟨v, a, b⟩ := r.slot i d h n; ⟨v, a, b.mono (mask_mono e)⟩,
    fun i d h n => let ⟨p, vs, ds, a, b, c, f, g, z⟩ := r.owned i d h n; ⟨p, vs, ds, a, b, c, e _ _ f, g.mono (mask_mono e), z⟩, r.sep⟩
/-- a new object is nobody's for now -/
theorem Rel.more (r : Rel K H0 own O σ H ρ) (h : H p = none) (e : Same H H') {o : HO} (hp : H' p = some o) : Rel K H0 own (p :: O) σ H' ρ := by
  refine ⟨r.len, r.ex.trans e, fun q hq => List.mem_cons_of_mem _ (r.base q hq), r.base0, (r.dom.mono e).cons hp, fun i d z n => ?_, fun i d z n => ?_, r.sep⟩
  · obtain ⟨v, a, b⟩ := r.slot i d z n
    exact ⟨v, a, b.mono (mask_new' h e)⟩
  · obtain ⟨p', vs, ds, a, b, c, f, g, fr⟩ := r.owned i d z n
    exact ⟨p', vs, ds, a, b, List.mem_cons_of_mem _ c, e _ _ f, g.mono (mask_new' h e), fr⟩
theorem Rel.σlt (r : Rel K H0 own O σ H ρ) (h : i < ρ.length) : i < σ.length := by rw [r.len]; exact h
theorem get_set_self {α : Type} {l : List α} {i : Nat} {x : α} (h : i < l.length) : (l.set i x)[i]? = some x := List.getElem?_set_self h
/-- a slot gets a value that is nobody's own -/
theorem Rel.put (r : Rel K H0 own O σ H ρ) (hi : i < ρ.length) (h : Rep K (mask O H) v d) : Rel K H0 (own.filter (· ≠ i)) O (σ.set i (some v)) H (ρ.set i (some d)) := by
  refine ⟨by simp [r.len], r.ex, r.base, r.base0, r.dom, fun j e z n => ?_, fun j e z n => ?_, fun j k p hj hk h1 h2 h3 h4 => ?_⟩
  · by_cases hj : j = i
    · subst hj
      rw [get_set_self hi] at z
      cases z
      exact ⟨v, get_set_self (r.σlt hi), h⟩
    · rw [List.getElem?_set_ne (Ne.symm hj)] at z ⊢
      exact r.slot j e z fun m => n (List.mem_filter.mpr ⟨m, by simpa using hj⟩)
  · obtain ⟨m, hm⟩ := List.mem_filter.mp n
    have hj : j ≠ i := by simpa using hm
    rw [List.getElem?_set_ne (Ne.symm hj)] at z ⊢
    exact r.owned j e z m
  · obtain ⟨mj, nj⟩ := List.mem_filter.mp hj
    obtain ⟨mk, nk⟩ := List.mem_filter.mp hk
    have nj' : j ≠ i := by simpa using nj
    have nk' : k ≠ i := by simpa using nk
    rw [List.getElem?_set_ne (Ne.symm nj')] at h1 h3
    rw [List.getElem?_set_ne (Ne.symm nk')] at h2 h4
    exact r.sep j k p mj mk h1 h2 h3 h4
/-- a slot gets a new list of its own -/
theorem Rel.putNew (r : Rel K H0 own O σ H ρ) (hi : i < ρ.length) (e : Same H H') (hp : H p = none) (hl : H' p = some (.lst vs)) (h : Reps K (mask (p :: O) H') vs ds) :
    Rel K H0 (i :: own.filter (· ≠ i)) (p :: O) (σ.set i (some (.ref p))) H' (ρ.set i (some (.lst ds))) := by
  have r2 := r.more hp e hl
  have neq : ∀ j d, ρ[j]? = some (some d) → j ∈ own → σ[j]? ≠ some (some (.ref p)) := fun j d z n q => by
    obtain ⟨p', vs', ds', a, b, c, f, g, _⟩ := r.owned j d z n
    rw [a] at q
    cases q
    rw [hp] at f; cases f
  refine ⟨by simp [r.len], r2.ex, r2.base, r2.base0, r2.dom, fun j d z n => ?_, fun j d z n => ?_, fun j k q hj hk h1 h2 h3 h4 => ?_⟩
  · have hj : j ≠ i := fun q => n (by rw [q]; exact List.mem_cons_self)
    rw [List.getElem?_set_ne (Ne.symm hj)] at z ⊢
    exact r2.slot j d z fun m => n (List.mem_cons_of_mem _ (List.mem_filter.mpr ⟨m, by simpa using hj⟩))
  · by_cases hj : j = i
    · subst hj
      rw [get_set_self hi] at z
      cases z
      exact ⟨p, vs, ds, get_set_self (r.σlt hi), rfl, List.mem_cons_self, hl, h, r.ex.free hp⟩
    · rw [List.getElem?_set_ne (Ne.symm hj)] at z ⊢
      rcases List.mem_cons.mp n with q | n
      · exact absurd q hj
      · exact r2.owned j d z (List.mem_filter.mp n).1
  · have cs : ∀ j, j ∈ i :: own.filter (· ≠ i) → j = i ∨ (j ≠ i ∧ j ∈ own) := fun j hj => by
      by_cases q : j = i
      · exact .inl q
      · rcases List.mem_cons.mp hj with z | z
        · exact absurd z q
        · exact .inr ⟨q, (List.mem_filter.mp z).1⟩
    rcases cs j hj with rfl | ⟨nj, mj⟩ <;> rcases cs k hk with rfl | ⟨nk, mk⟩
    · rfl
    · rw [get_set_self (r.σlt hi)] at h3
      cases h3
      rw [List.getElem?_set_ne (Ne.symm nk)] at h2 h4
      obtain ⟨d, z⟩ := h2
      exact absurd h4 (neq k d z mk)
    · rw [get_set_self (r.σlt hi)] at h4
      cases h4
      rw [List.getElem?_set_ne (Ne.symm nj)] at h1 h3
      obtain ⟨d, z⟩ := h1
      exact absurd h3 (neq j d z mj)
    · rw [List.getElem?_set_ne (Ne.symm nj)] at h1 h3
      rw [List.getElem?_set_ne (Ne.symm nk)] at h2 h4
      exact r.sep j k q mj mk h1 h2 h3 h4
/-- an own list is written -/
theorem Rel.write (r : Rel K H0 own O σ H ρ) (hi : i ∈ own) (hρ : ρ[i]? = some (some d)) (hσ : σ[i]? = some (some (.ref p))) (h : Reps K (mask O H) vs ds) :
    Rel K H0 own O σ (upd H p (.lst vs)) (ρ.set i (some (.lst ds))) := by
  obtain ⟨p', vs', ds', a, b, c, f, g, fr⟩ := r.owned i d hρ hi
  have ep : p' = p := by rw [a] at hσ; cases hσ; rfl
  subst ep
  have m : mask O (upd H p' (.lst vs)) = mask O H := mask_upd c
  have hlt : i < ρ.length := (List.getElem?_eq_some_iff.mp hρ).1
  refine ⟨by simp [r.len], fun b o q => ?_, r.base, r.base0, fun q hq => ?_, fun j e z n => ?_, fun j e z n => ?_, fun j k q hj hk h1 h2 h3 h4 => ?_⟩
  · have hb : b ≠ p' := fun z => by rw [z, fr] at q; cases q
    rw [upd_ne hb]
    exact r.ex b o q
  · by_cases z : q = p'
    · rw [z, upd_same]; exact ⟨_, rfl⟩
    · rw [upd_ne z]; exact r.dom q hq
  · rw [m]
    have hj : j ≠ i := fun z => n (z ▸ hi)
    rw [List.getElem?_set_ne (Ne.symm hj)] at z
    exact r.slot j e z n
  · rw [m]
    by_cases hj : j = i
    · subst hj
      rw [get_set_self hlt] at z
      cases z
      exact ⟨p', vs, ds, hσ, rfl, c, upd_same, h, fr⟩
    · rw [List.getElem?_set_ne (Ne.symm hj)] at z
      obtain ⟨p2, vs2, ds2, a2, b2, c2, f2, g2, fr2⟩ := r.owned j e z n
      have np : p2 ≠ p' := fun q => hj (r.sep j i p' n hi ⟨_, z⟩ ⟨_, hρ⟩ (q ▸ a2) a)
      exact ⟨p2, vs2, ds2, a2, b2, c2, by rw [upd_ne np]; exact f2, g2, fr2⟩
  · have ex : ∀ k : Nat, (∃ d, (ρ.set i (some (D.lst ds)))[k]? = some (some d)) → ∃ d, ρ[k]? = some (some d) := fun k ⟨d', z⟩ => by
      by_cases hk : k = i
      · rw [hk]; exact ⟨_, hρ⟩
      · rw [List.getElem?_set_ne (Ne.symm hk)] at z
        exact ⟨_, z⟩
    exact r.sep j k q hj hk (ex j h1) (ex k h2) h3 h4
/-- slots are owned no more -/
theorem Rel.drop1 (r : Rel K H0 own O σ H ρ) (i : Nat) : ∃ O', Rel K H0 (own.filter (· ≠ i)) O' σ H ρ ∧ ∀ q ∈ O', q ∈ O := by
  by_cases hi : i ∈ own
  · cases q : ρ[i]? with
    | none =>
      refine ⟨O, ⟨r.len, r.ex, r.base, r.base0, r.dom, fun j e z n => ?_, fun j e z n => r.owned j e z (List.mem_filter.mp n).1, fun j k p hj hk => r.sep j k p (List.mem_filter.mp hj).1 (List.mem_filter.mp hk).1⟩, fun _ h => h⟩
      have hj : j ≠ i := fun z' => by rw [z', q] at z; cases z
      exact r.slot j e z fun m => n (List.mem_filter.mpr ⟨m, by simpa using hj⟩)
    | some od =>
      cases od with
      | none =>
        refine ⟨O, ⟨r.len, r.ex, r.base, r.base0, r.dom, fun j e z n => ?_, fun j e z n => r.owned j e z (List.mem_filter.mp n).1, fun j k p hj hk => r.sep j k p (List.mem_filter.mp hj).1 (List.mem_filter.mp hk).1⟩, fun _ h => h⟩
        have hj : j ≠ i := fun z' => by rw [z', q] at z; cases z
        exact r.slot j e z fun m => n (List.mem_filter.mpr ⟨m, by simpa using hj⟩)
      | some d =>
        obtain ⟨p, vs, ds, a, b, c, f, g, fr⟩ := r.owned i d q hi
        have sub : ∀ q ∈ O.filter (· ≠ p), q ∈ O := fun q hq => (List.mem_filter.mp hq).1
        have ms := mask_sub (H := H) sub
        refine ⟨O.filter (· ≠ p), ⟨r.len, r.ex, fun q hq => List.mem_filter.mpr ⟨r.base q hq, by
          have : q ≠ p := fun z => by
            obtain ⟨o, ho⟩ := r.base0 q hq
            rw [z, fr] at ho; cases ho
          simpa using this⟩, r.base0, fun q hq => r.dom q (sub q hq), fun j e z n => ?_, fun j e z n => ?_, fun j k p hj hk => r.sep j k p (List.mem_filter.mp hj).1 (List.mem_filter.mp hk).1⟩, sub⟩
        · by_cases hj : j = i
          · subst hj
            rw [q] at z
            cases z
            refine ⟨.ref p, a, ?_⟩
            subst b
            refine .lst ?_ (g.mono ms)
            rw [mask_out (by simp)]
            exact f
          · obtain ⟨v, x1, x2⟩ := r.slot j e z fun m => n (List.mem_filter.mpr ⟨m, by simpa using hj⟩)
            exact ⟨v, x1, x2.mono ms⟩
        · obtain ⟨m, hm⟩ := List.mem_filter.mp n
          have hj : j ≠ i := by simpa using hm
          obtain ⟨p2, vs2, ds2, a2, b2, c2, f2, g2, fr2⟩ := r.owned j e z m
          have np : p2 ≠ p := fun z' => hj (r.sep j i p m hi ⟨_, z⟩ ⟨_, q⟩ (z' ▸ a2) a)
          exact ⟨p2, vs2, ds2, a2, b2, List.mem_filter.mpr ⟨c2, by simpa using np⟩, f2, g2.mono ms, fr2⟩
  · refine ⟨O, ⟨r.len, r.ex, r.base, r.base0, r.dom, fun j e z n => r.slot j e z fun m => n (List.mem_filter.mpr ⟨m, decide_ne fun q => hi (by rw [← q]; exact m)⟩), fun j e z n => r.owned j e z (List.mem_filter.mp n).1, fun j k p hj hk => r.sep j k p (List.mem_filter.mp hj).1 (List.mem_filter.mp hk).1⟩, fun _ h => h⟩
theorem Rel.own_eq (r : Rel K H0 own O σ H ρ) (h : ∀ i, i ∈ own' ↔ i ∈ own) : Rel K H0 own' O σ H ρ :=
  ⟨r.len, r.ex, r.base, r.base0, r.dom, fun i d z n => r.slot i d z fun m => n ((h i).mpr m), fun i d z n => r.owned i d z ((h i).mp n), fun i j p hi hj => r.sep i j p ((h i).mp hi) ((h j).mp hj)⟩
/-- slots are owned no more -/
theorem Rel.sub (r : Rel K H0 own O σ H ρ) (h : ∀ i ∈ own', i ∈ own) : ∃ O', Rel K H0 own' O' σ H ρ ∧ ∀ q ∈ O', q ∈ O := by
  have gen : ∀ (l : List Nat) (own : List Nat) (O : List Addr), Rel K H0 own O σ H ρ → (∀ i ∈ own', i ∈ own) → (∀ i ∈ own, i ∉ own' → i ∈ l) → ∃ O', Rel K H0 own' O' σ H ρ ∧ ∀ q ∈ O', q ∈ O := by
    intro l
    induction l with
    | nil =>
      intro own O r h1 h2
      refine ⟨O, r.own_eq fun i => ⟨h1 i, fun m => ?_⟩, fun _ z => z⟩
      by_cases z : i ∈ own'
      · exact z
      · exact absurd (h2 i m z) (by simp)
    | cons a l ih =>
      intro own O r h1 h2
      by_cases ha : a ∈ own'
      · refine ih own O r h1 fun i m n => ?_
        rcases List.mem_cons.mp (h2 i m n) with rfl | z
        · exact absurd ha n
        · exact z
      · obtain ⟨O', r', s'⟩ := r.drop1 a
        obtain ⟨O2, r2, s2⟩ := ih _ O' r' (fun i m => List.mem_filter.mpr ⟨h1 i m, decide_ne fun z => ha (by rw [← z]; exact m)⟩) fun i m n => by
          obtain ⟨m1, m2⟩ := List.mem_filter.mp m
          rcases List.mem_cons.mp (h2 i m1 n) with rfl | z
          · simp at m2
          · exact z
        exact ⟨O2, r2, fun q hq => s' q (s2 q hq)⟩
  exact gen own own O r h fun i m _ => m
end
end PL
namespace PL
open PySem PySem.Spec PyProof.Rows L2
/-! ### what a reading denotes -/
/-- no exception is wished for -/
abbrev WF : WX := fun _ _ _ _ => False
/-- an expression's value -/
def SE (K : Fg) (W : WX) (own : List Nat) (te : TE) (f : Env → Res D) : Prop :=
  ∀ (H0 : Bs) (O : List Addr) (σ : L2.St) (H : Hp) (ρ : Env) (Q : VK), Rel K H0 own O σ H ρ → f ρ ≠ .bad →
    (∀ d v H', f ρ = .ok d → Same H H' → Rep K (mask O H') v d → Q v H') →
    (∀ x C dd H', f ρ = .exc x → Same H H' → RepX K (mask O H') C dd x → W C dd σ H') → te σ H Q
/-- .. which may be one's own list: it is only looked at -/
def SR (K : Fg) (W : WX) (own : List Nat) (te : TE) (f : Env → Res D) : Prop :=
  ∀ (H0 : Bs) (O : List Addr) (σ : L2.St) (H : Hp) (ρ : Env) (Q : VK), Rel K H0 own O σ H ρ → f ρ ≠ .bad →
    (∀ d v H', f ρ = .ok d → Same H H' → Rep K H' v d → Q v H') →
    (∀ x C dd H', f ρ = .exc x → Same H H' → RepX K (mask O H') C dd x → W C dd σ H') → te σ H Q
/-- a new list -/
def SF (K : Fg) (W : WX) (own : List Nat) (te : TE) (f : Env → Res (List D)) : Prop :=
  ∀ (H0 : Bs) (O : List Addr) (σ : L2.St) (H : Hp) (ρ : Env) (Q : VK), Rel K H0 own O σ H ρ → f ρ ≠ .bad →
    (∀ ds p vs H', f ρ = .ok ds → Same H H' → H p = none → H' p = some (.lst vs) → Reps K (mask (p :: O) H') vs ds → Q (.ref p) H') →
    (∀ x C dd H', f ρ = .exc x → Same H H' → RepX K (mask O H') C dd x → W C dd σ H') → te σ H Q
def ST (K : Fg) (W : WX) (own : List Nat) (tt : TT) (f : Env → Res Bool) : Prop :=
  ∀ (H0 : Bs) (O : List Addr) (σ : L2.St) (H : Hp) (ρ : Env) (Q : Bool → Hp → Prop), Rel K H0 own O σ H ρ → f ρ ≠ .bad →
    (∀ b H', f ρ = .ok b → Same H H' → Q b H') →
    (∀ x C dd H', f ρ = .exc x → Same H H' → RepX K (mask O H') C dd x → W C dd σ H') → tt σ H Q
def SA (K : Fg) (W : WX) (own : List Nat) (ta : TA) (f : Env → Res (List D)) : Prop :=
  ∀ (H0 : Bs) (O : List Addr) (σ : L2.St) (H : Hp) (ρ : Env) (Q : List V → Hp → Prop), Rel K H0 own O σ H ρ → f ρ ≠ .bad →
    (∀ ds vs H', f ρ = .ok ds → Same H H' → Reps K (mask O H') vs ds → Q vs H') →
    (∀ x C dd H', f ρ = .exc x → Same H H' → RepX K (mask O H') C dd x → W C dd σ H') → ta σ H Q
section
variable {K : Fg} {W : WX} {own : List Nat} {te ta tb : TE} {tt : TT} {f fa fb : Env → Res D}
def dL (g : Env → Res (List D)) (ρ : Env) : Res D := (g ρ).map .lst
theorem SF.toSE {g : Env → Res (List D)} (h : SF K W own te g) : SE K W own te (dL g) := fun H0 O σ H ρ Q r nb k kx => by
  refine h H0 O σ H ρ Q r (fun e => nb (by unfold dL; rw [e]; rfl)) (fun ds p vs H' e s hp hl hr => k (.lst ds) (.ref p) H' (by unfold dL; rw [e]; rfl) s ?_) fun x C dd H' e s rx => kx x C dd H' (by unfold dL; rw [e]; rfl) s rx
  have np : p ∉ O := r.dom.not hp
  exact .lst (by rw [mask_out np]; exact hl) (hr.mono (mask_sub fun q hq => List.mem_cons_of_mem _ hq))
theorem SE.toSR (h : SE K W own te f) : SR K W own te f := fun H0 O σ H ρ Q r nb k kx => h H0 O σ H ρ Q r nb (fun d v H' e s q => k d v H' e s (q.mono mask_same)) kx
/-! ### bind -/
theorem bind_nb {α β : Type} {a : Res α} {k : α → Res β} (h : a.bind k ≠ .bad) : a ≠ .bad := fun e => h (by rw [e]; rfl)
theorem bind_nb2 {α β : Type} {a : Res α} {k : α → Res β} {x : α} (h : a.bind k ≠ .bad) (e : a = .ok x) : k x ≠ .bad := fun e2 => h (by rw [e]; exact e2)
/-- one expression, then what follows -/
theorem SE.then_ {β : Type} {g : D → Res β} (h : SE K W own te f) {H0 : Bs} {O : List Addr} {σ : L2.St} {H : Hp} {ρ : Env} {Q : VK} (r : Rel K H0 own O σ H ρ) (nb : (f ρ).bind g ≠ .bad)
    (k : ∀ d v H', f ρ = .ok d → Same H H' → Rel K H0 own O σ H' ρ → Rep K (mask O H') v d → g d ≠ .bad → Q v H') (kx : ∀ x C dd H', (f ρ).bind g = .exc x → Same H H' → RepX K (mask O H') C dd x → W C dd σ H') : te σ H Q :=
  h H0 O σ H ρ Q r (bind_nb nb) (fun d v H' e s q => k d v H' e s (r.mono s) q (bind_nb2 nb e)) fun x C dd H' e s rx => kx x C dd H' (by rw [e]; rfl) s rx
theorem SR.then_ {β : Type} {g : D → Res β} (h : SR K W own te f) {H0 : Bs} {O : List Addr} {σ : L2.St} {H : Hp} {ρ : Env} {Q : VK} (r : Rel K H0 own O σ H ρ) (nb : (f ρ).bind g ≠ .bad)
    (k : ∀ d v H', f ρ = .ok d → Same H H' → Rel K H0 own O σ H' ρ → Rep K H' v d → g d ≠ .bad → Q v H') (kx : ∀ x C dd H', (f ρ).bind g = .exc x → Same H H' → RepX K (mask O H') C dd x → W C dd σ H') : te σ H Q :=
  h H0 O σ H ρ Q r (bind_nb nb) (fun d v H' e s q => k d v H' e s (r.mono s) q (bind_nb2 nb e)) fun x C dd H' e s rx => kx x C dd H' (by rw [e]; rfl) s rx
theorem ST.then_ {β : Type} {ft : Env → Res Bool} {g : Bool → Res β} (h : ST K W own tt ft) {H0 : Bs} {O : List Addr} {σ : L2.St} {H : Hp} {ρ : Env} {Q : Bool → Hp → Prop} (r : Rel K H0 own O σ H ρ) (nb : (ft ρ).bind g ≠ .bad)
    (k : ∀ b H', ft ρ = .ok b → Same H H' → Rel K H0 own O σ H' ρ → g b ≠ .bad → Q b H') (kx : ∀ x C dd H', (ft ρ).bind g = .exc x → Same H H' → RepX K (mask O H') C dd x → W C dd σ H') : tt σ H Q :=
  h H0 O σ H ρ Q r (bind_nb nb) (fun b H' e s => k b H' e s (r.mono s) (bind_nb2 nb e)) fun x C dd H' e s rx => kx x C dd H' (by rw [e]; rfl) s rx
theorem SA.then_ {β : Type} {ta : TA} {fa : Env → Res (List D)} {g : List D → Res β} (h : SA K W own ta fa) {H0 : Bs} {O : List Addr} {σ : L2.St} {H : Hp} {ρ : Env} {Q : List V → Hp → Prop} (r : Rel K H0 own O σ H ρ) (nb : (fa ρ).bind g ≠ .bad)
    (k : ∀ ds vs H', fa ρ = .ok ds → Same H H' → Rel K H0 own O σ H' ρ → Reps K (mask O H') vs ds → g ds ≠ .bad → Q vs H') (kx : ∀ x C dd H', (fa ρ).bind g = .exc x → Same H H' → RepX K (mask O H') C dd x → W C dd σ H') : ta σ H Q :=
  h H0 O σ H ρ Q r (bind_nb nb) (fun ds vs H' e s q => k ds vs H' e s (r.mono s) q (bind_nb2 nb e)) fun x C dd H' e s rx => kx x C dd H' (by rw [e]; rfl) s rx
theorem SF.then_ {β : Type} {fa : Env → Res (List D)} {g : List D → Res β} (h : SF K W own te fa) {H0 : Bs} {O : List Addr} {σ : L2.St} {H : Hp} {ρ : Env} {Q : VK} (r : Rel K H0 own O σ H ρ) (nb : (fa ρ).bind g ≠ .bad)
    (k : ∀ ds p vs H', fa ρ = .ok ds → Same H H' → H p = none → H' p = some (.lst vs) → Reps K (mask (p :: O) H') vs ds → g ds ≠ .bad → Q (.ref p) H') (kx : ∀ x C dd H', (fa ρ).bind g = .exc x → Same H H' → RepX K (mask O H') C dd x → W C dd σ H') : te σ H Q :=
  h H0 O σ H ρ Q r (bind_nb nb) (fun ds p vs H' e s a b c => k ds p vs H' e s a b c (bind_nb2 nb e)) fun x C dd H' e s rx => kx x C dd H' (by rw [e]; rfl) s rx

/-! ### names, constants -/
def dV (i : Nat) (ρ : Env) : Res D := match ρ[i]? with
  | some (some d) => .ok d
  | _ => .bad
theorem dV_ok {i : Nat} {ρ : Env} (h : dV i ρ ≠ .bad) : ∃ d, ρ[i]? = some (some d) ∧ dV i ρ = .ok d := by
  unfold dV at h ⊢
  cases e : ρ[i]? with
  | none => rw [e] at h; exact absurd rfl h
  | some o => cases o with
    | none => rw [e] at h; exact absurd rfl h
    | some d => exact ⟨d, rfl, rfl⟩
theorem se_var {i : Nat} (n : i ∉ own) : SE K W own (tVar i) (dV i) := fun H0 O σ H ρ Q r nb k _ => by
  obtain ⟨d, e1, e2⟩ := dV_ok nb
  obtain ⟨v, a, b⟩ := r.slot i d e1 n
  exact ⟨v, a, k d v H e2 (Same.refl H) b⟩
theorem sr_var {i : Nat} : SR K W own (tVar i) (dV i) := fun H0 O σ H ρ Q r nb k _ => by
  obtain ⟨d, e1, e2⟩ := dV_ok nb
  by_cases n : i ∈ own
  · obtain ⟨p, vs, ds, a, b, c, f, g, _⟩ := r.owned i d e1 n
    subst b
    exact ⟨_, a, k _ _ H e2 (Same.refl H) (.lst f (g.mono mask_same))⟩
  · obtain ⟨v, a, b⟩ := r.slot i d e1 n
    exact ⟨v, a, k d v H e2 (Same.refl H) (b.mono mask_same)⟩
def dC (d : D) (_ : Env) : Res D := .ok d
theorem se_int {i : Int} : SE K W own (tC (.int i)) (dC (.int i)) := fun H0 O σ H ρ Q r nb k _ => k _ _ H rfl (Same.refl H) (.int i)
theorem se_bl {b : Bool} : SE K W own (tC (.bl b)) (dC (.bl b)) := fun H0 O σ H ρ Q r nb k _ => k _ _ H rfl (Same.refl H) (.bl b)
theorem se_str {x : Str} : SE K W own (tC (.str x)) (dC (.str x)) := fun H0 O σ H ρ Q r nb k _ => k _ _ H rfl (Same.refl H) (.str x)
theorem se_non : SE K W own (tC .non) (dC .non) := fun H0 O σ H ρ Q r nb k _ => k _ _ H rfl (Same.refl H) .non

/-! ### operations whose answer is a scalar -/
def scaV : D → Option V
  | .non => some .non
  | .bl b => some (.bl b)
  | .int i => some (.int i)
  | .str x => some (.str x)
  | _ => none
theorem Rep.of_sca {H : Hp} {d : D} {v : V} (h : scaV d = some v) : Rep K H v d := by
  cases d <;> simp only [scaV, Option.some.injEq] at h <;> first | (subst h; constructor) | cases h
theorem Rep.sca {H : Hp} {d : D} {v w : V} (r : Rep K H v d) (h : scaV d = some w) : v = w := by
  cases r <;> simp only [scaV, Option.some.injEq] at h <;> first | exact h | cases h
def ofO {α : Type} : Option α → Res α
  | some d => .ok d
  | none => .bad
@[simp] theorem ofO_some {α : Type} {a : α} : ofO (some a) = .ok a := rfl
@[simp] theorem ofO_none {α : Type} : ofO (none : Option α) = .bad := rfl
theorem ofO_nb {α : Type} {o : Option α} (h : ofO o ≠ .bad) : ∃ a, o = some a := by
  cases o with
  | none => exact absurd rfl h
  | some a => exact ⟨a, rfl⟩
theorem ofO_ne {α : Type} {o : Option α} {x : Exn} (h : ofO o = .exc x) : False := by cases o <;> cases h
def d2 (op : D → D → Option D) (fa fb : Env → Res D) (ρ : Env) : Res D := (fa ρ).bind fun a => (fb ρ).bind fun b => ofO (op a b)
def d1 (op : D → Option D) (fa : Env → Res D) (ρ : Env) : Res D := (fa ρ).bind fun a => ofO (op a)
/-- the machine does op, told by scalars -/
def OpS (K : Fg) (r : R2) (op : D → D → Option D) : Prop := ∀ (H : Hp) (x y : V) (a b c : D), Rep K H x a → Rep K H y b → op a b = some c → ∃ w, scaV c = some w ∧ ∀ Q : VK, Q w H → r x y H Q
def UnS (K : Fg) (r : V → Hp → VK → Prop) (op : D → Option D) : Prop := ∀ (H : Hp) (x : V) (a c : D), Rep K H x a → op a = some c → ∃ w, scaV c = some w ∧ ∀ Q : VK, Q w H → r x H Q
def CallS (K : Fg) (r : List V → Hp → VK → Prop) (op : List D → Option D) : Prop := ∀ (H : Hp) (xs : List V) (as : List D) (c : D), Reps K H xs as → op as = some c → ∃ w, scaV c = some w ∧ ∀ Q : VK, Q w H → r xs H Q
theorem se_op {r : R2} {op : D → D → Option D} (hr : OpS K r op) (ha : SR K W own ta fa) (hb : SR K W own tb fb) : SE K W own (tOp r ta tb) (d2 op fa fb) := fun H0 O σ H ρ Q rl nb k kx => by
  refine ha.then_ rl nb (fun a x H1 e1 s1 rl1 ra nb1 => ?_) kx
  have ed : d2 op fa fb ρ = (fb ρ).bind fun b => ofO (op a b) := by unfold d2; rw [e1]; rfl
  refine hb.then_ rl1 nb1 (fun b y H2 e2 s2 rl2 rb nb2 => ?_) fun x C dd H' e s rx => kx x C dd H' (by rw [ed]; exact e) (s1.trans s) rx
  obtain ⟨c, ec⟩ := ofO_nb nb2
  obtain ⟨w, hw, hq⟩ := hr H2 x y a b c (ra.mono s2) rb ec
  exact hq Q (k c w H2 (by rw [ed, e2]; show ofO (op a b) = _; rw [ec]; rfl) (s1.trans s2) (Rep.of_sca hw))
theorem se_un {r : V → Hp → VK → Prop} {op : D → Option D} (hr : UnS K r op) (ha : SR K W own ta fa) : SE K W own (tUn r ta) (d1 op fa) := fun H0 O σ H ρ Q rl nb k kx => by
  refine ha.then_ rl nb (fun a x H1 e1 s1 rl1 ra nb1 => ?_) kx
  obtain ⟨c, ec⟩ := ofO_nb nb1
  obtain ⟨w, hw, hq⟩ := hr H1 x a c ra ec
  exact hq Q (k c w H1 (by unfold d1; rw [e1]; show ofO (op a) = _; rw [ec]; rfl) s1 (Rep.of_sca hw))
/-! ### arguments -/
def dNil (_ : Env) : Res (List D) := .ok []
def dCons (fa : Env → Res D) (fs : Env → Res (List D)) (ρ : Env) : Res (List D) := (fa ρ).bind fun a => (fs ρ).bind fun as => .ok (a :: as)
theorem sa_nil : SA K W own tNil dNil := fun H0 O σ H ρ Q rl nb k kx => k [] [] H rfl (Same.refl H) .nil
theorem sa_cons {ts : TA} {fs : Env → Res (List D)} (ha : SE K W own ta fa) (hs : SA K W own ts fs) : SA K W own (tCons ta ts) (dCons fa fs) := fun H0 O σ H ρ Q rl nb k kx => by
  refine ha.then_ rl nb (fun a x H1 e1 s1 rl1 ra nb1 => ?_) kx
  have ed : dCons fa fs ρ = (fs ρ).bind fun as => .ok (a :: as) := by unfold dCons; rw [e1]; rfl
  refine hs.then_ rl1 nb1 (fun as xs H2 e2 s2 rl2 rb nb2 => ?_) fun x C dd H' e s rx => kx x C dd H' (by rw [ed]; exact e) (s1.trans s) rx
  exact k (a :: as) (x :: xs) H2 (by rw [ed, e2]; rfl) (s1.trans s2) (.cons (ra.mono (mask_mono s2)) rb)
/-- arguments that are only looked at -/
def SAR (K : Fg) (W : WX) (own : List Nat) (ta : TA) (f : Env → Res (List D)) : Prop :=
  ∀ (H0 : Bs) (O : List Addr) (σ : L2.St) (H : Hp) (ρ : Env) (Q : List V → Hp → Prop), Rel K H0 own O σ H ρ → f ρ ≠ .bad →
    (∀ ds vs H', f ρ = .ok ds → Same H H' → Reps K H' vs ds → Q vs H') →
    (∀ x C dd H', f ρ = .exc x → Same H H' → RepX K (mask O H') C dd x → W C dd σ H') → ta σ H Q
theorem sar_nil : SAR K W own tNil dNil := fun H0 O σ H ρ Q rl nb k kx => k [] [] H rfl (Same.refl H) .nil
theorem sar_cons {ts : TA} {fs : Env → Res (List D)} (ha : SR K W own ta fa) (hs : SAR K W own ts fs) : SAR K W own (tCons ta ts) (dCons fa fs) := fun H0 O σ H ρ Q rl nb k kx => by
  refine ha.then_ rl nb (fun a x H1 e1 s1 rl1 ra nb1 => ?_) kx
  have ed : dCons fa fs ρ = (fs ρ).bind fun as => .ok (a :: as) := by unfold dCons; rw [e1]; rfl
  refine hs H0 O σ H1 ρ _ rl1 (bind_nb nb1) (fun as xs H2 e2 s2 rb => ?_) fun x C dd H' e s rx => kx x C dd H' (by rw [ed, e]; rfl) (s1.trans s) rx
  exact k (a :: as) (x :: xs) H2 (by rw [ed, e2]; rfl) (s1.trans s2) (.cons (ra.mono s2) rb)
/-- a built-in's call by values, the answer a scalar -/
def dB (op : List D → Option D) (fs : Env → Res (List D)) (ρ : Env) : Res D := (fs ρ).bind fun as => ofO (op as)
theorem se_call {r : List V → Hp → VK → Prop} {op : List D → Option D} {ts : TA} {fs : Env → Res (List D)} (hr : CallS K r op) (hs : SAR K W own ts fs) : SE K W own (tCB r ts) (dB op fs) := fun H0 O σ H ρ Q rl nb k kx => by
  refine hs H0 O σ H ρ _ rl (bind_nb nb) (fun as xs H2 e2 s2 rb => ?_) fun x C dd H' e s rx => kx x C dd H' (by unfold dB; rw [e]; rfl) s rx
  have nb2 := bind_nb2 nb e2
  obtain ⟨c, ec⟩ := ofO_nb nb2
  obtain ⟨w, hw, hq⟩ := hr H2 xs as c rb ec
  exact hq Q (k c w H2 (by unfold dB; rw [e2]; show ofO (op as) = _; rw [ec]; rfl) s2 (Rep.of_sca hw))
/-! ### lists, tuples -/
def dLst (fs : Env → Res (List D)) (ρ : Env) : Res (List D) := (fs ρ).bind fun ds => if ds.length ≤ sizeLine then .ok ds else .bad
theorem sf_lst {ts : TA} {fs : Env → Res (List D)} (hs : SA K W own ts fs) : SF K W own (tLst ts) (dLst fs) := fun H0 O σ H ρ Q rl nb k kx => by
  refine hs.then_ rl nb (fun ds vs H1 e1 s1 rl1 rv nb1 => ?_) kx
  have hz : ds.length ≤ sizeLine := by
    by_cases c : ds.length ≤ sizeLine
    · exact c
    · rw [if_neg c] at nb1; exact absurd rfl nb1
  refine ⟨by rw [rv.length]; exact hz, fun p hp => ?_⟩
  exact k ds p vs _ (by unfold dLst; rw [e1]; show (if _ then _ else _) = _; rw [if_pos hz]) (s1.trans (Same.new hp)) (s1.free hp) upd_same (rv.mono (mask_new hp))
def dTup (fs : Env → Res (List D)) (ρ : Env) : Res D := (fs ρ).bind fun ds => if ds.length ≤ sizeLine then .ok (.tup ds) else .bad
theorem se_tup {ts : TA} {fs : Env → Res (List D)} (hs : SA K W own ts fs) : SE K W own (tTup ts) (dTup fs) := fun H0 O σ H ρ Q rl nb k kx => by
  refine hs.then_ rl nb (fun ds vs H1 e1 s1 rl1 rv nb1 => ?_) kx
  have hz : ds.length ≤ sizeLine := by
    by_cases c : ds.length ≤ sizeLine
    · exact c
    · rw [if_neg c] at nb1; exact absurd rfl nb1
  refine ⟨by rw [rv.length]; exact hz, fun p hp => ?_⟩
  have np : p ∉ O := rl1.dom.not hp
  exact k (.tup ds) (.ref p) _ (by unfold dTup; rw [e1]; show (if _ then _ else _) = _; rw [if_pos hz]) (s1.trans (Same.new hp)) (.tup (SqT.of (by rw [mask_out np]; exact upd_same)) (rv.mono (mask_mono (Same.new hp))))
end
end PL
namespace PL
open PySem PySem.Spec PyProof.Rows L2
/-! ### operators -/
section
variable {X : Cx} {K : Fg}
/-- ints in, an int out, under a condition -/
def oI (C : Int → Int → Prop) [∀ i j, Decidable (C i j)] (g : Int → Int → Int) : D → D → Option D
  | .int i, .int j => if C i j then some (.int (g i j)) else none
  | _, _ => none
theorem oS_I {C : Int → Int → Prop} [∀ i j, Decidable (C i j)] {g : Int → Int → Int} : OpS K (rI C fun i j => .int (g i j)) (oI C g) := fun H x y a b c ra rb e => by
  cases ra <;> cases rb <;> simp only [oI] at e <;> try cases e
  rename_i i j
  by_cases h : C i j
  · rw [if_pos h] at e
    cases e
    exact ⟨_, rfl, fun Q q => ⟨i, j, rfl, rfl, h, q⟩⟩
  · rw [if_neg h] at e; cases e
def rAdd : R2 := fun x y H Q => rI0 (fun i j => .int (i + j)) x y H Q ∨ ∃ i j, x = .str i ∧ y = .str j ∧ i.length + j.length ≤ sizeLine ∧ Q (.str (i ++ j)) H
theorem op_addU : OpR X (binaryOp .Add) rAdd := op_add.or op_add_str
def oAdd : D → D → Option D
  | .int i, .int j => some (.int (i + j))
  | .str x, .str y => if x.length + y.length ≤ sizeLine then some (.str (x ++ y)) else none
  | _, _ => none
theorem oS_add : OpS K rAdd oAdd := fun H x y a b c ra rb e => by
  cases ra <;> cases rb <;> simp only [oAdd] at e <;> try cases e
  · exact ⟨_, rfl, fun Q q => .inl ⟨_, _, rfl, rfl, q⟩⟩
  · rename_i i j
    by_cases h : i.length + j.length ≤ sizeLine
    · rw [if_pos h] at e
      cases e
      exact ⟨_, rfl, fun Q q => .inr ⟨_, _, rfl, rfl, h, q⟩⟩
    · rw [if_neg h] at e; cases e
/-- ints in, under no condition -/
def oI0 (g : Int → Int → D) : D → D → Option D
  | .int i, .int j => some (g i j)
  | _, _ => none
theorem oS_I0 {g : Int → Int → Int} : OpS K (rI0 fun i j => .int (g i j)) (oI0 fun i j => .int (g i j)) := fun H x y a b c ra rb e => by
  cases ra <;> cases rb <;> simp only [oI0] at e <;> try cases e
  exact ⟨_, rfl, fun Q q => ⟨_, _, rfl, rfl, q⟩⟩
theorem oS_B0 {g : Int → Int → Bool} : OpS K (rI0 fun i j => .bl (g i j)) (oI0 fun i j => .bl (g i j)) := fun H x y a b c ra rb e => by
  cases ra <;> cases rb <;> simp only [oI0] at e <;> try cases e
  exact ⟨_, rfl, fun Q q => ⟨_, _, rfl, rfl, q⟩⟩
abbrev oSub := oI0 fun i j => .int (i - j)
abbrev oLt := oI0 fun i j => .bl (decide (i < j))
abbrev oLe := oI0 fun i j => .bl (decide (i ≤ j))
abbrev oGt := oI0 fun i j => .bl (decide (j < i))
abbrev oGe := oI0 fun i j => .bl (decide (j ≤ i))
abbrev oAnd := oI0 fun i j => .int (Builtin.bitAnd i j)
abbrev oOr := oI0 fun i j => .int (Builtin.bitOr i j)
abbrev oXor := oI0 fun i j => .int (Builtin.bitXor i j)
/-- * : one factor below 2 ^ 64 -/
noncomputable instance decMul (i j : Int) : Decidable (CMul i j) := Classical.propDecidable _
noncomputable instance decMulW (i j : Int) : Decidable (CMulW i j) := Classical.propDecidable _
noncomputable instance decDivW (i j : Int) : Decidable (CDivW i j) := Classical.propDecidable _
noncomputable instance decPow (i j : Int) : Decidable (CPow i j) := Classical.propDecidable _
noncomputable instance decShl (i j : Int) : Decidable (CShl i j) := Classical.propDecidable _
def CMulU (i j : Int) : Prop := CMul i j ∨ CMulW i j
noncomputable instance decMulU (i j : Int) : Decidable (CMulU i j) := Classical.propDecidable _
theorem op_mulU : OpR X (binaryOp .Mult) (rI CMulU fun i j => .int (i * j)) := opI fun _ _ _ _ _ _ _ hc q => mul_int q (hc.elim (fun h => h.ok) fun h => h.ok)
noncomputable abbrev oMul := oI CMulU fun i j => i * j
noncomputable abbrev oFdiv := oI CDivW fun i j => i / j
abbrev oMod := oI (fun _ j => 0 < j) fun i j => i % j
noncomputable abbrev oPow := oI CPow fun i j => i ^ j.toNat
noncomputable abbrev oShl := oI CShl fun i j => i * 2 ^ j.toNat
abbrev oShr := oI (fun _ j => 0 ≤ j) fun i j => i / 2 ^ j.toNat
def oNeg : D → Option D
  | .int i => some (.int (-i))
  | _ => none
theorem uS_neg : UnS K (rU fun i => .int (-i)) oNeg := fun H x a c ra e => by
  cases ra <;> simp only [oNeg] at e <;> try cases e
  exact ⟨_, rfl, fun Q q => ⟨_, rfl, q⟩⟩
/-! ### == -/
mutual
def D.py : D → Option PyData
  | .non => some .none
  | .bl b => some (.bool b)
  | .int i => some (.int i)
  | .str x => some (.str x)
  | .lst xs => (D.pys xs).map .list
  | .tup xs => (D.pys xs).map .tuple
  | .scr ns => some (.list (ns.map .int))
  | .obj _ _ _ => none
  | .exc _ _ => none
def D.pys : List D → Option (List PyData)
  | [] => some []
  | d :: ds => match d.py, D.pys ds with
    | some x, some xs => some (x :: xs)
    | _, _ => none
end
theorem dp_ints {H : Hp} : ∀ ns : List Int, DpAll K H (ns.map V.int) (ns.map PyData.int)
  | [] => .nil
  | n :: ns => .cons (.int n) (dp_ints ns)
mutual
theorem Rep.dp {H : Hp} : ∀ {v : V} {d : D} {e : PyData}, Rep K H v d → d.py = some e → Dp K H v e
  | _, _, _, .non, h => by cases h; exact .non
  | _, _, _, .bl b, h => by cases h; exact .bl b
  | _, _, _, .int i, h => by cases h; exact .int i
  | _, _, _, .str x, h => by cases h; exact .str x
  | _, _, _, .lst ha r, h => by
    simp only [D.py, Option.map_eq_some_iff] at h
    obtain ⟨es, h1, rfl⟩ := h
    exact .lst (SqL.of ha) (Reps.dp r h1)
  | _, _, _, .tup ha r, h => by
    simp only [D.py, Option.map_eq_some_iff] at h
    obtain ⟨es, h1, rfl⟩ := h
    exact .tup ha (Reps.dp r h1)
  | _, _, _, .scr ha, h => by cases h; exact .lst ha (dp_ints _)
  | _, _, _, .obj _ _ _, h => by cases h
  | _, _, _, .exc0 _ _, h => by cases h
  | _, _, _, .exc1 _ _ _ _, h => by cases h
theorem Reps.dp {H : Hp} : ∀ {vs : List V} {ds : List D} {es : List PyData}, Reps K H vs ds → D.pys ds = some es → DpAll K H vs es
  | _, _, _, .nil, h => by cases h; exact .nil
  | _, _, _, .cons (d := d) (ds := ds) r t, h => by
    simp only [D.pys] at h
    cases e1 : d.py with
    | none => rw [e1] at h; cases h
    | some x =>
      cases e2 : D.pys ds with
      | none => rw [e1, e2] at h; cases h
      | some xs =>
        rw [e1, e2] at h
        cases h
        exact .cons (Rep.dp r e1) (Reps.dp t e2)
end
def eqD (a b : D) : Option Bool := match a.py, b.py with
  | some x, some y => if SeqAt.shaped x = true ∧ SeqAt.shaped y = true then some (PyData.eqv x y) else none
  | _, _ => none
def oEq (a b : D) : Option D := (eqD a b).map .bl
def oNe (a b : D) : Option D := (eqD a b).map fun c => .bl (!c)
theorem eqD_some {a b : D} {c : Bool} (h : eqD a b = some c) : ∃ x y, a.py = some x ∧ b.py = some y ∧ SeqAt.shaped x = true ∧ SeqAt.shaped y = true ∧ c = PyData.eqv x y := by
  unfold eqD at h
  cases e1 : a.py with
  | none => rw [e1] at h; cases h
  | some x =>
    cases e2 : b.py with
    | none => rw [e1, e2] at h; cases h
    | some y =>
      rw [e1, e2] at h
      dsimp only at h
      by_cases s : SeqAt.shaped x = true ∧ SeqAt.shaped y = true
      · rw [if_pos s] at h
        cases h
        exact ⟨x, y, rfl, rfl, s.1, s.2, rfl⟩
      · rw [if_neg s] at h; cases h
theorem oS_eq : OpS K (rEqD K) oEq := fun H x y a b c ra rb e => by
  unfold oEq at e
  obtain ⟨k, h, rfl⟩ := Option.map_eq_some_iff.mp e
  obtain ⟨d, f, h1, h2, h3, h4, h5⟩ := eqD_some h
  subst h5
  exact ⟨_, rfl, fun Q q => ⟨d, f, ra.dp h1, rb.dp h2, h3, h4, q⟩⟩
theorem oS_ne : OpS K (rNeD K) oNe := fun H x y a b c ra rb e => by
  unfold oNe at e
  obtain ⟨k, h, rfl⟩ := Option.map_eq_some_iff.mp e
  obtain ⟨d, f, h1, h2, h3, h4, h5⟩ := eqD_some h
  subst h5
  exact ⟨_, rfl, fun Q q => ⟨d, f, ra.dp h1, rb.dp h2, h3, h4, q⟩⟩
/-! ### is None -/
def oIsN (neg : Bool) : D → Option D
  | .non => some (.bl (!neg))
  | _ => some (.bl neg)
def rIsNone (neg : Bool) (ta : TE) : TE := if neg then tNotN ta else tIsN ta
theorem Rep.non_iff {H : Hp} {v : V} {d : D} (r : Rep K H v d) : decide (v = .non) = (match d with | .non => true | _ => false) := by cases r <;> simp
theorem se_isN {W : WX} {own : List Nat} {ta : TE} {fa : Env → Res D} (ha : SR K W own ta fa) : SE K W own (tIsN ta) (d1 (oIsN false) fa) := fun H0 O σ H ρ Q rl nb k kx => by
  refine ha.then_ rl nb (fun a x H1 e1 s1 rl1 ra nb1 => ?_) kx
  rw [ra.non_iff]
  refine k _ _ H1 ?_ s1 (.bl _)
  unfold d1; rw [e1]
  cases a <;> rfl
theorem se_notN {W : WX} {own : List Nat} {ta : TE} {fa : Env → Res D} (ha : SR K W own ta fa) : SE K W own (tNotN ta) (d1 (oIsN true) fa) := fun H0 O σ H ρ Q rl nb k kx => by
  refine ha.then_ rl nb (fun a x H1 e1 s1 rl1 ra nb1 => ?_) kx
  rw [ra.non_iff]
  refine k _ _ H1 ?_ s1 (.bl _)
  unfold d1; rw [e1]
  cases a <;> rfl
/-! ### built-ins -/
def rLenU (K : Fg) : List V → Hp → VK → Prop := fun xs H Q => ∃ x n, xs = [x] ∧ LenV K x H n ∧ Q (.int n) H
def oLen : List D → Option D
  | [.lst xs] => some (.int xs.length)
  | [.tup xs] => some (.int xs.length)
  | [.scr ns] => some (.int ns.length)
  | [.str x] => if x.length ≤ sizeLine then some (.int x.length) else none
  | _ => none
theorem cS_len : CallS K (rLenU K) oLen := fun H xs as c r e => by
  cases r with
  | nil => cases e
  | cons r1 r2 =>
    cases r2 with
    | cons _ _ => cases r1 <;> cases e
    | nil =>
      cases r1 with
      | non => cases e
      | bl b => cases e
      | int i => cases e
      | obj _ _ _ => cases e
      | exc0 _ _ => cases e
      | exc1 _ _ _ _ => cases e
      | str x =>
        simp only [oLen] at e
        by_cases h : x.length ≤ sizeLine
        · rw [if_pos h] at e; cases e
          exact ⟨_, rfl, fun Q q => ⟨_, _, rfl, ⟨h, rfl⟩, q⟩⟩
        · rw [if_neg h] at e; cases e
      | lst ha hr => cases e; exact ⟨_, rfl, fun Q q => ⟨_, _, rfl, .inl ⟨_, SqL.of ha, hr.length.symm⟩, q⟩⟩
      | tup ha hr => cases e; exact ⟨_, rfl, fun Q q => ⟨_, _, rfl, .inr ⟨_, ha, hr.length.symm⟩, q⟩⟩
      | scr ha => cases e; exact ⟨_, rfl, fun Q q => ⟨_, _, rfl, .inl ⟨_, ha, by simp⟩, q⟩⟩
/-- what a flat value is worth as a test -/
def truD : D → Option Bool
  | .non => some false
  | .bl b => some b
  | .int i => some (i != 0)
  | _ => none
def truV : V → Option Bool
  | .non => some false
  | .bl b => some b
  | .int i => some (i != 0)
  | _ => none
def truL : List D → Option (List Bool)
  | [] => some []
  | d :: ds => match truD d, truL ds with
    | some b, some bs => some (b :: bs)
    | _, _ => none
def truVL : List V → Option (List Bool)
  | [] => some []
  | d :: ds => match truV d, truVL ds with
    | some b, some bs => some (b :: bs)
    | _, _ => none
theorem Rep.tru {H : Hp} {v : V} {d : D} (r : Rep K H v d) : ∀ {b : Bool}, truD d = some b → truV v = some b := by
  intro b h
  cases r <;> simp only [truD] at h <;> first | exact h | cases h
theorem Reps.tru {H : Hp} : ∀ {vs : List V} {ds : List D} {bs : List Bool}, Reps K H vs ds → truL ds = some bs → truVL vs = some bs
  | _, _, _, .nil, h => h
  | _, _, _, .cons (d := d) (ds := ds) r t, h => by
    simp only [truL] at h
    cases e1 : truD d with
    | none => rw [e1] at h; cases h
    | some b =>
      cases e2 : truL ds with
      | none => rw [e1, e2] at h; cases h
      | some bs' =>
        rw [e1, e2] at h
        cases h
        simp only [truVL, Rep.tru r e1, Reps.tru t e2]
theorem truVL_length : ∀ {vs : List V} {bs : List Bool}, truVL vs = some bs → vs.length = bs.length
  | [], bs, h => by cases h; rfl
  | v :: vs, bs, h => by
    simp only [truVL] at h
    cases e1 : truV v with
    | none => rw [e1] at h; cases h
    | some b =>
      cases e2 : truVL vs with
      | none => rw [e1, e2] at h; cases h
      | some bs' =>
        rw [e1, e2] at h
        cases h
        rw [List.length_cons, List.length_cons, truVL_length e2]
theorem truVL_get : ∀ {vs : List V} {bs : List Bool} {i : Nat} {v : V}, truVL vs = some bs → vs[i]? = some v → truV v = some (bs.getD i false)
  | [], bs, i, v, h, hv => by simp at hv
  | v :: vs, bs, i, x, h, hv => by
    simp only [truVL] at h
    cases e1 : truV v with
    | none => rw [e1] at h; cases h
    | some b =>
      cases e2 : truVL vs with
      | none => rw [e1, e2] at h; cases h
      | some bs' =>
        rw [e1, e2] at h
        cases h
        cases i with
        | zero => simp at hv; subst hv; simpa using e1
        | succ i => simpa using truVL_get (i := i) e2 (by simpa using hv)
theorem Vals.getV : ∀ {xs : List V} {us : List Value} {i : Nat} {u : Value}, Vals xs us → us[i]? = some u → ∃ v, xs[i]? = some v ∧ RelV v u
  | _, _, _, _, .nil, e => by simp at e
  | _, _, 0, _, .cons r _, e => by simp at e; subst e; exact ⟨_, rfl, r⟩
  | _, _, i + 1, x, .cons _ t, e => by
    obtain ⟨u, h1, h2⟩ := Vals.getV (i := i) (u := x) t (by simpa using e)
    exact ⟨u, by simpa using h1, h2⟩
theorem truth_vals {prog : Program} {w : World} {A : Around} {bs : List Bool} {xs : List V} {its : List Value} (hv : Vals xs its) (hb : truVL xs = some bs) :
    TruthOf prog w A (fun i v => its.toArray[i]? = some v) (fun i => bs.getD i false) := fun i v s Q E he hq => by
  have he' : its[i]? = some v := by simpa using he
  obtain ⟨x, h1, h2⟩ := Vals.getV hv he'
  have h3 := truVL_get hb h1
  have hq' : Q (bs.getD i false) s := hq
  cases x with
  | non => cases h2; simp only [truV, Option.some.injEq] at h3; rw [← h3] at hq'; exact truthy_none hq'
  | bl b => cases h2; simp only [truV, Option.some.injEq] at h3; rw [← h3] at hq'; exact wpAny_truthy_bool hq'
  | int i => obtain ⟨t, rfl⟩ := h2; simp only [truV, Option.some.injEq] at h3; rw [← h3] at hq'; exact PySem.P.truthy_int hq'
  | _ => cases h3
def rAnyV (K : Fg) : List V → Hp → VK → Prop := fun vs H Q => ∃ (a : Addr) (xs : List V) (bs : List Bool), vs = [V.ref a] ∧ SqL K H a xs ∧ truVL xs = some bs ∧ Q (.bl (bs.any id)) H
def rAllV (K : Fg) : List V → Hp → VK → Prop := fun vs H Q => ∃ (a : Addr) (xs : List V) (bs : List Bool), vs = [V.ref a] ∧ SqL K H a xs ∧ truVL xs = some bs ∧ Q (.bl (bs.all id)) H
theorem cr_anyV (hc : X.calm = true) : CallR X (.builtin "any") (rAnyV X.K) := by
  intro pins s σ H vs us Q I r h
  obtain ⟨a, xs, bs, rfl, hs, hb, q⟩ := h
  obtain ⟨its, rv, hl, _⟩ := I.list hs
  rw [Vals.ref1 r]
  refine call_any_walk (iter_any hl.isList fun s₂ e2 st hne => ?_)
  subst e2
  refine ⟨_, _, _, _, _, _, _, rfl, Walks.list (A := X.A.in1) (I.ok.hd hc) _ a hne its.toArray, st, truth_vals rv hb, fun h' tk hk => ?_⟩
  refine ⟨.bl _, H, I.kept fun b o eo => hk b o (fun hmem => ?_) (Heap.get?_push_of_some _ eo), ?_, q⟩
  · rcases List.mem_cons.mp hmem with e1 | hmem
    · exact absurd (e1 ▸ Heap.lt_size eo) (Nat.lt_irrefl _)
    · cases hmem
  · show Value.bool _ = Value.bool _
    rw [← L2.any_range, List.size_toArray, ← rv.length, truVL_length hb]
theorem cr_allV (hc : X.calm = true) : CallR X (.builtin "all") (rAllV X.K) := by
  intro pins s σ H vs us Q I r h
  obtain ⟨a, xs, bs, rfl, hs, hb, q⟩ := h
  obtain ⟨its, rv, hl, _⟩ := I.list hs
  rw [Vals.ref1 r]
  refine call_all_walk (iter_any hl.isList fun s₂ e2 st hne => ?_)
  subst e2
  refine ⟨_, _, _, _, _, _, _, rfl, Walks.list (A := X.A.in1) (I.ok.hd hc) _ a hne its.toArray, st, truth_vals rv hb, fun h' tk hk => ?_⟩
  refine ⟨.bl _, H, I.kept fun b o eo => hk b o (fun hmem => ?_) (Heap.get?_push_of_some _ eo), ?_, q⟩
  · rcases List.mem_cons.mp hmem with e1 | hmem
    · exact absurd (e1 ▸ Heap.lt_size eo) (Nat.lt_irrefl _)
    · cases hmem
  · show Value.bool _ = Value.bool _
    rw [← L2.all_range, List.size_toArray, ← rv.length, truVL_length hb]
def oAny : List D → Option D
  | [.lst xs] => (truL xs).map fun bs => .bl (bs.any id)
  | _ => none
def oAll : List D → Option D
  | [.lst xs] => (truL xs).map fun bs => .bl (bs.all id)
  | _ => none
theorem reps1 {H : Hp} {vs : List V} {d : D} (r : Reps K H vs [d]) : ∃ v, vs = [v] ∧ Rep K H v d := by
  cases r with
  | cons a b => cases b; exact ⟨_, rfl, a⟩
theorem reps2 {H : Hp} {vs : List V} {d e : D} (r : Reps K H vs [d, e]) : ∃ v u, vs = [v, u] ∧ Rep K H v d ∧ Rep K H u e := by
  cases r with
  | cons a b =>
    obtain ⟨u, rfl, h⟩ := reps1 b
    exact ⟨_, u, rfl, a, h⟩
theorem cS_any : CallS K (rAnyV K) oAny := fun H xs as c r e => by
  unfold oAny at e
  split at e
  · obtain ⟨bs, h1, rfl⟩ := Option.map_eq_some_iff.mp e
    obtain ⟨v, rfl, rv⟩ := reps1 r
    cases rv with
    | lst ha hr => exact ⟨_, rfl, fun Q q => ⟨_, _, bs, rfl, SqL.of ha, hr.tru h1, q⟩⟩
  · cases e
theorem cS_all : CallS K (rAllV K) oAll := fun H xs as c r e => by
  unfold oAll at e
  split at e
  · obtain ⟨bs, h1, rfl⟩ := Option.map_eq_some_iff.mp e
    obtain ⟨v, rfl, rv⟩ := reps1 r
    cases rv with
    | lst ha hr => exact ⟨_, rfl, fun Q q => ⟨_, _, bs, rfl, SqL.of ha, hr.tru h1, q⟩⟩
  · cases e
def rMax2 : List V → Hp → VK → Prop := fun xs H Q => ∃ i j, xs = [.int i, .int j] ∧ Q (.int (if j > i then j else i)) H
def rMin2 : List V → Hp → VK → Prop := fun xs H Q => ∃ i j, xs = [.int i, .int j] ∧ Q (.int (if j < i then j else i)) H
def oMax2 : List D → Option D
  | [.int i, .int j] => some (.int (if j > i then j else i))
  | _ => none
def oMin2 : List D → Option D
  | [.int i, .int j] => some (.int (if j < i then j else i))
  | _ => none
theorem cS_max2 : CallS K rMax2 oMax2 := fun H xs as c r e => by
  unfold oMax2 at e
  split at e
  · cases e
    obtain ⟨v, u, rfl, rv, ru⟩ := reps2 r
    cases rv; cases ru
    exact ⟨_, rfl, fun Q q => ⟨_, _, rfl, q⟩⟩
  · cases e
theorem cS_min2 : CallS K rMin2 oMin2 := fun H xs as c r e => by
  unfold oMin2 at e
  split at e
  · cases e
    obtain ⟨v, u, rfl, rv, ru⟩ := reps2 r
    cases rv; cases ru
    exact ⟨_, rfl, fun Q q => ⟨_, _, rfl, q⟩⟩
  · cases e
def rInt1 : List V → Hp → VK → Prop := fun xs H Q => (∃ i, xs = [.int i] ∧ Q (.int i) H) ∨ ∃ k, xs = [.bl k] ∧ Q (.int (if k then 1 else 0)) H
def oInt : List D → Option D
  | [.int i] => some (.int i)
  | [.bl k] => some (.int (if k then 1 else 0))
  | _ => none
theorem cS_int : CallS K rInt1 oInt := fun H xs as c r e => by
  unfold oInt at e
  split at e
  · cases e
    obtain ⟨v, rfl, rv⟩ := reps1 r
    cases rv
    exact ⟨_, rfl, fun Q q => .inl ⟨_, rfl, q⟩⟩
  · cases e
    obtain ⟨v, rfl, rv⟩ := reps1 r
    cases rv
    exact ⟨_, rfl, fun Q q => .inr ⟨_, rfl, q⟩⟩
  · cases e
/-! ### isinstance against a built-in type -/
def tyD : D → Option String
  | .non => some "NoneType"
  | .bl _ => some "bool"
  | .int _ => some "int"
  | .str _ => some "str"
  | .lst _ => some "list"
  | .tup _ => some "tuple"
  | _ => none
def oIsTy (T : String) (d : D) : Option D := (tyD d).bind fun t => (kitB t T).map .bl
theorem tyX_of {H : Hp} {v : V} {d : D} {t : String} (r : Rep K H v d) (h : tyD d = some t) : TyX K H v (.type t) := by
  cases r with
  | non => cases h; exact .base .non
  | bl b => cases h; exact .base (.bl b)
  | int i => cases h; exact .base (.int i)
  | str x => cases h; exact .base (.str x)
  | lst ha hr => cases h; exact .base (.lst ha)
  | tup ha hr =>
    cases h
    rcases ha with (ha | ⟨o, ha⟩) | ⟨o, its, n, h1, h2, _⟩
    · exact .base (.tup ha)
    · exact .fTuple ha
    · exact .kTuple h1 h2
  | scr _ => cases h
  | obj _ _ _ => cases h
  | exc0 _ _ => cases h
  | exc1 _ _ _ _ => cases h
theorem se_isTy {W : WX} {own : List Nat} {ta : TE} {fa : Env → Res D} {T : String} (ha : SR K W own ta fa) : SE K W own (tCB (rIsi K) (tCons ta (tCons (tC (.ty T)) tNil))) (d1 (oIsTy T) fa) := fun H0 O σ H ρ Q rl nb k kx => by
  refine ha.then_ rl nb (fun a x H1 e1 s1 rl1 ra nb1 => ?_) kx
  obtain ⟨c, ec⟩ := ofO_nb nb1
  have ec' := ec
  unfold oIsTy at ec'
  cases ht : tyD a with
  | none => rw [ht] at ec'; cases ec'
  | some t =>
    rw [ht] at ec'
    obtain ⟨b, hb, rfl⟩ := Option.map_eq_some_iff.mp (show (kitB t T).map D.bl = some c from ec')
    show rIsi K [x, V.ty T] H1 Q
    exact ⟨x, .ty T, .type t, .type T, b, rfl, .ty T, tyX_of ra ht, kit_ty hb, k _ _ H1 (by unfold d1; rw [e1]; show ofO (oIsTy T a) = _; rw [ec]; rfl) s1 (.bl b)⟩
end
end PL
namespace PL
open PySem PySem.Spec PyProof.Rows L2
/-! ### what is looked into: a value, or an own list of such -/
def RepL (K : Fg) (O : List Addr) (H : Hp) (v : V) (d : D) : Prop := Rep K (mask O H) v d ∨ ∃ p vs ds, v = .ref p ∧ d = .lst ds ∧ H p = some (.lst vs) ∧ Reps K (mask O H) vs ds
theorem RepL.mono {K : Fg} {O : List Addr} {H H' : Hp} {v : V} {d : D} (r : RepL K O H v d) (e : Same H H') : RepL K O H' v d := by
  rcases r with r | ⟨p, vs, ds, h1, h2, h3, h4⟩
  · exact .inl (r.mono (mask_mono e))
  · exact .inr ⟨p, vs, ds, h1, h2, e _ _ h3, h4.mono (mask_mono e)⟩
theorem RepL.rep {K : Fg} {O : List Addr} {H : Hp} {v : V} {d : D} (r : RepL K O H v d) : Rep K H v d := by
  rcases r with r | ⟨p, vs, ds, h1, h2, h3, h4⟩
  · exact r.mono mask_same
  · subst h1; subst h2; exact .lst h3 (h4.mono mask_same)
/-- a list, its items in the mask -/
theorem RepL.lst {K : Fg} {O : List Addr} {H : Hp} {v : V} {ds : List D} (r : RepL K O H v (.lst ds)) : ∃ p vs, v = .ref p ∧ H p = some (.lst vs) ∧ Reps K (mask O H) vs ds := by
  rcases r with r | ⟨p, vs, ds', h1, h2, h3, h4⟩
  · cases r with
    | lst ha hr => exact ⟨_, _, rfl, mask_same _ _ ha, hr⟩
  · cases h2; exact ⟨p, vs, h1, h3, h4⟩
theorem RepL.tup {K : Fg} {O : List Addr} {H : Hp} {v : V} {ds : List D} (r : RepL K O H v (.tup ds)) : ∃ p vs, v = .ref p ∧ SqT K H p vs ∧ Reps K (mask O H) vs ds := by
  rcases r with r | ⟨p, vs, ds', h1, h2, h3, h4⟩
  · cases r with
    | tup ha hr => exact ⟨_, _, rfl, Same.sqT mask_same ha, hr⟩
  · cases h2
theorem RepL.scr {K : Fg} {O : List Addr} {H : Hp} {v : V} {ns : List Int} (r : RepL K O H v (.scr ns)) : ∃ p, v = .ref p ∧ SqL K H p (ns.map V.int) := by
  rcases r with r | ⟨p, vs, ds', h1, h2, h3, h4⟩
  · cases r with
    | scr ha => exact ⟨_, rfl, Same.sqL mask_same ha⟩
  · cases h2
theorem RepL.str {K : Fg} {O : List Addr} {H : Hp} {v : V} {x : Str} (r : RepL K O H v (.str x)) : v = .str x := by
  rcases r with r | ⟨p, vs, ds', h1, h2, h3, h4⟩
  · cases r; rfl
  · cases h2
theorem RepL.int {K : Fg} {O : List Addr} {H : Hp} {v : V} {x : Int} (r : RepL K O H v (.int x)) : v = .int x := by
  rcases r with r | ⟨p, vs, ds', h1, h2, h3, h4⟩
  · cases r; rfl
  · cases h2
def SL (K : Fg) (W : WX) (own : List Nat) (te : TE) (f : Env → Res D) : Prop :=
  ∀ (H0 : Bs) (O : List Addr) (σ : L2.St) (H : Hp) (ρ : Env) (Q : VK), Rel K H0 own O σ H ρ → f ρ ≠ .bad →
    (∀ d v H', f ρ = .ok d → Same H H' → RepL K O H' v d → Q v H') →
    (∀ x C dd H', f ρ = .exc x → Same H H' → RepX K (mask O H') C dd x → W C dd σ H') → te σ H Q
section
variable {K : Fg} {W : WX} {own : List Nat} {te ta tb : TE} {tt : TT} {f fa fb : Env → Res D}
theorem SE.toSL (h : SE K W own te f) : SL K W own te f := fun H0 O σ H ρ Q r nb k kx => h H0 O σ H ρ Q r nb (fun d v H' e s q => k d v H' e s (.inl q)) kx
theorem SL.toSR (h : SL K W own te f) : SR K W own te f := fun H0 O σ H ρ Q r nb k kx => h H0 O σ H ρ Q r nb (fun d v H' e s q => k d v H' e s q.rep) kx
theorem sl_var {i : Nat} : SL K W own (tVar i) (dV i) := fun H0 O σ H ρ Q r nb k _ => by
  obtain ⟨d, e1, e2⟩ := dV_ok nb
  by_cases n : i ∈ own
  · obtain ⟨p, vs, ds, a, b, c, f, g, _⟩ := r.owned i d e1 n
    exact ⟨_, a, k _ _ H e2 (Same.refl H) (.inr ⟨p, vs, ds, rfl, b, f, g⟩)⟩
  · obtain ⟨v, a, b⟩ := r.slot i d e1 n
    exact ⟨v, a, k d v H e2 (Same.refl H) (.inl b)⟩
theorem SL.then_ {β : Type} {g : D → Res β} (h : SL K W own te f) {H0 : Bs} {O : List Addr} {σ : L2.St} {H : Hp} {ρ : Env} {Q : VK} (r : Rel K H0 own O σ H ρ) (nb : (f ρ).bind g ≠ .bad)
    (k : ∀ d v H', f ρ = .ok d → Same H H' → Rel K H0 own O σ H' ρ → RepL K O H' v d → g d ≠ .bad → Q v H') (kx : ∀ x C dd H', (f ρ).bind g = .exc x → Same H H' → RepX K (mask O H') C dd x → W C dd σ H') : te σ H Q :=
  h H0 O σ H ρ Q r (bind_nb nb) (fun d v H' e s q => k d v H' e s (r.mono s) q (bind_nb2 nb e)) fun x C dd H' e s rx => kx x C dd H' (by rw [e]; rfl) s rx
/-! ### a[i] -/
def oIx : D → D → Option D
  | .lst xs, .int i => atI xs i
  | .tup xs, .int i => atI xs i
  | .scr ns, .int i => (atI ns i).map .int
  | .str z, .int i => if z.length ≤ sizeLine then (atI z.cps.toList i).map fun c => .str ⟨#[c]⟩ else none
  | _, _ => none
theorem atI_reps {H : Hp} {vs : List V} {ds : List D} {i : Int} {d : D} (r : Reps K H vs ds) (h : atI ds i = some d) : ∃ v, atI vs i = some v ∧ Rep K H v d := by
  unfold atI at h ⊢
  rw [r.length]
  cases e : ixN ds.length i with
  | none => rw [e] at h; cases h
  | some j =>
    rw [e] at h
    obtain ⟨v, h1, h2⟩ := r.get (i := j) (d := d) h
    exact ⟨v, h1, h2⟩
theorem atI_map {α β : Type} {g : α → β} {xs : List α} {i : Int} {x : α} (h : atI xs i = some x) : atI (xs.map g) i = some (g x) := by
  unfold atI at h ⊢
  rw [List.length_map]
  cases e : ixN xs.length i with
  | none => rw [e] at h; cases h
  | some j =>
    rw [e] at h
    have h' : xs[j]? = some x := h
    show (xs.map g)[j]? = some (g x)
    rw [List.getElem?_map, h']; rfl
theorem se_ix (ha : SL K W own ta fa) (hb : SR K W own tb fb) : SE K W own (tOp (rIx K) ta tb) (d2 oIx fa fb) := fun H0 O σ H ρ Q rl nb k kx => by
  refine ha.then_ rl nb (fun a x H1 e1 s1 rl1 ra nb1 => ?_) kx
  have ed : d2 oIx fa fb ρ = (fb ρ).bind fun b => ofO (oIx a b) := by unfold d2; rw [e1]; rfl
  refine hb.then_ rl1 nb1 (fun b y H2 e2 s2 rl2 rb nb2 => ?_) fun x C dd H' e s rx => kx x C dd H' (by rw [ed]; exact e) (s1.trans s) rx
  obtain ⟨c, ec⟩ := ofO_nb nb2
  have fin : ∀ v, Rep K (mask O H2) v c → Q v H2 := fun v hv => k c v H2 (by rw [ed, e2]; show ofO (oIx a b) = _; rw [ec]; rfl) (s1.trans s2) hv
  have ra2 := ra.mono s2
  cases b with
  | int i =>
    cases rb
    cases a with
    | lst xs =>
      obtain ⟨p, vs, rfl, hp, hr⟩ := ra2.lst
      obtain ⟨v, h1, h2⟩ := atI_reps hr ec
      exact .inl ⟨p, vs, i, v, rfl, rfl, SqL.of hp, h1, fin v h2⟩
    | tup xs =>
      obtain ⟨p, vs, rfl, hp, hr⟩ := ra2.tup
      obtain ⟨v, h1, h2⟩ := atI_reps hr ec
      exact .inr (.inl ⟨p, vs, i, v, rfl, rfl, hp, h1, fin v h2⟩)
    | scr ns =>
      obtain ⟨p, rfl, hp⟩ := ra2.scr
      obtain ⟨n, h1, rfl⟩ := Option.map_eq_some_iff.mp (show (atI ns i).map D.int = some c from ec)
      exact .inl ⟨p, _, i, .int n, rfl, rfl, hp, atI_map h1, fin _ (.int n)⟩
    | str z =>
      have ez := ra2.str
      subst ez
      by_cases hz : z.length ≤ sizeLine
      · have ec' : (if z.length ≤ sizeLine then (atI z.cps.toList i).map fun c => D.str ⟨#[c]⟩ else none) = some c := ec
        rw [if_pos hz] at ec'
        obtain ⟨n, h1, rfl⟩ := Option.map_eq_some_iff.mp ec'
        exact .inr (.inr ⟨z, i, n, rfl, rfl, hz, h1, fin _ (.str _)⟩)
      · have ec' : (if z.length ≤ sizeLine then (atI z.cps.toList i).map fun c => D.str ⟨#[c]⟩ else none) = some c := ec
        rw [if_neg hz] at ec'; cases ec'
    | _ => cases ec
  | _ => cases a <;> cases ec
/-! ### slices of lists and texts; list(..) -/
def cutD (xs : List D) (lo hi : Option Int) : List D := (xs.drop (HT.sIx xs.length 0 lo)).take (HT.sIx xs.length xs.length hi - HT.sIx xs.length 0 lo)
theorem cut_reps {H : Hp} {vs : List V} {ds : List D} (r : Reps K H vs ds) (lo hi : Option Int) : Reps K H (cutV vs lo hi) (cutD ds lo hi) := by
  unfold cutV cutD
  rw [r.length]
  exact (r.drop _).take _
/-- a slice's part -/
def SO (K : Fg) (W : WX) (own : List Nat) (to : TO) (f : Env → Res (Option Int)) : Prop :=
  ∀ (H0 : Bs) (O : List Addr) (σ : L2.St) (H : Hp) (ρ : Env) (Q : Option Int → Hp → Prop), Rel K H0 own O σ H ρ → f ρ ≠ .bad →
    (∀ o H', f ρ = .ok o → Same H H' → Q o H') → (∀ x C dd H', f ρ = .exc x → Same H H' → RepX K (mask O H') C dd x → W C dd σ H') → to σ H Q
def dNoP (_ : Env) : Res (Option Int) := .ok none
def asInt : D → Option Int
  | .int i => some i
  | _ => none
def dPart (fa : Env → Res D) (ρ : Env) : Res (Option Int) := (fa ρ).bind fun a => ofO ((asInt a).map some)
theorem so_none : SO K W own tNoPart dNoP := fun H0 O σ H ρ Q rl nb k kx => k none H rfl (Same.refl H)
theorem so_some (ha : SR K W own ta fa) : SO K W own (tPart ta) (dPart fa) := fun H0 O σ H ρ Q rl nb k kx => by
  refine ha.then_ rl nb (fun a x H1 e1 s1 rl1 ra nb1 => ?_) kx
  cases a with
  | int i =>
    cases ra
    exact ⟨i, rfl, k _ H1 (by unfold dPart; rw [e1]; rfl) s1⟩
  | _ => exact absurd rfl nb1
def dSl (fa : Env → Res D) (fl fh : Env → Res (Option Int)) (ρ : Env) : Res (List D) := (fa ρ).bind fun a => (fl ρ).bind fun lo => (fh ρ).bind fun hi => match a with
  | .lst xs => .ok (cutD xs lo hi)
  | _ => .bad
theorem sf_slice {tl th : TO} {fl fh : Env → Res (Option Int)} (ha : SL K W own ta fa) (hl : SO K W own tl fl) (hh : SO K W own th fh) : SF K W own (tSl (rSlL K) ta tl th) (dSl fa fl fh) := fun H0 O σ H ρ Q rl nb k kx => by
  refine ha.then_ rl nb (fun a x H1 e1 s1 rl1 ra nb1 => ?_) kx
  have ed : dSl fa fl fh ρ = (fl ρ).bind fun lo => (fh ρ).bind fun hi => match a with
    | .lst xs => .ok (cutD xs lo hi)
    | _ => .bad := by unfold dSl; rw [e1]; rfl
  refine hl H0 O σ H1 ρ _ rl1 (bind_nb nb1) (fun lo H2 e2 s2 => ?_) fun x C dd H' e s rx => kx x C dd H' (by rw [ed, e]; rfl) (s1.trans s) rx
  have nb2 := bind_nb2 nb1 e2
  refine hh H0 O σ H2 ρ _ (rl1.mono s2) (bind_nb nb2) (fun hi H3 e3 s3 => ?_) fun x C dd H' e s rx => kx x C dd H' (by rw [ed, e2]; show (fh ρ).bind _ = _; rw [e]; rfl) ((s1.trans s2).trans s) rx
  have nb3 := bind_nb2 nb2 e3
  cases a with
  | lst xs =>
    obtain ⟨p, vs, rfl, hp, hr⟩ := (ra.mono (s2.trans s3)).lst
    refine ⟨p, vs, rfl, SqL.of hp, fun q hq => ?_⟩
    have s := (s1.trans s2).trans s3
    exact k (cutD xs lo hi) q _ _ (by rw [ed, e2]; show (fh ρ).bind _ = _; rw [e3]; rfl) (s.trans (Same.new hq)) (s.free hq) upd_same ((cut_reps hr lo hi).mono (mask_new hq))
  | _ => exact absurd rfl nb3
/-- list(xs) of a list or tuple -/
def oItems : D → Option (List D)
  | .lst xs => some xs
  | .tup xs => some xs
  | .scr ns => some (ns.map .int)
  | _ => none
def dList (fa : Env → Res D) (ρ : Env) : Res (List D) := (fa ρ).bind fun a => ofO (oItems a)
def rListU (K : Fg) : List V → Hp → VK → Prop := fun xs H Q => ∃ p ys, xs = [.ref p] ∧ (SqL K H p ys ∨ SqT K H p ys) ∧ ∀ l, H l = none → Q (.ref l) (upd H l (.lst ys))
theorem reps_ints {H : Hp} : ∀ ns : List Int, Reps K H (ns.map V.int) (ns.map D.int)
  | [] => .nil
  | n :: ns => .cons (.int n) (reps_ints ns)
theorem sf_list (ha : SL K W own ta fa) : SF K W own (tCB (rListU K) (tCons ta tNil)) (dList fa) := fun H0 O σ H ρ Q rl nb k kx => by
  refine ha.then_ rl nb (fun a x H1 e1 s1 rl1 ra nb1 => ?_) kx
  obtain ⟨ds, ec⟩ := ofO_nb nb1
  have fin : ∀ (q : Addr) (vs : List V), H1 q = none → Reps K (mask O H1) vs ds → Q (.ref q) (upd H1 q (.lst vs)) := fun q vs hq hr =>
    k ds q vs _ (by unfold dList; rw [e1]; show ofO (oItems a) = _; rw [ec]; rfl) (s1.trans (Same.new hq)) (s1.free hq) upd_same (hr.mono (mask_new hq))
  show rListU K [x] H1 Q
  cases a with
  | lst xs =>
    cases ec
    obtain ⟨p, vs, rfl, hp, hr⟩ := ra.lst
    exact ⟨p, vs, rfl, .inl (SqL.of hp), fun l hl => fin l vs hl hr⟩
  | tup xs =>
    cases ec
    obtain ⟨p, vs, rfl, hp, hr⟩ := ra.tup
    exact ⟨p, vs, rfl, .inr hp, fun l hl => fin l vs hl hr⟩
  | scr ns =>
    cases ec
    obtain ⟨p, rfl, hp⟩ := ra.scr
    exact ⟨p, _, rfl, .inl hp, fun l hl => fin l _ hl (reps_ints ns)⟩
  | _ => cases ec
/-- xs + ys of lists -/
def oCat : D → D → Option (List D)
  | .lst xs, .lst ys => if xs.length + ys.length ≤ sizeLine then some (xs ++ ys) else none
  | _, _ => none
def dCat (fa fb : Env → Res D) (ρ : Env) : Res (List D) := (fa ρ).bind fun a => (fb ρ).bind fun b => ofO (oCat a b)
theorem sf_cat (ha : SL K W own ta fa) (hb : SL K W own tb fb) : SF K W own (tOp rCat ta tb) (dCat fa fb) := fun H0 O σ H ρ Q rl nb k kx => by
  refine ha.then_ rl nb (fun a x H1 e1 s1 rl1 ra nb1 => ?_) kx
  have ed : dCat fa fb ρ = (fb ρ).bind fun b => ofO (oCat a b) := by unfold dCat; rw [e1]; rfl
  refine hb.then_ rl1 nb1 (fun b y H2 e2 s2 rl2 rb nb2 => ?_) fun x C dd H' e s rx => kx x C dd H' (by rw [ed]; exact e) (s1.trans s) rx
  obtain ⟨c, ec⟩ := ofO_nb nb2
  have ec0 := ec
  cases a with
  | lst xs =>
    cases b with
    | lst ys =>
      simp only [oCat] at ec
      by_cases hz : xs.length + ys.length ≤ sizeLine
      · rw [if_pos hz] at ec
        cases ec
        obtain ⟨p, vs, rfl, hp, hr⟩ := (ra.mono s2).lst
        obtain ⟨p', vs', rfl, hp', hr'⟩ := rb.lst
        refine ⟨p, p', vs, vs', rfl, rfl, hp, hp', by rw [hr.length, hr'.length]; exact hz, fun q hq => ?_⟩
        have s := s1.trans s2
        exact k _ q _ _ (by rw [ed, e2]; show ofO (oCat _ _) = _; rw [ec0]; rfl) (s.trans (Same.new hq)) (s.free hq) upd_same ((hr.append hr').mono (mask_new hq))
      · rw [if_neg hz] at ec; cases ec
    | _ => cases ec
  | _ => cases b <;> cases ec
/-- xs * k -/
def CRep (n : Nat) (k : Int) : Prop := -(2 ^ 63) ≤ k ∧ k < 2 ^ 63 ∧ n * k.toNat ≤ sizeLine
noncomputable instance decRep (n : Nat) (k : Int) : Decidable (CRep n k) := Classical.propDecidable _
noncomputable def oRep : D → D → Option (List D)
  | .lst xs, .int k => if CRep xs.length k then some (List.replicate k.toNat xs).flatten else none
  | _, _ => none
noncomputable def dRep (fa fb : Env → Res D) (ρ : Env) : Res (List D) := (fa ρ).bind fun a => (fb ρ).bind fun b => ofO (oRep a b)
theorem reps_flatten {H : Hp} {vs : List V} {ds : List D} (r : Reps K H vs ds) : ∀ n : Nat, Reps K H (List.replicate n vs).flatten (List.replicate n ds).flatten
  | 0 => .nil
  | n + 1 => by
    rw [List.replicate_succ, List.replicate_succ, List.flatten_cons, List.flatten_cons]
    exact r.append (reps_flatten r n)
theorem sf_rep (ha : SL K W own ta fa) (hb : SR K W own tb fb) : SF K W own (tOp rRep ta tb) (dRep fa fb) := fun H0 O σ H ρ Q rl nb k kx => by
  refine ha.then_ rl nb (fun a x H1 e1 s1 rl1 ra nb1 => ?_) kx
  have ed : dRep fa fb ρ = (fb ρ).bind fun b => ofO (oRep a b) := by unfold dRep; rw [e1]; rfl
  refine hb.then_ rl1 nb1 (fun b y H2 e2 s2 rl2 rb nb2 => ?_) fun x C dd H' e s rx => kx x C dd H' (by rw [ed]; exact e) (s1.trans s) rx
  obtain ⟨c, ec⟩ := ofO_nb nb2
  have ec0 := ec
  cases a with
  | lst xs =>
    cases b with
    | int i =>
      cases rb
      simp only [oRep] at ec
      by_cases hz : CRep xs.length i
      · rw [if_pos hz] at ec
        cases ec
        obtain ⟨p, vs, rfl, hp, hr⟩ := (ra.mono s2).lst
        refine ⟨p, i, vs, rfl, rfl, hp, hz.1, hz.2.1, by rw [hr.length]; exact hz.2.2, fun q hq => ?_⟩
        have s := s1.trans s2
        exact k _ q _ _ (by rw [ed, e2]; show ofO (oRep _ _) = _; rw [ec0]; rfl) (s.trans (Same.new hq)) (s.free hq) upd_same ((reps_flatten hr _).mono (mask_new hq))
      · rw [if_neg hz] at ec; cases ec
    | _ => cases ec
  | _ => cases b <;> cases ec
/-! ### in a list, a tuple -/
def flatD : D → Bool
  | .non => true
  | .bl _ => true
  | .int _ => true
  | .str _ => true
  | _ => false
def eqF : D → D → Bool
  | .non, .non => true
  | .bl a, .bl b => a == b
  | .bl a, .int b => (if a then 1 else 0) == b
  | .int a, .bl b => a == (if b then 1 else 0)
  | .int a, .int b => a == b
  | .str a, .str b => a == b
  | _, _ => false
def inD (x : D) (xs : List D) : Bool := xs.any fun y => eqF y x
theorem Rep.flat {H : Hp} {v : V} {d : D} (r : Rep K H v d) (h : flatD d = true) : flatV v = true := by cases r <;> first | rfl | cases h
theorem Rep.eqF {H : Hp} {v w : V} {d e : D} (r : Rep K H v d) (s : Rep K H w e) (h : flatD d = true) (h' : flatD e = true) : eqV v w = PL.eqF d e := by
  cases r <;> cases s <;> first | rfl | cases h | cases h'
theorem Reps.flat {H : Hp} : ∀ {vs : List V} {ds : List D}, Reps K H vs ds → ds.all flatD = true → vs.all flatV = true
  | _, _, .nil, _ => rfl
  | _, _, .cons r t, h => by
    rw [List.all_cons, Bool.and_eq_true] at h ⊢
    exact ⟨Rep.flat r h.1, Reps.flat t h.2⟩
theorem Reps.inV {H : Hp} {v : V} {d : D} (r : Rep K H v d) (hd : flatD d = true) : ∀ {vs : List V} {ds : List D}, Reps K H vs ds → ds.all flatD = true → L2.inV v vs = inD d ds
  | _, _, .nil, _ => rfl
  | _, _, .cons (v := w) (vs := vs) (d := e) (ds := ds) q t, h => by
    rw [List.all_cons, Bool.and_eq_true] at h
    have ih := Reps.inV r hd t h.2
    unfold L2.inV inD at ih ⊢
    rw [List.any_cons, List.any_cons, ih, Rep.eqF q r h.1 hd]
def oIn (neg : Bool) (a b : D) : Option D := (oItems b).bind fun ds => if flatD a = true ∧ ds.all flatD = true then some (.bl (if neg then !inD a ds else inD a ds)) else none
theorem oS_in {neg : Bool} : OpS K (rIn K neg) (oIn neg) := fun H x y a b c ra rb e => by
  unfold oIn at e
  cases b with
  | lst ds =>
    by_cases h : flatD a = true ∧ ds.all flatD = true
    · have e' : (if flatD a = true ∧ ds.all flatD = true then some (D.bl (if neg then !inD a ds else inD a ds)) else none) = some c := e
      rw [if_pos h] at e'
      cases e'
      cases rb with
      | lst ha hr =>
        refine ⟨_, rfl, fun Q q => ⟨_, _, rfl, .inl (SqL.of ha), ra.flat h.1, hr.flat h.2, ?_⟩⟩
        rw [Reps.inV ra h.1 hr h.2]; exact q
    · have e' : (if flatD a = true ∧ ds.all flatD = true then some (D.bl (if neg then !inD a ds else inD a ds)) else none) = some c := e
      rw [if_neg h] at e'; cases e'
  | tup ds =>
    by_cases h : flatD a = true ∧ ds.all flatD = true
    · have e' : (if flatD a = true ∧ ds.all flatD = true then some (D.bl (if neg then !inD a ds else inD a ds)) else none) = some c := e
      rw [if_pos h] at e'
      cases e'
      cases rb with
      | tup ha hr =>
        refine ⟨_, rfl, fun Q q => ⟨_, _, rfl, .inr ha, ra.flat h.1, hr.flat h.2, ?_⟩⟩
        rw [Reps.inV ra h.1 hr h.2]; exact q
    · have e' : (if flatD a = true ∧ ds.all flatD = true then some (D.bl (if neg then !inD a ds else inD a ds)) else none) = some c := e
      rw [if_neg h] at e'; cases e'
  | scr ns =>
    by_cases h : flatD a = true ∧ (ns.map D.int).all flatD = true
    · have e' : (if flatD a = true ∧ (ns.map D.int).all flatD = true then some (D.bl (if neg then !inD a (ns.map D.int) else inD a (ns.map D.int))) else none) = some c := e
      rw [if_pos h] at e'
      cases e'
      cases rb with
      | scr ha =>
        have hr := reps_ints (K := K) (H := H) ns
        refine ⟨_, rfl, fun Q q => ⟨_, _, rfl, .inl ha, ra.flat h.1, hr.flat h.2, ?_⟩⟩
        rw [Reps.inV ra h.1 hr h.2]; exact q
    · have e' : (if flatD a = true ∧ (ns.map D.int).all flatD = true then some (D.bl (if neg then !inD a (ns.map D.int) else inD a (ns.map D.int))) else none) = some c := e
      rw [if_neg h] at e'; cases e'
  | _ => cases e
/-! ### and, or, not, if .. else, tests -/
def dAndV (fa fb : Env → Res D) (ρ : Env) : Res D := (fa ρ).bind fun a => match a with
  | .bl true => fb ρ
  | .bl false => .ok (.bl false)
  | _ => .bad
def dOrV (fa fb : Env → Res D) (ρ : Env) : Res D := (fa ρ).bind fun a => match a with
  | .bl true => .ok (.bl true)
  | .bl false => fb ρ
  | _ => .bad
def oNot : D → Option D
  | .bl b => some (.bl (!b))
  | _ => none
theorem se_andV (ha : SR K W own ta fa) (hb : SE K W own tb fb) : SE K W own (tAndV ta tb) (dAndV fa fb) := fun H0 O σ H ρ Q rl nb k kx => by
  refine ha.then_ rl nb (fun a x H1 e1 s1 rl1 ra nb1 => ?_) kx
  cases a with
  | bl b =>
    cases ra
    refine ⟨b, rfl, ?_⟩
    cases b with
    | true =>
      have ed : dAndV fa fb ρ = fb ρ := by unfold dAndV; rw [e1]; rfl
      exact hb H0 O σ H1 ρ Q rl1 nb1 (fun d v H' e s q => k d v H' (ed.trans e) (s1.trans s) q) fun x C dd H' e s rx => kx x C dd H' (ed.trans e) (s1.trans s) rx
    | false => exact k (.bl false) (.bl false) H1 (by unfold dAndV; rw [e1]; rfl) s1 (.bl false)
  | _ => exact absurd rfl nb1
theorem se_orV (ha : SR K W own ta fa) (hb : SE K W own tb fb) : SE K W own (tOrV ta tb) (dOrV fa fb) := fun H0 O σ H ρ Q rl nb k kx => by
  refine ha.then_ rl nb (fun a x H1 e1 s1 rl1 ra nb1 => ?_) kx
  cases a with
  | bl b =>
    cases ra
    refine ⟨b, rfl, ?_⟩
    cases b with
    | false =>
      have ed : dOrV fa fb ρ = fb ρ := by unfold dOrV; rw [e1]; rfl
      exact hb H0 O σ H1 ρ Q rl1 nb1 (fun d v H' e s q => k d v H' (ed.trans e) (s1.trans s) q) fun x C dd H' e s rx => kx x C dd H' (ed.trans e) (s1.trans s) rx
    | true => exact k (.bl true) (.bl true) H1 (by unfold dOrV; rw [e1]; rfl) s1 (.bl true)
  | _ => exact absurd rfl nb1
theorem se_notV (ha : SR K W own ta fa) : SE K W own (tNotV ta) (d1 oNot fa) := fun H0 O σ H ρ Q rl nb k kx => by
  refine ha.then_ rl nb (fun a x H1 e1 s1 rl1 ra nb1 => ?_) kx
  cases a with
  | bl b =>
    cases ra
    exact ⟨b, rfl, k (.bl (!b)) _ H1 (by unfold d1; rw [e1]; rfl) s1 (.bl _)⟩
  | _ => exact absurd rfl nb1
/-- a value that is True or False, as a test -/
def dB1 (fa : Env → Res D) (ρ : Env) : Res Bool := (fa ρ).bind fun a => match a with
  | .bl b => .ok b
  | _ => .bad
theorem st_B (ha : SR K W own ta fa) : ST K W own (tB ta) (dB1 fa) := fun H0 O σ H ρ Q rl nb k kx => by
  refine ha.then_ rl nb (fun a x H1 e1 s1 rl1 ra nb1 => ?_) kx
  cases a with
  | bl b => cases ra; exact ⟨b, rfl, k b H1 (by unfold dB1; rw [e1]; rfl) s1⟩
  | _ => exact absurd rfl nb1
theorem st_test (ha : SR K W own ta fa) : ST K W own (tTest ta) (dB1 fa) := st_B ha
/-- a value's truth -/
def truA : D → Option Bool
  | .non => some false
  | .bl b => some b
  | .int i => some (i != 0)
  | .str x => if x.length ≤ sizeLine then some ((x.length : Int) != 0) else none
  | .lst xs => some (!xs.isEmpty)
  | .tup xs => some (!xs.isEmpty)
  | .scr ns => some (!ns.isEmpty)
  | .obj _ _ _ => none
  | .exc _ _ => none
def dTru (fa : Env → Res D) (ρ : Env) : Res Bool := (fa ρ).bind fun a => ofO (truA a)
theorem Reps.isEmpty {H : Hp} {vs : List V} {ds : List D} (r : Reps K H vs ds) : vs.isEmpty = ds.isEmpty := by cases r <;> rfl
theorem st_tru (ha : SR K W own ta fa) : ST K W own (fun σ H Q => ta σ H fun x H' => ∃ k, TruV K x H' k ∧ Q k H') (dTru fa) := fun H0 O σ H ρ Q rl nb k kx => by
  refine ha.then_ rl nb (fun a x H1 e1 s1 rl1 ra nb1 => ?_) kx
  obtain ⟨b, eb⟩ := ofO_nb nb1
  refine ⟨b, ?_, k b H1 (by unfold dTru; rw [e1]; show ofO (truA a) = _; rw [eb]; rfl) s1⟩
  cases ra with
  | non => cases eb; rfl
  | bl b => cases eb; rfl
  | int i => cases eb; rfl
  | str z =>
    simp only [truA] at eb
    by_cases hz : z.length ≤ sizeLine
    · rw [if_pos hz] at eb; cases eb; exact ⟨hz, rfl⟩
    · rw [if_neg hz] at eb; cases eb
  | lst ha hr => cases eb; exact .inl ⟨_, SqL.of ha, by rw [hr.isEmpty]⟩
  | tup ha hr => cases eb; exact .inr (.inl ⟨_, ha, by rw [hr.isEmpty]⟩)
  | scr ha => cases eb; exact .inl ⟨_, ha, by simp⟩
  | obj _ _ _ => cases eb
  | exc0 _ _ => cases eb
  | exc1 _ _ _ _ => cases eb
def dAndT (fa fb : Env → Res Bool) (ρ : Env) : Res Bool := (fa ρ).bind fun a => if a = true then fb ρ else .ok false
def dOrT (fa fb : Env → Res Bool) (ρ : Env) : Res Bool := (fa ρ).bind fun a => if a = true then .ok true else fb ρ
def dNotT (fa : Env → Res Bool) (ρ : Env) : Res Bool := (fa ρ).map not
theorem st_and {t u : TT} {ft fu : Env → Res Bool} (ht : ST K W own t ft) (hu : ST K W own u fu) : ST K W own (tAnd t u) (dAndT ft fu) := fun H0 O σ H ρ Q rl nb k kx => by
  refine ht.then_ rl nb (fun a H1 e1 s1 rl1 nb1 => ?_) kx
  cases a with
  | true =>
    have ed : dAndT ft fu ρ = fu ρ := by unfold dAndT; rw [e1]; rfl
    show (if true = true then u σ H1 Q else Q false H1)
    rw [if_pos rfl]
    exact hu H0 O σ H1 ρ Q rl1 nb1 (fun b H' e s => k b H' (ed.trans e) (s1.trans s)) fun x C dd H' e s rx => kx x C dd H' (ed.trans e) (s1.trans s) rx
  | false => exact k false H1 (by unfold dAndT; rw [e1]; rfl) s1
theorem st_or {t u : TT} {ft fu : Env → Res Bool} (ht : ST K W own t ft) (hu : ST K W own u fu) : ST K W own (tOr t u) (dOrT ft fu) := fun H0 O σ H ρ Q rl nb k kx => by
  refine ht.then_ rl nb (fun a H1 e1 s1 rl1 nb1 => ?_) kx
  cases a with
  | false =>
    have ed : dOrT ft fu ρ = fu ρ := by unfold dOrT; rw [e1]; rfl
    show (if false = true then Q true H1 else u σ H1 Q)
    rw [if_neg Bool.false_ne_true]
    exact hu H0 O σ H1 ρ Q rl1 nb1 (fun b H' e s => k b H' (ed.trans e) (s1.trans s)) fun x C dd H' e s rx => kx x C dd H' (ed.trans e) (s1.trans s) rx
  | true => exact k true H1 (by unfold dOrT; rw [e1]; rfl) s1
theorem st_not {t : TT} {ft : Env → Res Bool} (ht : ST K W own t ft) : ST K W own (tNot t) (dNotT ft) := fun H0 O σ H ρ Q rl nb k kx => by
  refine ht H0 O σ H ρ _ rl (fun e => nb (by unfold dNotT; rw [e]; rfl)) (fun b H' e s => k (!b) H' (by unfold dNotT; rw [e]; rfl) s) fun x C dd H' e s rx => kx x C dd H' (by unfold dNotT; rw [e]; rfl) s rx
def dIf {α : Type} (ft : Env → Res Bool) (fa fb : Env → Res α) (ρ : Env) : Res α := (ft ρ).bind fun c => if c = true then fa ρ else fb ρ
theorem se_if {t : TT} {ft : Env → Res Bool} (ht : ST K W own t ft) (ha : SE K W own ta fa) (hb : SE K W own tb fb) : SE K W own (tIf t ta tb) (dIf ft fa fb) := fun H0 O σ H ρ Q rl nb k kx => by
  refine ht.then_ rl nb (fun c H1 e1 s1 rl1 nb1 => ?_) kx
  cases c with
  | true =>
    have ed : dIf ft fa fb ρ = fa ρ := by unfold dIf; rw [e1]; rfl
    exact ha H0 O σ H1 ρ Q rl1 nb1 (fun d v H' e s q => k d v H' (ed.trans e) (s1.trans s) q) fun x C dd H' e s rx => kx x C dd H' (ed.trans e) (s1.trans s) rx
  | false =>
    have ed : dIf ft fa fb ρ = fb ρ := by unfold dIf; rw [e1]; rfl
    exact hb H0 O σ H1 ρ Q rl1 nb1 (fun d v H' e s q => k d v H' (ed.trans e) (s1.trans s) q) fun x C dd H' e s rx => kx x C dd H' (ed.trans e) (s1.trans s) rx
/-- a < b < c -/
def chK (op' : D → D → Option D) (fc : Env → Res D) (ρ : Env) (b : D) : D → Res D
  | .bl true => (fc ρ).bind fun c => ofO (op' b c)
  | .bl false => .ok (.bl false)
  | _ => .bad
def dChain (op op' : D → D → Option D) (fa fb fc : Env → Res D) (ρ : Env) : Res D := (fa ρ).bind fun a => (fb ρ).bind fun b => (ofO (op a b)).bind (chK op' fc ρ b)
theorem se_chain {tc : TE} {fc : Env → Res D} {r r' : R2} {op op' : D → D → Option D} (hr : OpS K r op) (hr' : OpS K r' op') (ha : SR K W own ta fa) (hb : SR K W own tb fb) (hc : SR K W own tc fc) : SE K W own (tChain r r' ta tb tc) (dChain op op' fa fb fc) := fun H0 O σ H ρ Q rl nb k kx => by
  refine ha.then_ rl nb (fun a x H1 e1 s1 rl1 ra nb1 => ?_) kx
  have ed : dChain op op' fa fb fc ρ = (fb ρ).bind fun b => (ofO (op a b)).bind (chK op' fc ρ b) := by unfold dChain; rw [e1]; rfl
  refine hb.then_ rl1 nb1 (fun b y H2 e2 s2 rl2 rb nb2 => ?_) fun x C dd H' e s rx => kx x C dd H' (by rw [ed]; exact e) (s1.trans s) rx
  obtain ⟨z, ez⟩ := ofO_nb (bind_nb nb2)
  have nb3 := bind_nb2 nb2 (show ofO (op a b) = .ok z by rw [ez]; rfl)
  have ed2 : dChain op op' fa fb fc ρ = chK op' fc ρ b z := by rw [ed, e2]; show (ofO (op a b)).bind _ = _; rw [ez]; rfl
  obtain ⟨w, hw, hq⟩ := hr H2 x y a b z (ra.mono s2) rb ez
  refine hq _ ?_
  cases z with
  | bl c =>
    cases hw
    refine ⟨c, rfl, ?_⟩
    cases c with
    | true =>
      rw [if_pos rfl]
      refine hc.then_ rl2 nb3 (fun d u H3 e3 s3 rl3 rc nb4 => ?_) fun x C dd H' e s rx => kx x C dd H' (by rw [ed2]; exact e) ((s1.trans s2).trans s) rx
      obtain ⟨m, em⟩ := ofO_nb nb4
      obtain ⟨w', hw', hq'⟩ := hr' H3 y u b d m (rb.mono s3) rc em
      exact hq' Q (k m w' H3 (by rw [ed2]; show (fc ρ).bind _ = _; rw [e3]; show ofO (op' b d) = _; rw [em]; rfl) ((s1.trans s2).trans s3) (Rep.of_sca hw'))
    | false =>
      rw [if_neg Bool.false_ne_true]
      exact k (.bl false) _ H2 ed2 (s1.trans s2) (.bl false)
  | _ => exact absurd rfl nb3
/-! ### o.f -/
def oFld (n : Nat) : D → Option D
  | .obj _ _ fs => if n < 22 then fs.lookup n else none
  | _ => none
theorem se_fld {n : Nat} (ha : SE K W own ta fa) : SE K W own (tFld K ta (fldN n)) (d1 (oFld n) fa) := fun H0 O σ H ρ Q rl nb k kx => by
  refine ha.then_ rl nb (fun a x H1 e1 s1 rl1 ra nb1 => ?_) kx
  obtain ⟨c, ec⟩ := ofO_nb nb1
  cases ra with
  | obj h ck hf =>
    rename_i a dx c' fv fs
    by_cases hn : n < 22
    · have ec' := ec
      simp only [oFld, if_pos hn] at ec'
      obtain ⟨v, h1, h2⟩ := hf.get hn ec'
      exact ⟨a, _, dx, fv, v, rfl, mask_same _ _ h, ck.1, ck.2 n hn, h1, k c v H1 (by unfold d1; rw [e1]; show ofO _ = _; rw [ec]; rfl) s1 h2⟩
    · simp only [oFld, if_neg hn] at ec; cases ec
  | _ => cases ec
end
end PL
namespace PL
open PySem PySem.Spec PyProof.Rows L2
/-! ### targets -/
theorem wipe_in {σ : L2.St} {i : Nat} : ∀ {vs : List Nat}, i ∈ vs → i < σ.length → (wipe σ vs)[i]? = some none
  | [], h, _ => by cases h
  | v :: vs, h, hi => by
    unfold wipe
    by_cases e : i = v
    · subst e
      exact List.getElem?_set_self (by rw [wipe_length]; exact hi)
    · rw [List.getElem?_set_ne (Ne.symm e)]
      rcases List.mem_cons.mp h with z | z
      · exact absurd z e
      · exact wipe_in z hi
theorem wipe_eq {σ σ' : L2.St} {vs : List Nat} (hl : σ.length = σ'.length) (h : ∀ i, i ∉ vs → σ[i]? = σ'[i]?) : wipe σ vs = wipe σ' vs := by
  apply List.ext_getElem?
  intro i
  by_cases hi : i < σ.length
  · by_cases m : i ∈ vs
    · rw [wipe_in m hi, wipe_in m (by rw [← hl]; exact hi)]
    · rw [wipe_out m, wipe_out m, h i m]
  · rw [List.getElem?_eq_none (by rw [wipe_length]; omega), List.getElem?_eq_none (by rw [wipe_length]; omega)]
theorem wipe_set {σ : L2.St} {x : Option V} {t : Nat} {vs : List Nat} (h : t ∈ vs) : wipe (σ.set t x) vs = wipe σ vs :=
  wipe_eq (by simp) fun i hi => List.getElem?_set_ne fun e => hi (by rw [← e]; exact h)
theorem wipe_wipe {σ : L2.St} {vs : List Nat} : wipe (wipe σ vs) vs = wipe σ vs := wipe_eq (wipe_length _ _) fun i hi => wipe_out hi
def wipeE (ρ : Env) : List Nat → Env
  | [] => ρ
  | v :: vs => (wipeE ρ vs).set v none
theorem wipeE_length (ρ : Env) : ∀ vs : List Nat, (wipeE ρ vs).length = ρ.length
  | [] => rfl
  | v :: vs => by unfold wipeE; rw [List.length_set, wipeE_length ρ vs]
theorem wipeE_some {ρ : Env} {i : Nat} {x : D} : ∀ {vs : List Nat}, (wipeE ρ vs)[i]? = some (some x) → ρ[i]? = some (some x) ∧ i ∉ vs
  | [], h => ⟨h, by simp⟩
  | v :: vs, h => by
    unfold wipeE at h
    by_cases hi : v = i
    · subst hi
      by_cases hv : v < (wipeE ρ vs).length
      · rw [List.getElem?_set_self hv] at h; cases h
      · rw [List.getElem?_eq_none (by simpa using hv)] at h; cases h
    · rw [List.getElem?_set_ne hi] at h
      obtain ⟨h1, h2⟩ := wipeE_some h
      exact ⟨h1, by simp only [List.mem_cons, not_or]; exact ⟨fun e => hi e.symm, h2⟩⟩
section
variable {K : Fg} {W : WX} {H0 : Bs} {H H' : Hp} {own own' : List Nat} {O : List Addr} {σ : L2.St} {ρ : Env}
theorem Rel.wipe (r : Rel K H0 own O σ H ρ) (vs : List Nat) : Rel K H0 own O (L2.wipe σ vs) H (wipeE ρ vs) := by
  refine ⟨by rw [wipe_length, wipeE_length, r.len], r.ex, r.base, r.base0, r.dom, fun i d z n => ?_, fun i d z n => ?_, fun i j p hi hj h1 h2 h3 h4 => ?_⟩
  · obtain ⟨z1, z2⟩ := wipeE_some z
    rw [wipe_out z2]
    exact r.slot i d z1 n
  · obtain ⟨z1, z2⟩ := wipeE_some z
    rw [wipe_out z2]
    exact r.owned i d z1 n
  · obtain ⟨d, h1⟩ := h1
    obtain ⟨e, h2⟩ := h2
    obtain ⟨z1, z2⟩ := wipeE_some h1
    obtain ⟨y1, y2⟩ := wipeE_some h2
    rw [wipe_out z2] at h3
    rw [wipe_out y2] at h4
    exact r.sep i j p hi hj ⟨_, z1⟩ ⟨_, y1⟩ h3 h4
/-- a target: what it does to the environment; ts its slots -/
abbrev Bd := D → Env → Option Env
def SG (K : Fg) (own : List Nat) (g : TG) (b : Bd) (ts : List Nat) : Prop :=
  ∀ (H0 : Bs) (O : List Addr) (σ : L2.St) (H : Hp) (ρ ρ' : Env) (x : V) (d : D) (Q : L2.St → Hp → Prop), Rel K H0 own O σ H ρ → RepL K O H x d → b d ρ = some ρ' →
    (∀ σ', Rel K H0 own O σ' H ρ' → (∀ vs : List Nat, (∀ t ∈ ts, t ∈ vs) → L2.wipe σ' vs = L2.wipe σ vs) → Q σ' H) → g x σ H Q
def bN (i : Nat) : Bd := fun d ρ => if i < ρ.length then some (ρ.set i (some d)) else none
/-- .. a name gets a value of the mask -/
def SGm (K : Fg) (own : List Nat) (g : TG) (b : Bd) (ts : List Nat) : Prop :=
  ∀ (H0 : Bs) (O : List Addr) (σ : L2.St) (H : Hp) (ρ ρ' : Env) (x : V) (d : D) (Q : L2.St → Hp → Prop), Rel K H0 own O σ H ρ → Rep K (mask O H) x d → b d ρ = some ρ' →
    (∀ σ', Rel K H0 own O σ' H ρ' → (∀ vs : List Nat, (∀ t ∈ ts, t ∈ vs) → L2.wipe σ' vs = L2.wipe σ vs) → Q σ' H) → g x σ H Q
theorem sg_name {i : Nat} (n : i ∉ own) : SGm K own (gName i) (bN i) [i] := fun H0 O σ H ρ ρ' x d Q r rx e k => by
  unfold bN at e
  by_cases hi : i < ρ.length
  · rw [if_pos hi] at e
    cases e
    refine k _ ((r.put hi rx).own_eq fun j => ⟨fun m => List.mem_filter.mpr ⟨m, decide_ne fun z => n (z ▸ m)⟩, fun m => (List.mem_filter.mp m).1⟩) fun vs h => wipe_set (h i (by simp))
  · rw [if_neg hi] at e; cases e
abbrev Bds := List D → Env → Option Env
def SGs (K : Fg) (own : List Nat) (g : TGs) (b : Bds) (ts : List Nat) : Prop :=
  ∀ (H0 : Bs) (O : List Addr) (σ : L2.St) (H : Hp) (ρ ρ' : Env) (xs : List V) (ds : List D) (Q : L2.St → Hp → Prop), Rel K H0 own O σ H ρ → Reps K (mask O H) xs ds → b ds ρ = some ρ' →
    (∀ σ', Rel K H0 own O σ' H ρ' → (∀ vs : List Nat, (∀ t ∈ ts, t ∈ vs) → L2.wipe σ' vs = L2.wipe σ vs) → Q σ' H) → g xs σ H Q
def bNil : Bds := fun ds ρ => match ds with
  | [] => some ρ
  | _ => none
def bCons (b : Bd) (bs : Bds) : Bds := fun ds ρ => match ds with
  | d :: r => (b d ρ).bind (bs r)
  | [] => none
theorem sgs_nil : SGs K own gNil bNil [] := fun H0 O σ H ρ ρ' xs ds Q r rx e k => by
  cases rx with
  | nil => cases e; exact ⟨rfl, k σ r fun _ _ => rfl⟩
  | cons _ _ => cases e
theorem sgs_cons {g : TG} {gs : TGs} {b : Bd} {bs : Bds} {ts us : List Nat} (h : SGm K own g b ts) (hs : SGs K own gs bs us) : SGs K own (gCons g gs) (bCons b bs) (ts ++ us) := fun H0 O σ H ρ ρ' xs ds Q r rx e k => by
  cases rx with
  | nil => cases e
  | cons r1 r2 =>
    rename_i v vs d ds
    obtain ⟨ρ1, e1, e2⟩ := Option.bind_eq_some_iff.mp (show (b d ρ).bind (bs ds) = some ρ' from e)
    refine ⟨v, vs, rfl, h H0 O σ H ρ ρ1 v d _ r r1 e1 fun σ1 rl1 w1 => ?_⟩
    refine hs H0 O σ1 H ρ1 ρ' vs ds Q rl1 r2 e2 fun σ2 rl2 w2 => k σ2 rl2 fun us' hu => ?_
    rw [w2 us' fun t ht => hu t (List.mem_append_right _ ht), w1 us' fun t ht => hu t (List.mem_append_left _ ht)]
def bTup (n : Nat) (bs : Bds) : Bd := fun d ρ => match d with
  | .tup ds => if ds.length = n then bs ds ρ else none
  | _ => none
def bLst (n : Nat) (bs : Bds) : Bd := fun d ρ => match d with
  | .lst ds => if ds.length = n then bs ds ρ else none
  | _ => none
theorem sg_tup {n : Nat} {gs : TGs} {bs : Bds} {ts : List Nat} (h : SGs K own gs bs ts) : SGm K own (gTup K n gs) (bTup n bs) ts := fun H0 O σ H ρ ρ' x d Q r rx e k => by
  cases rx with
  | tup ha hr =>
    rename_i a vs ds
    have e' : (if ds.length = n then bs ds ρ else none) = some ρ' := e
    by_cases hn : ds.length = n
    · rw [if_pos hn] at e'
      exact ⟨a, vs, rfl, Same.sqT mask_same ha, by rw [hr.length]; exact hn, h H0 O σ H ρ ρ' vs ds Q r hr e' k⟩
    · rw [if_neg hn] at e'; cases e'
  | _ => cases e
theorem sg_lst {n : Nat} {gs : TGs} {bs : Bds} {ts : List Nat} (h : SGs K own gs bs ts) : SGm K own (gLst K n gs) (bLst n bs) ts := fun H0 O σ H ρ ρ' x d Q r rx e k => by
  cases rx with
  | lst ha hr =>
    rename_i a vs ds
    have e' : (if ds.length = n then bs ds ρ else none) = some ρ' := e
    by_cases hn : ds.length = n
    · rw [if_pos hn] at e'
      exact ⟨a, vs, rfl, SqL.of (mask_same _ _ ha), by rw [hr.length]; exact hn, h H0 O σ H ρ ρ' vs ds Q r hr e' k⟩
    · rw [if_neg hn] at e'; cases e'
  | _ => cases e
/-! ### what is walked -/
/-- J goes through the items ds; m: others may change own lists meanwhile -/
def ItC (K : Fg) (O : List Addr) (H : Hp) (ds : List D) (J : It) (m : Bool) : Prop :=
  ∃ (G : Hp → Prop) (Y : Nat → Hp → V → Hp → Prop), Walk J ds.length G Y ∧ (∀ H2, (m = false → Same H H2) → (m = true → ∃ O2, Same (mask O H) (mask O2 H2)) → G H2) ∧
    ∀ i O1 H1 x H2, Same (mask O H) (mask O1 H1) → Dom O1 H1 → Y i H1 x H2 → i < ds.length → Same H1 H2 ∧ ∃ d, ds[i]? = some d ∧ Rep K (mask O1 H2) x d
def SI (m : Bool) (K : Fg) (W : WX) (own : List Nat) (ti : TI) (items : Env → Res (List D)) : Prop :=
  ∀ (H0 : Bs) (O : List Addr) (σ : L2.St) (H : Hp) (ρ : Env) (R : It → Hp → Prop), Rel K H0 own O σ H ρ → items ρ ≠ .bad →
    (∀ ds J H', items ρ = .ok ds → Same H H' → ItC K O H' ds J m → R J H') →
    (∀ x C dd H', items ρ = .exc x → Same H H' → RepX K (mask O H') C dd x → W C dd σ H') → ti σ H R
/-- a list, a tuple -/
def oSeq : D → Option (List D)
  | .lst xs => some xs
  | .tup xs => some xs
  | .scr ns => some (ns.map .int)
  | .str z => some (z.cps.toList.map fun c => .str ⟨#[c]⟩)
  | _ => none
def dSeq (fa : Env → Res D) (ρ : Env) : Res (List D) := (fa ρ).bind fun a => ofO (oSeq a)
theorem itc_lst {p : Addr} {vs : List V} {ds : List D} {m : Bool} (hp : SqL K H p vs) (hm : m = true → SqL K (mask O H) p vs) (hr : Reps K (mask O H) vs ds) : ItC K O H ds (Itl K p) m := by
  have w := walk_list (K := K) (a := p) (xs := vs)
  rw [hr.length] at w
  refine ⟨_, _, w, fun H2 h1 h2 => ?_, fun i O1 H1 x H2 s d y hi => ?_⟩
  · cases m with
    | false => exact Same.sqL (h1 rfl) hp
    | true =>
      obtain ⟨O2, s⟩ := h2 rfl
      exact Same.sqL mask_same (Same.sqL s (hm rfl))
  · obtain ⟨rfl, y⟩ := y
    obtain ⟨d, h1, h2⟩ := hr.getV y
    exact ⟨Same.refl _, d, h1, h2.mono s⟩
theorem itc_tup {p : Addr} {vs : List V} {ds : List D} {m : Bool} (hp : SqT K (mask O H) p vs) (hr : Reps K (mask O H) vs ds) : ItC K O H ds (Itt K p) m := by
  have w := walk_tup (K := K) (a := p) (xs := vs)
  rw [hr.length] at w
  refine ⟨_, _, w, fun H2 h1 h2 => ?_, fun i O1 H1 x H2 s d y hi => ?_⟩
  · cases m with
    | false => exact Same.sqT (h1 rfl) (Same.sqT mask_same hp)
    | true =>
      obtain ⟨O2, s⟩ := h2 rfl
      exact Same.sqT mask_same (Same.sqT s hp)
  · obtain ⟨rfl, y⟩ := y
    obtain ⟨d, h1, h2⟩ := hr.getV y
    exact ⟨Same.refl _, d, h1, h2.mono s⟩
theorem itc_str {z : Str} {m : Bool} : ItC K O H (z.cps.toList.map fun c => .str ⟨#[c]⟩) (Its z) m := by
  have w := walk_str (z := z)
  have el : (z.cps.toList.map fun c => D.str ⟨#[c]⟩).length = z.cps.size := by simp
  rw [← el] at w
  refine ⟨_, _, w, fun _ _ _ => trivial, fun i O1 H1 x H2 s d y hi => ?_⟩
  obtain ⟨rfl, c, y, rfl⟩ := y
  refine ⟨Same.refl _, .str ⟨#[c]⟩, ?_, .str _⟩
  rw [List.getElem?_map, Array.getElem?_toList, y]
  rfl
theorem itc_range {lo : Int} {n : Nat} {m : Bool} : ItC K O H ((List.range n).map fun (i : Nat) => .int (lo + i)) (Itr lo n) m := by
  have w := walk_range (lo := lo) (n := n)
  have el : ((List.range n).map fun (i : Nat) => D.int (lo + i)).length = n := by simp
  refine ⟨_, _, by rw [el]; exact w, fun _ _ _ => trivial, fun i O1 H1 x H2 s d y hi => ?_⟩
  obtain ⟨rfl, rfl⟩ := y
  rw [el] at hi
  refine ⟨Same.refl _, .int (lo + i), ?_, .int _⟩
  rw [List.getElem?_map, List.getElem?_range hi]
  rfl
theorem itc_rangeC {lo c : Int} {n : Nat} {m : Bool} : ItC K O H ((List.range n).map fun (i : Nat) => .int (lo + (i : Nat) * c)) (Itc lo c n) m := by
  have w := walk_rangeC (lo := lo) (c := c) (n := n)
  have el : ((List.range n).map fun (i : Nat) => D.int (lo + (i : Nat) * c)).length = n := by simp
  refine ⟨_, _, by rw [el]; exact w, fun _ _ _ => trivial, fun i O1 H1 x H2 s d y hi => ?_⟩
  obtain ⟨rfl, rfl⟩ := y
  rw [el] at hi
  refine ⟨Same.refl _, .int (lo + (i : Nat) * c), ?_, .int _⟩
  rw [List.getElem?_map, List.getElem?_range hi]
  rfl
/-- pairs -/
theorem pair_rep {T : Addr} {x y : V} {a b : D} {O1 : List Addr} {H1 : Hp} (dm : Dom O1 H1) (hT : H1 T = none) (ra : Rep K (mask O1 H1) x a) (rb : Rep K (mask O1 H1) y b) :
    Same H1 (upd H1 T (.tup [x, y])) ∧ Rep K (mask O1 (upd H1 T (.tup [x, y]))) (.ref T) (.tup [a, b]) := by
  have s : Same H1 (upd H1 T (.tup [x, y])) := Same.new hT
  have np : T ∉ O1 := dm.not hT
  exact ⟨s, .tup (SqT.of (by rw [mask_out np]; exact upd_same)) (.cons (ra.mono (mask_mono s)) (.cons (rb.mono (mask_mono s)) .nil))⟩
def enumD (i : Nat) : List D → List D
  | [] => []
  | d :: ds => .tup [.int i, d] :: enumD (i + 1) ds
theorem enumD_length : ∀ (ds : List D) (i : Nat), (enumD i ds).length = ds.length
  | [], _ => rfl
  | d :: ds, i => by unfold enumD; rw [List.length_cons, List.length_cons, enumD_length ds]
theorem enumD_get : ∀ (ds : List D) (k i : Nat) (d : D), ds[i]? = some d → (enumD k ds)[i]? = some (.tup [.int ((k + i : Nat) : Int), d])
  | [], _, i, d, h => by simp at h
  | e :: ds, k, 0, d, h => by simp at h; subst h; rfl
  | e :: ds, k, i + 1, d, h => by
    have ih := enumD_get ds (k + 1) i d (by simpa using h)
    unfold enumD
    rw [List.getElem?_cons_succ, ih]
    have : k + 1 + i = k + (i + 1) := by omega
    rw [this]
theorem itc_enum {p : Addr} {vs : List V} {ds : List D} {m : Bool} (hp : SqL K H p vs) (hm : m = true → SqL K (mask O H) p vs) (hr : Reps K (mask O H) vs ds) : ItC K O H (enumD 0 ds) (Ite K p) m := by
  have w := walk_enum (K := K) (a := p) (xs := vs)
  rw [hr.length, ← enumD_length ds 0] at w
  refine ⟨_, _, w, fun H2 h1 h2 => ?_, fun i O1 H1 x H2 s dm y hi => ?_⟩
  · cases m with
    | false => exact Same.sqL (h1 rfl) hp
    | true =>
      obtain ⟨O2, s⟩ := h2 rfl
      exact Same.sqL mask_same (Same.sqL s (hm rfl))
  · obtain ⟨T, x1, x2, rfl, hT, rfl, e1, e2⟩ := y
    cases e1
    obtain ⟨d, h1, h2⟩ := hr.getV e2
    obtain ⟨s2, r2⟩ := pair_rep dm hT (.int i) (h2.mono s)
    refine ⟨s2, _, enumD_get ds 0 i d h1, ?_⟩
    rw [Nat.zero_add]
    exact r2
def zipD : List D → List D → List D
  | a :: as, b :: bs => .tup [a, b] :: zipD as bs
  | _, _ => []
theorem zipD_length : ∀ as bs : List D, (zipD as bs).length = min as.length bs.length
  | [], _ => by simp [zipD]
  | _ :: _, [] => by simp [zipD]
  | a :: as, b :: bs => by
    unfold zipD
    rw [List.length_cons, List.length_cons, List.length_cons, zipD_length as bs]
    omega
theorem zipD_get : ∀ (as bs : List D) (i : Nat) (a b : D), as[i]? = some a → bs[i]? = some b → (zipD as bs)[i]? = some (.tup [a, b])
  | [], _, i, a, b, h, _ => by simp at h
  | _ :: _, [], i, a, b, _, h => by simp at h
  | x :: as, y :: bs, 0, a, b, h, h' => by simp at h h'; subst h; subst h'; rfl
  | x :: as, y :: bs, i + 1, a, b, h, h' => by
    unfold zipD
    rw [List.getElem?_cons_succ]
    exact zipD_get as bs i a b (by simpa using h) (by simpa using h')
theorem itc_zip {p q : Addr} {vs us : List V} {ds es : List D} {m : Bool} (hp : SqL K H p vs) (hm : m = true → SqL K (mask O H) p vs) (hr : Reps K (mask O H) vs ds)
    (hq : SqL K H q us) (hn : m = true → SqL K (mask O H) q us) (hs : Reps K (mask O H) us es) : ItC K O H (zipD ds es) (Itz K p q) m := by
  have w := walk_zip (K := K) (a := p) (b := q) (xs := vs) (ys := us) (n := (zipD ds es).length) (by rw [zipD_length, hr.length, hs.length])
  refine ⟨_, _, w, fun H2 h1 h2 => ?_, fun i O1 H1 x H2 s dm y hi => ?_⟩
  · cases m with
    | false => exact ⟨Same.sqL (h1 rfl) hp, Same.sqL (h1 rfl) hq⟩
    | true =>
      obtain ⟨O2, s⟩ := h2 rfl
      exact ⟨Same.sqL mask_same (Same.sqL s (hm rfl)), Same.sqL mask_same (Same.sqL s (hn rfl))⟩
  · obtain ⟨T, x1, x2, rfl, hT, rfl, e1, e2⟩ := y
    obtain ⟨d, h1, h2⟩ := hr.getV e1
    obtain ⟨e, h3, h4⟩ := hs.getV e2
    obtain ⟨s2, r2⟩ := pair_rep dm hT (h2.mono s) (h4.mono s)
    exact ⟨s2, _, zipD_get ds es i d e h1 h3, r2⟩
end
section
variable {K : Fg} {W : WX} {own : List Nat} {te ta tb : TE} {fa fb : Env → Res D}
/-- anything that is walked as it is: a list, a tuple, a text -/
def iSeq (K : Fg) (te : TE) : TI := fun σ H R => iList K te σ H R ∨ iTup K te σ H R ∨ iStr te σ H R
theorem dSeq_eq {ρ : Env} {a : D} {ds : List D} (e1 : fa ρ = .ok a) (ed : oSeq a = some ds) : dSeq fa ρ = .ok ds := by
  show (fa ρ).bind _ = _; rw [e1]; show ofO (oSeq a) = _; rw [ed]; rfl
theorem si_seq (h : SE K W own te fa) : SI true K W own (iSeq K te) (dSeq fa) := fun H0 O σ H ρ R rl nb k kx => by
  cases ef : fa ρ with
  | bad => exact absurd ef (bind_nb nb)
  | exc x =>
    refine .inl (h H0 O σ H ρ _ rl (bind_nb nb) (fun d v H' e => by rw [ef] at e; cases e) fun x C dd H' e s rx => kx x C dd H' ?_ s rx)
    show (fa ρ).bind _ = _; rw [e]; rfl
  | ok a =>
    have nb1 := bind_nb2 nb ef
    obtain ⟨ds, ed⟩ := ofO_nb nb1
    have eq := dSeq_eq ef ed
    have kx' : ∀ x C dd H', fa ρ = .exc x → Same H H' → RepX K (mask O H') C dd x → W C dd σ H' := fun x C dd H' e => by rw [ef] at e; cases e
    cases a with
    | lst xs =>
      refine .inl (h H0 O σ H ρ _ rl (bind_nb nb) (fun d v H1 e s1 ra => ?_) kx')
      rw [ef] at e; cases e
      cases ra with
      | lst ha hr => cases ed; exact ⟨_, rfl, ⟨_, SqL.of (mask_same _ _ ha)⟩, k _ _ H1 eq s1 (itc_lst (SqL.of (mask_same _ _ ha)) (fun _ => SqL.of ha) hr)⟩
    | scr ns =>
      refine .inl (h H0 O σ H ρ _ rl (bind_nb nb) (fun d v H1 e s1 ra => ?_) kx')
      rw [ef] at e; cases e
      cases ra with
      | scr ha => cases ed; exact ⟨_, rfl, ⟨_, Same.sqL mask_same ha⟩, k _ _ H1 eq s1 (itc_lst (Same.sqL mask_same ha) (fun _ => ha) (reps_ints _))⟩
    | tup xs =>
      refine .inr (.inl (h H0 O σ H ρ _ rl (bind_nb nb) (fun d v H1 e s1 ra => ?_) kx'))
      rw [ef] at e; cases e
      cases ra with
      | tup ha hr => cases ed; exact ⟨_, rfl, ⟨_, Same.sqT mask_same ha⟩, k _ _ H1 eq s1 (itc_tup ha hr)⟩
    | str z =>
      refine .inr (.inr (h H0 O σ H ρ _ rl (bind_nb nb) (fun d v H1 e s1 ra => ?_) kx'))
      rw [ef] at e; cases e
      cases ra
      cases ed
      exact ⟨_, rfl, k _ _ H1 eq s1 itc_str⟩
    | _ => cases ed
/-- the same within a comprehension: own lists too -/
theorem sic_seq (h : SL K W own te fa) : SI false K W own (iSeq K te) (dSeq fa) := fun H0 O σ H ρ R rl nb k kx => by
  cases ef : fa ρ with
  | bad => exact absurd ef (bind_nb nb)
  | exc x =>
    refine .inl (h H0 O σ H ρ _ rl (bind_nb nb) (fun d v H' e => by rw [ef] at e; cases e) fun x C dd H' e s rx => kx x C dd H' ?_ s rx)
    show (fa ρ).bind _ = _; rw [e]; rfl
  | ok a =>
    have nb1 := bind_nb2 nb ef
    obtain ⟨ds, ed⟩ := ofO_nb nb1
    have eq := dSeq_eq ef ed
    have kx' : ∀ x C dd H', fa ρ = .exc x → Same H H' → RepX K (mask O H') C dd x → W C dd σ H' := fun x C dd H' e => by rw [ef] at e; cases e
    cases a with
    | lst xs =>
      refine .inl (h H0 O σ H ρ _ rl (bind_nb nb) (fun d v H1 e s1 ra => ?_) kx')
      rw [ef] at e; cases e
      obtain ⟨p, vs, rfl, hp, hr⟩ := ra.lst
      cases ed; exact ⟨_, rfl, ⟨_, SqL.of hp⟩, k _ _ H1 eq s1 (itc_lst (SqL.of hp) (fun z => nomatch z) hr)⟩
    | scr ns =>
      refine .inl (h H0 O σ H ρ _ rl (bind_nb nb) (fun d v H1 e s1 ra => ?_) kx')
      rw [ef] at e; cases e
      obtain ⟨p, rfl, hp⟩ := ra.scr
      cases ed; exact ⟨_, rfl, ⟨_, hp⟩, k _ _ H1 eq s1 (itc_lst hp (fun z => nomatch z) (reps_ints _))⟩
    | tup xs =>
      refine .inr (.inl (h H0 O σ H ρ _ rl (bind_nb nb) (fun d v H1 e s1 ra => ?_) kx'))
      rw [ef] at e; cases e
      rcases ra with ra | ⟨_, _, _, _, z, _⟩
      · cases ra with
        | tup ha hr => cases ed; exact ⟨_, rfl, ⟨_, Same.sqT mask_same ha⟩, k _ _ H1 eq s1 (itc_tup ha hr)⟩
      · cases z
    | str z =>
      refine .inr (.inr (h H0 O σ H ρ _ rl (bind_nb nb) (fun d v H1 e s1 ra => ?_) kx'))
      rw [ef] at e; cases e
      have := ra.str
      subst this
      cases ed
      exact ⟨_, rfl, k _ _ H1 eq s1 itc_str⟩
    | _ => cases ed
/-- range -/
def R62 (j : Int) : Prop := -(2 ^ 62) ≤ j ∧ j < 2 ^ 62
noncomputable instance decR62 (j : Int) : Decidable (R62 j) := Classical.propDecidable _
def rngD (lo : Int) (n : Nat) : List D := (List.range n).map fun (i : Nat) => .int (lo + i)
def rngCD (lo c : Int) (n : Nat) : List D := (List.range n).map fun (i : Nat) => .int (lo + (i : Nat) * c)
def CRng (i j c : Int) : Prop := c ≠ 0 ∧ c.natAbs < 1073741824 ∧ Builtin.Range.small i j c = true ∧ 0 ≤ Builtin.Range.rangeSize i j c
noncomputable instance decRng (i j c : Int) : Decidable (CRng i j c) := Classical.propDecidable _
noncomputable def oRng : List D → Option (List D)
  | [.int j] => if R62 j then some (rngD 0 j.toNat) else none
  | [.int i, .int j] => if R62 i ∧ R62 j then some (rngD i (j - i).toNat) else none
  | [.int i, .int j, .int c] => if CRng i j c then some (rngCD i c (Builtin.Range.rangeSize i j c).toNat) else none
  | _ => none
noncomputable def dRng (fs : Env → Res (List D)) (ρ : Env) : Res (List D) := (fs ρ).bind fun as => ofO (oRng as)
theorem dRng_eq {fs : Env → Res (List D)} {ρ : Env} {as ds : List D} (e1 : fs ρ = .ok as) (ed : oRng as = some ds) : dRng fs ρ = .ok ds := by
  show (fs ρ).bind _ = _; rw [e1]; show ofO (oRng as) = _; rw [ed]; rfl
theorem reps3 {H : Hp} {vs : List V} {d e f : D} (r : Reps K H vs [d, e, f]) : ∃ v u w, vs = [v, u, w] ∧ Rep K H v d ∧ Rep K H u e ∧ Rep K H w f := by
  cases r with
  | cons a b =>
    obtain ⟨u, w, rfl, h, h'⟩ := reps2 b
    exact ⟨_, u, w, rfl, a, h, h'⟩
theorem si_rng1 {m : Bool} {ts : TA} {fs : Env → Res (List D)} (h : SAR K W own ts fs) (hl : ∀ ρ as, fs ρ = .ok as → as.length = 1) : SI m K W own (iRng1 ts) (dRng fs) := fun H0 O σ H ρ R rl nb k kx => by
  refine h H0 O σ H ρ _ rl (bind_nb nb) (fun as xs H1 e1 s1 r0 => ?_) fun x C dd H' e s rx => kx x C dd H' (by show (fs ρ).bind _ = _; rw [e]; rfl) s rx
  have nb1 := bind_nb2 nb e1
  obtain ⟨ds, ed⟩ := ofO_nb nb1
  have l1 := hl ρ as e1
  match as, l1 with
  | [a], _ =>
    obtain ⟨v, rfl, rv⟩ := reps1 r0
    cases a with
    | int j =>
      cases rv
      have ed' : (if R62 j then some (rngD 0 j.toNat) else none) = some ds := ed
      by_cases hj : R62 j
      · rw [if_pos hj] at ed'
        cases ed'
        exact ⟨j, rfl, hj.1, hj.2, k _ _ H1 (dRng_eq e1 ed) s1 itc_range⟩
      · rw [if_neg hj] at ed'; cases ed'
    | _ => cases ed
theorem si_rng2 {m : Bool} {ts : TA} {fs : Env → Res (List D)} (h : SAR K W own ts fs) (hl : ∀ ρ as, fs ρ = .ok as → as.length = 2) : SI m K W own (iRng2 ts) (dRng fs) := fun H0 O σ H ρ R rl nb k kx => by
  refine h H0 O σ H ρ _ rl (bind_nb nb) (fun as xs H1 e1 s1 r0 => ?_) fun x C dd H' e s rx => kx x C dd H' (by show (fs ρ).bind _ = _; rw [e]; rfl) s rx
  have nb1 := bind_nb2 nb e1
  obtain ⟨ds, ed⟩ := ofO_nb nb1
  have l1 := hl ρ as e1
  match as, l1 with
  | [a, b], _ =>
    obtain ⟨v, u, rfl, rv, ru⟩ := reps2 r0
    cases a with
    | int i =>
      cases b with
      | int j =>
        cases rv; cases ru
        have ed' : (if R62 i ∧ R62 j then some (rngD i (j - i).toNat) else none) = some ds := ed
        by_cases hj : R62 i ∧ R62 j
        · rw [if_pos hj] at ed'
          cases ed'
          exact ⟨i, j, rfl, ⟨hj.1.1, hj.1.2, hj.2.1, hj.2.2⟩, k _ _ H1 (dRng_eq e1 ed) s1 itc_range⟩
        · rw [if_neg hj] at ed'; cases ed'
      | _ => cases ed
    | _ => cases b <;> cases ed
theorem si_rng3 {m : Bool} {ts : TA} {fs : Env → Res (List D)} (h : SAR K W own ts fs) (hl : ∀ ρ as, fs ρ = .ok as → as.length = 3) : SI m K W own (iRng3 ts) (dRng fs) := fun H0 O σ H ρ R rl nb k kx => by
  refine h H0 O σ H ρ _ rl (bind_nb nb) (fun as xs H1 e1 s1 r0 => ?_) fun x C dd H' e s rx => kx x C dd H' (by show (fs ρ).bind _ = _; rw [e]; rfl) s rx
  have nb1 := bind_nb2 nb e1
  obtain ⟨ds, ed⟩ := ofO_nb nb1
  have l1 := hl ρ as e1
  match as, l1 with
  | [a, b, c], _ =>
    obtain ⟨v, u, w, rfl, rv, ru, rw'⟩ := reps3 r0
    cases a with
    | int i =>
      cases b with
      | int j =>
        cases c with
        | int c =>
          cases rv; cases ru; cases rw'
          have ed' : (if CRng i j c then some (rngCD i c (Builtin.Range.rangeSize i j c).toNat) else none) = some ds := ed
          by_cases hj : CRng i j c
          · rw [if_pos hj] at ed'
            cases ed'
            exact ⟨i, j, c, _, rfl, ⟨hj.1, hj.2.1, hj.2.2.1, (Int.toNat_of_nonneg hj.2.2.2).symm⟩, k _ _ H1 (dRng_eq e1 ed) s1 itc_rangeC⟩
          · rw [if_neg hj] at ed'; cases ed'
        | _ => cases ed
      | _ => cases c <;> cases ed
    | _ => cases b <;> cases c <;> cases ed
/-- enumerate -/
def oLs : D → Option (List D)
  | .lst xs => some xs
  | .scr ns => some (ns.map .int)
  | _ => none
def dEnum (fa : Env → Res D) (ρ : Env) : Res (List D) := (fa ρ).bind fun a => ofO ((oLs a).map (enumD 0))
theorem si_enum (h : SE K W own te fa) : SI true K W own (iEnum K (tCons te tNil)) (dEnum fa) := fun H0 O σ H ρ R rl nb k kx => by
  refine h.then_ rl nb (fun a x H1 e1 s1 rl1 ra nb1 => ?_) kx
  have eq : ∀ ds, oLs a = some ds → dEnum fa ρ = .ok (enumD 0 ds) := fun ds ed => by show (fa ρ).bind _ = _; rw [e1]; show ofO ((oLs a).map _) = _; rw [ed]; rfl
  show iEnum K (fun σ H Q => Q [x] H) σ H1 R
  cases ra with
  | lst ha hr => exact ⟨_, _, rfl, SqL.of (mask_same _ _ ha), k _ _ H1 (eq _ rfl) s1 (itc_enum (SqL.of (mask_same _ _ ha)) (fun _ => SqL.of ha) hr)⟩
  | scr ha => exact ⟨_, _, rfl, Same.sqL mask_same ha, k _ _ H1 (eq _ rfl) s1 (itc_enum (Same.sqL mask_same ha) (fun _ => ha) (reps_ints _))⟩
  | _ => exact absurd rfl nb1
theorem sic_enum (h : SL K W own te fa) : SI false K W own (iEnum K (tCons te tNil)) (dEnum fa) := fun H0 O σ H ρ R rl nb k kx => by
  refine h.then_ rl nb (fun a x H1 e1 s1 rl1 ra nb1 => ?_) kx
  have eq : ∀ ds, oLs a = some ds → dEnum fa ρ = .ok (enumD 0 ds) := fun ds ed => by show (fa ρ).bind _ = _; rw [e1]; show ofO ((oLs a).map _) = _; rw [ed]; rfl
  show iEnum K (fun σ H Q => Q [x] H) σ H1 R
  cases a with
  | lst xs =>
    obtain ⟨p, vs, rfl, hp, hr⟩ := ra.lst
    exact ⟨_, _, rfl, SqL.of hp, k _ _ H1 (eq _ rfl) s1 (itc_enum (SqL.of hp) (fun z => nomatch z) hr)⟩
  | scr ns =>
    obtain ⟨p, rfl, hp⟩ := ra.scr
    exact ⟨_, _, rfl, hp, k _ _ H1 (eq _ rfl) s1 (itc_enum hp (fun z => nomatch z) (reps_ints _))⟩
  | _ => exact absurd rfl nb1
/-- zip -/
def dZip (fa fb : Env → Res D) (ρ : Env) : Res (List D) := (fa ρ).bind fun a => (fb ρ).bind fun b => match a, b with
  | .lst xs, .lst ys => .ok (zipD xs ys)
  | _, _ => .bad
theorem si_zip (ha : SE K W own ta fa) (hb : SE K W own tb fb) : SI true K W own (iZip K (tCons ta (tCons tb tNil))) (dZip fa fb) := fun H0 O σ H ρ R rl nb k kx => by
  refine ha.then_ rl nb (fun a x H1 e1 s1 rl1 ra nb1 => ?_) kx
  have ed : dZip fa fb ρ = (fb ρ).bind fun b => match a, b with
    | .lst xs, .lst ys => .ok (zipD xs ys)
    | _, _ => .bad := by show (fa ρ).bind _ = _; rw [e1]; rfl
  refine hb.then_ rl1 nb1 (fun b y H2 e2 s2 rl2 rb nb2 => ?_) fun x C dd H' e s rx => kx x C dd H' (by rw [ed]; exact e) (s1.trans s) rx
  show iZip K (fun σ H Q => Q [x, y] H) σ H2 R
  cases a with
  | lst xs =>
    cases b with
    | lst ys =>
      have ra2 := ra.mono (mask_mono s2)
      cases ra2 with
      | lst h1 r1 =>
        cases rb with
        | lst h2 r2 => exact ⟨_, _, _, _, rfl, SqL.of (mask_same _ _ h1), SqL.of (mask_same _ _ h2), k _ _ H2 (by rw [ed, e2]; rfl) (s1.trans s2) (itc_zip (SqL.of (mask_same _ _ h1)) (fun _ => SqL.of h1) r1 (SqL.of (mask_same _ _ h2)) (fun _ => SqL.of h2) r2)⟩
    | _ => exact absurd rfl nb2
  | _ => exact absurd rfl nb2
theorem sic_zip (ha : SL K W own ta fa) (hb : SL K W own tb fb) : SI false K W own (iZip K (tCons ta (tCons tb tNil))) (dZip fa fb) := fun H0 O σ H ρ R rl nb k kx => by
  refine ha.then_ rl nb (fun a x H1 e1 s1 rl1 ra nb1 => ?_) kx
  have ed : dZip fa fb ρ = (fb ρ).bind fun b => match a, b with
    | .lst xs, .lst ys => .ok (zipD xs ys)
    | _, _ => .bad := by show (fa ρ).bind _ = _; rw [e1]; rfl
  refine hb.then_ rl1 nb1 (fun b y H2 e2 s2 rl2 rb nb2 => ?_) fun x C dd H' e s rx => kx x C dd H' (by rw [ed]; exact e) (s1.trans s) rx
  show iZip K (fun σ H Q => Q [x, y] H) σ H2 R
  cases a with
  | lst xs =>
    cases b with
    | lst ys =>
      obtain ⟨p, vs, rfl, hp, hr⟩ := (ra.mono s2).lst
      obtain ⟨q, us, rfl, hq, hs⟩ := rb.lst
      exact ⟨_, _, _, _, rfl, SqL.of hp, SqL.of hq, k _ _ H2 (by rw [ed, e2]; rfl) (s1.trans s2) (itc_zip (SqL.of hp) (fun z => nomatch z) hr (SqL.of hq) (fun z => nomatch z) hs)⟩
    | _ => exact absurd rfl nb2
  | _ => exact absurd rfl nb2
/-! ### [e for t in it if ..] -/
/-- nothing may be raised within -/
def must {α : Type} : Res α → Res α
  | .ok a => .ok a
  | _ => .bad
theorem must_ok {α : Type} {r : Res α} {a : α} (h : must r = .ok a) : r = .ok a := by cases r <;> first | exact h | cases h
def stepC (b : Bd) (ft : Env → Res Bool) (fe : Env → Res D) (ρ : Env) (d : D) : Res (List D) := match b d ρ with
  | none => .bad
  | some ρ' => (must (ft ρ')).bind fun c => if c = true then (must (fe ρ')).bind fun y => .ok [y] else .ok []
def compL (b : Bd) (ft : Env → Res Bool) (fe : Env → Res D) (ρ : Env) : List D → Res (List D)
  | [] => .ok []
  | d :: ds => (stepC b ft fe ρ d).bind fun a => (compL b ft fe ρ ds).bind fun r => .ok (a ++ r)
def dLc (items : Env → Res (List D)) (b : Bd) (ft : Env → Res Bool) (fe : Env → Res D) (vs : List Nat) (ρ : Env) : Res (List D) := (items ρ).bind fun ds => if ds.length ≤ sizeLine then compL b ft fe (wipeE ρ vs) ds else .bad
theorem compL_snoc {b : Bd} {ft : Env → Res Bool} {fe : Env → Res D} {ρ : Env} : ∀ (ds : List D) (d : D), compL b ft fe ρ (ds ++ [d]) = (compL b ft fe ρ ds).bind fun r => (stepC b ft fe ρ d).bind fun a => .ok (r ++ a)
  | [], d => by
    show (stepC b ft fe ρ d).bind (fun a => Res.bind (.ok []) fun r => .ok (a ++ r)) = _
    cases stepC b ft fe ρ d <;> simp [compL, Res.bind]
  | e :: ds, d => by
    show (stepC b ft fe ρ e).bind (fun a => (compL b ft fe ρ (ds ++ [d])).bind fun r => .ok (a ++ r)) = _
    rw [compL_snoc ds d]
    show _ = ((stepC b ft fe ρ e).bind fun a => (compL b ft fe ρ ds).bind fun r => .ok (a ++ r)).bind _
    cases stepC b ft fe ρ e with
    | bad => rfl
    | exc x => rfl
    | ok a =>
      cases compL b ft fe ρ ds with
      | bad => rfl
      | exc x => rfl
      | ok r =>
        cases stepC b ft fe ρ d with
        | bad => rfl
        | exc x => rfl
        | ok c => simp [Res.bind]
theorem compL_ne {b : Bd} {ft : Env → Res Bool} {fe : Env → Res D} {ρ : Env} {x : Exn} : ∀ ds : List D, compL b ft fe ρ ds ≠ .exc x
  | [], h => by cases h
  | d :: ds, h => by
    have h' : (stepC b ft fe ρ d).bind (fun a => (compL b ft fe ρ ds).bind fun r => .ok (a ++ r)) = .exc x := h
    cases e : stepC b ft fe ρ d with
    | bad => rw [e] at h'; cases h'
    | ok a =>
      rw [e] at h'
      cases e2 : compL b ft fe ρ ds with
      | bad => rw [e2] at h'; cases h'
      | ok r => rw [e2] at h'; cases h'
      | exc y => exact compL_ne ds e2
    | exc y =>
      unfold stepC at e
      cases e3 : b d ρ with
      | none => rw [e3] at e; cases e
      | some ρ' =>
        rw [e3] at e
        dsimp only at e
        cases e4 : ft ρ' with
        | bad => rw [e4] at e; cases e
        | exc z => rw [e4] at e; cases e
        | ok c =>
          rw [e4] at e
          cases c with
          | false => cases e
          | true =>
            cases e5 : fe ρ' with
            | bad => rw [e5] at e; cases e
            | exc z => rw [e5] at e; cases e
            | ok y => rw [e5] at e; cases e
theorem compL_take {b : Bd} {ft : Env → Res Bool} {fe : Env → Res D} {ρ : Env} {r : List D} : ∀ {ds : List D} {i : Nat}, compL b ft fe ρ ds = .ok r → ∃ r', compL b ft fe ρ (ds.take i) = .ok r' := fun {ds i} h => by
  have gen : ∀ (xs ys : List D) (r : List D), compL b ft fe ρ (xs ++ ys) = .ok r → ∃ r', compL b ft fe ρ xs = .ok r' := by
    intro xs
    induction xs with
    | nil => intro ys r _; exact ⟨[], rfl⟩
    | cons x xs ih =>
      intro ys r h
      have h' : (stepC b ft fe ρ x).bind (fun a => (compL b ft fe ρ (xs ++ ys)).bind fun r => .ok (a ++ r)) = .ok r := h
      cases e : stepC b ft fe ρ x with
      | bad => rw [e] at h'; cases h'
      | exc y => rw [e] at h'; cases h'
      | ok a =>
        rw [e] at h'
        cases e2 : compL b ft fe ρ (xs ++ ys) with
        | bad => rw [e2] at h'; cases h'
        | exc y => rw [e2] at h'; cases h'
        | ok r2 =>
          obtain ⟨r3, h3⟩ := ih ys r2 e2
          exact ⟨a ++ r3, by show (stepC b ft fe ρ x).bind _ = _; rw [e]; show (compL b ft fe ρ xs).bind _ = _; rw [h3]; rfl⟩
  exact gen (ds.take i) (ds.drop i) r (by rw [List.take_append_drop]; exact h)
theorem sf_lc {ti : TI} {items : Env → Res (List D)} {g : TG} {b : Bd} {ts : List Nat} {tt : TT} {ft : Env → Res Bool} {fe : Env → Res D} {vs : List Nat} (hi : SI false K W own ti items) (hg : SGm K own g b ts) (ht : ST K WF own tt ft) (he : SE K WF own te fe)
    (hv : ∀ t ∈ ts, t ∈ vs) : SF K W own (tLc ti g tt te vs) (dLc items b ft fe vs) := fun H0 O σ H ρ Q rl nb k kx => by
  refine hi H0 O σ H ρ _ rl (bind_nb nb) (fun ds J H1 e1 s1 ⟨G, Y, w, gG, yY⟩ => ?_) fun x C dd H' e s rx => kx x C dd H' (by show (items ρ).bind _ = _; rw [e]; rfl) s rx
  have nb1 := bind_nb2 nb e1
  have hz : ds.length ≤ sizeLine := by
    by_cases c : ds.length ≤ sizeLine
    · exact c
    · have nb1' : (if ds.length ≤ sizeLine then compL b ft fe (wipeE ρ vs) ds else .bad) ≠ .bad := nb1
      rw [if_neg c] at nb1'; exact absurd rfl nb1'
  have nb2 : compL b ft fe (wipeE ρ vs) ds ≠ .bad := by
    have nb1' : (if ds.length ≤ sizeLine then compL b ft fe (wipeE ρ vs) ds else .bad) ≠ .bad := nb1
    rw [if_pos hz] at nb1'; exact nb1'
  obtain ⟨res, er⟩ : ∃ res, compL b ft fe (wipeE ρ vs) ds = .ok res := by
    cases e : compL b ft fe (wipeE ρ vs) ds with
    | ok r => exact ⟨r, rfl⟩
    | bad => exact absurd e nb2
    | exc x => exact absurd e (compL_ne ds)
  have edl : dLc items b ft fe vs ρ = .ok res := by show (items ρ).bind _ = _; rw [e1]; show (if _ then _ else _) = _; rw [if_pos hz]; exact er
  intro Dd hD
  have rl1 := rl.mono s1
  have rw0 := rl1.wipe vs
  refine lc_it w (fun i H2 => ∃ acc ys, compL b ft fe (wipeE ρ vs) (ds.take i) = .ok ys ∧ H2 Dd = some (.lst acc) ∧ Same H1 H2 ∧ Reps K (mask (Dd :: O) H2) acc ys ∧ acc.length ≤ i) ⟨[], [], rfl, upd_same, Same.new hD, .nil, Nat.le_refl _⟩ (fun i H2 hi ⟨acc, ys, a1, a2, a3, a4, a5⟩ => gG H2 (fun _ => a3) fun z => nomatch z) ?_ ?_
  · rintro i x H2 H3 hlt ⟨acc, ys, a1, a2, a3, a4, a5⟩ y
    have rm2 : Rel K H0 own (Dd :: O) (wipe σ vs) H2 (wipeE ρ vs) := rw0.more hD a3 a2
    obtain ⟨s3, d, ed, rd⟩ := yY i (Dd :: O) H2 x H3 (mask_new' hD a3) rm2.dom y hlt
    have rm3 := rm2.mono s3
    -- the step
    obtain ⟨ys', ey⟩ := compL_take (i := i + 1) er
    have es : ds.take (i + 1) = ds.take i ++ [d] := by rw [List.take_add_one, ed]; rfl
    rw [es, compL_snoc, a1] at ey
    have ey' : (stepC b ft fe (wipeE ρ vs) d).bind (fun a => .ok (ys ++ a)) = .ok ys' := ey
    cases est : stepC b ft fe (wipeE ρ vs) d with
    | bad => rw [est] at ey'; cases ey'
    | exc z => rw [est] at ey'; cases ey'
    | ok a =>
      rw [est] at ey'
      have eys : ys ++ a = ys' := by cases ey'; rfl
      have efin : compL b ft fe (wipeE ρ vs) (ds.take (i + 1)) = .ok (ys ++ a) := by rw [es, compL_snoc, a1]; show (stepC _ _ _ _ _).bind _ = _; rw [est]; rfl
      unfold stepC at est
      cases eb : b d (wipeE ρ vs) with
      | none => rw [eb] at est; cases est
      | some ρ' =>
        rw [eb] at est
        dsimp only at est
        refine hg H0 (Dd :: O) (wipe σ vs) H3 (wipeE ρ vs) ρ' x d _ rm3 rd eb fun σ' rl' ww => ?_
        refine ⟨by rw [ww vs hv, wipe_wipe], ?_⟩
        cases ec : ft ρ' with
        | bad => rw [ec] at est; cases est
        | exc z => rw [ec] at est; cases est
        | ok c =>
          rw [ec] at est
          refine ht H0 (Dd :: O) σ' H3 ρ' _ rl' (by rw [ec]; exact fun z => nomatch z) (fun c' H4 ec' s4 => ?_) fun x C dd H' e => by rw [ec] at e; cases e
          rw [ec] at ec'
          cases ec'
          cases c with
          | false =>
            rw [if_neg Bool.false_ne_true]
            have ea : a = [] := by cases est; rfl
            subst ea
            have s24 := s3.trans s4
            refine ⟨acc, ys ++ [], efin, s24 _ _ a2, a3.trans s24, ?_, by omega⟩
            rw [List.append_nil]
            exact a4.mono (mask_mono s24)
          | true =>
            rw [if_pos rfl]
            have est' : (must (fe ρ')).bind (fun y => .ok [y]) = .ok a := est
            cases efe : fe ρ' with
            | bad => rw [efe] at est'; cases est'
            | exc z => rw [efe] at est'; cases est'
            | ok z =>
              rw [efe] at est'
              have ea : a = [z] := by cases est'; rfl
              subst ea
              refine he H0 (Dd :: O) σ' H4 ρ' _ (rl'.mono s4) (by rw [efe]; exact fun z => nomatch z) (fun d' v H5 e5 s5 rv => ?_) fun x C dd H' e => by rw [efe] at e; cases e
              rw [efe] at e5
              cases e5
              have s25 := (s3.trans s4).trans s5
              have hD5 : H5 Dd = some (.lst acc) := s25 _ _ a2
              refine ⟨acc, hD5, by omega, acc ++ [v], ys ++ [z], efin, upd_same, PL.Same.mut (a3.trans s25) hD, ?_, by simp; omega⟩
              have em : mask (Dd :: O) (upd H5 Dd (.lst (acc ++ [v]))) = mask (Dd :: O) H5 := mask_upd List.mem_cons_self
              rw [em]
              exact (a4.mono (mask_mono s25)).append (Reps.one rv)
  · rintro H2 ⟨acc, ys, a1, a2, a3, a4, a5⟩
    rw [List.take_length] at a1
    have eys : ys = res := by rw [er] at a1; cases a1; rfl
    subst eys
    exact k ys Dd acc H2 edl (s1.trans a3) (s1.free hD) a2 a4
end
end PL
namespace PL
open PySem PySem.Spec PyProof.Rows L2
/-! ### statements -/
/-- what a def hands back: fr: a list that is new -/
def RetOk (K : Fg) (fr : Bool) (H0 : Bs) (v : V) (H : Hp) (d : D) : Prop := match fr with
  | false => Rep K (mask H0.o H) v d
  | true => (∃ p vs ds, v = .ref p ∧ d = .lst ds ∧ H0.h p = none ∧ H p = some (.lst vs) ∧ Reps K (mask (p :: H0.o) H) vs ds) ∨ scaV d = some v
theorem RetOk.rep {K : Fg} {fr : Bool} {H0 : Bs} {H : Hp} {v : V} {d : D} (dm : Dom H0.o H0.h) (r : RetOk K fr H0 v H d) : Rep K (mask H0.o H) v d := by
  cases fr with
  | false => exact r
  | true =>
    rcases r with ⟨p, vs, ds, h1, h2, h0, h3, h4⟩ | h
    · subst h1; subst h2
      have np : p ∉ H0.o := dm.not h0
      exact .lst (by rw [mask_out np]; exact h3) (h4.mono (mask_sub fun q hq => List.mem_cons_of_mem _ hq))
    · exact Rep.of_sca h
/-- a statement: own lists ahead and behind; oc: own lists where a turn is gone on from -/
def SS (K : Fg) (W : WX) (fr : Bool) (oc own : List Nat) (ts : TS) (g : Env → Flow) (own' : List Nat) : Prop :=
  ∀ (H0 : Bs) (O : List Addr) (σ : L2.St) (H : Hp) (ρ : Env) (De : Ends), Rel K H0 own O σ H ρ → g ρ ≠ .bad →
    (∀ ρ' O' σ' H', g ρ = .nx ρ' → Rel K H0 own' O' σ' H' ρ' → Same (mask O H) (mask O' H') → De.nx σ' H') →
    (∀ ρ' O' σ' H', g ρ = .ct ρ' → Rel K H0 oc O' σ' H' ρ' → Same (mask O H) (mask O' H') → De.ct σ' H') →
    (∀ d v H', g ρ = .rt d → Same H0.h H' → RetOk K fr H0 v H' d → De.rt v H') →
    (∀ x ρ' C dd O' σ' H', g ρ = .ex x ρ' → Rel K H0 [] O' σ' H' ρ' → Same (mask O H) (mask O' H') → RepX K (mask O' H') C dd x → W C dd σ' H') → ts De σ H
section
variable {K : Fg} {W : WX} {fr : Bool} {oc own own1 own2 own' : List Nat} {ts us : TS} {g h : Env → Flow} {te : TE} {tt : TT} {f fa : Env → Res D}
def frx (f : Env → Res D) (k : D → Env → Flow) (ρ : Env) : Flow := match f ρ with
  | .ok d => k d ρ
  | .exc x => .ex x ρ
  | .bad => .bad
/-- the exception's way out of an expression -/
theorem ex_out {H0 : Bs} {O : List Addr} {σ : L2.St} {H H' : Hp} {ρ : Env} {x : Exn} {C : Value} {dd : Option Addr} {P : Prop} (rl : Rel K H0 own O σ H ρ) (s : Same H H') (rx : RepX K (mask O H') C dd x)
    (k : ∀ O' : List Addr, Rel K H0 [] O' σ H' ρ → Same (mask O H) (mask O' H') → RepX K (mask O' H') C dd x → P) : P := by
  obtain ⟨O', r', sub⟩ := (rl.mono s).sub (own' := []) fun i hi => by cases hi
  exact k O' r' (Same.trans (mask_mono s) (mask_sub sub)) (rx.mono (mask_sub sub))
theorem ss_next : SS K W fr oc own tNext (fun ρ => .nx ρ) own := fun H0 O σ H ρ De rl nb k _ _ _ => k ρ O σ H rfl rl (Same.refl _)
def gSeq (g h : Env → Flow) (ρ : Env) : Flow := match g ρ with
  | .nx ρ' => h ρ'
  | .ct ρ' => .ct ρ'
  | .rt d => .rt d
  | .ex x ρ' => .ex x ρ'
  | .bad => .bad
theorem ss_seq (hg : SS K W fr oc own ts g own1) (hh : SS K W fr oc own1 us h own2) : SS K W fr oc own (tSeq ts us) (gSeq g h) own2 := fun H0 O σ H ρ De rl nb k kc kr kx => by
  refine hg H0 O σ H ρ _ rl (fun e => nb (by unfold gSeq; rw [e])) (fun ρ' O' σ' H' e rl' s => ?_) (fun ρ' O' σ' H' e => kc ρ' O' σ' H' (by unfold gSeq; rw [e])) (fun d v H' e => kr d v H' (by unfold gSeq; rw [e])) fun x ρ' C dd O' σ' H' e => kx x ρ' C dd O' σ' H' (by unfold gSeq; rw [e])
  have ed : gSeq g h ρ = h ρ' := by unfold gSeq; rw [e]
  exact hh H0 O' σ' H' ρ' De rl' (by rw [← ed]; exact nb) (fun ρ2 O2 σ2 H2 e2 rl2 s2 => k ρ2 O2 σ2 H2 (ed.trans e2) rl2 (s.trans s2)) (fun ρ2 O2 σ2 H2 e2 rl2 s2 => kc ρ2 O2 σ2 H2 (ed.trans e2) rl2 (s.trans s2))
    (fun d v H2 e2 => kr d v H2 (ed.trans e2)) fun x ρ2 C dd O2 σ2 H2 e2 rl2 s2 => kx x ρ2 C dd O2 σ2 H2 (ed.trans e2) rl2 (s.trans s2)
theorem ss_post (hg : SS K W fr oc own ts g own1) (hs : ∀ i ∈ own2, i ∈ own1) : SS K W fr oc own ts g own2 := fun H0 O σ H ρ De rl nb k kc kr kx =>
  hg H0 O σ H ρ De rl nb (fun ρ' O' σ' H' e rl' s => by
    obtain ⟨O2, r2, sub⟩ := rl'.sub hs
    exact k ρ' O2 σ' H' e r2 (s.trans (mask_sub sub))) kc kr kx
theorem ss_pre (hg : SS K W fr oc own1 ts g own2) (hs : ∀ i ∈ own1, i ∈ own) : SS K W fr oc own ts g own2 := fun H0 O σ H ρ De rl nb k kc kr kx => by
  obtain ⟨O2, r2, sub⟩ := rl.sub hs
  have m := mask_sub (H := H) sub
  exact hg H0 O2 σ H ρ De r2 nb (fun ρ' O' σ' H' e rl' s => k ρ' O' σ' H' e rl' (Same.trans m s)) (fun ρ' O' σ' H' e rl' s => kc ρ' O' σ' H' e rl' (Same.trans m s)) kr fun x ρ' C dd O' σ' H' e rl' s => kx x ρ' C dd O' σ' H' e rl' (Same.trans m s)
/-- t = e -/
def gAsg (b : Bd) (f : Env → Res D) : Env → Flow := frx f fun d ρ => match b d ρ with
  | some ρ' => .nx ρ'
  | none => .bad
theorem ss_asg {gt : TG} {b : Bd} {tl : List Nat} (hb : SGm K own gt b tl) (he : SE K W own te f) : SS K W fr oc own (tAsg te gt) (gAsg b f) own := fun H0 O σ H ρ De rl nb k kc kr kx => by
  refine he H0 O σ H ρ _ rl (fun e => nb (by unfold gAsg frx; rw [e])) (fun d v H' e s rv => ?_) fun x C dd H' e s rx => ex_out rl s rx fun O' r' s' rx' => kx x ρ C dd O' σ H' (by unfold gAsg frx; rw [e]) r' s' rx'
  have ed : gAsg b f ρ = (match b d ρ with
    | some ρ' => .nx ρ'
    | none => .bad) := by unfold gAsg frx; rw [e]
  cases eb : b d ρ with
  | none => rw [ed, eb] at nb; exact absurd rfl nb
  | some ρ' =>
    rw [eb] at ed
    exact hb H0 O σ H' ρ ρ' v d _ (rl.mono s) rv eb fun σ' rl' _ => k ρ' O σ' H' ed rl' (mask_mono s)
/-- x = e, x perhaps an own list's name until now -/
theorem ss_setE {i : Nat} (he : SE K W own te f) (ho : (own.filter fun j => decide (j ≠ i)) = own' := by rfl) : SS K W fr oc own (tAsg te (gName i)) (gAsg (bN i) f) own' := fun H0 O σ H ρ De rl nb k kc kr kx => by
  refine he H0 O σ H ρ _ rl (fun e => nb (by unfold gAsg frx; rw [e])) (fun d v H' e s rv => ?_) fun x C dd H' e s rx => ex_out rl s rx fun O' r' s' rx' => kx x ρ C dd O' σ H' (by unfold gAsg frx; rw [e]) r' s' rx'
  have ed : gAsg (bN i) f ρ = (match bN i d ρ with
    | some ρ' => .nx ρ'
    | none => .bad) := by unfold gAsg frx; rw [e]
  cases eb : bN i d ρ with
  | none => rw [ed, eb] at nb; exact absurd rfl nb
  | some ρ' =>
    rw [eb] at ed
    unfold bN at eb
    by_cases hi : i < ρ.length
    · rw [if_pos hi] at eb
      cases eb
      subst ho
      exact k _ O _ H' ed ((rl.mono s).put hi rv) (mask_mono s)
    · rw [if_neg hi] at eb; cases eb
/-- x = a new list -/
def gAsgL (i : Nat) (f : Env → Res (List D)) (ρ : Env) : Flow := match f ρ with
  | .ok ds => if i < ρ.length then .nx (ρ.set i (some (.lst ds))) else .bad
  | .exc x => .ex x ρ
  | .bad => .bad
theorem ss_setF {i : Nat} {f : Env → Res (List D)} (he : SF K W own te f) (ho : (i :: own.filter fun j => decide (j ≠ i)) = own' := by rfl) : SS K W fr oc own (tAsg te (gName i)) (gAsgL i f) own' := fun H0 O σ H ρ De rl nb k kc kr kx => by
  refine he H0 O σ H ρ _ rl (fun e => nb (by unfold gAsgL; rw [e])) (fun ds p vs H' e s hp hl hr => ?_) fun x C dd H' e s rx => ex_out rl s rx fun O' r' s' rx' => kx x ρ C dd O' σ H' (by unfold gAsgL; rw [e]) r' s' rx'
  have ed : gAsgL i f ρ = if i < ρ.length then .nx (ρ.set i (some (.lst ds))) else .bad := by unfold gAsgL; rw [e]
  by_cases hi : i < ρ.length
  · rw [if_pos hi] at ed
    subst ho
    exact k _ (p :: O) _ H' ed (rl.putNew hi s hp hl hr) (mask_new' hp s)
  · rw [ed, if_neg hi] at nb; exact absurd rfl nb
/-- if -/
def gIf (ft : Env → Res Bool) (g h : Env → Flow) (ρ : Env) : Flow := match ft ρ with
  | .ok b => if b = true then g ρ else h ρ
  | .exc x => .ex x ρ
  | .bad => .bad
theorem ss_if {ft : Env → Res Bool} (ht : ST K W own tt ft) (hg : SS K W fr oc own ts g own') (hh : SS K W fr oc own us h own') : SS K W fr oc own (tIfS tt ts us) (gIf ft g h) own' := fun H0 O σ H ρ De rl nb k kc kr kx => by
  refine ht H0 O σ H ρ _ rl (fun e => nb (by unfold gIf; rw [e])) (fun b H' e s => ?_) fun x C dd H' e s rx => ex_out rl s rx fun O' r' s' rx' => kx x ρ C dd O' σ H' (by unfold gIf; rw [e]) r' s' rx'
  have m := mask_mono (O := O) s
  cases b with
  | true =>
    have ed : gIf ft g h ρ = g ρ := by unfold gIf; rw [e]; exact if_pos rfl
    rw [if_pos rfl]
    exact hg H0 O σ H' ρ De (rl.mono s) (by rw [← ed]; exact nb) (fun ρ2 O2 σ2 H2 e2 rl2 s2 => k ρ2 O2 σ2 H2 (ed.trans e2) rl2 (Same.trans m s2)) (fun ρ2 O2 σ2 H2 e2 rl2 s2 => kc ρ2 O2 σ2 H2 (ed.trans e2) rl2 (Same.trans m s2))
      (fun d v H2 e2 => kr d v H2 (ed.trans e2)) fun x ρ2 C dd O2 σ2 H2 e2 rl2 s2 => kx x ρ2 C dd O2 σ2 H2 (ed.trans e2) rl2 (Same.trans m s2)
  | false =>
    have ed : gIf ft g h ρ = h ρ := by unfold gIf; rw [e]; exact if_neg Bool.false_ne_true
    rw [if_neg Bool.false_ne_true]
    exact hh H0 O σ H' ρ De (rl.mono s) (by rw [← ed]; exact nb) (fun ρ2 O2 σ2 H2 e2 rl2 s2 => k ρ2 O2 σ2 H2 (ed.trans e2) rl2 (Same.trans m s2)) (fun ρ2 O2 σ2 H2 e2 rl2 s2 => kc ρ2 O2 σ2 H2 (ed.trans e2) rl2 (Same.trans m s2))
      (fun d v H2 e2 => kr d v H2 (ed.trans e2)) fun x ρ2 C dd O2 σ2 H2 e2 rl2 s2 => kx x ρ2 C dd O2 σ2 H2 (ed.trans e2) rl2 (Same.trans m s2)
/-- e alone; return e; continue -/
def gDrop (f : Env → Res D) : Env → Flow := frx f fun _ ρ => .nx ρ
theorem ss_drop (he : SE K W own te f) : SS K W fr oc own (tDrop te) (gDrop f) own := fun H0 O σ H ρ De rl nb k kc kr kx =>
  he H0 O σ H ρ _ rl (fun e => nb (by unfold gDrop frx; rw [e])) (fun d v H' e s rv => k ρ O σ H' (by unfold gDrop frx; rw [e]) (rl.mono s) (mask_mono s)) fun x C dd H' e s rx => ex_out rl s rx fun O' r' s' rx' => kx x ρ C dd O' σ H' (by unfold gDrop frx; rw [e]) r' s' rx'
def gRet (f : Env → Res D) : Env → Flow := frx f fun d _ => .rt d
theorem ss_ret (he : SE K W own te f) : SS K W false oc own (tRet te) (gRet f) own' := fun H0 O σ H ρ De rl nb k kc kr kx =>
  he H0 O σ H ρ _ rl (fun e => nb (by unfold gRet frx; rw [e])) (fun d v H' e s rv => kr d v H' (by unfold gRet frx; rw [e]) (rl.ex.trans s) (rv.mono (mask_sub rl.base))) fun x C dd H' e s rx => ex_out rl s rx fun O' r' s' rx' => kx x ρ C dd O' σ H' (by unfold gRet frx; rw [e]) r' s' rx'
theorem ss_retN : SS K W false oc own tRetN (fun _ => .rt .non) own' := fun H0 O σ H ρ De rl nb k kc kr kx => kr .non .non H rfl rl.ex .non
/-- a new list, or a scalar, is handed back -/
def gRetL (f : Env → Res (List D)) (ρ : Env) : Flow := match f ρ with
  | .ok ds => .rt (.lst ds)
  | .exc x => .ex x ρ
  | .bad => .bad
theorem ss_retF {f : Env → Res (List D)} (he : SF K W own te f) : SS K W true oc own (tRet te) (gRetL f) own' := fun H0 O σ H ρ De rl nb k kc kr kx => by
  refine he H0 O σ H ρ _ rl (fun e => nb (by unfold gRetL; rw [e])) (fun ds p vs H' e s hp hl hr => ?_) fun x C dd H' e s rx => ex_out rl s rx fun O' r' s' rx' => kx x ρ C dd O' σ H' (by unfold gRetL; rw [e]) r' s' rx'
  exact kr (.lst ds) (.ref p) H' (by unfold gRetL; rw [e]) (rl.ex.trans s) (.inl ⟨p, vs, ds, rfl, rfl, rl.ex.free hp, hl, hr.mono (mask_sub fun q hq => (List.mem_cons.mp hq).elim (fun z => by rw [z]; exact List.mem_cons_self) fun z => List.mem_cons_of_mem _ (rl.base q z))⟩)
theorem ss_retV {i : Nat} (hi : i ∈ own) : SS K W true oc own (tRet (tVar i)) (gRet (dV i)) own' := fun H0 O σ H ρ De rl nb k kc kr kx => by
  obtain ⟨d, e1, e2⟩ := dV_ok (i := i) (ρ := ρ) fun e => nb (by unfold gRet frx; rw [e])
  obtain ⟨p, vs, ds, a, b, c, hf, hr, fr⟩ := rl.owned i d e1 hi
  subst b
  exact ⟨_, a, kr _ _ H (by unfold gRet frx; rw [e2]) rl.ex (.inl ⟨p, vs, ds, rfl, rfl, fr, hf, hr.mono (mask_sub fun q hq => (List.mem_cons.mp hq).elim (fun z => by rw [z]; exact c) fun z => rl.base q z)⟩)⟩
def isSca : D → Bool
  | .non => true
  | .bl _ => true
  | .int _ => true
  | .str _ => true
  | _ => false
/-- a scalar out of a def that hands back new lists else -/
def gRetS (f : Env → Res D) : Env → Flow := frx f fun d _ => if isSca d = true then .rt d else .bad
theorem ss_retS (he : SR K W own te f) : SS K W true oc own (tRet te) (gRetS f) own' := fun H0 O σ H ρ De rl nb k kc kr kx => by
  refine he H0 O σ H ρ _ rl (fun e => nb (by unfold gRetS frx; rw [e])) (fun d v H' e s rv => ?_) fun x C dd H' e s rx => ex_out rl s rx fun O' r' s' rx' => kx x ρ C dd O' σ H' (by unfold gRetS frx; rw [e]) r' s' rx'
  have ed : gRetS f ρ = if isSca d = true then .rt d else .bad := by unfold gRetS frx; rw [e]
  by_cases h : isSca d = true
  · rw [if_pos h] at ed
    refine kr d v H' ed (rl.ex.trans s) (.inr ?_)
    cases rv <;> first | rfl | cases h
  · rw [ed, if_neg h] at nb; exact absurd rfl nb
theorem ss_cont : SS K W fr own own tCont (fun ρ => .ct ρ) own' := fun H0 O σ H ρ De rl nb k kc kr kx => kc ρ O σ H rfl rl (Same.refl _)
/-! ### for, while -/
def forL (b : Bd) (g : Env → Flow) : List D → Env → Flow
  | [], ρ => .nx ρ
  | d :: ds, ρ => match b d ρ with
    | none => .bad
    | some ρ' => match g ρ' with
      | .nx ρ2 => forL b g ds ρ2
      | .ct ρ2 => forL b g ds ρ2
      | .rt d => .rt d
      | .ex x ρ2 => .ex x ρ2
      | .bad => .bad
def gFor (items : Env → Res (List D)) (b : Bd) (g : Env → Flow) (ρ : Env) : Flow := match items ρ with
  | .ok ds => forL b g ds ρ
  | .exc x => .ex x ρ
  | .bad => .bad
theorem ss_for {ti : TI} {items : Env → Res (List D)} {gt : TG} {b : Bd} {tl : List Nat} (hi : SI true K W own ti items) (hb : SGm K own gt b tl) (hg : SS K W fr own own ts g own) : SS K W fr oc own (tFor ti gt ts) (gFor items b g) own := fun H0 O σ H ρ De rl nb k kc kr kx => by
  refine hi H0 O σ H ρ _ rl (fun e => nb (by unfold gFor; rw [e])) (fun ds J H1 e s1 ⟨G, Y, w, gG, yY⟩ => ?_) fun x C dd H' e s rx => ex_out rl s rx fun O' r' s' rx' => kx x ρ C dd O' σ H' (by unfold gFor; rw [e]) r' s' rx'
  have ed : gFor items b g ρ = forL b g ds ρ := by unfold gFor; rw [e]
  refine for_it w (fun i σ2 H2 => ∃ O2 ρ2, Rel K H0 own O2 σ2 H2 ρ2 ∧ Same (mask O H1) (mask O2 H2) ∧ forL b g (ds.drop i) ρ2 = gFor items b g ρ) ⟨O, ρ, rl.mono s1, Same.refl _, ed.symm⟩ (fun i σ2 H2 hi ⟨O2, ρ2, a1, a2, a3⟩ => gG H2 (fun z => nomatch z) fun _ => ⟨O2, a2⟩) ?_ ?_
  · rintro i x σ2 H2 H3 hlt ⟨O2, ρ2, a1, a2, a3⟩ y
    obtain ⟨s3, d, edd, rd⟩ := yY i O2 H2 x H3 a2 a1.dom y hlt
    have es : ds.drop i = d :: ds.drop (i + 1) := by
      rw [List.drop_eq_getElem_cons hlt]
      have : ds[i] = d := by rw [List.getElem?_eq_getElem hlt] at edd; exact Option.some.inj edd
      rw [this]
    rw [es] at a3
    have a3' : (match b d ρ2 with
      | none => .bad
      | some ρ' => match g ρ' with
        | .nx ρ2 => forL b g (ds.drop (i + 1)) ρ2
        | .ct ρ2 => forL b g (ds.drop (i + 1)) ρ2
        | .rt d => .rt d
        | .ex x ρ2 => .ex x ρ2
        | .bad => .bad) = gFor items b g ρ := a3
    cases eb : b d ρ2 with
    | none => rw [eb] at a3'; exact absurd a3'.symm nb
    | some ρ' =>
      rw [eb] at a3'
      dsimp only at a3'
      refine hb H0 O2 σ2 H3 ρ2 ρ' x d _ (a1.mono s3) rd eb fun σ3 rl3 _ => ?_
      have m3 : Same (mask O H1) (mask O2 H3) := Same.trans a2 (mask_mono s3)
      have m0 : Same (mask O H) (mask O2 H3) := Same.trans (mask_mono s1) m3
      refine hg H0 O2 σ3 H3 ρ' _ rl3 (fun z => nb (by rw [← a3', z])) (fun ρ4 O4 σ4 H4 e4 rl4 s4 => ⟨O4, ρ4, rl4, Same.trans m3 s4, by rw [← a3', e4]⟩) (fun ρ4 O4 σ4 H4 e4 rl4 s4 => ⟨O4, ρ4, rl4, Same.trans m3 s4, by rw [← a3', e4]⟩)
        (fun d v H4 e4 => kr d v H4 (by rw [← a3', e4])) fun x ρ4 C dd O4 σ4 H4 e4 rl4 s4 => kx x ρ4 C dd O4 σ4 H4 (by rw [← a3', e4]) rl4 (Same.trans m0 s4)
  · rintro σ2 H2 ⟨O2, ρ2, a1, a2, a3⟩
    rw [List.drop_length] at a3
    exact k ρ2 O2 σ2 H2 a3.symm a1 (Same.trans (mask_mono s1) a2)
/-- so many turns of a while -/
def whL (ft : Env → Res Bool) (g : Env → Flow) : Nat → Env → Option Flow
  | 0, _ => none
  | n + 1, ρ => match ft ρ with
    | .bad => some .bad
    | .exc x => some (.ex x ρ)
    | .ok false => some (.nx ρ)
    | .ok true => match g ρ with
      | .nx ρ2 => whL ft g n ρ2
      | .ct ρ2 => whL ft g n ρ2
      | .rt d => some (.rt d)
      | .ex x ρ2 => some (.ex x ρ2)
      | .bad => some .bad
theorem whL_mono {ft : Env → Res Bool} {g : Env → Flow} {fl : Flow} : ∀ {n m : Nat} {ρ : Env}, whL ft g n ρ = some fl → n ≤ m → whL ft g m ρ = some fl
  | 0, _, _, h, _ => by cases h
  | n + 1, 0, _, _, hm => by omega
  | n + 1, m + 1, ρ, h, hm => by
    unfold whL at h ⊢
    cases e : ft ρ with
    | bad => rw [e] at h; exact h
    | exc x => rw [e] at h; exact h
    | ok b =>
      rw [e] at h
      cases b with
      | false => exact h
      | true =>
        dsimp only at h ⊢
        cases e2 : g ρ with
        | nx ρ2 => rw [e2] at h; exact whL_mono h (by omega)
        | ct ρ2 => rw [e2] at h; exact whL_mono h (by omega)
        | rt d => rw [e2] at h; exact h
        | ex x ρ2 => rw [e2] at h; exact h
        | bad => rw [e2] at h; exact h
open Classical in
noncomputable def gWhile (ft : Env → Res Bool) (g : Env → Flow) (ρ : Env) : Flow := if h : ∃ fl n, whL ft g n ρ = some fl then h.choose else .bad
theorem gWhile_eq {ft : Env → Res Bool} {g : Env → Flow} {ρ : Env} {fl : Flow} {n : Nat} (h : whL ft g n ρ = some fl) : gWhile ft g ρ = fl := by
  have ex : ∃ fl n, whL ft g n ρ = some fl := ⟨fl, n, h⟩
  unfold gWhile
  rw [dif_pos ex]
  obtain ⟨m, hm⟩ := ex.choose_spec
  have h1 := whL_mono h (Nat.le_max_left n m)
  have h2 := whL_mono hm (Nat.le_max_right n m)
  rw [h1] at h2
  exact (Option.some.inj h2).symm
theorem gWhile_run {ft : Env → Res Bool} {g : Env → Flow} {ρ : Env} (nb : gWhile ft g ρ ≠ .bad) : ∃ n, whL ft g n ρ = some (gWhile ft g ρ) := by
  by_cases ex : ∃ fl n, whL ft g n ρ = some fl
  · obtain ⟨fl, n, h⟩ := ex
    exact ⟨n, by rw [gWhile_eq h]; exact h⟩
  · unfold gWhile at nb
    rw [dif_neg ex] at nb
    exact absurd rfl nb
theorem ss_while {ft : Env → Res Bool} (ht : ST K W own tt ft) (hg : SS K W fr own own ts g own) : SS K W fr oc own (tWhile tt ts) (gWhile ft g) own := fun H0 O σ H ρ De rl nb k kc kr kx => by
  obtain ⟨n0, hn0⟩ := gWhile_run nb
  refine ⟨fun n σ2 H2 => ∃ O2 ρ2, Rel K H0 own O2 σ2 H2 ρ2 ∧ Same (mask O H) (mask O2 H2) ∧ whL ft g n ρ2 = some (gWhile ft g ρ), ⟨n0, O, ρ, rl, Same.refl _, hn0⟩, ?_⟩
  rintro n σ2 H2 ⟨O2, ρ2, a1, a2, a3⟩
  cases n with
  | zero => cases a3
  | succ n =>
    unfold whL at a3
    refine ht H0 O2 σ2 H2 ρ2 _ a1 (fun z => nb (by rw [z] at a3; exact (Option.some.inj a3).symm)) (fun b H3 e s => ?_) fun x C dd H' e s rx => ex_out a1 s rx fun O' r' s' rx' => kx x ρ2 C dd O' σ2 H' (by rw [e] at a3; exact (Option.some.inj a3).symm) r' (Same.trans a2 s') rx'
    rw [e] at a3
    have m := Same.trans a2 (mask_mono (O := O2) s)
    cases b with
    | false =>
      rw [if_neg Bool.false_ne_true]
      exact k ρ2 O2 σ2 H3 (Option.some.inj a3).symm (a1.mono s) m
    | true =>
      rw [if_pos rfl]
      dsimp only at a3
      refine ⟨fun σ' H' => ∃ O2 ρ2, Rel K H0 own O2 σ' H' ρ2 ∧ Same (mask O H) (mask O2 H') ∧ whL ft g n ρ2 = some (gWhile ft g ρ), fun σ' H' w => ⟨n, Nat.lt_succ_self _, w⟩, ?_⟩
      refine hg H0 O2 σ2 H3 ρ2 _ (a1.mono s) (fun z => nb (by rw [z] at a3; exact (Option.some.inj a3).symm)) (fun ρ4 O4 σ4 H4 e4 rl4 s4 => ⟨O4, ρ4, rl4, Same.trans m s4, by rw [e4] at a3; exact a3⟩) (fun ρ4 O4 σ4 H4 e4 rl4 s4 => ⟨O4, ρ4, rl4, Same.trans m s4, by rw [e4] at a3; exact a3⟩)
        (fun d v H4 e4 => kr d v H4 (by rw [e4] at a3; exact (Option.some.inj a3).symm)) fun x ρ4 C dd O4 σ4 H4 e4 rl4 s4 => kx x ρ4 C dd O4 σ4 H4 (by rw [e4] at a3; exact (Option.some.inj a3).symm) rl4 (Same.trans m s4)
/-! ### own lists changed -/
/-- x.m(e, ..), x an own list -/
def gMut (i : Nat) (fs : Env → Res (List D)) (op : List D → List D → Option (List D)) (ρ : Env) : Flow := match dV i ρ with
  | .ok (.lst xs) => (match fs ρ with
    | .ok as => (match op xs as with
      | some ys => .nx (ρ.set i (some (.lst ys)))
      | none => .bad)
    | .exc x => .ex x ρ
    | .bad => .bad)
  | _ => .bad
/-- the machine does op on a list at its address: the answer is dropped -/
def MutS (K : Fg) (r : V → List V → Hp → VK → Prop) (op : List D → List D → Option (List D)) : Prop :=
  ∀ (O : List Addr) (H : Hp) (p : Addr) (vs us : List V) (xs as ys : List D), p ∈ O → H p = some (.lst vs) → Reps K (mask O H) vs xs → Reps K (mask O H) us as → op xs as = some ys →
    ∃ ws, Reps K (mask O H) ws ys ∧ ∀ Q : VK, (∀ v, Q v (upd H p (.lst ws))) → r (.ref p) us H Q
theorem ss_mut {i : Nat} {r : V → List V → Hp → VK → Prop} {op : List D → List D → Option (List D)} {ta : TA} {fs : Env → Res (List D)} (hi : i ∈ own) (hr : MutS K r op) (hs : SA K W own ta fs) : SS K W fr oc own (tDrop (tBM K "list" r (tVar i) ta)) (gMut i fs op) own := fun H0 O σ H ρ De rl nb k kc kr kx => by
  obtain ⟨d, e1, e2⟩ := dV_ok (i := i) (ρ := ρ) fun e => nb (by unfold gMut; rw [e])
  obtain ⟨p, vs, ds, a, b, c, hf, hv, _⟩ := rl.owned i d e1 hi
  subst b
  have ed : gMut i fs op ρ = (match fs ρ with
    | .ok as => (match op ds as with
      | some ys => .nx (ρ.set i (some (.lst ys)))
      | none => .bad)
    | .exc x => .ex x ρ
    | .bad => .bad) := by unfold gMut; rw [e2]
  refine ⟨_, a, .inl ⟨rfl, _, SqL.of hf⟩, ?_⟩
  refine hs H0 O σ H ρ _ rl (fun e => nb (by rw [ed, e])) (fun as us H1 e3 s1 ru => ?_) fun x C dd H' e s rx => ex_out rl s rx fun O' r' s' rx' => kx x ρ C dd O' σ H' (by rw [ed, e]) r' s' rx'
  rw [e3] at ed
  dsimp only at ed
  cases eo : op ds as with
  | none => rw [ed, eo] at nb; exact absurd rfl nb
  | some ys =>
    rw [eo] at ed
    obtain ⟨ws, hw, hq⟩ := hr O H1 p vs us ds as ys c (s1 _ _ hf) (hv.mono (mask_mono s1)) ru eo
    refine hq _ fun v => ?_
    have m : mask O (upd H1 p (.lst ws)) = mask O H1 := mask_upd c
    exact k _ O σ _ ed ((rl.mono s1).write hi e1 a hw) (by rw [m]; exact mask_mono s1)
theorem ss_mut0 {i : Nat} {r : V → List V → Hp → VK → Prop} {op : List D → List D → Option (List D)} (hi : i ∈ own) (hr : MutS K r op) : SS K W fr oc own (tDrop (tBM0 K "list" r (tVar i))) (gMut i dNil op) own := fun H0 O σ H ρ De rl nb k kc kr kx => by
  obtain ⟨d, e1, e2⟩ := dV_ok (i := i) (ρ := ρ) fun e => nb (by unfold gMut; rw [e])
  obtain ⟨p, vs, ds, a, b, c, hf, hv, _⟩ := rl.owned i d e1 hi
  subst b
  have ed : gMut i dNil op ρ = (match op ds [] with
      | some ys => .nx (ρ.set i (some (.lst ys)))
      | none => .bad) := by unfold gMut; rw [e2]; rfl
  refine ⟨_, a, .inl ⟨rfl, _, SqL.of hf⟩, ?_⟩
  cases eo : op ds [] with
  | none => rw [ed, eo] at nb; exact absurd rfl nb
  | some ys =>
    rw [eo] at ed
    obtain ⟨ws, hw, hq⟩ := hr O H p vs [] ds [] ys c hf hv .nil eo
    refine hq _ fun v => ?_
    have m : mask O (upd H p (.lst ws)) = mask O H := mask_upd c
    exact k _ O σ _ ed (rl.write hi e1 a hw) (by rw [m]; exact Same.refl _)
def oAppend (xs as : List D) : Option (List D) := match as with
  | [a] => if xs.length < sizeLine then some (xs ++ [a]) else none
  | _ => none
theorem mS_append : MutS K rAppend oAppend := fun O H p vs us xs as ys hp hl hv hu e => by
  unfold oAppend at e
  split at e
  · rename_i a
    obtain ⟨u, rfl, ru⟩ := reps1 hu
    by_cases hz : xs.length < sizeLine
    · rw [if_pos hz] at e
      cases e
      exact ⟨vs ++ [u], hv.append (Reps.one ru), fun Q q => ⟨p, vs, u, rfl, rfl, hl, by rw [hv.length]; exact hz, q _⟩⟩
    · rw [if_neg hz] at e; cases e
  · cases e
def oExtend (xs as : List D) : Option (List D) := match as with
  | [.lst zs] => if xs.length + zs.length ≤ sizeLine then some (xs ++ zs) else none
  | _ => none
theorem mS_extend : MutS K rExtend oExtend := fun O H p vs us xs as ys hp hl hv hu e => by
  unfold oExtend at e
  split at e
  · rename_i zs
    obtain ⟨u, rfl, ru⟩ := reps1 hu
    by_cases hz : xs.length + zs.length ≤ sizeLine
    · rw [if_pos hz] at e
      cases e
      cases ru with
      | lst ha hr => exact ⟨_, hv.append hr, fun Q q => ⟨p, _, vs, _, rfl, rfl, hl, mask_same _ _ ha, by rw [hv.length, hr.length]; exact hz, q _⟩⟩
    · rw [if_neg hz] at e; cases e
  · cases e
def oClear (xs as : List D) : Option (List D) := match as with
  | [] => some []
  | _ => none
theorem mS_clear : MutS K rClear oClear := fun O H p vs us xs as ys hp hl hv hu e => by
  unfold oClear at e
  split at e
  · cases e
    cases hu
    exact ⟨[], .nil, fun Q q => ⟨p, vs, rfl, rfl, hl, q _⟩⟩
  · cases e
def oReverse (xs as : List D) : Option (List D) := match as with
  | [] => some xs.reverse
  | _ => none
theorem mS_reverse : MutS K rReverse oReverse := fun O H p vs us xs as ys hp hl hv hu e => by
  unfold oReverse at e
  split at e
  · cases e
    cases hu
    exact ⟨_, hv.reverse, fun Q q => ⟨p, vs, rfl, rfl, hl, q _⟩⟩
  · cases e
def oPop (xs as : List D) : Option (List D) := match as with
  | [] => if xs.length = 0 then none else some xs.dropLast
  | _ => none
theorem Reps.dropLast {H : Hp} {vs : List V} {ds : List D} (r : Reps K H vs ds) : Reps K H vs.dropLast ds.dropLast := by
  rw [List.dropLast_eq_take, List.dropLast_eq_take, r.length]
  exact r.take _
theorem mS_pop : MutS K rPop oPop := fun O H p vs us xs as ys hp hl hv hu e => by
  unfold oPop at e
  split at e
  · by_cases hz : xs.length = 0
    · rw [if_pos hz] at e; cases e
    · rw [if_neg hz] at e
      cases e
      cases hu
      have hz' : vs.length - 1 < vs.length := by rw [hv.length]; omega
      exact ⟨_, hv.dropLast, fun Q q => ⟨p, vs, vs[vs.length - 1], rfl, rfl, hl, by rw [List.getElem?_eq_getElem hz'], q _⟩⟩
  · cases e
/-- x[j] = e -/
def gSetIx (i : Nat) (fj f : Env → Res D) (ρ : Env) : Flow := match f ρ with
  | .ok d => (match dV i ρ with
    | .ok (.lst xs) => (match fj ρ with
      | .ok (.int j) => (match ixN xs.length j with
        | some n => .nx (ρ.set i (some (.lst (xs.set n d))))
        | none => .bad)
      | .exc x => .ex x ρ
      | _ => .bad)
    | _ => .bad)
  | .exc x => .ex x ρ
  | .bad => .bad
theorem ss_setIx {i : Nat} {tj : TE} {fj : Env → Res D} (hi : i ∈ own) (hj : SR K W own tj fj) (he : SE K W own te f) : SS K W fr oc own (tAsg te (gSub (tVar i) tj rSetL)) (gSetIx i fj f) own := fun H0 O σ H ρ De rl nb k kc kr kx => by
  refine he H0 O σ H ρ _ rl (fun e => nb (by unfold gSetIx; rw [e])) (fun y v H1 e s1 rv => ?_) fun x C dd H' e s rx => ex_out rl s rx fun O' r' s' rx' => kx x ρ C dd O' σ H' (by unfold gSetIx; rw [e]) r' s' rx'
  obtain ⟨d, e1, e2⟩ := dV_ok (i := i) (ρ := ρ) fun e' => nb (by unfold gSetIx; rw [e, e'])
  have rl1 := rl.mono s1
  obtain ⟨p, vs, ds, a, b, c, hf, hv, _⟩ := rl1.owned i d e1 hi
  subst b
  have ed : gSetIx i fj f ρ = (match fj ρ with
      | .ok (.int j) => (match ixN ds.length j with
        | some n => .nx (ρ.set i (some (.lst (ds.set n y))))
        | none => .bad)
      | .exc x => .ex x ρ
      | _ => .bad) := by unfold gSetIx; rw [e, e2]
  refine ⟨_, a, ?_⟩
  refine hj H0 O σ H1 ρ _ rl1 (fun e' => nb (by rw [ed, e'])) (fun j u H2 e3 s2 ru => ?_) fun x C dd H' e s rx => ex_out rl1 s rx fun O' r' s' rx' => kx x ρ C dd O' σ H' (by rw [ed, e]) r' (Same.trans (mask_mono s1) s') rx'
  rw [e3] at ed
  cases j with
  | int j =>
    cases ru
    dsimp only at ed
    cases en : ixN ds.length j with
    | none => rw [ed, en] at nb; exact absurd rfl nb
    | some n =>
      rw [en] at ed
      have hf2 := s2 _ _ hf
      refine ⟨p, vs, j, n, rfl, rfl, hf2, by rw [hv.length]; exact en, ?_⟩
      have m : mask O (upd H2 p (.lst (vs.set n v))) = mask O H2 := mask_upd c
      exact k _ O σ _ ed ((rl1.mono s2).write hi e1 a (Reps.set (rv.mono (mask_mono s2)) n (hv.mono (mask_mono s2)))) (by rw [m]; exact mask_mono (s1.trans s2))
  | _ => rw [ed] at nb; exact absurd rfl nb
end
/-! ### a def -/
def runB (n : Nat) (N : Nat) (g : Env → Flow) (ds : List D) : Res D := if ds.length = n then (match g (ds.map some ++ List.replicate (N - n) none) with
  | .nx _ => .ok .non
  | .ct _ => .bad
  | .rt d => .ok d
  | .ex x _ => .exc x
  | .bad => .bad) else .bad
/-- a def's promise: F of the data -/
def spD (K : Fg) (n : Nat) (fr : Bool) (F : List D → Res D) : Sp := fun vs H Q E => ∃ ds O, Dom O H ∧ Reps K (mask O H) vs ds ∧ ds.length = n ∧ F ds ≠ .bad ∧ (∀ d v H', F ds = .ok d → Same H H' → RetOk K fr ⟨H, O⟩ v H' d → Q v H') ∧
  ∀ x C dd H', F ds = .exc x → Same H H' → RepX K (mask O H') C dd x → E C dd H'
theorem spD_len {K : Fg} {n : Nat} {fr : Bool} {F : List D → Res D} (vs : List V) (H : Hp) (Q : VK) (E : XK) (h : spD K n fr F vs H Q E) : vs.length = n := by
  obtain ⟨ds, O, _, r, l, _⟩ := h
  rw [r.length, l]
theorem rel_start {K : Fg} {O : List Addr} {H : Hp} {vs : List V} {ds : List D} (N : List Str) (dm : Dom O H) (r : Reps K (mask O H) vs ds) : Rel K ⟨H, O⟩ [] O (L2.start N vs) H (ds.map some ++ List.replicate (N.length - ds.length) none) := by
  refine ⟨by simp [L2.start, r.length], Same.refl H, fun p hp => hp, dm, dm, fun i d h n => ?_, fun i d h n => (nomatch n), fun i j p hi => (nomatch hi)⟩
  have hlt : i < ds.length := by
    by_cases c : i < ds.length
    · exact c
    · rw [List.getElem?_append_right (by simpa using c)] at h
      have := List.mem_of_getElem? h
      simp at this
  rw [List.getElem?_append_left (by simpa using hlt), List.getElem?_map] at h
  obtain ⟨e, he, e2⟩ := Option.map_eq_some_iff.mp h
  cases e2
  obtain ⟨v, h1, h2⟩ := r.get he
  refine ⟨v, ?_, h2⟩
  unfold L2.start
  have hlt2 : i < vs.length := by rw [r.length]; exact hlt
  rw [List.getElem?_append_left (by simpa using hlt2), List.getElem?_map, h1]
  rfl
section
variable {P : Program} {w : World} {K : Fg} {mg : Str → Option Value} {base : Heap} {x qual : Str} {params : Arguments} {body : List Stmt} {scope : Scope} {dvs : List V} {kws : List (Str × V)} {f : Addr} {fd : FuncData}
/-- a def keeps its promise: by its body's denotation -/
theorem fn_mk {N ps : List Str} {k n : Nat} {fr : Bool} {g : Env → Flow} {own' : List Nat} (F : FunD K x qual params body scope dvs kws f fd) (S : FnScope N ps scope) (hn : ps.length = n)
    (hb : ∀ (cdv : Value) (A : Around) (outer : List PySem.Env) (s : Shared) (H : Hp) (E : XK), Room k (A.deeper (envOfC qual scope s.heap.objs.size f cdv)) →
      ∃ t, PSs (cxOf (L2.CX P w) P w K mg base N qual scope f cdv A outer s H E) body t ∧ SS K (fun c d _ H => E c d H) fr [] [] t g own') :
    FnOk P w K mg base (L2.CX P w) (k + 1) f fd ps (spD K n fr (runB n N.length g)) := by
  refine FunD.ok F S (fun vs H Q E h => by rw [spD_len vs H Q E h, hn]) fun cdv A outer s H vs Q E hr h => ?_
  obtain ⟨ds, O, dm, r, l, nb, kq, ke⟩ := h
  obtain ⟨t, h1, h2⟩ := hb cdv A outer s H E hr
  refine ⟨t, h1, ?_⟩
  have rl := rel_start N dm r
  have ed : runB n N.length g ds = (match g (ds.map some ++ List.replicate (N.length - ds.length) none) with
    | .nx _ => .ok .non
    | .ct _ => .bad
    | .rt d => .ok d
    | .ex x _ => .exc x
    | .bad => .bad) := by unfold runB; rw [if_pos l, l]
  refine h2 ⟨H, O⟩ O (L2.start N vs) H _ _ rl (fun e => nb (by rw [ed, e])) (fun ρ' O' σ' H' e rl' s' => kq .non .non H' (by rw [ed, e]) rl'.ex ?_) (fun ρ' O' σ' H' e => absurd (by rw [ed, e]) nb) (fun d v H' e s' rv => kq d v H' (by rw [ed, e]) s' rv) fun x ρ' C dd O' σ' H' e rl' s' rx => ke x C dd H' (by rw [ed, e]) rl'.ex (rx.mono (mask_sub rl'.base))
  cases fr with
  | false => exact .non
  | true => exact .inr rfl
end
end PL
namespace PL
open PySem PySem.Spec PyProof.Rows L2
/-! ### a piece of syntax, its reading, what it denotes -/
structure QE (X : Cx) (W : WX) (own : List Nat) (e : Expr) (te : TE) (f : Env → Res D) : Prop where
  p : PE X e te
  s : SE X.K W own te f
structure QL (X : Cx) (W : WX) (own : List Nat) (e : Expr) (te : TE) (f : Env → Res D) : Prop where
  p : PE X e te
  s : SL X.K W own te f
structure QR (X : Cx) (W : WX) (own : List Nat) (e : Expr) (te : TE) (f : Env → Res D) : Prop where
  p : PE X e te
  s : SR X.K W own te f
structure QF (X : Cx) (W : WX) (own : List Nat) (e : Expr) (te : TE) (f : Env → Res (List D)) : Prop where
  p : PE X e te
  s : SF X.K W own te f
structure QT (X : Cx) (W : WX) (own : List Nat) (e : Expr) (tt : TT) (f : Env → Res Bool) : Prop where
  p : PT X e tt
  s : ST X.K W own tt f
structure QA (X : Cx) (W : WX) (own : List Nat) (es : List Expr) (ta : TA) (f : Env → Res (List D)) : Prop where
  p : PA X es ta
  s : SA X.K W own ta f
structure QAR (X : Cx) (W : WX) (own : List Nat) (es : List Expr) (ta : TA) (f : Env → Res (List D)) : Prop where
  p : PA X es ta
  s : SAR X.K W own ta f
structure QI (m : Bool) (X : Cx) (W : WX) (own : List Nat) (tg e : Expr) (ti : TI) (f : Env → Res (List D)) : Prop where
  p : PI X tg e ti
  s : SI m X.K W own ti f
structure QG (X : Cx) (own : List Nat) (tg : Expr) (g : TG) (b : Bd) (ts : List Nat) : Prop where
  p : PG X tg g
  s : SGm X.K own g b ts
structure QGs (X : Cx) (own : List Nat) (tg : List Expr) (g : TGs) (b : Bds) (ts : List Nat) : Prop where
  p : PGs X tg g
  s : SGs X.K own g b ts
structure QO (X : Cx) (W : WX) (own : List Nat) (e : Option Expr) (to : TO) (f : Env → Res (Option Int)) : Prop where
  p : PO X e to
  s : SO X.K W own to f
structure QS (X : Cx) (W : WX) (fr : Bool) (oc own : List Nat) (st : Stmt) (ts : TS) (g : Env → Flow) (own' : List Nat) : Prop where
  p : PS X st ts
  s : SS X.K W fr oc own ts g own'
structure QB (X : Cx) (W : WX) (fr : Bool) (oc own : List Nat) (st : List Stmt) (ts : TS) (g : Env → Flow) (own' : List Nat) : Prop where
  p : PSs X st ts
  s : SS X.K W fr oc own ts g own'
theorem PE.or {X : Cx} {e : Expr} {t u : TE} (h : PE X e t) (h' : PE X e u) : PE X e (fun σ H Q => t σ H Q ∨ u σ H Q) := ⟨fun pins s σ H Q I q => q.elim (h.run pins s σ H Q I) (h'.run pins s σ H Q I)⟩
theorem PI.or {X : Cx} {tg e : Expr} {t u : TI} (h : PI X tg e t) (h' : PI X tg e u) : PI X tg e (fun σ H R => t σ H R ∨ u σ H R) := ⟨fun pins s σ H R I q => q.elim (h.run pins s σ H R I) (h'.run pins s σ H R I)⟩
theorem PE.ex {X : Cx} {e : Expr} {ι : Type} {p : ι → Prop} {t : ι → TE} (h : ∀ i, p i → PE X e (t i)) : PE X e (fun σ H Q => ∃ i, p i ∧ t i σ H Q) := ⟨fun pins s σ H Q I ⟨i, hi, q⟩ => (h i hi).run pins s σ H Q I q⟩
section
variable {X : Cx} {W : WX} {own own1 own2 own' oc : List Nat} {fr : Bool} {a b c e : Expr} {es : List Expr} {ta tb tc te : TE} {fa fb fc f : Env → Res D} {pos : Pos}
/-! ### between the kinds -/
theorem QE.l (h : QE X W own e te f) : QL X W own e te f := ⟨h.p, h.s.toSL⟩
theorem QE.r (h : QE X W own e te f) : QR X W own e te f := ⟨h.p, h.s.toSR⟩
theorem QL.r (h : QL X W own e te f) : QR X W own e te f := ⟨h.p, h.s.toSR⟩
theorem QF.toE {g : Env → Res (List D)} (h : QF X W own e te g) : QE X W own e te (dL g) := ⟨h.p, h.s.toSE⟩
/-! ### names, constants -/
theorem qv (i : Nat) {x : Str} {pos : Pos} (hN : X.N[i]? = some x := by rfl) (n : i ∉ own := by decide) (hv : Vis X.env.scope x := by first | exact Or.inl rfl | exact Or.inr (Or.inl rfl) | exact Or.inr (Or.inr rfl)) (hd : (x == ("__debug__" : Str)) = false := by decide)
    (hcd : (x == ("__classdict__" : Str)) = false := by decide) : QE X W own (.Name x pos) (tVar i) (dV i) := ⟨pe_var hN hv hd hcd, se_var n⟩
theorem qvl (i : Nat) {x : Str} {pos : Pos} (hN : X.N[i]? = some x := by rfl) (hv : Vis X.env.scope x := by first | exact Or.inl rfl | exact Or.inr (Or.inl rfl) | exact Or.inr (Or.inr rfl)) (hd : (x == ("__debug__" : Str)) = false := by decide)
    (hcd : (x == ("__classdict__" : Str)) = false := by decide) : QL X W own (.Name x pos) (tVar i) (dV i) := ⟨pe_var hN hv hd hcd, sl_var⟩
theorem q_int {i : Int} {j} : QE X W own (.Constant (.int i) j pos) (tC (.int i)) (dC (.int i)) := ⟨pe_int, se_int⟩
theorem q_bl {i : Bool} {j} : QE X W own (.Constant (.bool i) j pos) (tC (.bl i)) (dC (.bl i)) := ⟨pe_bl, se_bl⟩
theorem q_str {x : Str} {j} : QE X W own (.Constant (.str x) j pos) (tC (.str x)) (dC (.str x)) := ⟨pe_str, se_str⟩
theorem q_non {j} : QE X W own (.Constant .none j pos) (tC .non) (dC .non) := ⟨pe_non, se_non⟩
/-- a module's constant -/
theorem q_gint {x : Str} {i : Int} (hm : ∃ t, X.mg x = some (.int i t)) (hg : Gl X x := by rfl) (hd : (x == ("__debug__" : Str)) = false := by decide) : QE X W own (.Name x pos) (tC (.int i)) (dC (.int i)) := by
  obtain ⟨t, hm⟩ := hm
  exact ⟨pe_glob hg hm ⟨t, rfl⟩ hd, se_int⟩
theorem q_gstr {x z : Str} (hm : ∃ t, X.mg x = some (.str z t)) (hg : Gl X x := by rfl) (hd : (x == ("__debug__" : Str)) = false := by decide) : QE X W own (.Name x pos) (tC (.str z)) (dC (.str z)) := by
  obtain ⟨t, hm⟩ := hm
  exact ⟨pe_glob hg hm ⟨t, rfl⟩ hd, se_str⟩
/-! ### operators -/
theorem q_op {op : Operator} {r : R2} {o : D → D → Option D} (ho : OpR X (binaryOp op) r) (hs : OpS X.K r o) (ha : QR X W own a ta fa) (hb : QR X W own b tb fb) : QE X W own (.BinOp a op b pos) (tOp r ta tb) (d2 o fa fb) := ⟨pe_op ho ha.p hb.p, se_op hs ha.s hb.s⟩
theorem q_add (ha : QR X W own a ta fa) (hb : QR X W own b tb fb) : QE X W own (.BinOp a .Add b pos) (tOp rAdd ta tb) (d2 oAdd fa fb) := q_op op_addU oS_add ha hb
theorem q_sub (ha : QR X W own a ta fa) (hb : QR X W own b tb fb) : QE X W own (.BinOp a .Sub b pos) (tOp (rI0 fun i j => .int (i - j)) ta tb) (d2 oSub fa fb) := q_op op_sub oS_I0 ha hb
theorem q_mul (ha : QR X W own a ta fa) (hb : QR X W own b tb fb) : QE X W own (.BinOp a .Mult b pos) (tOp (rI CMulU fun i j => .int (i * j)) ta tb) (d2 oMul fa fb) := q_op op_mulU oS_I ha hb
theorem q_fdiv (ha : QR X W own a ta fa) (hb : QR X W own b tb fb) : QE X W own (.BinOp a .FloorDiv b pos) (tOp (rI CDivW fun i j => .int (i / j)) ta tb) (d2 oFdiv fa fb) := q_op op_fdivW oS_I ha hb
theorem q_mod (ha : QR X W own a ta fa) (hb : QR X W own b tb fb) : QE X W own (.BinOp a .Mod b pos) (tOp (rI (fun _ j => 0 < j) fun i j => .int (i % j)) ta tb) (d2 oMod fa fb) := q_op op_mod oS_I ha hb
theorem q_pow (ha : QR X W own a ta fa) (hb : QR X W own b tb fb) : QE X W own (.BinOp a .Pow b pos) (tOp (rI CPow fun i j => .int (i ^ j.toNat)) ta tb) (d2 oPow fa fb) := q_op op_pow oS_I ha hb
theorem q_shl (ha : QR X W own a ta fa) (hb : QR X W own b tb fb) : QE X W own (.BinOp a .LShift b pos) (tOp (rI CShl fun i j => .int (i * 2 ^ j.toNat)) ta tb) (d2 oShl fa fb) := q_op op_shlW oS_I ha hb
theorem q_shr (ha : QR X W own a ta fa) (hb : QR X W own b tb fb) : QE X W own (.BinOp a .RShift b pos) (tOp (rI (fun _ j => 0 ≤ j) fun i j => .int (i / 2 ^ j.toNat)) ta tb) (d2 oShr fa fb) := q_op op_shr oS_I ha hb
theorem q_and (ha : QR X W own a ta fa) (hb : QR X W own b tb fb) : QE X W own (.BinOp a .BitAnd b pos) (tOp (rI0 fun i j => .int (Builtin.bitAnd i j)) ta tb) (d2 oAnd fa fb) := q_op op_and oS_I0 ha hb
theorem q_or (ha : QR X W own a ta fa) (hb : QR X W own b tb fb) : QE X W own (.BinOp a .BitOr b pos) (tOp (rI0 fun i j => .int (Builtin.bitOr i j)) ta tb) (d2 oOr fa fb) := q_op op_or oS_I0 ha hb
theorem q_xor (ha : QR X W own a ta fa) (hb : QR X W own b tb fb) : QE X W own (.BinOp a .BitXor b pos) (tOp (rI0 fun i j => .int (Builtin.bitXor i j)) ta tb) (d2 oXor fa fb) := q_op op_xor oS_I0 ha hb
theorem q_neg (ha : QR X W own a ta fa) : QE X W own (.UnaryOp .USub a pos) (tUn (rU fun i => .int (-i)) ta) (d1 oNeg fa) := ⟨pe_un un_neg ha.p, se_un uS_neg ha.s⟩
theorem q_cat (ha : QL X W own a ta fa) (hb : QL X W own b tb fb) : QF X W own (.BinOp a .Add b pos) (tOp rCat ta tb) (dCat fa fb) := ⟨pe_op op_cat ha.p hb.p, sf_cat ha.s hb.s⟩
theorem q_rep (ha : QL X W own a ta fa) (hb : QR X W own b tb fb) : QF X W own (.BinOp a .Mult b pos) (tOp rRep ta tb) (dRep fa fb) := ⟨pe_op op_rep ha.p hb.p, sf_rep ha.s hb.s⟩
/-! ### comparisons -/
theorem q_cmp {op : CmpOp} {r : R2} {o : D → D → Option D} (ho : OpR X (compareOp op) r) (hs : OpS X.K r o) (ha : QR X W own a ta fa) (hb : QR X W own b tb fb) (hm : behindInMarks op b = false) : QE X W own (.Compare a [op] [b] pos) (tOp r ta tb) (d2 o fa fb) := ⟨pe_cmpR ho ha.p hb.p hm, se_op hs ha.s hb.s⟩
theorem q_lt (ha : QR X W own a ta fa) (hb : QR X W own b tb fb) : QE X W own (.Compare a [.Lt] [b] pos) (tOp (rI0 fun i j => .bl (decide (i < j))) ta tb) (d2 oLt fa fb) := q_cmp op_lt oS_B0 ha hb (nomark _)
theorem q_le (ha : QR X W own a ta fa) (hb : QR X W own b tb fb) : QE X W own (.Compare a [.LtE] [b] pos) (tOp (rI0 fun i j => .bl (decide (i ≤ j))) ta tb) (d2 oLe fa fb) := q_cmp op_le oS_B0 ha hb (nomark _)
theorem q_gt (ha : QR X W own a ta fa) (hb : QR X W own b tb fb) : QE X W own (.Compare a [.Gt] [b] pos) (tOp (rI0 fun i j => .bl (decide (j < i))) ta tb) (d2 oGt fa fb) := q_cmp op_gt oS_B0 ha hb (nomark _)
theorem q_ge (ha : QR X W own a ta fa) (hb : QR X W own b tb fb) : QE X W own (.Compare a [.GtE] [b] pos) (tOp (rI0 fun i j => .bl (decide (j ≤ i))) ta tb) (d2 oGe fa fb) := q_cmp op_ge oS_B0 ha hb (nomark _)
theorem q_eq (hu : X.A.units + 64 < cLine) (ha : QR X W own a ta fa) (hb : QR X W own b tb fb) : QE X W own (.Compare a [.Eq] [b] pos) (tOp (rEqD X.K) ta tb) (d2 oEq fa fb) := q_cmp (op_eqD hu) oS_eq ha hb (nomark _)
theorem q_ne (hu : X.A.units + 64 < cLine) (ha : QR X W own a ta fa) (hb : QR X W own b tb fb) : QE X W own (.Compare a [.NotEq] [b] pos) (tOp (rNeD X.K) ta tb) (d2 oNe fa fb) := q_cmp (op_neD hu) oS_ne ha hb (nomark _)
theorem q_in (ha : QR X W own a ta fa) (hb : QR X W own b tb fb) (hm : behindInMarks .In b = false := by rfl) : QE X W own (.Compare a [.In] [b] pos) (tOp (rIn X.K false) ta tb) (d2 (oIn false) fa fb) := q_cmp op_in_seq oS_in ha hb hm
theorem q_notin (ha : QR X W own a ta fa) (hb : QR X W own b tb fb) (hm : behindInMarks .NotIn b = false := by rfl) : QE X W own (.Compare a [.NotIn] [b] pos) (tOp (rIn X.K true) ta tb) (d2 (oIn true) fa fb) := q_cmp op_notIn_seq oS_in ha hb hm
theorem q_isN {j pos'} (ha : QR X W own a ta fa) : QE X W own (.Compare a [.Is] [.Constant .none j pos'] pos) (tIsN ta) (d1 (oIsN false) fa) := ⟨pe_cmp (pc_isN ha.p) rfl, se_isN ha.s⟩
theorem q_notN {j pos'} (ha : QR X W own a ta fa) : QE X W own (.Compare a [.IsNot] [.Constant .none j pos'] pos) (tNotN ta) (d1 (oIsN true) fa) := ⟨pe_cmp (pc_notN ha.p) rfl, se_notN ha.s⟩
/-- a op b op' c: op, op' by their rules -/
theorem q_chain {op op' : CmpOp} {r r' : R2} {o o' : D → D → Option D} (ho : OpR X (compareOp op) r) (hs : OpS X.K r o) (ho' : OpR X (compareOp op') r') (hs' : OpS X.K r' o') (ha : QR X W own a ta fa) (hb : QR X W own b tb fb) (hc : QR X W own c tc fc)
    (hm : lastMarks [op, op'] [b, c] = false := by with_unfolding_all rfl) : QE X W own (.Compare a [op, op'] [b, c] pos) (tChain r r' ta tb tc) (dChain o o' fa fb fc) := ⟨pe_chain ho ho' ha.p hb.p hc.p hm, se_chain hs hs' ha.s hb.s hc.s⟩
/-! ### tests -/
/-- a test that is a comparison, a call, a name ..: True or False -/
theorem t_val (h : QR X W own e te f) (he : ∀ whole, isTrue e X.env whole = (do let v ← whole; standAt e.pos; holding [v] (truthy v)) := by intro _; rfl) : QT X W own e (tB te) (dB1 f) := ⟨pt_val h.p he, st_B h.s⟩
/-- .. any value, by its truth -/
theorem t_tru (h : QR X W own e te f) (he : ∀ whole, isTrue e X.env whole = (do let v ← whole; standAt e.pos; holding [v] (truthy v)) := by intro _; rfl) : QT X W own e (fun σ H Q => te σ H fun x H' => ∃ k, TruV X.K x H' k ∧ Q k H') (dTru f) := ⟨pt_truth h.p he, st_tru h.s⟩
theorem t_cmp {op : CmpOp} {r : R2} {o : D → D → Option D} (ho : OpR X (compareOp op) r) (hs : OpS X.K r o) (ha : QR X W own a ta fa) (hb : QR X W own b tb fb) (hm : behindInMarks op b = false) : QT X W own (.Compare a [op] [b] pos) (tTest (tOp r ta tb)) (dB1 (d2 o fa fb)) := ⟨pt_cmpR ho ha.p hb.p hm, st_test (se_op hs ha.s hb.s).toSR⟩
theorem t_lt (ha : QR X W own a ta fa) (hb : QR X W own b tb fb) : QT X W own (.Compare a [.Lt] [b] pos) (tTest (tOp (rI0 fun i j => .bl (decide (i < j))) ta tb)) (dB1 (d2 oLt fa fb)) := t_cmp op_lt oS_B0 ha hb (nomark _)
theorem t_le (ha : QR X W own a ta fa) (hb : QR X W own b tb fb) : QT X W own (.Compare a [.LtE] [b] pos) (tTest (tOp (rI0 fun i j => .bl (decide (i ≤ j))) ta tb)) (dB1 (d2 oLe fa fb)) := t_cmp op_le oS_B0 ha hb (nomark _)
theorem t_gt (ha : QR X W own a ta fa) (hb : QR X W own b tb fb) : QT X W own (.Compare a [.Gt] [b] pos) (tTest (tOp (rI0 fun i j => .bl (decide (j < i))) ta tb)) (dB1 (d2 oGt fa fb)) := t_cmp op_gt oS_B0 ha hb (nomark _)
theorem t_ge (ha : QR X W own a ta fa) (hb : QR X W own b tb fb) : QT X W own (.Compare a [.GtE] [b] pos) (tTest (tOp (rI0 fun i j => .bl (decide (j ≤ i))) ta tb)) (dB1 (d2 oGe fa fb)) := t_cmp op_ge oS_B0 ha hb (nomark _)
theorem t_eq (hu : X.A.units + 64 < cLine) (ha : QR X W own a ta fa) (hb : QR X W own b tb fb) : QT X W own (.Compare a [.Eq] [b] pos) (tTest (tOp (rEqD X.K) ta tb)) (dB1 (d2 oEq fa fb)) := t_cmp (op_eqD hu) oS_eq ha hb (nomark _)
theorem t_ne (hu : X.A.units + 64 < cLine) (ha : QR X W own a ta fa) (hb : QR X W own b tb fb) : QT X W own (.Compare a [.NotEq] [b] pos) (tTest (tOp (rNeD X.K) ta tb)) (dB1 (d2 oNe fa fb)) := t_cmp (op_neD hu) oS_ne ha hb (nomark _)
theorem t_in (ha : QR X W own a ta fa) (hb : QR X W own b tb fb) (hm : behindInMarks .In b = false := by rfl) : QT X W own (.Compare a [.In] [b] pos) (tTest (tOp (rIn X.K false) ta tb)) (dB1 (d2 (oIn false) fa fb)) := t_cmp op_in_seq oS_in ha hb hm
theorem t_notin (ha : QR X W own a ta fa) (hb : QR X W own b tb fb) (hm : behindInMarks .NotIn b = false := by rfl) : QT X W own (.Compare a [.NotIn] [b] pos) (tTest (tOp (rIn X.K true) ta tb)) (dB1 (d2 (oIn true) fa fb)) := t_cmp op_notIn_seq oS_in ha hb hm
theorem t_isN {j pos'} (ha : QR X W own a ta fa) : QT X W own (.Compare a [.Is] [.Constant .none j pos'] pos) (tB (tIsN ta)) (dB1 (d1 (oIsN false) fa)) := ⟨pt_cmp (pc_isN ha.p) rfl, st_B (se_isN ha.s).toSR⟩
theorem t_notN {j pos'} (ha : QR X W own a ta fa) : QT X W own (.Compare a [.IsNot] [.Constant .none j pos'] pos) (tB (tNotN ta)) (dB1 (d1 (oIsN true) fa)) := ⟨pt_cmp (pc_notN ha.p) rfl, st_B (se_notN ha.s).toSR⟩
theorem t_chain {op op' : CmpOp} {r r' : R2} {o o' : D → D → Option D} (ho : OpR X (compareOp op) r) (hs : OpS X.K r o) (ho' : OpR X (compareOp op') r') (hs' : OpS X.K r' o') (ha : QR X W own a ta fa) (hb : QR X W own b tb fb) (hc : QR X W own c tc fc)
    (hm : lastMarks [op, op'] [b, c] = false := by with_unfolding_all rfl) : QT X W own (.Compare a [op, op'] [b, c] pos) (tTest (tChain r r' ta tb tc)) (dB1 (dChain o o' fa fb fc)) := ⟨pt_chain ho ho' ha.p hb.p hc.p hm, st_test (se_chain hs hs' ha.s hb.s hc.s).toSR⟩
/-- and, or: chains -/
structure QW (X : Cx) (W : WX) (own : List Nat) (e : Expr) (tt : TT) (f : Env → Res Bool) : Prop where
  p : PW X e tt
  s : ST X.K W own tt f
variable {tt tu : TT} {ft fu : Env → Res Bool} {rest : List Expr}
theorem w_and1 (h : QT X W own a tt ft) : QW X W own (.BoolOp .And [a] pos) tt ft := ⟨pw_and1 h.p, h.s⟩
theorem w_or1 (h : QT X W own a tt ft) : QW X W own (.BoolOp .Or [a] pos) tt ft := ⟨pw_or1 h.p, h.s⟩
theorem w_and (h : QT X W own a tt ft) (hs : QW X W own (.BoolOp .And (b :: rest) pos) tu fu) : QW X W own (.BoolOp .And (a :: b :: rest) pos) (tAnd tt tu) (dAndT ft fu) := ⟨pw_and h.p hs.p, st_and h.s hs.s⟩
theorem w_or (h : QT X W own a tt ft) (hs : QW X W own (.BoolOp .Or (b :: rest) pos) tu fu) : QW X W own (.BoolOp .Or (a :: b :: rest) pos) (tOr tt tu) (dOrT ft fu) := ⟨pw_or h.p hs.p, st_or h.s hs.s⟩
theorem QW.t (h : QW X W own e tt ft) : QT X W own e tt ft := ⟨h.p.pt, h.s⟩
theorem t_not (h : QT X W own a tt ft) : QT X W own (.UnaryOp .Not a pos) (tNot tt) (dNotT ft) := ⟨pt_not h.p, st_not h.s⟩
/-- .. as values -/
theorem q_one {op} (h : QE X W own a ta fa) : QE X W own (.BoolOp op [a] pos) ta fa := ⟨pe_one h.p, h.s⟩
theorem q_andV (h : QR X W own a ta fa) (hs : QE X W own (.BoolOp .And (b :: rest) pos) tb fb) : QE X W own (.BoolOp .And (a :: b :: rest) pos) (tAndV ta tb) (dAndV fa fb) := ⟨pe_and h.p hs.p, se_andV h.s hs.s⟩
theorem q_orV (h : QR X W own a ta fa) (hs : QE X W own (.BoolOp .Or (b :: rest) pos) tb fb) : QE X W own (.BoolOp .Or (a :: b :: rest) pos) (tOrV ta tb) (dOrV fa fb) := ⟨pe_or h.p hs.p, se_orV h.s hs.s⟩
theorem q_notV (h : QR X W own a ta fa) : QE X W own (.UnaryOp .Not a pos) (tNotV ta) (d1 oNot fa) := ⟨pe_not h.p, se_notV h.s⟩
theorem q_ifE (ht : QT X W own c tt ft) (ha : QE X W own a ta fa) (hb : QE X W own b tb fb) : QE X W own (.IfExp c a b pos) (tIf tt ta tb) (dIf ft fa fb) := ⟨pe_ifExp ht.p ha.p hb.p, se_if ht.s ha.s hb.s⟩
/-! ### arguments, displays, subscripts -/
theorem qa_nil : QA X W own [] tNil dNil := ⟨pa_nil, sa_nil⟩
theorem qa_cons {ts : TA} {fs : Env → Res (List D)} (h : QE X W own e te f) (hs : QA X W own es ts fs) (hst : starEach (e :: es) X.env = (false, eval e X.env) :: starEach es X.env := by rfl) : QA X W own (e :: es) (tCons te ts) (dCons f fs) := ⟨pa_cons h.p hs.p hst, sa_cons h.s hs.s⟩
theorem qr_nil : QAR X W own [] tNil dNil := ⟨pa_nil, sar_nil⟩
theorem qr_cons {ts : TA} {fs : Env → Res (List D)} (h : QR X W own e te f) (hs : QAR X W own es ts fs) (hst : starEach (e :: es) X.env = (false, eval e X.env) :: starEach es X.env := by rfl) : QAR X W own (e :: es) (tCons te ts) (dCons f fs) := ⟨pa_cons h.p hs.p hst, sar_cons h.s hs.s⟩
theorem q_lst {ts : TA} {fs : Env → Res (List D)} (hs : QA X W own es ts fs) : QF X W own (.List es pos) (tLst ts) (dLst fs) := ⟨pe_lst hs.p, sf_lst hs.s⟩
theorem q_tup {ts : TA} {fs : Env → Res (List D)} {k : Nat} (hs : QA X W own es ts fs) : QE X W own (.Tuple es k pos) (tTup ts) (dTup fs) := ⟨pe_tup hs.p, se_tup hs.s⟩
theorem q_ix (ha : QL X W own a ta fa) (hb : QR X W own b tb fb) (hs : PlainIx b := by exact fun _ _ => rfl) : QE X W own (.Subscript a b pos) (tOp (rIx X.K) ta tb) (d2 oIx fa fb) := ⟨pe_ix ix_seq ha.p hb.p hs, se_ix ha.s hb.s⟩
theorem qo_none : QO X W own none tNoPart dNoP := ⟨po_none, so_none⟩
theorem qo_some (h : QR X W own e te f) : QO X W own (some e) (tPart te) (dPart f) := ⟨po_some h.p, so_some h.s⟩
theorem q_slice {lo hi : Option Expr} {tl th : TO} {fl fh : Env → Res (Option Int)} {p2 : Pos} (ha : QL X W own a ta fa) (hl : QO X W own lo tl fl) (hh : QO X W own hi th fh) : QF X W own (.Subscript a (.Slice lo hi none p2) pos) (tSl (rSlL X.K) ta tl th) (dSl fa fl fh) := ⟨pe_slice sl_list ha.p hl.p hh.p, sf_slice ha.s hl.s hh.s⟩
theorem q_fld {fd : Str} (n : Nat) (h : QE X W own a ta fa) (hf : fldN n = fd := by rfl) (hb : attributeBase a fd X.env (eval a X.env) = eval a X.env := by rfl) : QE X W own (.Attribute a fd pos) (tFld X.K ta (fldN n)) (d1 (oFld n) fa) := by
  subst hf
  exact ⟨pe_fld h.p hb, se_fld h.s⟩
/-! ### built-ins -/
variable {ts : TA} {fs : Env → Res (List D)} {p : Pos}
theorem q_callB {r : List V → Hp → VK → Prop} {o : List D → Option D} {id : String} {x : Str} (hc : CallR X (.builtin id) r) (hs : CallS X.K r o) (hm : X.mg x = none) (hv : bootBuiltins x = some (.builtin id)) (ha : QAR X W own (e :: es) ts fs) (hg : Gl X x := by rfl) (hn : x ≠ "__name__" := by decide) (hdb : (x == ("__debug__" : Str)) = false := by decide)
    (he : starEach (e :: es) X.env = (false, eval e X.env) :: starEach es X.env := by rfl) (hpl : (backTo pos (starEach es X.env)).any (·.1) = false := by rfl) : QE X W own (.Call (.Name x p) (e :: es) [] pos) (tCB r ts) (dB o fs) := ⟨pe_callB hc hg hm hv ha.p hn hdb he hpl, se_call hs ha.s⟩
theorem q_callTy {r : List V → Hp → VK → Prop} {o : List D → Option D} {T : String} {x : Str} (hc : CallR X (.type T) r) (hs : CallS X.K r o) (hm : X.mg x = none) (hv : bootBuiltins x = some (.type T)) (ha : QAR X W own (e :: es) ts fs) (hg : Gl X x := by rfl) (hn : x ≠ "__name__" := by decide) (hdb : (x == ("__debug__" : Str)) = false := by decide)
    (he : starEach (e :: es) X.env = (false, eval e X.env) :: starEach es X.env := by rfl) (hpl : (backTo pos (starEach es X.env)).any (·.1) = false := by rfl) : QE X W own (.Call (.Name x p) (e :: es) [] pos) (tCB r ts) (dB o fs) := ⟨pe_callTy hc hg hm hv ha.p hn hdb he hpl, se_call hs ha.s⟩
theorem q_len (hm : X.mg "len" = none) (ha : QR X W own e te f) (hg : Gl X "len" := by rfl) (he : starEach (e :: []) X.env = (false, eval e X.env) :: starEach [] X.env := by rfl) (hpl : (backTo pos (starEach [] X.env)).any (·.1) = false := by rfl) :
    QE X W own (.Call (.Name "len" p) [e] [] pos) (tCB (rLenU X.K) (tCons te tNil)) (dB oLen (dCons f dNil)) := q_callB call_len cS_len hm boot_len (qr_cons ha qr_nil he) hg (by decide) (by decide) he hpl
theorem q_any (hc : X.calm = true) (hm : X.mg "any" = none) (ha : QR X W own e te f) (hg : Gl X "any" := by rfl) (he : starEach (e :: []) X.env = (false, eval e X.env) :: starEach [] X.env := by rfl) (hpl : (backTo pos (starEach [] X.env)).any (·.1) = false := by rfl) :
    QE X W own (.Call (.Name "any" p) [e] [] pos) (tCB (rAnyV X.K) (tCons te tNil)) (dB oAny (dCons f dNil)) := q_callB (cr_anyV hc) cS_any hm (by decide +kernel) (qr_cons ha qr_nil he) hg (by decide) (by decide) he hpl
theorem q_all (hc : X.calm = true) (hm : X.mg "all" = none) (ha : QR X W own e te f) (hg : Gl X "all" := by rfl) (he : starEach (e :: []) X.env = (false, eval e X.env) :: starEach [] X.env := by rfl) (hpl : (backTo pos (starEach [] X.env)).any (·.1) = false := by rfl) :
    QE X W own (.Call (.Name "all" p) [e] [] pos) (tCB (rAllV X.K) (tCons te tNil)) (dB oAll (dCons f dNil)) := q_callB (cr_allV hc) cS_all hm (by decide +kernel) (qr_cons ha qr_nil he) hg (by decide) (by decide) he hpl
theorem q_int1 (hm : X.mg "int" = none) (ha : QR X W own e te f) (hg : Gl X "int" := by rfl) (he : starEach (e :: []) X.env = (false, eval e X.env) :: starEach [] X.env := by rfl) (hpl : (backTo pos (starEach [] X.env)).any (·.1) = false := by rfl) :
    QE X W own (.Call (.Name "int" p) [e] [] pos) (tCB rInt1 (tCons te tNil)) (dB oInt (dCons f dNil)) := q_callTy call_int1 cS_int hm (by decide +kernel) (qr_cons ha qr_nil he) hg (by decide) (by decide) he hpl
theorem q_max2 (hc : X.calm = true) (hm : X.mg "max" = none) (ha : QR X W own a ta fa) (hb : QR X W own b tb fb) (hg : Gl X "max" := by rfl) (he : starEach [a, b] X.env = (false, eval a X.env) :: starEach [b] X.env := by rfl) (he2 : starEach [b] X.env = (false, eval b X.env) :: starEach [] X.env := by rfl) (hpl : (backTo pos (starEach [b] X.env)).any (·.1) = false := by rfl) :
    QE X W own (.Call (.Name "max" p) [a, b] [] pos) (tCB PL.rMax2 (tCons ta (tCons tb tNil))) (dB oMax2 (dCons fa (dCons fb dNil))) := q_callB (call_max2 hc) cS_max2 hm (by decide +kernel) (qr_cons ha (qr_cons hb qr_nil he2) he) hg (by decide) (by decide) he hpl
theorem q_min2 (hc : X.calm = true) (hm : X.mg "min" = none) (ha : QR X W own a ta fa) (hb : QR X W own b tb fb) (hg : Gl X "min" := by rfl) (he : starEach [a, b] X.env = (false, eval a X.env) :: starEach [b] X.env := by rfl) (he2 : starEach [b] X.env = (false, eval b X.env) :: starEach [] X.env := by rfl) (hpl : (backTo pos (starEach [b] X.env)).any (·.1) = false := by rfl) :
    QE X W own (.Call (.Name "min" p) [a, b] [] pos) (tCB rMin2 (tCons ta (tCons tb tNil))) (dB oMin2 (dCons fa (dCons fb dNil))) := q_callB (call_min2 hc) cS_min2 hm (by decide +kernel) (qr_cons ha (qr_cons hb qr_nil he2) he) hg (by decide) (by decide) he hpl
theorem q_list (hm : X.mg "list" = none) (ha : QL X W own e te f) (hg : Gl X "list" := by rfl) (he : starEach (e :: []) X.env = (false, eval e X.env) :: starEach [] X.env := by rfl) (hpl : (backTo pos (starEach [] X.env)).any (·.1) = false := by rfl) :
    QF X W own (.Call (.Name "list" p) [e] [] pos) (tCB (rListU X.K) (tCons te tNil)) (dList f) := ⟨pe_callTy call_list_of hg hm (by decide +kernel) (pa_cons ha.p pa_nil he) (by decide) (by decide) he hpl, sf_list ha.s⟩
theorem q_isTy {x : Str} {p2 : Pos} (T : String) (hm : X.mg "isinstance" = none) (hm2 : X.mg x = none) (ha : QR X W own e te f) (hb : bootBuiltins x = some (.type T) := by decide +kernel) (hg : Gl X "isinstance" := by rfl) (hg2 : Gl X x := by rfl) (hn : x ≠ "__name__" := by decide) (hd : (x == ("__debug__" : Str)) = false := by decide)
    (he : starEach [e, .Name x p2] X.env = (false, eval e X.env) :: starEach [.Name x p2] X.env := by rfl) (he2 : starEach [.Name x p2] X.env = (false, eval (.Name x p2) X.env) :: starEach [] X.env := by rfl) (hpl : (backTo pos (starEach [.Name x p2] X.env)).any (·.1) = false := by rfl) :
    QE X W own (.Call (.Name "isinstance" p) [e, .Name x p2] [] pos) (tCB (rIsi X.K) (tCons te (tCons (tC (.ty T)) tNil))) (d1 (oIsTy T) f) :=
  ⟨pe_callB call_isi hg hm (by decide +kernel) (pa_cons ha.p (pa_cons (pe_bltn (v := .ty T) hg2 hm2 hb rfl hn hd) pa_nil he2) he) (by decide) (by decide) he hpl, se_isTy ha.s⟩
/-! ### what is walked -/
theorem qi_seq {tg : Expr} (h : QE X W own e te f) : QI true X W own tg e (iSeq X.K te) (dSeq f) := ⟨PI.or (pi_list h.p) (PI.or (pi_tup h.p) (pi_str h.p)), si_seq h.s⟩
theorem qc_seq {tg : Expr} (h : QL X W own e te f) : QI false X W own tg e (iSeq X.K te) (dSeq f) := ⟨PI.or (pi_list h.p) (PI.or (pi_tup h.p) (pi_str h.p)), sic_seq h.s⟩
theorem lenS {f : Env → Res D} {fs : Env → Res (List D)} {n : Nat} (hs : ∀ ρ as, fs ρ = .ok as → as.length = n) (ρ : Env) (as : List D) (h : dCons f fs ρ = .ok as) : as.length = n + 1 := by
  have h' : (f ρ).bind (fun a => (fs ρ).bind fun as => .ok (a :: as)) = .ok as := h
  cases e : f ρ with
  | ok d =>
    rw [e] at h'
    have h2 : (fs ρ).bind (fun as => .ok (d :: as)) = .ok as := h'
    cases e2 : fs ρ with
    | ok r => rw [e2] at h2; cases h2; rw [List.length_cons, hs ρ r e2]
    | exc x => rw [e2] at h2; cases h2
    | bad => rw [e2] at h2; cases h2
  | exc x => rw [e] at h'; cases h'
  | bad => rw [e] at h'; cases h'
theorem qi_rng1 {m : Bool} {tg : Expr} (hm : X.mg "range" = none) (ha : QR X W own a ta fa) (hg : Gl X "range" := by rfl) (hs : starEach [a] X.env = [(false, eval a X.env)] := by rfl) (hs2 : starEach [a] X.env = (false, eval a X.env) :: starEach [] X.env := by rfl) : QI m X W own tg (.Call (.Name "range" p) [a] [] pos) (iRng1 (tCons ta tNil)) (dRng (dCons fa dNil)) :=
  ⟨pi_range1 hg hm (pa_cons ha.p pa_nil hs2) hs, si_rng1 (sar_cons ha.s sar_nil) fun ρ as => lenS (n := 0) (fun ρ as h => by cases h; rfl) ρ as⟩
theorem qi_rng2 {m : Bool} {tg : Expr} (hm : X.mg "range" = none) (ha : QR X W own a ta fa) (hb : QR X W own b tb fb) (hg : Gl X "range" := by rfl) (hs : starEach [a, b] X.env = [(false, eval a X.env), (false, eval b X.env)] := by rfl) (hs2 : starEach [b] X.env = [(false, eval b X.env)] := by rfl) (hs3 : starEach [a, b] X.env = (false, eval a X.env) :: starEach [b] X.env := by rfl) (hs4 : starEach [b] X.env = (false, eval b X.env) :: starEach [] X.env := by rfl) :
    QI m X W own tg (.Call (.Name "range" p) [a, b] [] pos) (iRng2 (tCons ta (tCons tb tNil))) (dRng (dCons fa (dCons fb dNil))) :=
  ⟨pi_range2 hg hm (pa_cons ha.p (pa_cons hb.p pa_nil hs4) hs3) hs hs2, si_rng2 (sar_cons ha.s (sar_cons hb.s sar_nil)) fun ρ as => lenS (n := 1) (fun ρ as => lenS (n := 0) (fun ρ as h => by cases h; rfl) ρ as) ρ as⟩
theorem qi_rng3 {m : Bool} {tg : Expr} (hm : X.mg "range" = none) (ha : QR X W own a ta fa) (hb : QR X W own b tb fb) (hc : QR X W own c tc fc) (hg : Gl X "range" := by rfl) (hs : starEach [a, b, c] X.env = (false, eval a X.env) :: starEach [b, c] X.env := by rfl) (hs2 : starEach [b, c] X.env = (false, eval b X.env) :: starEach [c] X.env := by rfl) (hs3 : starEach [c] X.env = (false, eval c X.env) :: starEach [] X.env := by rfl)
    (hpl : (backTo pos (starEach [b, c] X.env)).any (·.1) = false := by rfl) : QI m X W own tg (.Call (.Name "range" p) [a, b, c] [] pos) (iRng3 (tCons ta (tCons tb (tCons tc tNil)))) (dRng (dCons fa (dCons fb (dCons fc dNil)))) :=
  ⟨pi_range3 hg hm (pa_cons ha.p (pa_cons hb.p (pa_cons hc.p pa_nil hs3) hs2) hs) hs hpl, si_rng3 (sar_cons ha.s (sar_cons hb.s (sar_cons hc.s sar_nil))) fun ρ as => lenS (n := 2) (fun ρ as => lenS (n := 1) (fun ρ as => lenS (n := 0) (fun ρ as h => by cases h; rfl) ρ as) ρ as) ρ as⟩
theorem qi_enum {elts : List Expr} {kk : Nat} {tpos : Pos} (hm : X.mg "enumerate" = none) (ha : QE X W own a ta fa) (hg : Gl X "enumerate" := by rfl) (hs : starEach [a] X.env = [(false, eval a X.env)] := by rfl) (hs2 : starEach [a] X.env = (false, eval a X.env) :: starEach [] X.env := by rfl) : QI true X W own (.Tuple elts kk tpos) (.Call (.Name "enumerate" p) [a] [] pos) (iEnum X.K (tCons ta tNil)) (dEnum fa) :=
  ⟨pi_enum hg hm (pa_cons ha.p pa_nil hs2) hs, si_enum ha.s⟩
theorem qc_enum {elts : List Expr} {kk : Nat} {tpos : Pos} (hm : X.mg "enumerate" = none) (ha : QL X W own a ta fa) (hg : Gl X "enumerate" := by rfl) (hs : starEach [a] X.env = [(false, eval a X.env)] := by rfl) (hs2 : starEach [a] X.env = (false, eval a X.env) :: starEach [] X.env := by rfl) : QI false X W own (.Tuple elts kk tpos) (.Call (.Name "enumerate" p) [a] [] pos) (iEnum X.K (tCons ta tNil)) (dEnum fa) :=
  ⟨pi_enum hg hm (pa_cons ha.p pa_nil hs2) hs, sic_enum ha.s⟩
theorem qi_zip {elts : List Expr} {kk : Nat} {tpos : Pos} (hm : X.mg "zip" = none) (ha : QE X W own a ta fa) (hb : QE X W own b tb fb) (hg : Gl X "zip" := by rfl) (hs : starEach [a, b] X.env = (false, eval a X.env) :: starEach [b] X.env := by rfl) (hs2 : starEach [b] X.env = (false, eval b X.env) :: starEach [] X.env := by rfl) (hpl : (backTo pos (starEach [b] X.env)).any (·.1) = false := by rfl) :
    QI true X W own (.Tuple elts kk tpos) (.Call (.Name "zip" p) [a, b] [] pos) (iZip X.K (tCons ta (tCons tb tNil))) (dZip fa fb) := ⟨pi_zip hg hm (pa_cons ha.p (pa_cons hb.p pa_nil hs2) hs) hs hpl, si_zip ha.s hb.s⟩
theorem qc_zip {elts : List Expr} {kk : Nat} {tpos : Pos} (hm : X.mg "zip" = none) (ha : QL X W own a ta fa) (hb : QL X W own b tb fb) (hg : Gl X "zip" := by rfl) (hs : starEach [a, b] X.env = (false, eval a X.env) :: starEach [b] X.env := by rfl) (hs2 : starEach [b] X.env = (false, eval b X.env) :: starEach [] X.env := by rfl) (hpl : (backTo pos (starEach [b] X.env)).any (·.1) = false := by rfl) :
    QI false X W own (.Tuple elts kk tpos) (.Call (.Name "zip" p) [a, b] [] pos) (iZip X.K (tCons ta (tCons tb tNil))) (dZip fa fb) := ⟨pi_zip hg hm (pa_cons ha.p (pa_cons hb.p pa_nil hs2) hs) hs hpl, sic_zip ha.s hb.s⟩
/-! ### targets -/
theorem g_name (i : Nat) {x : Str} (hN : X.N.Nodup) (hi : X.N[i]? = some x := by rfl) (n : i ∉ own := by decide) (hx : Loc X.env.scope x := by first | exact Or.inl rfl | exact Or.inr rfl) (hf : X.fn x = true ∨ X.env.scope.names.lookup x = some .local := by first | exact .inl rfl | exact .inr rfl) : QG X own (.Name x pos) (gName i) (bN i) [i] := ⟨pg_name hN hi hx hf, sg_name n⟩
theorem gs_nil : QGs X own [] gNil bNil [] := ⟨pgs_nil, sgs_nil⟩
theorem gs_cons {g : TG} {gs : TGs} {bd : Bd} {bs : Bds} {tl ul : List Nat} (h : QG X own e g bd tl) (hs : QGs X own es gs bs ul) (ht : (assignEach (e :: es) X.env).map (·.2) = assign e X.env :: (assignEach es X.env).map (·.2) := by rfl) : QGs X own (e :: es) (gCons g gs) (bCons bd bs) (tl ++ ul) := ⟨pgs_cons h.p hs.p ht, sgs_cons h.s hs.s⟩
theorem g_tup {gs : TGs} {bs : Bds} {tl : List Nat} {k n : Nat} (hc : X.calm = true) (h : QGs X own es gs bs tl) (hn : (assignEach es X.env).length = n := by rfl) (hst : (assignEach es X.env).findIdx? (·.1) = none := by rfl) : QG X own (.Tuple es k pos) (gTup X.K n gs) (bTup n bs) tl := ⟨pg_tup hc h.p hn hst, sg_tup h.s⟩
theorem g_lst {gs : TGs} {bs : Bds} {tl : List Nat} {k n : Nat} (hc : X.calm = true) (h : QGs X own es gs bs tl) (hn : (assignEach es X.env).length = n := by rfl) (hst : (assignEach es X.env).findIdx? (·.1) = none := by rfl) : QG X own (.Tuple es k pos) (gLst X.K n gs) (bLst n bs) tl := ⟨pg_lst hc h.p hn hst, sg_lst h.s⟩
/-! ### [e for t in it if ..] -/
structure QTs (X : Cx) (W : WX) (own : List Nat) (ifs : List Expr) (tt : TT) (f : Env → Res Bool) : Prop where
  p : PTs X ifs tt
  s : ST X.K W own tt f
def dYes (_ : Env) : Res Bool := .ok true
theorem ts_nil : QTs X W own [] tYes dYes := ⟨pts_nil, fun H0 O σ H ρ Q rl nb k kx => k true H rfl (Same.refl H)⟩
theorem ts_one (h : QT X W own c tt ft) : QTs X W own [c] tt ft := ⟨pts_one h.p, h.s⟩
abbrev By (α : Type _) := Shared → Hp → Addr → List (Str × Addr) → List Addr → α
def By.at0 {α : Type _} (X : Cx) (f : By α) : α := f X.s_0 X.H_0 0 [] []
variable {tg iter elt : Expr} {ifs : List Expr} {scope : Scope} {ti : TI} {items : Env → Res (List D)} {g : TG} {bd : Bd} {tl : List Nat} {fe : Env → Res D} {oN : List (Str × Nat)} {gB : By TG} {tB' : By TT} {eB : By TE}
theorem q_lc (hc : X.calm = true) (hN : X.N.Nodup) (hi : QI false X W own tg iter ti items) (ok : BlkOk X.N X.env.scope scope oN)
    (hg : ∀ (s : Shared) (H : Hp) (C : Addr) (cl : List (Str × Addr)) (fp : List Addr), QG (X.blk s H scope (compEnvC scope cl C X.env) fp) own tg (gB s H C cl fp) bd tl) (ht : ∀ (s : Shared) (H : Hp) (C : Addr) (cl : List (Str × Addr)) (fp : List Addr), QTs (X.blk s H scope (compEnvC scope cl C X.env) fp) WF own ifs (tB' s H C cl fp) ft)
    (he : ∀ (s : Shared) (H : Hp) (C : Addr) (cl : List (Str × Addr)) (fp : List Addr), QE (X.blk s H scope (compEnvC scope cl C X.env) fp) WF own elt (eB s H C cl fp) fe) (hv : ∀ t ∈ tl, t ∈ oN.map (·.2) := by decide) (hs : ∀ x, foldedSetIterable iter X.env x = pure x := by intro _; rfl) (kg : ∀ s H C cl fp, gB s H C cl fp = gB X.s_0 X.H_0 0 [] [] := by intro _ _ _ _ _; rfl) (kt : ∀ s H C cl fp, tB' s H C cl fp = tB' X.s_0 X.H_0 0 [] [] := by intro _ _ _ _ _; rfl) (ke : ∀ s H C cl fp, eB s H C cl fp = eB X.s_0 X.H_0 0 [] [] := by intro _ _ _ _ _; rfl) :
    QF X W own (.ListComp elt [⟨tg, iter, ifs, 0⟩] scope pos) (tLc ti (gB X.s_0 X.H_0 0 [] []) (tB' X.s_0 X.H_0 0 [] []) (eB X.s_0 X.H_0 0 [] []) (oN.map (·.2))) (dLc items bd ft fe (oN.map (·.2))) :=
  ⟨pe_lc hc hN hi.p ok (fun s H C cl fp => kg s H C cl fp ▸ (hg s H C cl fp).p) (fun s H C cl fp => kt s H C cl fp ▸ (ht s H C cl fp).p) (fun s H C cl fp => ke s H C cl fp ▸ (he s H C cl fp).p) hs,
    sf_lc hi.s (hg X.s_0 X.H_0 0 [] []).s (ht X.s_0 X.H_0 0 [] []).s (he X.s_0 X.H_0 0 [] []).s hv⟩
/-- y = [..] -/
theorem s_setLc (i : Nat) {y : Str} {py spos : Pos} (hc : X.calm = true) (hN : X.N.Nodup) (hi : QI false X W own tg iter ti items) (ok : BlkOk X.N X.env.scope scope oN)
    (hg : ∀ (s : Shared) (H : Hp) (C : Addr) (cl : List (Str × Addr)) (fp : List Addr), QG (X.blk s H scope (compEnvC scope cl C X.env) fp) own tg (gB s H C cl fp) bd tl) (ht : ∀ (s : Shared) (H : Hp) (C : Addr) (cl : List (Str × Addr)) (fp : List Addr), QTs (X.blk s H scope (compEnvC scope cl C X.env) fp) WF own ifs (tB' s H C cl fp) ft)
    (he : ∀ (s : Shared) (H : Hp) (C : Addr) (cl : List (Str × Addr)) (fp : List Addr), QE (X.blk s H scope (compEnvC scope cl C X.env) fp) WF own elt (eB s H C cl fp) fe) (hsw : swapsWith (.ListComp elt [⟨tg, iter, ifs, 0⟩] scope pos) (some (.Name y py)) spos.line X.env = pure true) (hv : ∀ t ∈ tl, t ∈ oN.map (·.2) := by decide) (hs : ∀ x, foldedSetIterable iter X.env x = pure x := by intro _; rfl)
    (hy : X.N[i]? = some y := by rfl) (hyl : X.env.scope.names.lookup y = some .local := by rfl) (ho : (i :: own.filter fun j => decide (j ≠ i)) = own' := by rfl) (kg : ∀ s H C cl fp, gB s H C cl fp = gB X.s_0 X.H_0 0 [] [] := by intro _ _ _ _ _; rfl) (kt : ∀ s H C cl fp, tB' s H C cl fp = tB' X.s_0 X.H_0 0 [] [] := by intro _ _ _ _ _; rfl) (ke : ∀ s H C cl fp, eB s H C cl fp = eB X.s_0 X.H_0 0 [] [] := by intro _ _ _ _ _; rfl) :
    QS X W fr oc own (.Assign [.Name y py] (.ListComp elt [⟨tg, iter, ifs, 0⟩] scope pos) spos) (tAsg (tLc ti (gB X.s_0 X.H_0 0 [] []) (tB' X.s_0 X.H_0 0 [] []) (eB X.s_0 X.H_0 0 [] []) (oN.map (·.2))) (gName i)) (gAsgL i (dLc items bd ft fe (oN.map (·.2)))) own' :=
  ⟨ps_setLc hc hN hy hyl hsw hi.p ok (fun s H C cl fp => kg s H C cl fp ▸ (hg s H C cl fp).p) (fun s H C cl fp => kt s H C cl fp ▸ (ht s H C cl fp).p) (fun s H C cl fp => ke s H C cl fp ▸ (he s H C cl fp).p) hs,
    ss_setF (sf_lc hi.s (hg X.s_0 X.H_0 0 [] []).s (ht X.s_0 X.H_0 0 [] []).s (he X.s_0 X.H_0 0 [] []).s hv) ho⟩
/-! ### calls of defs -/
def dCall (F : List D → Res D) (fs : Env → Res (List D)) (ρ : Env) : Res D := (fs ρ).bind F
/-- a def of the module -/
structure Cal (P : Program) (w : World) (K : Fg) (mg : Str → Option Value) (base : Heap) (x : Str) (k n : Nat) (fr : Bool) (F : List D → Res D) : Prop where
  ex : ∃ f fd ps, FnOk P w K mg base (L2.CX P w) k f fd ps (spD K n fr F) ∧ mg x = some (.ref f) ∧ PySem.W.keepIn K (.ref f) = true ∧ Binds K fd ps []
  len : ∀ ds, F ds ≠ .bad → ds.length = n
theorem runB_len {n N : Nat} {g : Env → Flow} (ds : List D) (h : runB n N g ds ≠ .bad) : ds.length = n := by
  unfold runB at h
  by_cases c : ds.length = n
  · exact c
  · rw [if_neg c] at h; exact absurd rfl h
end
theorem se_callS {K : Fg} {W : WX} {own : List Nat} {ts : TA} {fs : Env → Res (List D)} {n : Nat} {fr : Bool} {F : List D → Res D} (hl : ∀ ds, F ds ≠ .bad → ds.length = n) (hs : SA K W own ts fs) : SE K W own (tCallS (spD K n fr F) (WE W) ts) (dCall F fs) := fun H0 O σ H ρ Q rl nb k kx => by
  refine hs.then_ rl nb (fun as vs H1 e1 s1 rl1 rv nb1 => ?_) kx
  have ed : dCall F fs ρ = F as := by unfold dCall; rw [e1]; rfl
  exact ⟨as, O, rl1.dom, rv, hl as nb1, nb1, fun d v H' e s r => k d v H' (ed.trans e) (s1.trans s) (r.rep rl1.dom), fun x C dd H' e s rx => kx x C dd H' (ed.trans e) (s1.trans s) rx⟩
def dCallL (F : List D → Res D) (fs : Env → Res (List D)) (ρ : Env) : Res (List D) := (fs ρ).bind fun as => match F as with
  | .ok (.lst ds) => .ok ds
  | .exc x => .exc x
  | _ => .bad
theorem sf_callS {K : Fg} {W : WX} {own : List Nat} {ts : TA} {fs : Env → Res (List D)} {n : Nat} {F : List D → Res D} (hl : ∀ ds, F ds ≠ .bad → ds.length = n) (hs : SA K W own ts fs) : SF K W own (tCallS (spD K n true F) (WE W) ts) (dCallL F fs) := fun H0 O σ H ρ Q rl nb k kx => by
  refine hs.then_ rl nb (fun as vs H1 e1 s1 rl1 rv nb1 => ?_) kx
  have ed : dCallL F fs ρ = (match F as with
    | .ok (.lst ds) => .ok ds
    | .exc x => .exc x
    | _ => .bad) := by unfold dCallL; rw [e1]; rfl
  have nb2 : F as ≠ .bad := fun z => by rw [z] at nb1; exact nb1 rfl
  refine ⟨as, O, rl1.dom, rv, hl as nb2, nb2, fun d v H' e s r => ?_, fun x C dd H' e s rx => kx x C dd H' (by rw [ed, e]) (s1.trans s) rx⟩
  rcases r with ⟨p, vs', ds, h1, h2, h3, h4, h5⟩ | r
  · subst h1; subst h2
    exact k ds p vs' H' (by rw [ed, e]) (s1.trans s) (s1.free h3) h4 h5
  · exfalso
    rw [e] at nb1
    cases d with
    | lst ds => cases r
    | _ => exact nb1 rfl
section
variable {X : Cx} {W : WX} {own own1 own2 own' oc : List Nat} {fr : Bool} {a b c e o : Expr} {es : List Expr} {ta tb tc te to : TE} {fa fb fc f fo : Env → Res D} {pos p apos : Pos} {ts : TA} {fs : Env → Res (List D)} {k n : Nat} {F : List D → Res D} {x m : Str}
theorem q_call (C : Cal X.prog X.w X.K X.mg X.base x k n fr F) (hr : Room k X.A) (tk : Takes X W) (ha : QA X W own (e :: es) ts fs) (hg : Gl X x := by rfl) (hdb : (x == ("__debug__" : Str)) = false := by decide)
    (he : starEach (e :: es) X.env = (false, eval e X.env) :: starEach es X.env := by rfl) (hpl : (backTo pos (starEach es X.env)).any (·.1) = false := by rfl) : QE X W own (.Call (.Name x p) (e :: es) [] pos) (tCallS (spD X.K n fr F) (WE W) ts) (dCall F fs) := by
  obtain ⟨f, fd, ps, h1, h2, h3, h4⟩ := C.ex
  exact ⟨pe_callS h1 hr hg h2 h3 h4 (fun σ => passAt tk σ) ha.p hdb he hpl, se_callS C.len ha.s⟩
theorem q_callF (C : Cal X.prog X.w X.K X.mg X.base x k n true F) (hr : Room k X.A) (tk : Takes X W) (ha : QA X W own (e :: es) ts fs) (hg : Gl X x := by rfl) (hdb : (x == ("__debug__" : Str)) = false := by decide)
    (he : starEach (e :: es) X.env = (false, eval e X.env) :: starEach es X.env := by rfl) (hpl : (backTo pos (starEach es X.env)).any (·.1) = false := by rfl) : QF X W own (.Call (.Name x p) (e :: es) [] pos) (tCallS (spD X.K n true F) (WE W) ts) (dCallL F fs) := by
  obtain ⟨f, fd, ps, h1, h2, h3, h4⟩ := C.ex
  exact ⟨pe_callS h1 hr hg h2 h3 h4 (fun σ => passAt tk σ) ha.p hdb he hpl, sf_callS C.len ha.s⟩
/-! ### statements -/
variable {st : Stmt} {sts : List Stmt} {t u : TS} {g h : Env → Flow} {tt : TT} {ft : Env → Res Bool}
theorem b_nil : QB X W fr oc own [] tNext (fun ρ => .nx ρ) own := ⟨pss_nil, ss_next⟩
theorem b_one (h : QS X W fr oc own st t g own') : QB X W fr oc own [st] t g own' := ⟨pss_one h.p, h.s⟩
theorem b_cons (h1 : QS X W fr oc own st t g own1) (h2 : QB X W fr oc own1 sts u h own2) : QB X W fr oc own (st :: sts) (tSeq t u) (gSeq g h) own2 := ⟨pss_cons h1.p h2.p, ss_seq h1.s h2.s⟩
theorem QB.post (h : QB X W fr oc own sts t g own1) (hs : ∀ i ∈ own2, i ∈ own1 := by decide) : QB X W fr oc own sts t g own2 := ⟨h.p, ss_post h.s hs⟩
theorem QS.post (h : QS X W fr oc own st t g own1) (hs : ∀ i ∈ own2, i ∈ own1 := by decide) : QS X W fr oc own st t g own2 := ⟨h.p, ss_post h.s hs⟩
theorem QS.pre (own1 : List Nat) (h : QS X W fr oc own1 st t g own2) (hs : ∀ i ∈ own1, i ∈ own := by decide) : QS X W fr oc own st t g own2 := ⟨h.p, ss_pre h.s hs⟩
theorem s_set (i : Nat) {y : Str} {py : Pos} (hN : X.N.Nodup) (he : QE X W own e te f) (hi : X.N[i]? = some y := by rfl) (hx : Loc X.env.scope y := by first | exact Or.inl rfl | exact Or.inr rfl) (hs : swapsWith e (some (.Name y py)) pos.line X.env = pure false := by rfl) (hf : X.fn y = true ∨ X.env.scope.names.lookup y = some .local := by first | exact .inl rfl | exact .inr rfl) (ho : (own.filter fun j => decide (j ≠ i)) = own' := by rfl) :
    QS X W fr oc own (.Assign [.Name y py] e pos) (tAsg te (gName i)) (gAsg (bN i) f) own' := ⟨ps_set hN hi hx he.p hs hf, ss_setE he.s ho⟩
theorem s_setF (i : Nat) {y : Str} {py : Pos} {f : Env → Res (List D)} (hN : X.N.Nodup) (he : QF X W own e te f) (hi : X.N[i]? = some y := by rfl) (hx : Loc X.env.scope y := by first | exact Or.inl rfl | exact Or.inr rfl) (hs : swapsWith e (some (.Name y py)) pos.line X.env = pure false := by rfl) (hf : X.fn y = true ∨ X.env.scope.names.lookup y = some .local := by first | exact .inl rfl | exact .inr rfl) (ho : (i :: own.filter fun j => decide (j ≠ i)) = own' := by rfl) :
    QS X W fr oc own (.Assign [.Name y py] e pos) (tAsg te (gName i)) (gAsgL i f) own' := ⟨ps_set hN hi hx he.p hs hf, ss_setF he.s ho⟩
theorem s_asg {gt : TG} {bd : Bd} {tl : List Nat} {tg : Expr} (he : QE X W own e te f) (hg : QG X own tg gt bd tl) (hs : swapsWithSole [tg] e pos.line X.env = pure false := by rfl) (hw : swappedStores [tg] e X.env = pure none := by rfl) (h1 : (assignEach [tg] X.env).map (·.2) = [assign tg X.env] := by rfl) :
    QS X W fr oc own (.Assign [tg] e pos) (tAsg te gt) (gAsg bd f) own := ⟨ps_asg he.p hg.p hs hw h1, ss_asg hg.s he.s⟩
theorem s_if {ss us : List Stmt} (ht : QT X W own c tt ft) (h1 : QB X W fr oc own ss t g own') (h2 : QB X W fr oc own us u h own') : QS X W fr oc own (.If c ss us pos) (tIfS tt t u) (gIf ft g h) own' := ⟨ps_if ht.p h1.p h2.p, ss_if ht.s h1.s h2.s⟩
theorem s_drop (he : QE X W own e te f) (hs : swapsWith e none pos.line X.env = pure false := by rfl) : QS X W fr oc own (.Expr e pos) (tDrop te) (gDrop f) own := ⟨ps_expr he.p hs, ss_drop he.s⟩
theorem s_ret (he : QE X W own e te f) : QS X W false oc own (.Return (some e) pos) (tRet te) (gRet f) own' := ⟨ps_ret he.p, ss_ret he.s⟩
theorem s_retF {f : Env → Res (List D)} (he : QF X W own e te f) : QS X W true oc own (.Return (some e) pos) (tRet te) (gRetL f) own' := ⟨ps_ret he.p, ss_retF he.s⟩
theorem s_retS (he : QR X W own e te f) : QS X W true oc own (.Return (some e) pos) (tRet te) (gRetS f) own' := ⟨ps_ret he.p, ss_retS he.s⟩
theorem s_retV (i : Nat) {y : Str} {py : Pos} (hN : X.N[i]? = some y := by rfl) (hi : i ∈ own := by decide) (hv : Vis X.env.scope y := by first | exact Or.inl rfl | exact Or.inr (Or.inl rfl) | exact Or.inr (Or.inr rfl)) (hd : (y == ("__debug__" : Str)) = false := by decide) (hcd : (y == ("__classdict__" : Str)) = false := by decide) :
    QS X W true oc own (.Return (some (.Name y py)) pos) (tRet (tVar i)) (gRet (dV i)) own' := ⟨ps_ret (pe_var hN hv hd hcd), ss_retV hi⟩
theorem s_retN : QS X W false oc own (.Return none pos) tRetN (fun _ => .rt .non) own' := ⟨ps_retN, ss_retN⟩
theorem s_cont : QS X W fr own own (.Continue pos) tCont (fun ρ => .ct ρ) own' := ⟨ps_continue, ss_cont⟩
theorem s_pass : QS X W fr oc own (.Pass pos) tNext (fun ρ => .nx ρ) own := ⟨ps_pass, ss_next⟩
theorem s_for {ti : TI} {items : Env → Res (List D)} {gt : TG} {bd : Bd} {tl : List Nat} {tg it : Expr} {body : List Stmt} (hp : PassesOwn (model X.prog X.w) X.A X.env X.xe) (hc : X.calm = true) (hi : QI true X W own tg it ti items) (hg : QG X own tg gt bd tl) (hb : QB X W fr own own body t g own)
    (hs : ∀ x, foldedSetIterable it X.env x = pure x := by intro _; rfl) : QS X W fr oc own (.For tg it body [] pos) (tFor ti gt t) (gFor items bd g) own := ⟨ps_for hp hc hi.p hg.p hb.p hs, ss_for hi.s hg.s hb.s⟩
theorem s_while {body : List Stmt} (hp : PassesOwn (model X.prog X.w) X.A X.env X.xe) (ht : QT X W own c tt ft) (hb : QB X W fr own own body t g own) : QS X W fr oc own (.While c body [] pos) (tWhile tt t) (gWhile ft g) own := ⟨ps_while hp ht.p hb.p, ss_while ht.s hb.s⟩
/-! ### own lists changed -/
theorem s_mut {id : String} {r : V → List V → Hp → VK → Prop} {op : List D → List D → Option (List D)} {y name : Str} {py cpos : Pos} (i : Nat) (slot : Slot "list" name id) (hty : typeOf (.builtin id) = pure (.type "method_descriptor")) (hm : MtR X id r) (hr : MutS X.K r op) (ha : QA X W own (e :: es) ts fs)
    (hN : X.N[i]? = some y := by rfl) (hi : i ∈ own := by decide) (hv : Vis X.env.scope y := by first | exact Or.inl rfl | exact Or.inr (Or.inl rfl) | exact Or.inr (Or.inr rfl)) (hd : (y == ("__debug__" : Str)) = false := by decide) (hcd : (y == ("__classdict__" : Str)) = false := by decide)
    (hbase : attributeBase (.Name y py) name X.env (eval (.Name y py) X.env) = eval (.Name y py) X.env := by rfl)
    (hfew : ((backTo cpos (starEach (e :: es) X.env)).all (fun x => !x.1) && (backToKw cpos (keywordEach [] X.env)).all (fun x => x.1.isSome)
      && decide ((e :: es).length + ([] : List Keyword).length + (if ([] : List Keyword).isEmpty then 0 else 1) < 30)) = true := by rfl)
    (hline : (apos.endLine == cpos.line) = true := by rfl) (hs : starEach (e :: es) X.env = (false, eval e X.env) :: starEach es X.env := by rfl) (hplain : (backTo cpos (starEach es X.env)).any (·.1) = false := by rfl)
    (hsw : swapsWith (.Call (.Attribute (.Name y py) name apos) (e :: es) [] cpos) none pos.line X.env = pure false := by rfl) :
    QS X W fr oc own (.Expr (.Call (.Attribute (.Name y py) name apos) (e :: es) [] cpos) pos) (tDrop (tBM X.K "list" r (tVar i) ts)) (gMut i fs op) own :=
  ⟨ps_expr (pe_bm PySem.F.plainAttrs_list slot hty hm (pe_var hN hv hd hcd) ha.p hbase hfew hline hs hplain) hsw, ss_mut hi hr ha.s⟩
theorem s_mut0 {id : String} {r : V → List V → Hp → VK → Prop} {op : List D → List D → Option (List D)} {y name : Str} {py cpos : Pos} (i : Nat) (slot : Slot "list" name id) (hty : typeOf (.builtin id) = pure (.type "method_descriptor")) (hm : MtR X id r) (hr : MutS X.K r op)
    (hN : X.N[i]? = some y := by rfl) (hi : i ∈ own := by decide) (hv : Vis X.env.scope y := by first | exact Or.inl rfl | exact Or.inr (Or.inl rfl) | exact Or.inr (Or.inr rfl)) (hd : (y == ("__debug__" : Str)) = false := by decide) (hcd : (y == ("__classdict__" : Str)) = false := by decide)
    (hbase : attributeBase (.Name y py) name X.env (eval (.Name y py) X.env) = eval (.Name y py) X.env := by rfl) (hline : (apos.endLine == cpos.line) = true := by rfl)
    (hsw : swapsWith (.Call (.Attribute (.Name y py) name apos) [] [] cpos) none pos.line X.env = pure false := by rfl) :
    QS X W fr oc own (.Expr (.Call (.Attribute (.Name y py) name apos) [] [] cpos) pos) (tDrop (tBM0 X.K "list" r (tVar i))) (gMut i dNil op) own :=
  ⟨ps_expr (pe_bm0 PySem.F.plainAttrs_list slot hty hm (pe_var hN hv hd hcd) hbase hline) hsw, ss_mut0 hi hr⟩
theorem s_setIx {y : Str} {py spos : Pos} (i : Nat) {j : Expr} {tj : TE} {fj : Env → Res D} (hj : QR X W own j tj fj) (he : QE X W own e te f) (hN : X.N[i]? = some y := by rfl) (hi : i ∈ own := by decide) (hv : Vis X.env.scope y := by first | exact Or.inl rfl | exact Or.inr (Or.inl rfl) | exact Or.inr (Or.inr rfl)) (hd : (y == ("__debug__" : Str)) = false := by decide) (hcd : (y == ("__classdict__" : Str)) = false := by decide)
    (hA : ∀ v, assign (.Subscript (.Name y py) j spos) X.env v = (do
      let ov ← holding [v] (eval (.Name y py) X.env)
      let iv ← holding [v, ov] (eval j X.env)
      standAt spos
      holding [v, ov, iv] (setItem ov iv v)
      release [v, ov, iv] []) := by intro _; rfl) (hs : swapsWithSole [.Subscript (.Name y py) j spos] e pos.line X.env = pure false := by rfl) (hw : swappedStores [.Subscript (.Name y py) j spos] e X.env = pure none := by rfl) (h1 : (assignEach [.Subscript (.Name y py) j spos] X.env).map (·.2) = [assign (.Subscript (.Name y py) j spos) X.env] := by rfl) :
    QS X W fr oc own (.Assign [.Subscript (.Name y py) j spos] e pos) (tAsg te (gSub (tVar i) tj rSetL)) (gSetIx i fj f) own :=
  ⟨ps_asg he.p (pg_sub (pe_var hN hv hd hcd) hj.p set_list hA) hs hw h1, ss_setIx hi hj.s he.s⟩
/-! ### raise C('..'), C without its own __init__ -/
structure ExcOk (K : Fg) (mg : Str → Option Value) (c : Nat) : Prop where
  ex : PySem.W.excIn K (clsA K c) He.veBase "ValueError.__new__" = true
  kp : PySem.W.keepIn K (.ref (clsA K c)) = true
  sb : PySem.W.subIn K (.ref (clsA K c)) (.type "BaseException") = some true
  ty : PySem.W.typeIn K (.ref (clsA K c)) = some (.type "type")
  gl : mg (clsN c) = some (.ref (clsA K c))
theorem s_raise {cn msg : Str} {j : Nat} {p2 pos2 : Pos} (c : Nat) (T : ExcOk X.K X.mg c) (hc : X.calm = true) (tk : Takes X W) (hx : clsN c = cn := by rfl) (hg : Gl X cn := by rfl) (hdb : (cn == ("__debug__" : Str)) = false := by decide) :
    QS X W fr oc own (.Raise (some (.Call (.Name cn p) [.Constant (.str msg) j p2] [] pos)) none pos2) (fun _ σ H => W (.ref (clsA X.K c)) none σ H) (fun ρ => .ex ⟨c, []⟩ ρ) own' := by
  subst hx
  refine ⟨ps_raise hc tk (pmk_own PySem.F.excBase_ValueError T.ex T.gl T.kp (raises_own T.sb T.ty) hg hdb), fun H0 O σ H ρ De rl nb k kc kr kx => ?_⟩
  obtain ⟨O', r', sub⟩ := rl.sub (own' := []) fun i hi => by cases hi
  exact kx ⟨c, []⟩ ρ (.ref (clsA X.K c)) none O' σ H rfl r' (mask_sub sub) ⟨rfl, .inl ⟨rfl, rfl⟩⟩
end
end PL
namespace PL
open PySem L2
theorem hu64 {k : Nat} {A : Around} (hr : Room k A) : A.units + 64 < cLine := by
  have := hr.un
  omega
theorem fAd_glo {K : Fg} {x : Str} : He.fAd K (x, none) = He.ga K x := rfl
theorem exc_mk {K : Fg} {h : Heap} {mg : Str → Option Value} (X : K.In h) (G : h.Ns mainGlobals mg) {c : Nat} (h1 : (He.Fa.exc (clsN c)).ok K = true) (h2 : (He.Fa.glo (clsN c)).ok K = true) : ExcOk K mg c := by
  obtain ⟨a, b, d, e⟩ := He.exc_ok h1
  exact ⟨a, b, d, e, He.glo_ok X G h2⟩
end PL
/-! try, caught exceptions as values -/
namespace L2
open PySem PySem.Spec PyProof.Rows PL
/-- what the clause 'except x as n' wishes, the exception known by its object -/
def wExt (K : PySem.W.Frag) (c : Value) (i : Nat) (ts : TS) (Wout : WX) (D : Ends) : WX := fun cls d σ H =>
  ∃ b, PySem.W.exmOne K cls c = some b ∧ (b = true → ∀ a, H a = none → ts { nx := fun σ' H' => D.nx (σ'.set i none) H', rt := D.rt, bk := fun σ' H' => D.bk (σ'.set i none) H', ct := fun σ' H' => D.ct (σ'.set i none) H' } (σ.set i (some (.ref a))) (upd H a (ExcO cls d a))) ∧
    (b = false → Wout cls d σ H)
section
variable {X : Cx} {x n : Str} {c : Value} {i : Nat} {body suite : List Stmt} {b₀ : Stmt} {np pos pos' : Pos} {tb : WX → TS} {ts : TS} {Wout : WX}
theorem ps_try_ext (hs : X.stack = X.env :: X.outer) (hf : X.env.frame = some X.env.locals) (hN : X.N.Nodup) (hi : X.N[i]? = some n) (hln : X.env.kindOf n = some .local) (hc : Names X x c) (tk : Takes X Wout)
    (hb : ∀ (W : WX) (pn : List (Addr × Obj)) (xe : Value → Shared → Prop), Takes (X.tr pn xe) W → PassesOwn (model X.prog X.w) X.A X.env xe → PSs (X.tr pn xe) body (tb W))
    (hsu : ∀ (a : Addr) (pn : List (Addr × Obj)), PSs (X.suite a pn) (b₀ :: suite) ts) :
    PS X (.Try body [.ExceptHandler (some (.Name x np)) (some n) (b₀ :: suite) pos'] [] [] pos) (fun D σ H => tb (wExt X.K c i ts Wout D) D σ H) := by
  refine ⟨fun pins s σ H D I h => ?_⟩
  have ok := I.ok
  have hfr : X.A.frames = some (X.env :: X.outer) := by rw [ok.frames, hs]
  have hloc : Loc X.env.scope n := .inl hln
  refine wpAny_Try_except ?_
  refine wpAny_mono ((hb (wExt X.K c i ts Wout D) (X.pn ++ pins) (fun e s₁ => wpAny (model X.prog X.w) X.A (noteFrame e X.env) (fun _ s₂ => wpAny (model X.prog X.w) X.A (setFlight e none) (fun _ s₃ =>
    wpAny (model X.prog X.w) X.A (handleBy e X.env [.ExceptHandler (some (.Name x np)) (some n) (b₀ :: suite) pos']) (SP X pins D) X.xe s₃) X.xe s₂) X.xe s₁) (fun u s' xx => ?_) PassesOwn.looking).run [] s σ H D (I.toTry _) h) (fun f s1 hsp => ?_) (fun e s1 he => he)
  · -- the catch
    obtain ⟨a, B, sI, pins', σ', H', cls, d, rfl, J', nb, up, sky, na, os, ag, b, hb1, hyes, hno⟩ := xx
    have J : Inv X pins σ' H' sI := J'.ofTry ok
    have sky' : Sky B (X.env :: X.outer) a (Zc cls d) X.env.locals s'.heap := by rw [← hs]; exact sky
    show wpAny (model X.prog X.w) X.A (noteFrame (.ref a) X.env) _ _ _
    refine Sky.land Zc.steady hfr hf sky' fun h3 fl3 up3 => ?_
    have J3 : Inv X pins σ' H' { s' with heap := h3 } := J.landed nb fl3.1 (up.trans up3) os ag
    obtain ⟨oe3, vs3, he3, hz3, hd3⟩ := fl3.there
    have notFr : ∀ {h : Heap} {o : Obj} {vs : Array Value}, h.FunFrames B (X.env :: X.outer) → h.get? a = some o → o.data = .fields vs → a ∉ frs (X.env :: X.outer) := fun {h o vs} ff e dd hm => by
      obtain ⟨_, o', e', hnf⟩ := ff.mem hm
      rw [e] at e'; cases e'
      exact hnf _ dd
    have nfr := notFr fl3.2.2.1 he3 hd3
    have nL : a ≠ X.env.locals := fun z => nfr (List.mem_filterMap.mpr ⟨X.env, List.mem_cons_self, by rw [hf, z]⟩)
    have nF : a ∉ X.fs := fun hm => by
      obtain ⟨e, he, q⟩ := List.mem_filterMap.mp hm
      exact nfr (List.mem_filterMap.mpr ⟨e, List.mem_cons_of_mem _ he, q⟩)
    have naI : sI.heap.get? a = none := by
      cases e : sI.heap.get? a with
      | none => rfl
      | some o =>
        have z := nb a o e (by rw [hs]; exact nfr)
        rw [fl3.2.1] at z; cases z
    have S3 := J3.suite he3 hd3 na nL nF
    refine wpAny_handleBy_cons (codeAny_handlers_test ?_) (by intro q; cases q)
    have LT : PySem.W.Looks (model X.prog X.w) h3 (typeOf (.ref a)) cls := fun A Q E s k q => wpAny_typeOf_ref (k _ _ he3) (by rw [hz3.1]; exact q)
    have LM := PySem.W.exm_one (M := model X.prog X.w) (J3.kIn) LT hb1
    have test : ∀ {Q : Value → Shared → Prop} {E : Value → Shared → Prop}, Q c { s' with heap := h3 } → wpAny (model X.prog X.w) (X.A.mark (some (.ref a))) (eval (.Name x np) X.env) Q E { s' with heap := h3 } := fun {Q E} q => by
      obtain ⟨hg, hdbg, hm | ⟨hm, hv, hnn⟩⟩ := hc
      · exact ld_glob (X := X.suite a ((a, oe3) :: (X.pn ++ pins))) S3 hg hm q hdbg
      · exact ld_blt (X := X.suite a ((a, oe3) :: (X.pn ++ pins))) S3 hg hm hv q hnn hdbg
    refine test (LM.here ?_)
    cases b with
    | true =>
      refine codeAny_handlers_suite_as ?_
      refine HandSPX.lands_againZ fl3 fun h4 fl4 up4 => ?_
      have J4 : Inv X pins σ' H' { s' with heap := h4 } := J.landed nb fl4.1 ((up.trans up3).trans up4) os ag
      obtain ⟨oe4, vs4, he4, hz4, hd4⟩ := fl4.there
      have S4 : Inv (X.suite a (X.pn ++ pins)) [] σ' (upd H' a (ExcO cls d a)) { s' with heap := h4 } := by
        refine ⟨J4.ok.suite _ _, J4.os, J4.bare, ⟨J4.base.keep, J4.base.slot, fun b o e n hx => ?_, J4.base.there, fun b xs q => ?_, fun b o u q => ?_, fun b ps q => ?_⟩, J4.loc, J4.cell, ?_, fun y c e => ?_, fun p hp => ?_, fun b u e => ?_, J4.len⟩
        · have nb' : b ≠ a := fun z => by
            obtain ⟨o', e'⟩ := J.base.there b o e hx
            rw [z, naI] at e'; cases e'
          rw [upd_ne nb']; exact J4.base.free b o e n hx
        · have z := J4.base.tups b xs q
          rw [upd_ne (ne_of_none z na)]; exact z
        · have z := J4.base.frzs b o u q
          rw [upd_ne (ne_of_none z na)]; exact z
        · obtain ⟨m, z⟩ := J4.base.tbls b ps q
          exact ⟨m, by rw [upd_ne (ne_of_none z na)]; exact z⟩
        · exact (upd_ne (Ne.symm nL)).trans J4.free
        · have nc : c ≠ a := fun z => by
            obtain ⟨v, o, h1, h2⟩ := J4.cell y c e
            rw [z] at h1
            have h1' : h4.get? a = some o := h1
            rw [he4] at h1'; cases h1'
            rw [hd4] at h2; cases h2
          exact (upd_ne nc).trans (J4.freeC y c e)
        · have hp' : p ∈ X.pn ++ pins := by rw [List.append_nil] at hp; exact hp
          obtain ⟨q1, q2, q3, q4, q5⟩ := J4.pin p hp'
          have np : p.1 ≠ a := fun z => by
            have z2 := (J.pin p hp').1
            rw [z, naI] at z2; cases z2
          exact ⟨q1, (upd_ne np).trans q2, q3, q4, q5⟩
        · by_cases hb : b = a
          · subst hb
            rw [upd_same] at e
            cases e
            exact ⟨⟨oe4, vs4, he4, hz4, hd4⟩, ⟨oe4, he4⟩, fun _ _ ⟨o, v, q, r⟩ k => ⟨o, v, k o q, r⟩⟩
          · rw [upd_ne hb] at e
            exact (J4.hok b u e).stay (fun c v _ q => q) (fun c q => by rw [upd_ne (ne_of_none q na)]; exact q) fun c xs q => by rw [upd_ne (ne_of_none q na)]; exact q
      refine store_ok (X := X.suite a (X.pn ++ pins)) (v := .ref a) S4 hN hi hloc rfl (fun s5 S5 => ?_) (.inr hln)
      refine wpAny_mono ((hsu a (X.pn ++ pins)).run [] s5 _ _ _ S5 (hyes rfl a na)) (fun f s6 hsp => ?_) (fun _ _ z => False.elim z)
      have uns : ∀ {σ6 : St} {H6 : Hp} {pn' : List (Addr × Obj)}, Inv (X.suite a (X.pn ++ pins)) pn' σ6 H6 s6 → Inv X pins σ6 H6 s6 := fun {σ6 H6 pn'} I => ⟨ok, I.os, I.bare, I.base, I.loc, I.cell, I.free, I.freeC, fun p hp => I.pin p (List.mem_append_left _ hp), I.hok, I.len⟩
      have end_ : ∀ {σ6 : St} {H6 : Hp} {pn' : List (Addr × Obj)} {Q : Shared → Prop}, Inv (X.suite a (X.pn ++ pins)) pn' σ6 H6 s6 → (∀ s7, Inv X pins (σ6.set i none) H6 s7 → Q s7) →
          wpAny (model X.prog X.w) X.A (do bindName X.env n .none; unbindBehindTheSuite X.env n pos') (fun _ s7 => Q s7) X.xe s6 := fun {σ6 H6 pn' Q} S6 hq => gone_ok (uns S6) hN hi hln hq
      cases f with
      | next =>
        obtain ⟨σ6, H6, S6, q6⟩ := hsp
        exact end_ S6 fun s7 J7 => ⟨_, _, J7, q6⟩
      | brk =>
        obtain ⟨σ6, H6, S6, q6⟩ := hsp
        exact end_ S6 fun s7 J7 => ⟨_, _, J7, q6⟩
      | cont =>
        obtain ⟨σ6, H6, S6, q6⟩ := hsp
        exact end_ S6 fun s7 J7 => ⟨_, _, J7, q6⟩
      | ret u =>
        obtain ⟨v6, σ6, H6, S6, r6, q6⟩ := hsp
        exact end_ S6 fun s7 J7 => ⟨_, _, _, J7, r6, q6⟩
    | false =>
      show wpAny _ X.A (handleBy (.ref a) X.env []) _ _ _
      refine wpAny_handleBy_nil ?_
      obtain ⟨k1, k2, k3, oe, vs, T, oT, ts', he, hz, hd, h1, hr⟩ := id fl3
      unfold PySem.passOn
      refine wpAny_bind (wpAny_field he hd h1 ?_)
      rw [if_neg (show ¬ ((Value.ref T == Value.none) = true) from by simp)]
      have fin : wpAny (model X.prog X.w) X.A (setFlight (.ref a) X.env.frame) (fun _ s4 => wpAny (model X.prog X.w) X.A (throw (.ref a) : Sem PySem.Flow) (SP X pins D) X.xe s4) X.xe { s' with heap := h3 } := by
        rw [hf]
        refine HandSPX.setFlight_upZ fl3 fun h4 hh4 up4 => wpAny_throw (tk _ _ ?_)
        exact ⟨a, B, sI, pins, σ', H', cls, d, rfl, J, nb, (up.trans up3).trans up4, .inr (.inr (by rw [hs]; exact hh4)), na, os, ag, hno rfl⟩
      first
        | exact wpAny_bind (wpAny_pure (wpAny_bind fin))
        | exact wpAny_bind fin
  · cases f with
    | next =>
      obtain ⟨σ', H', J', q⟩ := hsp
      exact wpAny_execs_nil ⟨σ', H', J'.ofTry ok, q⟩
    | brk =>
      obtain ⟨σ', H', J', q⟩ := hsp
      exact ⟨σ', H', J'.ofTry ok, q⟩
    | cont =>
      obtain ⟨σ', H', J', q⟩ := hsp
      exact ⟨σ', H', J'.ofTry ok, q⟩
    | ret u =>
      obtain ⟨v, σ', H', J', r, q⟩ := hsp
      exact ⟨v, σ', H', J'.ofTry ok, r, q⟩
end
end L2
namespace PL
open PySem PySem.Spec PyProof.Rows L2
/-- c is y, or y's heir -/
def subC (c y : Nat) : Bool := c == y || y == 7
structure CatchOk (K : Fg) (mg : Str → Option Value) (cs : List Nat) (y : Nat) : Prop where
  gl : mg (clsN y) = some (.ref (clsA K y))
  ex : ∀ c ∈ cs, PySem.W.exmOne K (.ref (clsA K c)) (.ref (clsA K y)) = some (subC c y)
  xc : ∀ c ∈ cs, XcOk K c
/-- try: g, except y as (slot i): h -/
def gTry (cs : List Nat) (y i : Nat) (g h : Env → Flow) (ρ : Env) : Flow := match g ρ with
  | .ex x ρ1 => if x.c ∈ cs then (if subC x.c y = true then (if i < ρ1.length then (match h (ρ1.set i (some (.exc x.c x.fs))) with
      | .nx ρ2 => .nx (ρ2.set i none)
      | .rt d => .rt d
      | _ => .bad) else .bad) else .ex x ρ1) else .bad
  | .nx ρ1 => .nx ρ1
  | .ct ρ1 => .ct ρ1
  | .rt d => .rt d
  | .bad => .bad
theorem rep_exc {K : Fg} {H : Hp} {a : Addr} {O : List Addr} {x : Exn} {dd : Option Addr} (na : H a = none) (no : a ∉ O) (xc : XcOk K x.c) (rx : RepX K (mask O H) (.ref (clsA K x.c)) dd x) : Rep K (mask O (upd H a (ExcO (.ref (clsA K x.c)) dd a))) (.ref a) (.exc x.c x.fs) := by
  have sm := mask_mono (O := O) (Same.new (o := ExcO (.ref (clsA K x.c)) dd a) na)
  have ha : mask O (upd H a (ExcO (.ref (clsA K x.c)) dd a)) a = some (ExcO (.ref (clsA K x.c)) dd a) := by rw [mask_out no, upd_same]
  obtain ⟨_, ⟨h1, h2⟩ | ⟨_, q, fv, h1, h2, h3⟩⟩ := rx
  · subst h2; rw [h1]; exact .exc0 ha xc
  · subst h1; exact .exc1 ha xc (sm _ _ h2) (h3.mono sm)
theorem SS.cast {K : Fg} {W : WX} {fr : Bool} {oc own own' : List Nat} {ts us : TS} {g : Env → Flow} (h : SS K W fr oc own ts g own') (e : ts = us) : SS K W fr oc own us g own' := e ▸ h
theorem ss_try {K : Fg} {W : WX} {mg : Str → Option Value} {fr : Bool} {oc own own1 own2 own' : List Nat} {tb : WX → TS} {ts : TS} {g h : Env → Flow} {cs : List Nat} {y i : Nat} (C : CatchOk K mg cs y) (hb : ∀ W', SS K W' fr oc own (tb W') g own1) (hh : SS K WF fr [] [] ts h own2) (h1 : ∀ j ∈ own', j ∈ own1) (h2 : ∀ j ∈ own', j ∈ own2) :
    SS K W fr oc own (fun D σ H => tb (wExt K (.ref (clsA K y)) i ts W D) D σ H) (gTry cs y i g h) own' := fun H0 O σ H ρ De rl nb k kc kr kx => by
  refine hb _ H0 O σ H ρ De rl (fun e => nb (by unfold gTry; rw [e])) (fun ρ' O' σ' H' e rl' s => ?_) (fun ρ' O' σ' H' e => kc ρ' O' σ' H' (by unfold gTry; rw [e])) (fun d v H' e => kr d v H' (by unfold gTry; rw [e])) fun x ρ' C' dd O' σ' H' e rl' s rx => ?_
  · obtain ⟨O2, r2, sub⟩ := rl'.sub h1
    exact k ρ' O2 σ' H' (by unfold gTry; rw [e]) r2 (s.trans (mask_sub sub))
  · have ed : gTry cs y i g h ρ = if x.c ∈ cs then (if subC x.c y = true then (if i < ρ'.length then (match h (ρ'.set i (some (.exc x.c x.fs))) with
      | .nx ρ2 => .nx (ρ2.set i none)
      | .rt d => .rt d
      | _ => .bad) else .bad) else .ex x ρ') else .bad := by unfold gTry; rw [e]
    obtain rfl := rx.1
    by_cases hm : x.c ∈ cs
    · rw [if_pos hm] at ed
      refine ⟨subC x.c y, C.ex _ hm, fun eb a na => ?_, fun eb => ?_⟩
      · rw [if_pos eb] at ed
        by_cases hi : i < ρ'.length
        · rw [if_pos hi] at ed
          have no : a ∉ O' := rl'.dom.not na
          have s1 := Same.new (o := ExcO (.ref (clsA K x.c)) dd a) na
          have rl2 := (rl'.mono s1).put hi (rep_exc na no (C.xc _ hm) rx)
          have m1 : Same (mask O H) (mask O' (upd H' a (ExcO (.ref (clsA K x.c)) dd a))) := Same.trans s (mask_mono s1)
          refine hh H0 O' _ _ _ _ rl2 (fun z => nb (by rw [ed, z])) (fun ρ3 O3 σ3 H3 e3 rl3 s3 => ?_) (fun ρ3 O3 σ3 H3 e3 => absurd (by rw [ed, e3]) nb) (fun d v H3 e3 s3 rv => kr d v H3 (by rw [ed, e3]) s3 rv) fun x3 ρ3 C3 dd3 O3 σ3 H3 e3 => absurd (by rw [ed, e3]) nb
          obtain ⟨O4, r4, sub⟩ := (rl3.wipe [i]).sub h2
          exact k _ O4 _ H3 (by rw [ed, e3]; rfl) r4 ((Same.trans m1 s3).trans (mask_sub sub))
        · rw [ed, if_neg hi] at nb; exact absurd rfl nb
      · rw [if_neg (by rw [eb]; exact Bool.false_ne_true)] at ed
        exact kx x ρ' _ dd O' σ' H' ed rl' s rx
    · rw [ed, if_neg hm] at nb; exact absurd rfl nb
section
variable {X : Cx} {W : WX} {own own1 own2 own' oc : List Nat} {fr : Bool} {body suite : List Stmt} {b₀ : Stmt} {g h : Env → Flow} {cs : List Nat}
theorem s_try {x n : Str} {np pos pos' : Pos} {tb : WX → List (Addr × Obj) → (Value → Shared → Prop) → TS} {tsu : Addr → List (Addr × Obj) → TS} (i y : Nat) (C : CatchOk X.K X.mg cs y) (hN : X.N.Nodup) (tk : Takes X W)
    (hb : ∀ (W' : WX) (pn : List (Addr × Obj)) (xe : Value → Shared → Prop), Takes (X.tr pn xe) W' → PassesOwn (model X.prog X.w) X.A X.env xe → QB (X.tr pn xe) W' fr oc own body (tb W' pn xe) g own1)
    (hsu : ∀ (a : Addr) (pn : List (Addr × Obj)), QB (X.suite a pn) WF fr [] [] (b₀ :: suite) (tsu a pn) h own2)
    (hy : clsN y = x := by rfl) (hs : X.stack = X.env :: X.outer := by rfl) (hf : X.env.frame = some X.env.locals := by rfl) (hi : X.N[i]? = some n := by rfl) (hln : X.env.kindOf n = some .local := by rfl) (hg : Gl X x := by rfl) (hdb : (x == ("__debug__" : Str)) = false := by decide)
    (h1 : ∀ j ∈ own', j ∈ own1 := by decide) (h2 : ∀ j ∈ own', j ∈ own2 := by decide) (kb : ∀ W' pn xe, tb W' pn xe = tb W' [] (fun _ _ => False) := by intro _ _ _; rfl) (ks : ∀ a pn, tsu a pn = tsu 0 [] := by intro _ _; rfl) :
    QS X W fr oc own (.Try body [.ExceptHandler (some (.Name x np)) (some n) (b₀ :: suite) pos'] [] [] pos) (fun D σ H => tb (wExt X.K (.ref (clsA X.K y)) i (tsu 0 []) W D) [] (fun _ _ => False) D σ H) (gTry cs y i g h) own' := by
  subst hy
  refine ⟨ps_try_ext (tb := fun W' => tb W' [] (fun _ _ => False)) hs hf hN hi hln ⟨hg, hdb, .inl C.gl⟩ tk (fun W' pn xe tk' po => kb W' pn xe ▸ (hb W' pn xe tk' po).p) (fun a pn => ks a pn ▸ (hsu a pn).p), ss_try (tb := fun W' => tb W' [] (fun _ _ => False)) C (fun W' => ?_) (hsu 0 []).s h1 h2⟩
  refine (hb W' [] (fun e s₁ => wpAny (model X.prog X.w) X.A (noteFrame e X.env) (fun _ s₂ => wpAny (model X.prog X.w) X.A (setFlight e none) (fun _ _ => True) (fun _ _ => True) s₂) (fun _ _ => True) s₁) (fun u s' xx => ?_) PassesOwn.looking).s.cast (kb W' [] _)
  obtain ⟨a, B, sI, pins', σ', H', cls, d, rfl, J', nb, up, sky, na, os, ag, _⟩ := xx
  have hfr : X.A.frames = some (X.env :: X.outer) := by
    have z := J'.ok.frames
    exact z.trans (by rw [← hs])
  have sky' : Sky B (X.env :: X.outer) a (Zc cls d) X.env.locals s'.heap := by rw [← hs]; exact sky
  exact Sky.land Zc.steady hfr hf sky' fun h3 fl3 up3 => trivial
end
end PL
namespace PL
open PySem PySem.Spec PyProof.Rows L2
/-! ### isinstance of a caught exception; its attributes -/
def rIsX (K : Fg) : List V → Hp → VK → Prop := fun xs H Q => ∃ (a C : Addr) (c : V) (cv : Value) (dd : Option Addr) (b : Bool), xs = [.ref a, c] ∧ H a = some (ExcO (.ref C) dd a) ∧ (∀ q, dd = some q → ∃ fv, H q = some (.xd fv)) ∧ ExcC K C ∧ ClsV c cv ∧ PySem.W.kitOne K (.ref C) cv = some b ∧ Q (.bl b) H
theorem exc_inst {X : Cx} {pins : List (Addr × Obj)} {σ : L2.St} {H : Hp} {s : Shared} {a C : Addr} {dd : Option Addr} (I : Inv X pins σ H s) (ha : H a = some (ExcO (.ref C) dd a)) (hq : ∀ q, dd = some q → ∃ fv, H q = some (.xd fv)) :
    ∃ oe od, PySem.W.InstAt s.heap a oe C od ∧ ∀ q fv, dd = some q → H q = some (.xd fv) → ∃ d mA, od = some d ∧ s.heap.get? q = some d ∧ s.heap.Ns1 q mA ∧ ∀ f, RelO (fv.lookup f) (mA f) := by
  obtain ⟨⟨oe, vs, he, hz, hd⟩, _, _⟩ := I.hok a _ ha
  cases dd with
  | none =>
    refine ⟨oe, none, ⟨he, hz.1, by unfold PySem.W.notCls; rw [hd] <;> rfl, by rw [hz.2]; trivial⟩, fun q fv e => nomatch e⟩
  | some q =>
    obtain ⟨fv, hx⟩ := hq q rfl
    obtain ⟨mA, hns, hr⟩ := (show ObjOk X.prog X.w H s.heap q (.xd fv) from I.hok q _ hx)
    obtain ⟨od, ho, hl⟩ := lookIn_ns hns
    refine ⟨oe, some od, ⟨he, hz.1, by unfold PySem.W.notCls; rw [hd] <;> rfl, by rw [hz.2]; exact ho⟩, fun q' fv' e e' => ?_⟩
    cases e
    rw [hx] at e'
    cases e'
    exact ⟨od, mA, rfl, ho, hns, hr⟩
theorem call_isX {X : Cx} : CallR X (.builtin "isinstance") (rIsX X.K) := by
  intro pins s σ H xs us Q I r h
  obtain ⟨a, C, c, cv, dd, b, rfl, ha, hq, xc, k, e, q⟩ := h
  obtain ⟨u1, u2, rfl, r1, r2⟩ := vals2 r
  have e2 := k.eq r2
  subst e2
  obtain rfl : u1 = Value.ref a := r1
  obtain ⟨oe, od, J, _⟩ := exc_inst I ha hq
  obtain ⟨cd, hcd, _⟩ := PySem.W.any_some xc.hd
  have ne : ∀ z : Value, (Value.ref a) = z → True := fun _ _ => trivial
  exact PySem.W.kia_one (PySem.W.kitx_exc (od := od) (by rw [hcd]; rfl) xc.hg xc.hk xc.hs xc.ha xc.hn xc.ht xc.hm) I.kIn J e (fun z => nomatch z) fun tk => ⟨.bl b, H, I.tok tk, rfl, q⟩
def oIsX (cs : List Nat) (f : Nat → Bool) (d : D) : Option D := match d with
  | .exc c _ => if c ∈ cs then some (.bl (f c)) else none
  | .non => some (.bl false)
  | _ => none
structure IsX (K : Fg) (cs : List Nat) (f : Nat → Bool) (c : Value) : Prop where
  is : ∀ x ∈ cs, PySem.W.kitOne K (.ref (clsA K x)) c = some (f x)
  no : PySem.W.kitOne K (.type "NoneType") c = some false
def rIsXU (K : Fg) : List V → Hp → VK → Prop := fun xs H Q => rIsX K xs H Q ∨ rIsi K xs H Q
section
variable {K : Fg} {W : WX} {own : List Nat} {te ta : TE} {f fa : Env → Res D}
theorem se_isX {cs : List Nat} {fb : Nat → Bool} {cv : V} {c : Value} (Z : IsX K cs fb c) (hc : ClsV cv c) (ha : SR K W own ta fa) : SE K W own (tCB (rIsXU K) (tCons ta (tCons (tC cv) tNil))) (d1 (oIsX cs fb) fa) := fun H0 O σ H ρ Q rl nb k kx => by
  refine ha.then_ rl nb (fun a x H1 e1 s1 rl1 ra nb1 => ?_) kx
  obtain ⟨d, ed⟩ := ofO_nb nb1
  have fin : ∀ b, oIsX cs fb a = some (.bl b) → Q (.bl b) H1 := fun b e => k _ _ H1 (by unfold d1; rw [e1]; show ofO (oIsX cs fb a) = _; rw [e]; rfl) s1 (.bl b)
  show rIsXU K [x, cv] H1 Q
  cases ra with
  | non => exact .inr ⟨.non, cv, .type "NoneType", c, false, rfl, hc, .base .non, Z.no, fin _ rfl⟩
  | exc0 h xc =>
    rename_i a' c'
    have ed : (if c' ∈ cs then some (D.bl (fb c')) else none) = some d := ed
    by_cases hm : c' ∈ cs
    · exact .inl ⟨_, _, cv, c, none, fb c', rfl, h, (fun q e => by cases e), xc.is, hc, Z.is _ hm, fin _ (if_pos hm)⟩
    · rw [if_neg hm] at ed; cases ed
  | exc1 h xc hq hf =>
    rename_i a' q' c' fv fs
    have ed : (if c' ∈ cs then some (D.bl (fb c')) else none) = some d := ed
    by_cases hm : c' ∈ cs
    · exact .inl ⟨_, _, cv, c, some q', fb c', rfl, h, (fun q e => by cases e; exact ⟨_, hq⟩), xc.is, hc, Z.is _ hm, fin _ (if_pos hm)⟩
    · rw [if_neg hm] at ed; cases ed
  | bl _ => cases ed
  | int _ => cases ed
  | str _ => cases ed
  | lst _ _ => cases ed
  | scr _ => cases ed
  | tup _ _ => cases ed
  | obj _ _ _ => cases ed
/-- e.f, e a caught exception -/
def tFldX (K : Fg) (ta : TE) (f : Str) : TE := fun σ H Q => ta σ H fun x H1 => ∃ a C dd fs v, x = .ref a ∧ H1 a = some (ExcO (.ref C) (some dd) a) ∧ XfC K C ∧ PySem.W.findIn K (.ref C) f = some none ∧ H1 dd = some (.xd fs) ∧ fs.lookup f = some v ∧ Q v H1
theorem pe_fldX {X : Cx} {e : Expr} {f : Str} {pos : Pos} (he : PE X e ta) (hb : attributeBase e f X.env (eval e X.env) = eval e X.env) : PE X (.Attribute e f pos) (tFldX X.K ta f) := by
  refine ⟨fun pins s σ H Q I h => ?_⟩
  refine attr_of hb (thn (he.run pins s σ H _ I h) fun u s1 ⟨x, H1, I1, rx, a, C, dd, fs, v, ex, ea, T, hno, ed, l, q⟩ => ?_)
  subst ex
  obtain rfl : u = Value.ref a := rx
  obtain ⟨oe, od, J, hJ⟩ := exc_inst I1 ea fun q e => by cases e; exact ⟨_, ed⟩
  obtain ⟨d, mA, rfl, ho, hns, hr⟩ := hJ dd fs rfl ed
  obtain ⟨od', ho', hl⟩ := lookIn_ns hns
  rw [ho] at ho'
  cases ho'
  obtain ⟨u, hu, ru⟩ := RelO.some_of (v := v) (o := mA f) (by rw [← l]; exact hr f)
  exact HandSPX.exc_get I1.kIn J T.ga T.gg T.exC (PySem.W.findObj_own T.hdC hno rfl (by rw [hl, hu])) (handed_of ru) ⟨v, H1, I1.tok _, ru, q⟩
def oFldX (n : Nat) : D → Option D
  | .exc _ fs => if n < 22 then fs.lookup n else none
  | _ => none
theorem se_fldX {n : Nat} (ha : SE K W own ta fa) : SE K W own (tFldX K ta (fldN n)) (d1 (oFldX n) fa) := fun H0 O σ H ρ Q rl nb k kx => by
  refine ha.then_ rl nb (fun a x H1 e1 s1 rl1 ra nb1 => ?_) kx
  obtain ⟨c, ec⟩ := ofO_nb nb1
  have ec' := ec
  cases ra with
  | exc1 h xc hq hf =>
    by_cases hn : n < 22
    · simp only [oFldX, if_pos hn] at ec'
      obtain ⟨v, h1, h2⟩ := hf.get hn ec'
      exact ⟨_, _, _, _, v, rfl, mask_same _ _ h, xc.xf, xc.na n hn, mask_same _ _ hq, h1, k c v H1 (by unfold d1; rw [e1]; show ofO _ = _; rw [ec]; rfl) s1 h2⟩
    · simp only [oFldX, if_neg hn] at ec'; cases ec'
  | exc0 h xc =>
    exfalso
    have ec' : (if n < 22 then List.lookup n ([] : List (Nat × D)) else none) = some c := ec'
    by_cases hn : n < 22
    · rw [if_pos hn] at ec'; cases ec'
    · rw [if_neg hn] at ec'; cases ec'
  | non => cases ec'
  | bl _ => cases ec'
  | int _ => cases ec'
  | str _ => cases ec'
  | lst _ _ => cases ec'
  | scr _ => cases ec'
  | tup _ _ => cases ec'
  | obj _ _ _ => cases ec'
end
/-! ### calls that are lent own lists -/
def dCallS (F : List D → Res D) (fs : Env → Res (List D)) (ρ : Env) : Res D := (fs ρ).bind fun as => match F as with
  | .ok d => if isSca d = true then .ok d else .bad
  | .exc x => if x.fs.isEmpty = true then .exc x else .bad
  | .bad => .bad
theorem isSca_scaV {d : D} (h : isSca d = true) : ∃ w, scaV d = some w := by cases d <;> first | exact ⟨_, rfl⟩ | cases h
theorem repX_bare {K : Fg} {H : Hp} {C : Value} {dd : Option Addr} {x : Exn} (h : x.fs.isEmpty = true) (r : RepX K H C dd x) (H' : Hp) : RepX K H' C dd x := by
  obtain ⟨h1, ⟨h2, h3⟩ | ⟨h2, _⟩⟩ := r
  · exact ⟨h1, .inl ⟨h2, h3⟩⟩
  · exact absurd (List.isEmpty_iff.mp h) h2
theorem se_callB {K : Fg} {W : WX} {own : List Nat} {ts : TA} {fs : Env → Res (List D)} {n : Nat} {fr : Bool} {F : List D → Res D} (hl : ∀ ds, F ds ≠ .bad → ds.length = n) (hs : SAR K W own ts fs) : SE K W own (tCallS (spD K n fr F) (WE W) ts) (dCallS F fs) := fun H0 O σ H ρ Q rl nb k kx => by
  refine hs H0 O σ H ρ _ rl (bind_nb nb) (fun as vs H1 e1 s1 rv => ?_) fun x C dd H' e s rx => kx x C dd H' (by unfold dCallS; rw [e]; rfl) s rx
  have ed : dCallS F fs ρ = (match F as with
    | .ok d => if isSca d = true then .ok d else .bad
    | .exc x => if x.fs.isEmpty = true then .exc x else .bad
    | .bad => .bad) := by unfold dCallS; rw [e1]; rfl
  have nb1 : F as ≠ .bad := fun z => nb (by rw [ed, z])
  refine ⟨as, [], (by intro p hp; cases hp), by rw [mask_nil]; exact rv, hl as nb1, nb1, fun d v H' e s r => ?_, fun x C dd H' e s rx => ?_⟩
  · rw [e] at ed
    dsimp only at ed
    by_cases hd : isSca d = true
    · rw [if_pos hd] at ed
      obtain ⟨w, hw⟩ := isSca_scaV hd
      have r' := r.rep (by intro p hp; cases hp)
      have ev := r'.sca hw
      subst ev
      exact k d v H' ed (s1.trans s) (Rep.of_sca hw)
    · rw [if_neg hd] at ed; exact absurd ed nb
  · rw [e] at ed
    dsimp only at ed
    by_cases hx : x.fs.isEmpty = true
    · rw [if_pos hx] at ed
      exact kx x C dd H' ed (s1.trans s) (repX_bare hx rx _)
    · rw [if_neg hx] at ed; exact absurd ed nb
/-- .. that hand a new list of scalars back -/
def dCallLS (F : List D → Res D) (fs : Env → Res (List D)) (ρ : Env) : Res (List D) := (fs ρ).bind fun as => match F as with
  | .ok (.lst ds) => if ds.all isSca = true then .ok ds else .bad
  | .exc x => if x.fs.isEmpty = true then .exc x else .bad
  | _ => .bad
theorem reps_sca {K : Fg} {H H' : Hp} : ∀ {vs : List V} {ds : List D}, Reps K H vs ds → ds.all isSca = true → Reps K H' vs ds
  | _, _, .nil, _ => .nil
  | _, _, .cons r t, h => by
    rw [List.all_cons, Bool.and_eq_true] at h
    obtain ⟨w, hw⟩ := isSca_scaV h.1
    have ev := r.sca hw
    subst ev
    exact .cons (Rep.of_sca hw) (reps_sca t h.2)
theorem sf_callB {K : Fg} {W : WX} {own : List Nat} {ts : TA} {fs : Env → Res (List D)} {n : Nat} {F : List D → Res D} (hl : ∀ ds, F ds ≠ .bad → ds.length = n) (hs : SAR K W own ts fs) : SF K W own (tCallS (spD K n true F) (WE W) ts) (dCallLS F fs) := fun H0 O σ H ρ Q rl nb k kx => by
  refine hs H0 O σ H ρ _ rl (bind_nb nb) (fun as vs H1 e1 s1 rv => ?_) fun x C dd H' e s rx => kx x C dd H' (by unfold dCallLS; rw [e]; rfl) s rx
  have ed : dCallLS F fs ρ = (match F as with
    | .ok (.lst ds) => if ds.all isSca = true then .ok ds else .bad
    | .exc x => if x.fs.isEmpty = true then .exc x else .bad
    | _ => .bad) := by unfold dCallLS; rw [e1]; rfl
  have nb1 : F as ≠ .bad := fun z => nb (by rw [ed, z])
  refine ⟨as, [], (by intro p hp; cases hp), by rw [mask_nil]; exact rv, hl as nb1, nb1, fun d v H' e s r => ?_, fun x C dd H' e s rx => ?_⟩
  · rw [e] at ed
    rcases r with ⟨p, vs', ds, h1, h2, h3, h4, h5⟩ | r
    · subst h1; subst h2
      dsimp only at ed
      by_cases hd : ds.all isSca = true
      · rw [if_pos hd] at ed
        exact k ds p vs' H' ed (s1.trans s) (s1.free h3) h4 (reps_sca h5 hd)
      · rw [if_neg hd] at ed; exact absurd ed nb
    · exfalso
      cases d with
      | lst ds => cases r
      | _ => exact nb ed
  · rw [e] at ed
    dsimp only at ed
    by_cases hx : x.fs.isEmpty = true
    · rw [if_pos hx] at ed
      exact kx x C dd H' ed (s1.trans s) (repX_bare hx rx _)
    · rw [if_neg hx] at ed; exact absurd ed nb
section
variable {X : Cx} {W : WX} {own : List Nat} {fr : Bool} {a b c e : Expr} {es : List Expr} {te : TE} {f : Env → Res D} {pos p : Pos} {ts : TA} {fs : Env → Res (List D)} {k n : Nat} {F : List D → Res D} {x : Str}
theorem q_callN (C : Cal X.prog X.w X.K X.mg X.base x k n fr F) (hr : Room k X.A) (tk : Takes X W) (ha : QAR X W own (e :: es) ts fs) (hg : Gl X x := by rfl) (hdb : (x == ("__debug__" : Str)) = false := by decide)
    (he : starEach (e :: es) X.env = (false, eval e X.env) :: starEach es X.env := by rfl) (hpl : (backTo pos (starEach es X.env)).any (·.1) = false := by rfl) : QE X W own (.Call (.Name x p) (e :: es) [] pos) (tCallS (spD X.K n fr F) (WE W) ts) (dCallS F fs) := by
  obtain ⟨f, fd, ps, h1, h2, h3, h4⟩ := C.ex
  exact ⟨pe_callS h1 hr hg h2 h3 h4 (fun σ => passAt tk σ) ha.p hdb he hpl, se_callB C.len ha.s⟩
theorem q_callFN (C : Cal X.prog X.w X.K X.mg X.base x k n true F) (hr : Room k X.A) (tk : Takes X W) (ha : QAR X W own (e :: es) ts fs) (hg : Gl X x := by rfl) (hdb : (x == ("__debug__" : Str)) = false := by decide)
    (he : starEach (e :: es) X.env = (false, eval e X.env) :: starEach es X.env := by rfl) (hpl : (backTo pos (starEach es X.env)).any (·.1) = false := by rfl) : QF X W own (.Call (.Name x p) (e :: es) [] pos) (tCallS (spD X.K n true F) (WE W) ts) (dCallLS F fs) := by
  obtain ⟨f, fd, ps, h1, h2, h3, h4⟩ := C.ex
  exact ⟨pe_callS h1 hr hg h2 h3 h4 (fun σ => passAt tk σ) ha.p hdb he hpl, sf_callB C.len ha.s⟩
/-- isinstance(e, x), x a class of the program -/
theorem q_isX {x : Str} {p2 : Pos} {cs : List Nat} {fb : Nat → Bool} (y : Nat) (Z : IsX X.K cs fb (.ref (clsA X.K y))) (gl : X.mg (clsN y) = some (.ref (clsA X.K y))) (hm : X.mg "isinstance" = none) (ha : QR X W own e te f) (hy : clsN y = x := by rfl) (hg : Gl X "isinstance" := by rfl) (hg2 : Gl X x := by rfl) (hd : (x == ("__debug__" : Str)) = false := by decide)
    (he : starEach [e, .Name x p2] X.env = (false, eval e X.env) :: starEach [.Name x p2] X.env := by rfl) (he2 : starEach [.Name x p2] X.env = (false, eval (.Name x p2) X.env) :: starEach [] X.env := by rfl) (hpl : (backTo pos (starEach [.Name x p2] X.env)).any (·.1) = false := by rfl) :
    QE X W own (.Call (.Name "isinstance" p) [e, .Name x p2] [] pos) (tCB (rIsXU X.K) (tCons te (tCons (tC (.ref (clsA X.K y))) tNil))) (d1 (oIsX cs fb) f) := by
  subst hy
  exact ⟨pe_callB (call_isX.or call_isi) hg hm (by decide +kernel) (pa_cons ha.p (pa_cons (pe_glob (v := .ref (clsA X.K y)) hg2 gl rfl hd) pa_nil he2) he) (by decide) (by decide) he hpl, se_isX Z (.own _) ha.s⟩
/-- .. a built-in class -/
theorem q_isXT {x : Str} {p2 : Pos} {cs : List Nat} {fb : Nat → Bool} (T : String) (Z : IsX X.K cs fb (.type T)) (hm2 : X.mg x = none) (hm : X.mg "isinstance" = none) (ha : QR X W own e te f) (hb : bootBuiltins x = some (.type T) := by decide +kernel) (hg : Gl X "isinstance" := by rfl) (hg2 : Gl X x := by rfl) (hn : x ≠ "__name__" := by decide) (hd : (x == ("__debug__" : Str)) = false := by decide)
    (he : starEach [e, .Name x p2] X.env = (false, eval e X.env) :: starEach [.Name x p2] X.env := by rfl) (he2 : starEach [.Name x p2] X.env = (false, eval (.Name x p2) X.env) :: starEach [] X.env := by rfl) (hpl : (backTo pos (starEach [.Name x p2] X.env)).any (·.1) = false := by rfl) :
    QE X W own (.Call (.Name "isinstance" p) [e, .Name x p2] [] pos) (tCB (rIsXU X.K) (tCons te (tCons (tC (.ty T)) tNil))) (d1 (oIsX cs fb) f) :=
  ⟨pe_callB (call_isX.or call_isi) hg hm (by decide +kernel) (pa_cons ha.p (pa_cons (pe_bltn (v := .ty T) hg2 hm2 hb rfl hn hd) pa_nil he2) he) (by decide) (by decide) he hpl, se_isX Z (.ty _) ha.s⟩
theorem q_fldX {fd : Str} (n : Nat) (h : QE X W own a te f) (hf : fldN n = fd := by rfl) (hb : attributeBase a fd X.env (eval a X.env) = eval a X.env := by rfl) : QE X W own (.Attribute a fd pos) (tFldX X.K te (fldN n)) (d1 (oFldX n) f) := by
  subst hf
  exact ⟨pe_fldX h.p hb, se_fldX h.s⟩
end
end PL
/-! lists of new lists, changed row by row -/
namespace PL
open PySem PySem.Spec PyProof.Rows L2
section
variable {K : Fg} {W : WX} {fr : Bool} {H0 : Bs} {O O' : List Addr} {σ : L2.St} {H H1 H2 H' : Hp} {ρ : Env} {i : Nat} {own oc : List Nat} {p : Addr} {qs : List Addr} {dss : List (List D)}
theorem mask_news {L : List Addr} (s : Same H1 H2) (h : ∀ q ∈ L, H1 q = none) : Same (mask O H1) (mask (L ++ O) H2) := fun b u q => by
  have q' := mask_same b u q
  unfold mask at q ⊢
  split at q
  · cases q
  · rename_i z
    have hb : b ∉ L := fun m => by rw [h b m] at q'; cases q'
    rw [if_neg (by simp [hb, z])]
    exact s b u q'
theorem Rel.news {L : List Addr} (r : Rel K H0 own O σ H1 ρ) (s : Same H1 H2) (h : ∀ q ∈ L, H1 q = none ∧ ∃ o, H2 q = some o) : Rel K H0 own (L ++ O) σ H2 ρ := by
  have m := mask_news (O := O) s fun q hq => (h q hq).1
  refine ⟨r.len, r.ex.trans s, fun q hq => List.mem_append_right _ (r.base q hq), r.base0, fun q hq => ?_, fun i d z n => ?_, fun i d z n => ?_, r.sep⟩
  · rcases List.mem_append.mp hq with hq | hq
    · exact (h q hq).2
    · exact r.dom.mono s q hq
  · obtain ⟨v, a, b⟩ := r.slot i d z n
    exact ⟨v, a, b.mono m⟩
  · obtain ⟨p', vs, ds, a, b, c, f, g, fr⟩ := r.owned i d z n
    exact ⟨p', vs, ds, a, b, List.mem_append_right _ c, s _ _ f, g.mono m, fr⟩
theorem set_none_some {j : Nat} {x : Option (Option D)} {d : D} (h : (ρ.set i none)[j]? = some (some d)) : ρ[j]? = some (some d) ∧ j ≠ i := by
  by_cases hj : j = i
  · subst hj
    by_cases hl : j < ρ.length
    · rw [List.getElem?_set_self hl] at h; cases h
    · rw [List.getElem?_eq_none (by simpa using hl)] at h; cases h
  · rw [List.getElem?_set_ne (Ne.symm hj)] at h
    exact ⟨h, hj⟩
theorem Rel.hide (r : Rel K H0 own O σ H ρ) (i : Nat) : Rel K H0 own O σ H (ρ.set i none) :=
  ⟨by simp [r.len], r.ex, r.base, r.base0, r.dom, fun j d z n => r.slot j d (set_none_some (x := none) z).1 n, fun j d z n => r.owned j d (set_none_some (x := none) z).1 n,
    fun j k q hj hk ⟨d, h1⟩ ⟨e, h2⟩ => r.sep j k q hj hk ⟨d, (set_none_some (x := none) h1).1⟩ ⟨e, (set_none_some (x := none) h2).1⟩⟩
/-- the rows of a list -/
structure Rows (K : Fg) (H0 : Bs) (O : List Addr) (H : Hp) (p : Addr) (qs : List Addr) (dss : List (List D)) : Prop where
  nd : (p :: qs).Nodup
  fr : ∀ q ∈ p :: qs, H0.h q = none
  sub : ∀ q ∈ p :: qs, q ∈ O
  top : H p = some (.lst (qs.map V.ref))
  len : qs.length = dss.length
  row : ∀ (j : Nat) (q : Addr) (ds : List D), qs[j]? = some q → dss[j]? = some ds → ∃ vs, H q = some (.lst vs) ∧ Reps K (mask O H) vs ds
theorem Rows.mono (r : Rows K H0 O H p qs dss) (s : Same H H') : Rows K H0 O H' p qs dss :=
  ⟨r.nd, r.fr, r.sub, s _ _ r.top, r.len, fun j q ds h1 h2 => let ⟨vs, a, b⟩ := r.row j q ds h1 h2; ⟨vs, s _ _ a, b.mono (mask_mono s)⟩⟩
structure RelN (K : Fg) (H0 : Bs) (i : Nat) (O : List Addr) (σ : L2.St) (H : Hp) (ρ : Env) : Prop where
  rl : Rel K H0 [] O σ H (ρ.set i none)
  lt : i < ρ.length
  rows : ∃ p qs dss, σ[i]? = some (some (.ref p)) ∧ ρ[i]? = some (some (.lst (dss.map .lst))) ∧ Rows K H0 O H p qs dss
theorem RelN.mono (r : RelN K H0 i O σ H ρ) (s : Same H H') : RelN K H0 i O σ H' ρ :=
  ⟨r.rl.mono s, r.lt, let ⟨p, qs, dss, a, b, c⟩ := r.rows; ⟨p, qs, dss, a, b, c.mono s⟩⟩
theorem reps_of_get : ∀ {vs : List V} {ds : List D}, vs.length = ds.length → (∀ (j : Nat) v d, vs[j]? = some v → ds[j]? = some d → Rep K H v d) → Reps K H vs ds
  | [], [], _, _ => .nil
  | [], _ :: _, h, _ => by cases h
  | _ :: _, [], h, _ => by cases h
  | v :: vs, d :: ds, h, f => .cons (f 0 v d rfl rfl) (reps_of_get (by simpa using h) fun j v d h1 h2 => f (j + 1) v d (by simpa using h1) (by simpa using h2))
/-- the rows are frozen, the list itself stays one's own -/
theorem RelN.exit (r : RelN K H0 i O σ H ρ) : ∃ O', Rel K H0 [i] O' σ H ρ ∧ ∀ q ∈ O', q ∈ O := by
  obtain ⟨p, qs, dss, hσ, hρ, rw_⟩ := r.rows
  have hp : p ∉ qs := (List.nodup_cons.mp rw_.nd).1
  have sub : ∀ q ∈ O.filter (· ∉ qs), q ∈ O := fun q hq => (List.mem_filter.mp hq).1
  have ms := mask_sub (H := H) sub
  have slot' : ∀ j d, ρ[j]? = some (some d) → j ≠ i → ∃ v, σ[j]? = some (some v) ∧ Rep K (mask (O.filter (· ∉ qs)) H) v d := fun j d z n => by
    obtain ⟨v, a, b⟩ := r.rl.slot j d (by rw [List.getElem?_set_ne (Ne.symm n)]; exact z) (by simp)
    exact ⟨v, a, b.mono ms⟩
  refine ⟨O.filter (· ∉ qs), ⟨by have := r.rl.len; simpa using this, r.rl.ex, fun q hq => List.mem_filter.mpr ⟨r.rl.base q hq, ?_⟩, r.rl.base0, fun q hq => r.rl.dom q (sub q hq), fun j d z n => slot' j d z (by simpa using n), fun j d z n => ?_, fun j k q hj hk _ _ _ _ => ?_⟩, sub⟩
  · have : q ∉ qs := fun m => by
      obtain ⟨o, ho⟩ := r.rl.base0 q hq
      rw [rw_.fr q (List.mem_cons_of_mem _ m)] at ho; cases ho
    simpa using this
  · have hj : j = i := by simpa using n
    subst hj
    rw [hρ] at z
    cases z
    refine ⟨p, _, _, hσ, rfl, List.mem_filter.mpr ⟨rw_.sub p List.mem_cons_self, by simpa using hp⟩, rw_.top, reps_of_get (by simp [rw_.len]) fun k v d h1 h2 => ?_, rw_.fr p List.mem_cons_self⟩
    rw [List.getElem?_map, Option.map_eq_some_iff] at h1 h2
    obtain ⟨q, q1, rfl⟩ := h1
    obtain ⟨ds, d1, rfl⟩ := h2
    obtain ⟨vs, a, b⟩ := rw_.row k q ds q1 d1
    refine .lst ?_ (b.mono ms)
    have hq : q ∈ qs := List.mem_of_getElem? q1
    rw [mask_out (by simp [hq])]
    exact a
  · have h1 : j = i := by simpa using hj
    have h2 : k = i := by simpa using hk
    rw [h1, h2]
/-- a row is written -/
theorem RelN.write {vs : List V} {ds : List D} {n : Nat} {q : Addr} (r : RelN K H0 i O σ H ρ) (rw_ : Rows K H0 O H p qs dss) (hσ : σ[i]? = some (some (.ref p))) (hρ : ρ[i]? = some (some (.lst (dss.map .lst)))) (hq : qs[n]? = some q) (hr : Reps K (mask O H) vs ds) :
    RelN K H0 i O σ (upd H q (.lst vs)) (ρ.set i (some (.lst ((dss.set n ds).map .lst)))) := by
  have mq : q ∈ qs := List.mem_of_getElem? hq
  have hO : q ∈ O := rw_.sub q (List.mem_cons_of_mem _ mq)
  have m : mask O (upd H q (.lst vs)) = mask O H := mask_upd hO
  have np : p ≠ q := fun z => (List.nodup_cons.mp rw_.nd).1 (by rw [z]; exact mq)
  have f0 := rw_.fr q (List.mem_cons_of_mem _ mq)
  have es : (ρ.set i (some (D.lst ((dss.set n ds).map .lst)))).set i none = ρ.set i none := by rw [List.set_set]
  refine ⟨?_, by simpa using r.lt, p, qs, dss.set n ds, hσ, List.getElem?_set_self r.lt, ⟨rw_.nd, rw_.fr, rw_.sub, by rw [upd_ne np]; exact rw_.top, by simp [rw_.len], fun j q' ds' h1 h2 => ?_⟩⟩
  · rw [es]
    have rl := r.rl
    refine ⟨rl.len, fun b o z => ?_, rl.base, rl.base0, fun b hb => ?_, fun j d z n => ?_, fun j d z n => (by cases n), fun j k q hj => (by cases hj)⟩
    · have hb : b ≠ q := fun e => by rw [e, f0] at z; cases z
      rw [upd_ne hb]; exact rl.ex b o z
    · by_cases e : b = q
      · rw [e, upd_same]; exact ⟨_, rfl⟩
      · rw [upd_ne e]; exact rl.dom b hb
    · rw [m]; exact rl.slot j d z n
  · rw [m]
    by_cases hj : j = n
    · subst hj
      rw [hq] at h1
      cases h1
      have hl : j < dss.length := by rw [← rw_.len]; exact (List.getElem?_eq_some_iff.mp hq).1
      rw [List.getElem?_set_self hl] at h2
      cases h2
      exact ⟨vs, upd_same, hr⟩
    · rw [List.getElem?_set_ne (Ne.symm hj)] at h2
      obtain ⟨vs', a, b⟩ := rw_.row j q' ds' h1 h2
      have nq : q' ≠ q := fun z => by
        subst z
        have nd := (List.nodup_cons.mp rw_.nd).2
        obtain ⟨l1, e1⟩ := List.getElem?_eq_some_iff.mp h1
        obtain ⟨l2, e2⟩ := List.getElem?_eq_some_iff.mp hq
        exact hj ((List.getElem_inj nd).mp (e1.trans e2.symm))
      exact ⟨vs', by rw [upd_ne nq]; exact a, b⟩
/-- a list of new lists is made -/
def SFN (K : Fg) (W : WX) (own : List Nat) (te : TE) (f : Env → Res (List D)) : Prop :=
  ∀ (H0 : Bs) (O : List Addr) (σ : L2.St) (H : Hp) (ρ : Env) (Q : VK), Rel K H0 own O σ H ρ → f ρ ≠ .bad →
    (∀ dss p qs H', f ρ = .ok (dss.map .lst) → Same H H' → Rows K ⟨H, O⟩ (qs.reverse ++ p :: O) H' p qs dss → Q (.ref p) H') →
    (∀ x C dd H', f ρ = .exc x → Same H H' → RepX K (mask O H') C dd x → W C dd σ H') → te σ H Q
/-- a statement, slot i a list of new lists -/
def SSN (K : Fg) (W : WX) (fr : Bool) (i : Nat) (ts : TS) (g : Env → Flow) : Prop :=
  ∀ (H0 : Bs) (O : List Addr) (σ : L2.St) (H : Hp) (ρ : Env) (De : Ends), RelN K H0 i O σ H ρ → g ρ ≠ .bad →
    (∀ ρ' O' σ' H', g ρ = .nx ρ' → RelN K H0 i O' σ' H' ρ' → Same (mask O H) (mask O' H') → De.nx σ' H') →
    (∀ ρ' O' σ' H', g ρ = .ct ρ' → RelN K H0 i O' σ' H' ρ' → Same (mask O H) (mask O' H') → De.ct σ' H') →
    (∀ d v H', g ρ = .rt d → Same H0.h H' → RetOk K fr H0 v H' d → De.rt v H') →
    (∀ x ρ' C dd O' σ' H', g ρ = .ex x ρ' → Rel K H0 [] O' σ' H' ρ' → Same (mask O H) (mask O' H') → RepX K (mask O' H') C dd x → W C dd σ' H') → ts De σ H
/-- a block that begins so -/
def SNB (K : Fg) (W : WX) (fr : Bool) (oc : List Nat) (i : Nat) (ts : TS) (g : Env → Flow) (own' : List Nat) : Prop :=
  ∀ (H0 : Bs) (O : List Addr) (σ : L2.St) (H : Hp) (ρ : Env) (De : Ends), RelN K H0 i O σ H ρ → g ρ ≠ .bad →
    (∀ ρ' O' σ' H', g ρ = .nx ρ' → Rel K H0 own' O' σ' H' ρ' → Same (mask O H) (mask O' H') → De.nx σ' H') →
    (∀ ρ' O' σ' H', g ρ = .ct ρ' → Rel K H0 oc O' σ' H' ρ' → Same (mask O H) (mask O' H') → De.ct σ' H') →
    (∀ d v H', g ρ = .rt d → Same H0.h H' → RetOk K fr H0 v H' d → De.rt v H') →
    (∀ x ρ' C dd O' σ' H', g ρ = .ex x ρ' → Rel K H0 [] O' σ' H' ρ' → Same (mask O H) (mask O' H') → RepX K (mask O' H') C dd x → W C dd σ' H') → ts De σ H
variable {ts us : TS} {g h : Env → Flow} {te tj : TE} {tt : TT} {f fj : Env → Res D} {ft : Env → Res Bool} {own2 : List Nat}
theorem nb_exit (hh : SS K W fr oc [i] us h own2) : SNB K W fr oc i us h own2 := fun H0 O σ H ρ De rn nb k kc kr kx => by
  obtain ⟨O', rl, sub⟩ := rn.exit
  have m := mask_sub (H := H) sub
  exact hh H0 O' σ H ρ De rl nb (fun ρ2 O2 σ2 H2 e2 rl2 s2 => k ρ2 O2 σ2 H2 e2 rl2 (Same.trans m s2)) (fun ρ2 O2 σ2 H2 e2 rl2 s2 => kc ρ2 O2 σ2 H2 e2 rl2 (Same.trans m s2)) kr fun x ρ2 C dd O2 σ2 H2 e2 rl2 s2 => kx x ρ2 C dd O2 σ2 H2 e2 rl2 (Same.trans m s2)
def noCt (fl : Flow) : Prop := ∀ ρ, fl ≠ .ct ρ
theorem nb_cons (hs : SSN K W fr i ts g) (hb : SNB K W fr oc i us h own2) (hc : ∀ ρ, noCt (g ρ)) : SNB K W fr oc i (tSeq ts us) (gSeq g h) own2 := fun H0 O σ H ρ De rn nb k kc kr kx => by
  refine hs H0 O σ H ρ _ rn (fun e => nb (by unfold gSeq; rw [e])) (fun ρ' O' σ' H' e rl' s => ?_) (fun ρ' O' σ' H' e => absurd e (hc ρ ρ')) (fun d v H' e => kr d v H' (by unfold gSeq; rw [e])) fun x ρ' C dd O' σ' H' e => kx x ρ' C dd O' σ' H' (by unfold gSeq; rw [e])
  have ed : gSeq g h ρ = h ρ' := by unfold gSeq; rw [e]
  exact hb H0 O' σ' H' ρ' De rl' (by rw [← ed]; exact nb) (fun ρ2 O2 σ2 H2 e2 rl2 s2 => k ρ2 O2 σ2 H2 (ed.trans e2) rl2 (s.trans s2)) (fun ρ2 O2 σ2 H2 e2 rl2 s2 => kc ρ2 O2 σ2 H2 (ed.trans e2) rl2 (s.trans s2))
    (fun d v H2 e2 => kr d v H2 (ed.trans e2)) fun x ρ2 C dd O2 σ2 H2 e2 rl2 s2 => kx x ρ2 C dd O2 σ2 H2 (ed.trans e2) rl2 (s.trans s2)
theorem sn_seq (hs : SSN K W fr i ts g) (hb : SSN K W fr i us h) : SSN K W fr i (tSeq ts us) (gSeq g h) := fun H0 O σ H ρ De rn nb k kc kr kx => by
  refine hs H0 O σ H ρ _ rn (fun e => nb (by unfold gSeq; rw [e])) (fun ρ' O' σ' H' e rl' s => ?_) (fun ρ' O' σ' H' e => kc ρ' O' σ' H' (by unfold gSeq; rw [e])) (fun d v H' e => kr d v H' (by unfold gSeq; rw [e])) fun x ρ' C dd O' σ' H' e => kx x ρ' C dd O' σ' H' (by unfold gSeq; rw [e])
  have ed : gSeq g h ρ = h ρ' := by unfold gSeq; rw [e]
  exact hb H0 O' σ' H' ρ' De rl' (by rw [← ed]; exact nb) (fun ρ2 O2 σ2 H2 e2 rl2 s2 => k ρ2 O2 σ2 H2 (ed.trans e2) rl2 (s.trans s2)) (fun ρ2 O2 σ2 H2 e2 rl2 s2 => kc ρ2 O2 σ2 H2 (ed.trans e2) rl2 (s.trans s2))
    (fun d v H2 e2 => kr d v H2 (ed.trans e2)) fun x ρ2 C dd O2 σ2 H2 e2 rl2 s2 => kx x ρ2 C dd O2 σ2 H2 (ed.trans e2) rl2 (s.trans s2)
theorem sn_next : SSN K W fr i tNext (fun ρ => .nx ρ) := fun H0 O σ H ρ De rl nb k _ _ _ => k ρ O σ H rfl rl (Same.refl _)
/-- x = [[..] for ..], then what changes its rows -/
theorem ss_enter {fl : Env → Res (List D)} (he : SFN K W own te fl) (hb : SNB K W fr oc i us h own2) : SS K W fr oc own (tSeq (tAsg te (gName i)) us) (gSeq (gAsgL i fl) h) own2 := fun H0 O σ H ρ De rl nb k kc kr kx => by
  refine he H0 O σ H ρ _ rl (fun e => nb (by unfold gSeq gAsgL; rw [e])) (fun dss p qs H' e s rw_ => ?_) fun x C dd H' e s rx => ex_out rl s rx fun O' r' s' rx' => kx x ρ C dd O' σ H' (by unfold gSeq gAsgL; rw [e]) r' s' rx'
  have ed : gSeq (gAsgL i fl) h ρ = if i < ρ.length then h (ρ.set i (some (.lst (dss.map .lst)))) else .bad := by
    unfold gSeq gAsgL; rw [e]
    by_cases hi : i < ρ.length
    · simp only [if_pos hi]
    · simp only [if_neg hi]
  by_cases hi : i < ρ.length
  · rw [if_pos hi] at ed
    obtain ⟨O1, r1, sub1⟩ := rl.sub (own' := []) (fun j hj => by cases hj)
    have m1 : Same (mask O1 H) (mask (qs.reverse ++ p :: O1) H') := by
      have z := mask_news (O := O1) (L := qs.reverse ++ [p]) s fun q hq => rw_.fr q (by rcases List.mem_append.mp hq with h | h <;> simp_all)
      simpa using z
    have m : Same (mask O H) (mask (qs.reverse ++ p :: O1) H') := Same.trans (mask_sub sub1) m1
    have m2 : Same (mask (qs.reverse ++ p :: O) H') (mask (qs.reverse ++ p :: O1) H') := mask_sub fun q hq => by
      rcases List.mem_append.mp hq with h | h
      · exact List.mem_append_left _ h
      · rcases List.mem_cons.mp h with rfl | h
        · exact List.mem_append_right _ List.mem_cons_self
        · exact List.mem_append_right _ (List.mem_cons_of_mem _ (sub1 q h))
    have rn : RelN K H0 i (qs.reverse ++ p :: O1) (σ.set i (some (.ref p))) H' (ρ.set i (some (.lst (dss.map .lst)))) := by
      refine ⟨?_, by simpa using hi, p, qs, dss, get_set_self (rl.σlt hi), get_set_self hi, ⟨rw_.nd, fun q hq => rl.ex.free (rw_.fr q hq), fun q hq => ?_, rw_.top, rw_.len, fun j q ds h1 h2 => ?_⟩⟩
      · rw [List.set_set]
        refine ⟨by simp [rl.len], rl.ex.trans s, fun q hq => by simp [r1.base q hq], rl.base0, fun q hq => ?_, fun j d z n => ?_, fun j d z n => (by cases n), fun j k q hj => (by cases hj)⟩
        · rcases List.mem_append.mp hq with hq | hq
          · obtain ⟨j, hj⟩ := List.mem_iff_getElem?.mp (List.mem_reverse.mp hq)
            have hl : j < dss.length := by rw [← rw_.len]; exact (List.getElem?_eq_some_iff.mp hj).1
            obtain ⟨vs, a, _⟩ := rw_.row j q dss[j] hj (List.getElem?_eq_getElem hl)
            exact ⟨_, a⟩
          · rcases List.mem_cons.mp hq with rfl | hq
            · exact ⟨_, rw_.top⟩
            · exact r1.dom.mono s q hq
        · obtain ⟨z1, nj⟩ := set_none_some (x := none) z
          rw [List.getElem?_set_ne (Ne.symm nj)]
          obtain ⟨v, a, b⟩ := r1.slot j d z1 n
          exact ⟨v, a, b.mono m1⟩
      · rcases List.mem_cons.mp hq with rfl | hq
        · exact List.mem_append_right _ List.mem_cons_self
        · exact List.mem_append_left _ (List.mem_reverse.mpr hq)
      · obtain ⟨vs, a, b⟩ := rw_.row j q ds h1 h2
        exact ⟨vs, a, b.mono m2⟩
    exact hb H0 _ _ H' _ De rn (by rw [← ed]; exact nb) (fun ρ2 O2 σ2 H2 e2 rl2 s2 => k ρ2 O2 σ2 H2 (ed.trans e2) rl2 (m.trans s2)) (fun ρ2 O2 σ2 H2 e2 rl2 s2 => kc ρ2 O2 σ2 H2 (ed.trans e2) rl2 (m.trans s2))
      (fun d v H2 e2 => kr d v H2 (ed.trans e2)) fun x ρ2 C dd O2 σ2 H2 e2 rl2 s2 => kx x ρ2 C dd O2 σ2 H2 (ed.trans e2) rl2 (m.trans s2)
  · rw [ed, if_neg hi] at nb; exact absurd rfl nb
end
end PL
namespace PL
open PySem PySem.Spec PyProof.Rows L2
section
variable {K : Fg} {W : WX} {fr : Bool} {H0 : Bs} {O O' : List Addr} {σ : L2.St} {H H1 H2 H' : Hp} {ρ : Env} {i : Nat} {own oc : List Nat} {p : Addr} {qs : List Addr} {dss : List (List D)}
variable {ts us : TS} {g h : Env → Flow} {te tj : TE} {tt : TT} {f fj : Env → Res D} {ft : Env → Res Bool} {own2 : List Nat}
/-- slot i unseen -/
def hid (i : Nat) (ρ : Env) : Env := ρ.set i none
def unhid (i : Nat) (ρ ρ' : Env) : Env := ρ'.set i (ρ.getD i none)
/-- t = e, t's names other ones -/
def gAsgN (i : Nat) (b : Bd) (f : Env → Res D) (ρ : Env) : Flow := match f (hid i ρ) with
  | .ok d => (match b d (hid i ρ) with
    | some ρ' => .nx (unhid i ρ ρ')
    | none => .bad)
  | .exc x => .ex x (hid i ρ)
  | .bad => .bad
theorem getD_of {x : Option D} (h : ρ[i]? = some x) : ρ.getD i none = x := by rw [List.getD_eq_getElem?_getD, h]; rfl
theorem RelN.bind {gt : TG} {b : Bd} {tl : List Nat} (hb : SGm K [] gt b tl) (ni : i ∉ tl) {x : V} {d : D} {ρ' : Env} (rn : RelN K H0 i O σ H ρ) (rx : Rep K (mask O H) x d) (eb : b d (hid i ρ) = some ρ') {Q : L2.St → Hp → Prop}
    (k : ∀ σ', RelN K H0 i O σ' H (unhid i ρ ρ') → Q σ' H) : gt x σ H Q := by
  obtain ⟨p, qs, dss, hσ, hρ, rw_⟩ := rn.rows
  refine hb H0 O σ H (ρ.set i none) ρ' x d _ rn.rl rx eb fun σ' rl' ww => k σ' ?_
  have hl : ρ'.length = ρ.length := by
    have a := rl'.len
    have b := rn.rl.len
    have c := congrArg List.length (ww tl fun t ht => ht)
    rw [wipe_length, wipe_length] at c
    rw [← a, c, b]; simp
  have hs : σ'[i]? = σ[i]? := by rw [← wipe_out ni, ww tl fun t ht => ht, wipe_out ni]
  refine ⟨?_, by simp [unhid, hl, rn.lt], p, qs, dss, hs.trans hσ, ?_, rw_⟩
  · unfold unhid
    rw [List.set_set]
    exact rl'.hide i
  · unfold unhid
    rw [getD_of hρ]
    exact List.getElem?_set_self (by rw [hl]; exact rn.lt)
theorem ex_outN {H' : Hp} {x : Exn} {C : Value} {dd : Option Addr} {P : Prop} (rn : RelN K H0 i O σ H ρ) (s : Same H H') (rx : RepX K (mask O H') C dd x)
    (k : ∀ O' : List Addr, Rel K H0 [] O' σ H' (hid i ρ) → Same (mask O H) (mask O' H') → RepX K (mask O' H') C dd x → P) : P := ex_out rn.rl s rx k
theorem sn_asg {gt : TG} {b : Bd} {tl : List Nat} (hb : SGm K [] gt b tl) (ni : i ∉ tl) (he : SE K W [] te f) : SSN K W fr i (tAsg te gt) (gAsgN i b f) := fun H0 O σ H ρ De rn nb k kc kr kx => by
  refine he H0 O σ H _ _ rn.rl (fun e => nb (by unfold gAsgN hid; rw [e])) (fun d v H' e s rv => ?_) fun x C dd H' e s rx => ex_outN rn s rx fun O' r' s' rx' => kx x _ C dd O' σ H' (by unfold gAsgN hid; rw [e]) r' s' rx'
  have ed : gAsgN i b f ρ = (match b d (hid i ρ) with
    | some ρ' => .nx (unhid i ρ ρ')
    | none => .bad) := by unfold gAsgN hid; rw [e]
  cases eb : b d (hid i ρ) with
  | none => rw [ed, eb] at nb; exact absurd rfl nb
  | some ρ' =>
    rw [eb] at ed
    exact RelN.bind hb ni (rn.mono s) rv eb fun σ' rn' => k _ O σ' H' ed rn' (mask_mono s)
def gIfN (i : Nat) (ft : Env → Res Bool) (g h : Env → Flow) (ρ : Env) : Flow := match ft (hid i ρ) with
  | .ok b => if b = true then g ρ else h ρ
  | .exc x => .ex x (hid i ρ)
  | .bad => .bad
theorem sn_if (ht : ST K W [] tt ft) (hg : SSN K W fr i ts g) (hh : SSN K W fr i us h) : SSN K W fr i (tIfS tt ts us) (gIfN i ft g h) := fun H0 O σ H ρ De rn nb k kc kr kx => by
  refine ht H0 O σ H _ _ rn.rl (fun e => nb (by unfold gIfN hid; rw [e])) (fun b H' e s => ?_) fun x C dd H' e s rx => ex_outN rn s rx fun O' r' s' rx' => kx x _ C dd O' σ H' (by unfold gIfN hid; rw [e]) r' s' rx'
  have m := mask_mono (O := O) s
  cases b with
  | true =>
    have ed : gIfN i ft g h ρ = g ρ := by unfold gIfN hid; rw [e]; exact if_pos rfl
    rw [if_pos rfl]
    exact hg H0 O σ H' ρ De (rn.mono s) (by rw [← ed]; exact nb) (fun ρ2 O2 σ2 H2 e2 rl2 s2 => k ρ2 O2 σ2 H2 (ed.trans e2) rl2 (Same.trans m s2)) (fun ρ2 O2 σ2 H2 e2 rl2 s2 => kc ρ2 O2 σ2 H2 (ed.trans e2) rl2 (Same.trans m s2))
      (fun d v H2 e2 => kr d v H2 (ed.trans e2)) fun x ρ2 C dd O2 σ2 H2 e2 rl2 s2 => kx x ρ2 C dd O2 σ2 H2 (ed.trans e2) rl2 (Same.trans m s2)
  | false =>
    have ed : gIfN i ft g h ρ = h ρ := by unfold gIfN hid; rw [e]; exact if_neg Bool.false_ne_true
    rw [if_neg Bool.false_ne_true]
    exact hh H0 O σ H' ρ De (rn.mono s) (by rw [← ed]; exact nb) (fun ρ2 O2 σ2 H2 e2 rl2 s2 => k ρ2 O2 σ2 H2 (ed.trans e2) rl2 (Same.trans m s2)) (fun ρ2 O2 σ2 H2 e2 rl2 s2 => kc ρ2 O2 σ2 H2 (ed.trans e2) rl2 (Same.trans m s2))
      (fun d v H2 e2 => kr d v H2 (ed.trans e2)) fun x ρ2 C dd O2 σ2 H2 e2 rl2 s2 => kx x ρ2 C dd O2 σ2 H2 (ed.trans e2) rl2 (Same.trans m s2)
def forN (i : Nat) (b : Bd) (g : Env → Flow) : List D → Env → Flow
  | [], ρ => .nx ρ
  | d :: ds, ρ => match b d (hid i ρ) with
    | none => .bad
    | some ρ' => match g (unhid i ρ ρ') with
      | .nx ρ2 => forN i b g ds ρ2
      | .ct ρ2 => forN i b g ds ρ2
      | .rt d => .rt d
      | .ex x ρ2 => .ex x ρ2
      | .bad => .bad
def gForN (i : Nat) (items : Env → Res (List D)) (b : Bd) (g : Env → Flow) (ρ : Env) : Flow := match items (hid i ρ) with
  | .ok ds => forN i b g ds ρ
  | .exc x => .ex x (hid i ρ)
  | .bad => .bad
theorem sn_for {ti : TI} {items : Env → Res (List D)} {gt : TG} {b : Bd} {tl : List Nat} (hi : SI true K W [] ti items) (hb : SGm K [] gt b tl) (ni : i ∉ tl) (hg : SSN K W fr i ts g) : SSN K W fr i (tFor ti gt ts) (gForN i items b g) := fun H0 O σ H ρ De rn nb k kc kr kx => by
  refine hi H0 O σ H _ _ rn.rl (fun e => nb (by unfold gForN hid; rw [e])) (fun ds J H1 e s1 ⟨G, Y, w, gG, yY⟩ => ?_) fun x C dd H' e s rx => ex_outN rn s rx fun O' r' s' rx' => kx x _ C dd O' σ H' (by unfold gForN hid; rw [e]) r' s' rx'
  have ed : gForN i items b g ρ = forN i b g ds ρ := by unfold gForN hid; rw [e]
  refine for_it w (fun n σ2 H2 => ∃ O2 ρ2, RelN K H0 i O2 σ2 H2 ρ2 ∧ Same (mask O H1) (mask O2 H2) ∧ forN i b g (ds.drop n) ρ2 = gForN i items b g ρ) ⟨O, ρ, rn.mono s1, Same.refl _, ed.symm⟩ (fun n σ2 H2 hi ⟨O2, ρ2, a1, a2, a3⟩ => gG H2 (fun z => nomatch z) fun _ => ⟨O2, a2⟩) ?_ ?_
  · rintro n x σ2 H2 H3 hlt ⟨O2, ρ2, a1, a2, a3⟩ y
    obtain ⟨s3, d, edd, rd⟩ := yY n O2 H2 x H3 a2 a1.rl.dom y hlt
    have es : ds.drop n = d :: ds.drop (n + 1) := by
      rw [List.drop_eq_getElem_cons hlt]
      have : ds[n] = d := by rw [List.getElem?_eq_getElem hlt] at edd; exact Option.some.inj edd
      rw [this]
    rw [es] at a3
    have a3' : (match b d (hid i ρ2) with
      | none => .bad
      | some ρ' => match g (unhid i ρ2 ρ') with
        | .nx ρ2 => forN i b g (ds.drop (n + 1)) ρ2
        | .ct ρ2 => forN i b g (ds.drop (n + 1)) ρ2
        | .rt d => .rt d
        | .ex x ρ2 => .ex x ρ2
        | .bad => .bad) = gForN i items b g ρ := a3
    cases eb : b d (hid i ρ2) with
    | none => rw [eb] at a3'; exact absurd a3'.symm nb
    | some ρ' =>
      rw [eb] at a3'
      dsimp only at a3'
      refine RelN.bind hb ni (a1.mono s3) rd eb fun σ3 rl3 => ?_
      have m3 : Same (mask O H1) (mask O2 H3) := Same.trans a2 (mask_mono s3)
      have m0 : Same (mask O H) (mask O2 H3) := Same.trans (mask_mono s1) m3
      refine hg H0 O2 σ3 H3 _ _ rl3 (fun z => nb (by rw [← a3', z])) (fun ρ4 O4 σ4 H4 e4 rl4 s4 => ⟨O4, ρ4, rl4, Same.trans m3 s4, by rw [← a3', e4]⟩) (fun ρ4 O4 σ4 H4 e4 rl4 s4 => ⟨O4, ρ4, rl4, Same.trans m3 s4, by rw [← a3', e4]⟩)
        (fun d v H4 e4 => kr d v H4 (by rw [← a3', e4])) fun x ρ4 C dd O4 σ4 H4 e4 rl4 s4 => kx x ρ4 C dd O4 σ4 H4 (by rw [← a3', e4]) rl4 (Same.trans m0 s4)
  · rintro σ2 H2 ⟨O2, ρ2, a1, a2, a3⟩
    rw [List.drop_length] at a3
    exact k ρ2 O2 σ2 H2 a3.symm a1 (Same.trans (mask_mono s1) a2)
/-- x[j].m(e, ..) -/
def gMutN (i : Nat) (fj : Env → Res D) (fs : Env → Res (List D)) (op : List D → List D → Option (List D)) (ρ : Env) : Flow := match dV i ρ, fj (hid i ρ) with
  | .ok (.lst xs), .ok (.int j) => (match ixN xs.length j with
    | some n => (match xs[n]? with
      | some (.lst ys) => (match fs (hid i ρ) with
        | .ok as => (match op ys as with
          | some zs => .nx (ρ.set i (some (.lst (xs.set n (.lst zs)))))
          | none => .bad)
        | .exc x => .ex x (hid i ρ)
        | .bad => .bad)
      | _ => .bad)
    | none => .bad)
  | .ok (.lst _), .exc x => .ex x (hid i ρ)
  | _, _ => .bad
theorem map_set_lst {n : Nat} {zs : List D} : (dss.map D.lst).set n (.lst zs) = (dss.set n zs).map D.lst := by rw [List.map_set]
theorem sn_mut {r : V → List V → Hp → VK → Prop} {op : List D → List D → Option (List D)} {ta : TA} {fs : Env → Res (List D)} (hr : MutS K r op) (hj : SR K W [] tj fj) (hs : SA K W [] ta fs) : SSN K W fr i (tDrop (tBM K "list" r (tOp (rIx K) (tVar i) tj) ta)) (gMutN i fj fs op) := fun H0 O σ H ρ De rn nb k kc kr kx => by
  obtain ⟨p, qs, dss, hσ, hρ, rw_⟩ := rn.rows
  have e2 : dV i ρ = .ok (.lst (dss.map .lst)) := by unfold dV; rw [hρ]
  refine ⟨_, hσ, ?_⟩
  refine hj H0 O σ H _ _ rn.rl (fun e => nb (by unfold gMutN hid; rw [e2, e])) (fun j u H1 e3 s1 ru => ?_) fun x C dd H' e s rx => ex_outN rn s rx fun O' r' s' rx' => kx x _ C dd O' σ H' (by unfold gMutN hid; rw [e2, e]) r' s' rx'
  cases j with
  | int j =>
    cases ru
    have rw1 := rw_.mono s1
    have ed : gMutN i fj fs op ρ = (match ixN (dss.map D.lst).length j with
      | some n => (match (dss.map D.lst)[n]? with
        | some (.lst ys) => (match fs (hid i ρ) with
          | .ok as => (match op ys as with
            | some zs => .nx (ρ.set i (some (.lst ((dss.map D.lst).set n (.lst zs)))))
            | none => .bad)
          | .exc x => .ex x (hid i ρ)
          | .bad => .bad)
        | _ => .bad)
      | none => .bad) := by unfold gMutN hid; rw [e2, e3]
    cases en : ixN (dss.map D.lst).length j with
    | none => rw [ed, en] at nb; exact absurd rfl nb
    | some n =>
      rw [en] at ed
      dsimp only at ed
      cases ey : (dss.map D.lst)[n]? with
      | none => rw [ed, ey] at nb; exact absurd rfl nb
      | some y =>
        obtain ⟨ys, ey', rfl⟩ := Option.map_eq_some_iff.mp (by rw [List.getElem?_map] at ey; exact ey)
        rw [ey] at ed
        dsimp only at ed
        have hn : n < dss.length := (List.getElem?_eq_some_iff.mp ey').1
        have hnq : n < qs.length := by rw [rw_.len]; exact hn
        have hq : qs[n]? = some qs[n] := List.getElem?_eq_getElem hnq
        obtain ⟨vs, hv, rv⟩ := rw1.row n _ ys hq ey'
        refine .inl ⟨p, _, j, .ref qs[n], rfl, rfl, SqL.of rw1.top, ?_, .inl ⟨rfl, _, SqL.of hv⟩, ?_⟩
        · have en' : ixN (qs.map V.ref).length j = some n := by rw [List.length_map, rw_.len, ← List.length_map (f := D.lst)]; exact en
          unfold atI
          rw [en']
          show (qs.map V.ref)[n]? = _
          rw [List.getElem?_map, hq]; rfl
        · refine hs H0 O σ H1 _ _ (rn.rl.mono s1) (fun e => nb (by rw [ed]; unfold hid; rw [e])) (fun as us H2 e4 s2 ru => ?_) fun x C dd H' e s rx => ex_outN (rn.mono s1) s rx fun O' r' s' rx' => kx x _ C dd O' σ H' (by rw [ed]; unfold hid; rw [e]) r' (Same.trans (mask_mono s1) s') rx'
          have e4' : fs (hid i ρ) = .ok as := e4
          rw [e4'] at ed
          dsimp only at ed
          cases eo : op ys as with
          | none => rw [ed, eo] at nb; exact absurd rfl nb
          | some zs =>
            rw [eo] at ed
            have hO : qs[n] ∈ O := rw_.sub _ (List.mem_cons_of_mem _ (List.getElem_mem hnq))
            obtain ⟨ws, hw, hq2⟩ := hr O H2 qs[n] vs us ys as zs hO (s2 _ _ hv) (rv.mono (mask_mono s2)) ru eo
            refine hq2 _ fun v => ?_
            have m : mask O (upd H2 qs[n] (.lst ws)) = mask O H2 := mask_upd hO
            have rn2 := (rn.mono (s1.trans s2)).write (rw1.mono s2) hσ hρ hq hw
            refine k _ O σ _ (by rw [ed]; dsimp only; rw [map_set_lst]) rn2 (by rw [m]; exact mask_mono (s1.trans s2))
  | _ => exact absurd (by unfold gMutN hid; rw [e2, e3]) nb
/-- x[j][k] = e -/
def gSetN (i : Nat) (fj fk f : Env → Res D) (ρ : Env) : Flow := match f (hid i ρ) with
  | .ok d => (match dV i ρ, fj (hid i ρ) with
    | .ok (.lst xs), .ok (.int j) => (match ixN xs.length j with
      | some n => (match xs[n]? with
        | some (.lst ys) => (match fk (hid i ρ) with
          | .ok (.int k) => (match ixN ys.length k with
            | some m => .nx (ρ.set i (some (.lst (xs.set n (.lst (ys.set m d))))))
            | none => .bad)
          | .exc x => .ex x (hid i ρ)
          | _ => .bad)
        | _ => .bad)
      | none => .bad)
    | .ok (.lst _), .exc x => .ex x (hid i ρ)
    | _, _ => .bad)
  | .exc x => .ex x (hid i ρ)
  | .bad => .bad
theorem sn_setIx {tk : TE} {fk : Env → Res D} (hj : SR K W [] tj fj) (hk : SR K W [] tk fk) (he : SE K W [] te f) : SSN K W fr i (tAsg te (gSub (tOp (rIx K) (tVar i) tj) tk rSetL)) (gSetN i fj fk f) := fun H0 O σ H ρ De rn nb k kc kr kx => by
  obtain ⟨p, qs, dss, hσ, hρ, rw_⟩ := rn.rows
  have e2 : dV i ρ = .ok (.lst (dss.map .lst)) := by unfold dV; rw [hρ]
  refine he H0 O σ H _ _ rn.rl (fun e => nb (by unfold gSetN hid; rw [e])) (fun d v H0' e0 s0 rv => ?_) fun x C dd H' e s rx => ex_outN rn s rx fun O' r' s' rx' => kx x _ C dd O' σ H' (by unfold gSetN hid; rw [e]) r' s' rx'
  refine ⟨_, hσ, ?_⟩
  have rn0 := rn.mono s0
  refine hj H0 O σ H0' _ _ rn0.rl (fun e => nb (by unfold gSetN hid; rw [e0, e2, e])) (fun j u H1 e3 s1 ru => ?_) fun x C dd H' e s rx => ex_outN rn0 s rx fun O' r' s' rx' => kx x _ C dd O' σ H' (by unfold gSetN hid; rw [e0, e2, e]) r' (Same.trans (mask_mono s0) s') rx'
  cases j with
  | int j =>
    cases ru
    have rw1 := rw_.mono (s0.trans s1)
    have ed : gSetN i fj fk f ρ = (match ixN (dss.map D.lst).length j with
      | some n => (match (dss.map D.lst)[n]? with
        | some (.lst ys) => (match fk (hid i ρ) with
          | .ok (.int k) => (match ixN ys.length k with
            | some m => .nx (ρ.set i (some (.lst ((dss.map D.lst).set n (.lst (ys.set m d))))))
            | none => .bad)
          | .exc x => .ex x (hid i ρ)
          | _ => .bad)
        | _ => .bad)
      | none => .bad) := by unfold gSetN hid; rw [e0, e2, e3]
    cases en : ixN (dss.map D.lst).length j with
    | none => rw [ed, en] at nb; exact absurd rfl nb
    | some n =>
      rw [en] at ed
      dsimp only at ed
      cases ey : (dss.map D.lst)[n]? with
      | none => rw [ed, ey] at nb; exact absurd rfl nb
      | some y =>
        obtain ⟨ys, ey', rfl⟩ := Option.map_eq_some_iff.mp (by rw [List.getElem?_map] at ey; exact ey)
        rw [ey] at ed
        dsimp only at ed
        have hn : n < dss.length := (List.getElem?_eq_some_iff.mp ey').1
        have hnq : n < qs.length := by rw [rw_.len]; exact hn
        have hq : qs[n]? = some qs[n] := List.getElem?_eq_getElem hnq
        obtain ⟨vs, hv, rvs⟩ := rw1.row n _ ys hq ey'
        refine .inl ⟨p, _, j, .ref qs[n], rfl, rfl, SqL.of rw1.top, ?_, ?_⟩
        · have en' : ixN (qs.map V.ref).length j = some n := by rw [List.length_map, rw_.len, ← List.length_map (f := D.lst)]; exact en
          unfold atI
          rw [en']
          show (qs.map V.ref)[n]? = _
          rw [List.getElem?_map, hq]; rfl
        · refine hk H0 O σ H1 _ _ (rn0.rl.mono s1) (fun e => nb (by rw [ed]; unfold hid; rw [e])) (fun kk u2 H2 e4 s2 ru2 => ?_) fun x C dd H' e s rx => ex_outN (rn.mono (s0.trans s1)) s rx fun O' r' s' rx' => kx x _ C dd O' σ H' (by rw [ed]; unfold hid; rw [e]) r' (Same.trans (mask_mono (s0.trans s1)) s') rx'
          have e4' : fk (hid i ρ) = .ok kk := e4
          rw [e4'] at ed
          cases kk with
          | int kk =>
            cases ru2
            dsimp only at ed
            cases em : ixN ys.length kk with
            | none => rw [ed, em] at nb; exact absurd rfl nb
            | some m =>
              rw [em] at ed
              have hO : qs[n] ∈ O := rw_.sub _ (List.mem_cons_of_mem _ (List.getElem_mem hnq))
              refine ⟨qs[n], vs, kk, m, rfl, rfl, s2 _ _ hv, by rw [rvs.length]; exact em, ?_⟩
              have mm : mask O (upd H2 qs[n] (.lst (vs.set m v))) = mask O H2 := mask_upd hO
              have rn2 := (rn.mono ((s0.trans s1).trans s2)).write (rw1.mono s2) hσ hρ hq (Reps.set (rv.mono (mask_mono (s1.trans s2))) m (rvs.mono (mask_mono s2)))
              refine k _ O σ _ (by rw [ed]; dsimp only; rw [map_set_lst]) rn2 (by rw [mm]; exact mask_mono ((s0.trans s1).trans s2))
          | _ => rw [ed] at nb; exact absurd rfl nb
  | _ => exact absurd (by unfold gSetN hid; rw [e0, e2, e3]) nb
/-- [[..] for t in it] -/
theorem sfn_lc {ti : TI} {items : Env → Res (List D)} {g : TG} {b : Bd} {ts : List Nat} {tt : TT} {ft : Env → Res Bool} {fe : Env → Res (List D)} {vs : List Nat} (hi : SI false K W own ti items) (hg : SGm K own g b ts) (ht : ST K WF own tt ft) (he : SF K WF own te fe)
    (hv : ∀ t ∈ ts, t ∈ vs) : SFN K W own (tLc ti g tt te vs) (dLc items b ft (dL fe) vs) := fun H0 O σ H ρ Q rl nb k kx => by
  refine hi H0 O σ H ρ _ rl (bind_nb nb) (fun ds J H1 e1 s1 ⟨G, Y, w, gG, yY⟩ => ?_) fun x C dd H' e s rx => kx x C dd H' (by show (items ρ).bind _ = _; rw [e]; rfl) s rx
  have nb1 := bind_nb2 nb e1
  have hz : ds.length ≤ sizeLine := by
    by_cases c : ds.length ≤ sizeLine
    · exact c
    · have nb1' : (if ds.length ≤ sizeLine then compL b ft (dL fe) (wipeE ρ vs) ds else .bad) ≠ .bad := nb1
      rw [if_neg c] at nb1'; exact absurd rfl nb1'
  have nb2 : compL b ft (dL fe) (wipeE ρ vs) ds ≠ .bad := by
    have nb1' : (if ds.length ≤ sizeLine then compL b ft (dL fe) (wipeE ρ vs) ds else .bad) ≠ .bad := nb1
    rw [if_pos hz] at nb1'; exact nb1'
  obtain ⟨res, er⟩ : ∃ res, compL b ft (dL fe) (wipeE ρ vs) ds = .ok res := by
    cases e : compL b ft (dL fe) (wipeE ρ vs) ds with
    | ok r => exact ⟨r, rfl⟩
    | bad => exact absurd e nb2
    | exc x => exact absurd e (compL_ne ds)
  have edl : dLc items b ft (dL fe) vs ρ = .ok res := by show (items ρ).bind _ = _; rw [e1]; show (if _ then _ else _) = _; rw [if_pos hz]; exact er
  intro Dd hD
  have rl1 := rl.mono s1
  have rw0 := rl1.wipe vs
  refine lc_it w (fun n H2 => ∃ qs dss, compL b ft (dL fe) (wipeE ρ vs) (ds.take n) = .ok (dss.map .lst) ∧ H2 Dd = some (.lst (qs.map V.ref)) ∧ Same H1 H2 ∧ (Dd :: qs).Nodup ∧ (∀ q ∈ qs, H1 q = none) ∧ qs.length = dss.length ∧
      (∀ (j : Nat) q zs, qs[j]? = some q → dss[j]? = some zs → ∃ us, H2 q = some (.lst us) ∧ Reps K (mask (qs.reverse ++ Dd :: O) H2) us zs) ∧ qs.length ≤ n)
    ⟨[], [], rfl, upd_same, Same.new hD, by simp, by simp, rfl, by simp, Nat.le_refl _⟩ (fun n H2 hi ⟨qs, dss, a1, a2, a3, a4, a5, a6, a7, a8⟩ => gG H2 (fun _ => a3) fun z => nomatch z) ?_ ?_
  · rintro n x H2 H3 hlt ⟨qs, dss, a1, a2, a3, a4, a5, a6, a7, a8⟩ y
    have there : ∀ q ∈ qs, ∃ o, H2 q = some o := fun q hq => by
      obtain ⟨j, hj⟩ := List.mem_iff_getElem?.mp hq
      have hl : j < dss.length := by rw [← a6]; exact (List.getElem?_eq_some_iff.mp hj).1
      obtain ⟨us, e, _⟩ := a7 j q dss[j] hj (List.getElem?_eq_getElem hl)
      exact ⟨_, e⟩
    have newL : ∀ q ∈ qs.reverse ++ [Dd], H1 q = none := fun q hq => by
      rcases List.mem_append.mp hq with h | h
      · exact a5 q (List.mem_reverse.mp h)
      · have : q = Dd := by simpa using h
        rw [this]; exact hD
    have rm2 : Rel K H0 own (qs.reverse ++ Dd :: O) (wipe σ vs) H2 (wipeE ρ vs) := by
      have z := rw0.news (L := qs.reverse ++ [Dd]) a3 fun q hq => ⟨newL q hq, by
        rcases List.mem_append.mp hq with h | h
        · exact there q (List.mem_reverse.mp h)
        · have : q = Dd := by simpa using h
          rw [this]; exact ⟨_, a2⟩⟩
      simpa using z
    have mm : Same (mask O H1) (mask (qs.reverse ++ Dd :: O) H2) := by
      have z := mask_news (O := O) (L := qs.reverse ++ [Dd]) a3 newL
      simpa using z
    obtain ⟨s3, d, ed, rd⟩ := yY n _ H2 x H3 mm rm2.dom y hlt
    have rm3 := rm2.mono s3
    obtain ⟨ys', ey⟩ := compL_take (i := n + 1) er
    have es : ds.take (n + 1) = ds.take n ++ [d] := by rw [List.take_add_one, ed]; rfl
    rw [es, compL_snoc, a1] at ey
    have ey' : (stepC b ft (dL fe) (wipeE ρ vs) d).bind (fun a => .ok (dss.map D.lst ++ a)) = .ok ys' := ey
    cases est : stepC b ft (dL fe) (wipeE ρ vs) d with
    | bad => rw [est] at ey'; cases ey'
    | exc z => rw [est] at ey'; cases ey'
    | ok a =>
      rw [est] at ey'
      have efin : compL b ft (dL fe) (wipeE ρ vs) (ds.take (n + 1)) = .ok (dss.map D.lst ++ a) := by rw [es, compL_snoc, a1]; show (stepC _ _ _ _ _).bind _ = _; rw [est]; rfl
      unfold stepC at est
      cases eb : b d (wipeE ρ vs) with
      | none => rw [eb] at est; cases est
      | some ρ' =>
        rw [eb] at est
        dsimp only at est
        refine hg H0 _ (wipe σ vs) H3 (wipeE ρ vs) ρ' x d _ rm3 rd eb fun σ' rl' ww => ?_
        refine ⟨by rw [ww vs hv, wipe_wipe], ?_⟩
        cases ec : ft ρ' with
        | bad => rw [ec] at est; cases est
        | exc z => rw [ec] at est; cases est
        | ok c =>
          rw [ec] at est
          refine ht H0 _ σ' H3 ρ' _ rl' (by rw [ec]; exact fun z => nomatch z) (fun c' H4 ec' s4 => ?_) fun x C dd H' e => by rw [ec] at e; cases e
          rw [ec] at ec'
          cases ec'
          cases c with
          | false =>
            rw [if_neg Bool.false_ne_true]
            have ea : a = [] := by cases est; rfl
            subst ea
            have s24 := s3.trans s4
            refine ⟨qs, dss, by rw [efin, List.append_nil], s24 _ _ a2, a3.trans s24, a4, a5, a6, fun j q zs h1 h2 => ?_, by omega⟩
            obtain ⟨us, e, r⟩ := a7 j q zs h1 h2
            exact ⟨us, s24 _ _ e, r.mono (mask_mono s24)⟩
          | true =>
            rw [if_pos rfl]
            have est' : (must (dL fe ρ')).bind (fun y => .ok [y]) = .ok a := est
            cases efe : fe ρ' with
            | bad => unfold dL at est'; rw [efe] at est'; cases est'
            | exc z => unfold dL at est'; rw [efe] at est'; cases est'
            | ok zs =>
              unfold dL at est'
              rw [efe] at est'
              have ea : a = [.lst zs] := by cases est'; rfl
              subst ea
              refine he H0 _ σ' H4 ρ' _ (rl'.mono s4) (by rw [efe]; exact fun z => nomatch z) (fun zs' q us H5 e5 s5 hq0 hq1 rv => ?_) fun x C dd H' e => by rw [efe] at e; cases e
              rw [efe] at e5
              cases e5
              have s25 := (s3.trans s4).trans s5
              have s24 := s3.trans s4
              have hD5 : H5 Dd = some (.lst (qs.map V.ref)) := s25 _ _ a2
              have nq : q ∉ qs := fun m => by
                obtain ⟨o, e⟩ := there q m
                rw [s24 _ _ e] at hq0; cases hq0
              have nD : q ≠ Dd := fun z => by rw [z, s24 _ _ a2] at hq0; cases hq0
              have hDq : Dd ∉ qs := (List.nodup_cons.mp a4).1
              have eO : (qs ++ [q]).reverse ++ Dd :: O = q :: (qs.reverse ++ Dd :: O) := by simp
              have em : mask (q :: (qs.reverse ++ Dd :: O)) (upd H5 Dd (.lst ((qs ++ [q]).map V.ref))) = mask (q :: (qs.reverse ++ Dd :: O)) H5 := mask_upd (by simp)
              refine ⟨qs.map V.ref, hD5, by rw [List.length_map]; omega, qs ++ [q], dss ++ [zs], by rw [efin]; simp, by rw [upd_same]; simp, PL.Same.mut (a3.trans s25) hD, ?_, ?_, by simp [a6], fun j q' zs' h1 h2 => ?_, by simp; omega⟩
              · rw [List.nodup_cons]
                refine ⟨by simp [hDq]; exact fun z => nD z.symm, List.nodup_append.mpr ⟨(List.nodup_cons.mp a4).2, by simp, fun a ha b hb => ?_⟩⟩
                have : b = q := by simpa using hb
                rw [this]
                exact fun z => nq (z ▸ ha)
              · intro q' hq'
                rcases List.mem_append.mp hq' with h | h
                · exact a5 q' h
                · have : q' = q := by simpa using h
                  rw [this]; exact (a3.trans s24).free hq0
              · rw [eO]
                have e2 : (qs ++ [q]).map V.ref = qs.map V.ref ++ [.ref q] := by simp
                rw [← e2, em]
                by_cases hj : j < qs.length
                · rw [List.getElem?_append_left hj] at h1
                  rw [List.getElem?_append_left (by rw [← a6]; exact hj)] at h2
                  obtain ⟨us', e, r⟩ := a7 j q' zs' h1 h2
                  have nd' : q' ≠ Dd := fun z => hDq (z ▸ List.mem_of_getElem? h1)
                  exact ⟨us', by rw [upd_ne nd']; exact s25 _ _ e, r.mono (mask_new' hq0 s5 |> fun z => Same.trans (mask_mono s24) z)⟩
                · have hj' : qs.length ≤ j := Nat.le_of_not_lt hj
                  rw [List.getElem?_append_right hj'] at h1
                  rw [List.getElem?_append_right (by rw [← a6]; exact hj')] at h2
                  rw [a6] at h1
                  cases jj : j - dss.length with
                  | zero =>
                    rw [jj] at h1 h2
                    cases h1; cases h2
                    exact ⟨us, by rw [upd_ne nD]; exact hq1, rv⟩
                  | succ m => rw [jj] at h1; simp at h1
  · rintro H2 ⟨qs, dss, a1, a2, a3, a4, a5, a6, a7, a8⟩
    rw [List.take_length] at a1
    have eys : res = dss.map D.lst := by rw [er] at a1; cases a1; rfl
    subst eys
    exact k dss Dd qs H2 edl (s1.trans a3) ⟨a4, fun q hq => s1.free (by
      rcases List.mem_cons.mp hq with rfl | hq
      · exact hD
      · exact a5 q hq), fun q hq => by
      rcases List.mem_cons.mp hq with rfl | hq
      · simp
      · simp [hq], a2, a6, a7⟩
end
end PL
namespace PL
open PySem PySem.Spec PyProof.Rows L2
section
variable {K : Fg}
/-! ### more changes of own lists -/
def rIns : V → List V → Hp → VK → Prop := fun x vs H Q => ∃ (l : Addr) (xs : List V) (i : Int) (y : V), x = .ref l ∧ vs = [.int i, y] ∧ H l = some (.lst xs) ∧ xs.length < sizeLine ∧ 0 ≤ i ∧ i < 2 ^ 63 ∧
    Q .non (upd H l (.lst (xs.take i.toNat ++ [y] ++ xs.drop i.toNat)))
theorem mt_ins {X : Cx} : MtR X "list.insert" rIns := mt_insert
def CIns (n : Nat) (i : Int) : Prop := n < sizeLine ∧ 0 ≤ i ∧ i < 2 ^ 63
noncomputable instance decIns (n : Nat) (i : Int) : Decidable (CIns n i) := Classical.propDecidable _
noncomputable def oInsert (xs as : List D) : Option (List D) := match as with
  | [.int i, y] => if CIns xs.length i then some (xs.take i.toNat ++ [y] ++ xs.drop i.toNat) else none
  | _ => none
theorem mS_insert : MutS K rIns oInsert := fun O H p vs us xs as ys hp hl hv hu e => by
  unfold oInsert at e
  split at e
  · rename_i i y
    cases hu with
    | cons r1 hu =>
      obtain ⟨u, rfl, ru⟩ := reps1 hu
      cases r1
      by_cases hz : CIns xs.length i
      · rw [if_pos hz] at e
        cases e
        exact ⟨_, ((hv.take _).append (Reps.one ru)).append (hv.drop _), fun Q q => ⟨p, vs, i, u, rfl, rfl, hl, by rw [hv.length]; exact hz.1, hz.2.1, hz.2.2, q _⟩⟩
      · rw [if_neg hz] at e; cases e
  · cases e
theorem Reps.erase {H : Hp} : ∀ {vs : List V} {ds : List D} (k : Nat), Reps K H vs ds → Reps K H (vs.eraseIdx k) (ds.eraseIdx k)
  | _, _, _, .nil => .nil
  | _, _, 0, .cons _ t => t
  | _, _, k + 1, .cons r t => .cons r (Reps.erase k t)
def CPop (i : Int) : Prop := -(2 ^ 63) ≤ i ∧ i < 2 ^ 63
noncomputable instance decPop (i : Int) : Decidable (CPop i) := Classical.propDecidable _
noncomputable def oPopAt (xs as : List D) : Option (List D) := match as with
  | [.int i] => if CPop i then (ixN xs.length i).map fun k => xs.eraseIdx k else none
  | _ => none
theorem mS_popAt : MutS K rPopAt oPopAt := fun O H p vs us xs as ys hp hl hv hu e => by
  unfold oPopAt at e
  split at e
  · rename_i i
    obtain ⟨u, rfl, ru⟩ := reps1 hu
    cases ru
    by_cases hz : CPop i
    · rw [if_pos hz] at e
      obtain ⟨k, hk, rfl⟩ := Option.map_eq_some_iff.mp e
      obtain ⟨h1, h2, _, _⟩ := ixN_seq hk
      have h2' : k < vs.length := by rw [hv.length]; exact h2
      exact ⟨_, hv.erase k, fun Q q => ⟨p, vs, i, k, vs[k], rfl, rfl, hl, hz.1, hz.2, by rw [hv.length]; exact h1, List.getElem?_eq_getElem h2', q _⟩⟩
    · rw [if_neg hz] at e; cases e
  · cases e
end
/-! ### lists of own lists -/
structure QFN (X : Cx) (W : WX) (own : List Nat) (e : Expr) (te : TE) (f : Env → Res (List D)) : Prop where
  p : PE X e te
  s : SFN X.K W own te f
structure QSN (X : Cx) (W : WX) (fr : Bool) (i : Nat) (st : Stmt) (ts : TS) (g : Env → Flow) : Prop where
  p : PS X st ts
  s : SSN X.K W fr i ts g
  c : ∀ ρ, noCt (g ρ)
structure QBN (X : Cx) (W : WX) (fr : Bool) (i : Nat) (st : List Stmt) (ts : TS) (g : Env → Flow) : Prop where
  p : PSs X st ts
  s : SSN X.K W fr i ts g
  c : ∀ ρ, noCt (g ρ)
structure QNB (X : Cx) (W : WX) (fr : Bool) (oc : List Nat) (i : Nat) (st : List Stmt) (ts : TS) (g : Env → Flow) (own' : List Nat) : Prop where
  p : PSs X st ts
  s : SNB X.K W fr oc i ts g own'
section
variable {i : Nat} {b : Bd} {f fj fk : Env → Res D} {g h : Env → Flow} {ft : Env → Res Bool} {ρ : Env}
theorem ct_asg : noCt (gAsgN i b f ρ) := fun r e => by
  unfold gAsgN at e
  split at e
  · split at e <;> cases e
  · cases e
  · cases e
theorem ct_seq (hg : ∀ ρ, noCt (g ρ)) (hh : ∀ ρ, noCt (h ρ)) : noCt (gSeq g h ρ) := fun r e => by
  unfold gSeq at e
  split at e
  · exact hh _ _ e
  · rename_i e'; exact hg _ _ e'
  · cases e
  · cases e
  · cases e
theorem ct_if (hg : ∀ ρ, noCt (g ρ)) (hh : ∀ ρ, noCt (h ρ)) : noCt (gIfN i ft g h ρ) := fun r e => by
  unfold gIfN at e
  split at e
  · split at e
    · exact hg _ _ e
    · exact hh _ _ e
  · cases e
  · cases e
theorem ct_for {items : Env → Res (List D)} : noCt (gForN i items b g ρ) := fun r e => by
  have gen : ∀ ds ρ, forN i b g ds ρ ≠ .ct r := by
    intro ds
    induction ds with
    | nil => intro ρ h; cases h
    | cons d ds ih =>
      intro ρ h
      unfold forN at h
      split at h
      · cases h
      · split at h
        · exact ih _ h
        · exact ih _ h
        · cases h
        · cases h
        · cases h
  unfold gForN at e
  split at e
  · exact gen _ _ e
  · cases e
  · cases e
theorem ct_mut {fs : Env → Res (List D)} {op : List D → List D → Option (List D)} : noCt (gMutN i fj fs op ρ) := fun r e => by
  unfold gMutN at e
  repeat' first | cases e | split at e
theorem ct_set : noCt (gSetN i fj fk f ρ) := fun r e => by
  unfold gSetN at e
  repeat' first | cases e | split at e
end
section
variable {X : Cx} {W : WX} {own own1 own2 own' oc : List Nat} {fr : Bool} {a b c e : Expr} {es : List Expr} {ta tb tc te tj tk : TE} {fa fb fc f fj fk : Env → Res D} {pos : Pos} {ts : TA} {fs : Env → Res (List D)} {tt : TT} {ft : Env → Res Bool} {st : Stmt} {sts : List Stmt} {t u : TS} {g h : Env → Flow} {i : Nat}
theorem bn_nil : QBN X W fr i [] tNext (fun ρ => .nx ρ) := ⟨pss_nil, sn_next, fun _ _ e => by cases e⟩
theorem bn_one (h : QSN X W fr i st t g) : QBN X W fr i [st] t g := ⟨pss_one h.p, h.s, h.c⟩
theorem bn_cons (h1 : QSN X W fr i st t g) (h2 : QBN X W fr i sts u h) : QBN X W fr i (st :: sts) (tSeq t u) (gSeq g h) := ⟨pss_cons h1.p h2.p, sn_seq h1.s h2.s, fun _ => ct_seq h1.c h2.c⟩
theorem nb_end (h : QB X W fr oc [i] sts u g own2) : QNB X W fr oc i sts u g own2 := ⟨h.p, nb_exit h.s⟩
theorem nb_next (h1 : QSN X W fr i st t g) (h2 : QNB X W fr oc i sts u h own2) : QNB X W fr oc i (st :: sts) (tSeq t u) (gSeq g h) own2 := ⟨pss_cons h1.p h2.p, nb_cons h1.s h2.s h1.c⟩
theorem b_nest (i : Nat) {y : Str} {py : Pos} {fl : Env → Res (List D)} (hN : X.N.Nodup) (he : QFN X W own e te fl) (hb : QNB X W fr oc i sts u h own2) (hi : X.N[i]? = some y := by rfl) (hx : Loc X.env.scope y := by first | exact Or.inl rfl | exact Or.inr rfl) (hs : swapsWith e (some (.Name y py)) pos.line X.env = pure false := by rfl) (hf : X.fn y = true ∨ X.env.scope.names.lookup y = some .local := by first | exact .inl rfl | exact .inr rfl) :
    QB X W fr oc own (.Assign [.Name y py] e pos :: sts) (tSeq (tAsg te (gName i)) u) (gSeq (gAsgL i fl) h) own2 := ⟨pss_cons (ps_set hN hi hx he.p hs hf) hb.p, ss_enter he.s hb.s⟩
theorem n_asg {gt : TG} {bd : Bd} {tl : List Nat} {tg : Expr} (he : QE X W [] e te f) (hg : QG X [] tg gt bd tl) (ni : i ∉ tl := by decide) (hs : swapsWithSole [tg] e pos.line X.env = pure false := by rfl) (hw : swappedStores [tg] e X.env = pure none := by rfl) (h1 : (assignEach [tg] X.env).map (·.2) = [assign tg X.env] := by rfl) :
    QSN X W fr i (.Assign [tg] e pos) (tAsg te gt) (gAsgN i bd f) := ⟨ps_asg he.p hg.p hs hw h1, sn_asg hg.s ni he.s, fun _ => ct_asg⟩
theorem n_set (j : Nat) {y : Str} {py : Pos} (hN : X.N.Nodup) (he : QE X W [] e te f) (hi : X.N[j]? = some y := by rfl) (ni : i ∉ [j] := by decide) (hx : Loc X.env.scope y := by first | exact Or.inl rfl | exact Or.inr rfl) (hs : swapsWith e (some (.Name y py)) pos.line X.env = pure false := by rfl) (hf : X.fn y = true ∨ X.env.scope.names.lookup y = some .local := by first | exact .inl rfl | exact .inr rfl) :
    QSN X W fr i (.Assign [.Name y py] e pos) (tAsg te (gName j)) (gAsgN i (bN j) f) := ⟨ps_set hN hi hx he.p hs hf, sn_asg (sg_name (by simp)) ni he.s, fun _ => ct_asg⟩
theorem n_if {ss us : List Stmt} (ht : QT X W [] c tt ft) (h1 : QBN X W fr i ss t g) (h2 : QBN X W fr i us u h) : QSN X W fr i (.If c ss us pos) (tIfS tt t u) (gIfN i ft g h) := ⟨ps_if ht.p h1.p h2.p, sn_if ht.s h1.s h2.s, fun _ => ct_if h1.c h2.c⟩
theorem n_for {ti : TI} {items : Env → Res (List D)} {gt : TG} {bd : Bd} {tl : List Nat} {tg it : Expr} {body : List Stmt} (hp : PassesOwn (model X.prog X.w) X.A X.env X.xe) (hc : X.calm = true) (hi : QI true X W [] tg it ti items) (hg : QG X [] tg gt bd tl) (hb : QBN X W fr i body t g) (ni : i ∉ tl := by decide)
    (hs : ∀ x, foldedSetIterable it X.env x = pure x := by intro _; rfl) : QSN X W fr i (.For tg it body [] pos) (tFor ti gt t) (gForN i items bd g) := ⟨ps_for hp hc hi.p hg.p hb.p hs, sn_for hi.s hg.s ni hb.s, fun _ => ct_for⟩
theorem n_mut {id : String} {r : V → List V → Hp → VK → Prop} {op : List D → List D → Option (List D)} {y name : Str} {py cpos spos : Pos} {j : Expr} {apos : Pos} (i : Nat) (slot : Slot "list" name id) (hty : typeOf (.builtin id) = pure (.type "method_descriptor")) (hm : MtR X id r) (hr : MutS X.K r op) (hj : QR X W [] j tj fj) (ha : QA X W [] (e :: es) ts fs)
    (hN : X.N[i]? = some y := by rfl) (hv : Vis X.env.scope y := by first | exact Or.inl rfl | exact Or.inr (Or.inl rfl) | exact Or.inr (Or.inr rfl)) (hd : (y == ("__debug__" : Str)) = false := by decide) (hcd : (y == ("__classdict__" : Str)) = false := by decide) (hix : PlainIx j := by exact fun _ _ => rfl)
    (hbase : attributeBase (.Subscript (.Name y py) j spos) name X.env (eval (.Subscript (.Name y py) j spos) X.env) = eval (.Subscript (.Name y py) j spos) X.env := by rfl)
    (hfew : ((backTo cpos (starEach (e :: es) X.env)).all (fun x => !x.1) && (backToKw cpos (keywordEach [] X.env)).all (fun x => x.1.isSome)
      && decide ((e :: es).length + ([] : List Keyword).length + (if ([] : List Keyword).isEmpty then 0 else 1) < 30)) = true := by rfl)
    (hline : (apos.endLine == cpos.line) = true := by rfl) (hs : starEach (e :: es) X.env = (false, eval e X.env) :: starEach es X.env := by rfl) (hplain : (backTo cpos (starEach es X.env)).any (·.1) = false := by rfl)
    (hsw : swapsWith (.Call (.Attribute (.Subscript (.Name y py) j spos) name apos) (e :: es) [] cpos) none pos.line X.env = pure false := by rfl) :
    QSN X W fr i (.Expr (.Call (.Attribute (.Subscript (.Name y py) j spos) name apos) (e :: es) [] cpos) pos) (tDrop (tBM X.K "list" r (tOp (rIx X.K) (tVar i) tj) ts)) (gMutN i fj fs op) :=
  ⟨ps_expr (pe_bm PySem.F.plainAttrs_list slot hty hm (pe_ix ix_seq (pe_var hN hv hd hcd) hj.p hix) ha.p hbase hfew hline hs hplain) hsw, sn_mut hr hj.s ha.s, fun _ => ct_mut⟩
theorem n_setIx {y : Str} {py spos spos2 : Pos} (i : Nat) {j k : Expr} (hj : QR X W [] j tj fj) (hk : QR X W [] k tk fk) (he : QE X W [] e te f) (hN : X.N[i]? = some y := by rfl) (hv : Vis X.env.scope y := by first | exact Or.inl rfl | exact Or.inr (Or.inl rfl) | exact Or.inr (Or.inr rfl)) (hd : (y == ("__debug__" : Str)) = false := by decide) (hcd : (y == ("__classdict__" : Str)) = false := by decide) (hix : PlainIx j := by exact fun _ _ => rfl)
    (hA : ∀ v, assign (.Subscript (.Subscript (.Name y py) j spos2) k spos) X.env v = (do
      let ov ← holding [v] (eval (.Subscript (.Name y py) j spos2) X.env)
      let iv ← holding [v, ov] (eval k X.env)
      standAt spos
      holding [v, ov, iv] (setItem ov iv v)
      release [v, ov, iv] []) := by intro _; rfl) (hs : swapsWithSole [.Subscript (.Subscript (.Name y py) j spos2) k spos] e pos.line X.env = pure false := by rfl) (hw : swappedStores [.Subscript (.Subscript (.Name y py) j spos2) k spos] e X.env = pure none := by rfl) (h1 : (assignEach [.Subscript (.Subscript (.Name y py) j spos2) k spos] X.env).map (·.2) = [assign (.Subscript (.Subscript (.Name y py) j spos2) k spos) X.env] := by rfl) :
    QSN X W fr i (.Assign [.Subscript (.Subscript (.Name y py) j spos2) k spos] e pos) (tAsg te (gSub (tOp (rIx X.K) (tVar i) tj) tk rSetL)) (gSetN i fj fk f) :=
  ⟨ps_asg he.p (pg_sub (pe_ix ix_seq (pe_var hN hv hd hcd) hj.p hix) hk.p set_list hA) hs hw h1, sn_setIx hj.s hk.s he.s, fun _ => ct_set⟩
variable {tg iter elt : Expr} {ifs : List Expr} {scope : Scope} {ti : TI} {items : Env → Res (List D)} {gt : TG} {bd : Bd} {tl : List Nat} {fe : Env → Res (List D)} {oN : List (Str × Nat)} {gB : By TG} {tB' : By TT} {eB : By TE}
theorem q_lcN (hc : X.calm = true) (hN : X.N.Nodup) (hi : QI false X W own tg iter ti items) (ok : BlkOk X.N X.env.scope scope oN)
    (hg : ∀ (s : Shared) (H : Hp) (C : Addr) (cl : List (Str × Addr)) (fp : List Addr), QG (X.blk s H scope (compEnvC scope cl C X.env) fp) own tg (gB s H C cl fp) bd tl) (ht : ∀ (s : Shared) (H : Hp) (C : Addr) (cl : List (Str × Addr)) (fp : List Addr), QTs (X.blk s H scope (compEnvC scope cl C X.env) fp) WF own ifs (tB' s H C cl fp) ft)
    (he : ∀ (s : Shared) (H : Hp) (C : Addr) (cl : List (Str × Addr)) (fp : List Addr), QF (X.blk s H scope (compEnvC scope cl C X.env) fp) WF own elt (eB s H C cl fp) fe) (hv : ∀ t ∈ tl, t ∈ oN.map (·.2) := by decide) (hs : ∀ x, foldedSetIterable iter X.env x = pure x := by intro _; rfl)
    (kg : ∀ s H C cl fp, gB s H C cl fp = gB X.s_0 X.H_0 0 [] [] := by intro _ _ _ _ _; rfl) (kt : ∀ s H C cl fp, tB' s H C cl fp = tB' X.s_0 X.H_0 0 [] [] := by intro _ _ _ _ _; rfl) (ke : ∀ s H C cl fp, eB s H C cl fp = eB X.s_0 X.H_0 0 [] [] := by intro _ _ _ _ _; rfl) :
    QFN X W own (.ListComp elt [⟨tg, iter, ifs, 0⟩] scope pos) (tLc ti (gB X.s_0 X.H_0 0 [] []) (tB' X.s_0 X.H_0 0 [] []) (eB X.s_0 X.H_0 0 [] []) (oN.map (·.2))) (dLc items bd ft (dL fe) (oN.map (·.2))) :=
  ⟨pe_lc hc hN hi.p ok (fun s H C cl fp => kg s H C cl fp ▸ (hg s H C cl fp).p) (fun s H C cl fp => kt s H C cl fp ▸ (ht s H C cl fp).p) (fun s H C cl fp => ke s H C cl fp ▸ (he s H C cl fp).p) hs,
    sfn_lc hi.s (hg X.s_0 X.H_0 0 [] []).s (ht X.s_0 X.H_0 0 [] []).s (he X.s_0 X.H_0 0 [] []).s hv⟩
theorem b_nestLc (i : Nat) {y : Str} {py spos : Pos} (hc : X.calm = true) (hN : X.N.Nodup) (hi : QI false X W own tg iter ti items) (ok : BlkOk X.N X.env.scope scope oN)
    (hg : ∀ (s : Shared) (H : Hp) (C : Addr) (cl : List (Str × Addr)) (fp : List Addr), QG (X.blk s H scope (compEnvC scope cl C X.env) fp) own tg (gB s H C cl fp) bd tl) (ht : ∀ (s : Shared) (H : Hp) (C : Addr) (cl : List (Str × Addr)) (fp : List Addr), QTs (X.blk s H scope (compEnvC scope cl C X.env) fp) WF own ifs (tB' s H C cl fp) ft)
    (he : ∀ (s : Shared) (H : Hp) (C : Addr) (cl : List (Str × Addr)) (fp : List Addr), QF (X.blk s H scope (compEnvC scope cl C X.env) fp) WF own elt (eB s H C cl fp) fe) (hsw : swapsWith (.ListComp elt [⟨tg, iter, ifs, 0⟩] scope pos) (some (.Name y py)) spos.line X.env = pure true) (hb : QNB X W fr oc i sts u h own2) (hv : ∀ t ∈ tl, t ∈ oN.map (·.2) := by decide) (hs : ∀ x, foldedSetIterable iter X.env x = pure x := by intro _; rfl)
    (hy : X.N[i]? = some y := by rfl) (hyl : X.env.scope.names.lookup y = some .local := by rfl) (kg : ∀ s H C cl fp, gB s H C cl fp = gB X.s_0 X.H_0 0 [] [] := by intro _ _ _ _ _; rfl) (kt : ∀ s H C cl fp, tB' s H C cl fp = tB' X.s_0 X.H_0 0 [] [] := by intro _ _ _ _ _; rfl) (ke : ∀ s H C cl fp, eB s H C cl fp = eB X.s_0 X.H_0 0 [] [] := by intro _ _ _ _ _; rfl) :
    QB X W fr oc own (.Assign [.Name y py] (.ListComp elt [⟨tg, iter, ifs, 0⟩] scope pos) spos :: sts) (tSeq (tAsg (tLc ti (gB X.s_0 X.H_0 0 [] []) (tB' X.s_0 X.H_0 0 [] []) (eB X.s_0 X.H_0 0 [] []) (oN.map (·.2))) (gName i)) u) (gSeq (gAsgL i (dLc items bd ft (dL fe) (oN.map (·.2)))) h) own2 :=
  ⟨pss_cons (ps_setLc hc hN hy hyl hsw hi.p ok (fun s H C cl fp => kg s H C cl fp ▸ (hg s H C cl fp).p) (fun s H C cl fp => kt s H C cl fp ▸ (ht s H C cl fp).p) (fun s H C cl fp => ke s H C cl fp ▸ (he s H C cl fp).p) hs) hb.p,
    ss_enter (sfn_lc hi.s (hg X.s_0 X.H_0 0 [] []).s (ht X.s_0 X.H_0 0 [] []).s (he X.s_0 X.H_0 0 [] []).s hv) hb.s⟩
end
end PL
/-! the head's facts, the law's end -/
namespace PL
open PySem PySem.Spec PyProof.Rows L2
/-- the classes' addresses, looked up once -/
def xcB (K : Fg) (c : Nat) : Bool :=
  let D := clsA K c
  (He.eqO (PySem.W.findIn K (.ref D) "__getattribute__") (some (some (.builtin "BaseException.__getattribute__"))) && (He.eqO (PySem.W.findIn K (.ref D) "__getattr__") (some none) && (decide (PySem.W.subIn K (.ref D) (.type "BaseException") = some true) && (PySem.W.hasDictIn K D &&
  (He.eqO (PySem.W.findIn K (.ref D) "__class__") (some (some (.builtin "object.__class__"))) && (He.eqO (PySem.W.specialIn K (.builtin "object.__class__") "__get__") (some (some (.builtin "getset_descriptor.__get__"))) && (decide (PySem.W.takesIn K (.builtin "object.__class__") = some true) &&
  (decide (PySem.W.mroIn K D (.type "object") = some true) && (List.range 22).all fun n => He.eqO (PySem.W.findIn K (.ref D) (fldN n)) (some none)))))))))
theorem xcB_ok {K : Fg} {c : Nat} (h : xcB K c = true) : XcOk K c := by
  obtain ⟨h1, h⟩ := Bool.and_eq_true_iff.mp h
  obtain ⟨h2, h⟩ := Bool.and_eq_true_iff.mp h
  obtain ⟨h3, h⟩ := Bool.and_eq_true_iff.mp h
  obtain ⟨h4, h⟩ := Bool.and_eq_true_iff.mp h
  obtain ⟨h5, h⟩ := Bool.and_eq_true_iff.mp h
  obtain ⟨h6, h⟩ := Bool.and_eq_true_iff.mp h
  obtain ⟨h7, h⟩ := Bool.and_eq_true_iff.mp h
  obtain ⟨h8, h9⟩ := Bool.and_eq_true_iff.mp h
  have h9' := List.all_eq_true.mp h9
  exact ⟨⟨He.eqO_ok h1, He.eqO_ok h2, of_decide_eq_true h3, h4, He.eqO_ok h5, He.eqO_ok h6, of_decide_eq_true h7, of_decide_eq_true h8⟩, ⟨He.eqO_ok h1, He.eqO_ok h2, of_decide_eq_true h3, h4⟩, fun n hn => He.eqO_ok (h9' n (List.mem_range.mpr hn))⟩
def isxB (K : Fg) (cs : List Nat) (f : Nat → Bool) (c : Value) : Bool := (cs.all fun x => decide (PySem.W.kitOne K (.ref (clsA K x)) c = some (f x))) && decide (PySem.W.kitOne K (.type "NoneType") c = some false)
theorem isxB_ok {K : Fg} {cs : List Nat} {f : Nat → Bool} {c : Value} (h : isxB K cs f c = true) : IsX K cs f c := by
  obtain ⟨h1, h2⟩ := Bool.and_eq_true_iff.mp h
  exact ⟨fun x hx => of_decide_eq_true (List.all_eq_true.mp h1 x hx), of_decide_eq_true h2⟩
def catchB (K : Fg) (cs : List Nat) (y : Nat) : Bool := cs.all fun x => decide (PySem.W.exmOne K (.ref (clsA K x)) (.ref (clsA K y)) = some (subC x y)) && xcB K x
theorem catch_ok {K : Fg} {mg : Str → Option Value} {cs : List Nat} {y : Nat} (g : mg (clsN y) = some (.ref (clsA K y))) (h : catchB K cs y = true) : CatchOk K mg cs y := by
  have h' := fun x hx => Bool.and_eq_true_iff.mp (List.all_eq_true.mp h x hx)
  exact ⟨g, fun x hx => of_decide_eq_true (h' x hx).1, fun x hx => xcB_ok (h' x hx).2⟩
/-- a law, the bits of the script's numbers told -/
theorem walk_ofEB {l : PySem.W.OpenLaw} {n k : Nat} {q : Program} {loose : List Str} {XP : (Str → Option Value) → Heap → Prop} {YP : World → Heap → Prop} {d : DefRec} {CX : World → CXT} {x : Str}
    (hn : l.most = some n) (hn2 : n ≤ sizeLine) (hdf : d.params.defaults = []) (hr : Room k callerA)
    (F : ∀ (w : World) (mg : Str → Option Value) (fa : Addr) (h : Heap), YP w h → h.Ns mainGlobals mg → mg d.name = some (.ref fa) →
      ∃ (K : PySem.W.Frag) (fd : FuncData) (sp : Sp), K.In h ∧ (∀ (s : Shared) (u : Value), BindsTo s fd ⟨[u], []⟩ [(x, u)]) ∧
        (∀ (H : Hp) (a : Addr) (ns : List Int), ns.length ≤ n → (∀ z ∈ ns, Builtin.Int.intBits z ≤ 1048576) → SqL K H a (ns.map V.int) → sp [.ref a] H (fun v _ => v = .bl true) fun _ _ _ => False) ∧
        ∀ base : Heap, K.In base → base.Ns mainGlobals mg → FnOk l.prog w K mg base (CX w) k fa fd [x] sp)
    (hCX : ∀ (w : World) (H : Hp) (s : Shared) (e : Value) (s' : Shared), CX w [] H s (fun _ _ _ => False) e s' → False) :
    PySem.W.WalkO q loose XP YP l.row.toRowW d [] (fun f vs => PySem.call f vs) := by
  refine Att.attach_callB hn hdf fun w s₀ s₁ mg mb fa o pm cd doc a vs ns G Y ho hd hcd hmg hobj hints hlen hbits hg => ?_
  obtain ⟨K, fd, sp, KX, hb, hsp, hF⟩ := F w mg fa _ Y G.T.g hmg
  exact law_call KX G.T.g G.T.b G.T.builtins G.T.nolimit hg hobj hints (Nat.le_trans hlen hn2) hr hF hb (fun H hO hS => hsp H a ns hlen hbits hS) fun H e s' => hCX w H s₁ e s'
theorem cx_false {P : Program} {w : World} {H : Hp} {s : Shared} {e : Value} {s' : Shared} (h : L2.CX P w [] H s (fun _ _ _ => False) e s') : False := by
  obtain ⟨a, B, H', cls, d, _, _, _, _, _, _, _, h⟩ := h
  exact h
theorem sp_law {K : Fg} {F : List D → Res D} {n : Nat} (h : ∀ ns : List Int, ns.length ≤ n → (∀ z ∈ ns, Builtin.Int.intBits z ≤ 1048576) → F [.scr ns] = .ok (.bl true)) (H : Hp) (a : Addr) (ns : List Int) (h1 : ns.length ≤ n) (h2 : ∀ z ∈ ns, Builtin.Int.intBits z ≤ 1048576)
    (hS : SqL K H a (ns.map V.int)) : spD K 1 false F [.ref a] H (fun v _ => v = .bl true) fun _ _ _ => False := by
  have e := h ns h1 h2
  refine ⟨[.scr ns], [], (by intro p hp; cases hp), .cons (.scr (by rw [mask_nil]; exact hS)) .nil, rfl, (by rw [e]; exact fun z => nomatch z), fun d v H' e' s r => ?_, fun x C dd H' e' => by rw [e] at e'; cases e'⟩
  rw [e] at e'
  cases e'
  have r' : Rep K (mask [] H') v (.bl true) := r
  cases r'
  rfl
end PL
/-! what the denotations compute: plain Lean -/
namespace PL
open PySem PySem.Spec PyProof.Rows L2
section
variable {g h : Env → Flow} {f fa fb fc fj : Env → Res D} {ft fu : Env → Res Bool} {fl : Env → Res (List D)} {b : Bd} {ρ : Env} {i : Nat} {fs : Env → Res (List D)}
@[simp] theorem ev_seq : gSeq g h ρ = match g ρ with
  | .nx ρ' => h ρ'
  | .ct ρ' => .ct ρ'
  | .rt d => .rt d
  | .ex x ρ' => .ex x ρ'
  | .bad => .bad := (rfl)
@[simp] theorem ev_asg : gAsg b f ρ = match f ρ with
  | .ok d => (match b d ρ with
    | some ρ' => .nx ρ'
    | none => .bad)
  | .exc x => .ex x ρ
  | .bad => .bad := (rfl)
@[simp] theorem ev_asgL : gAsgL i fl ρ = match fl ρ with
  | .ok ds => if i < ρ.length then .nx (ρ.set i (some (.lst ds))) else .bad
  | .exc x => .ex x ρ
  | .bad => .bad := (rfl)
@[simp] theorem ev_if : gIf ft g h ρ = match ft ρ with
  | .ok b => if b = true then g ρ else h ρ
  | .exc x => .ex x ρ
  | .bad => .bad := (rfl)
@[simp] theorem ev_drop : gDrop f ρ = match f ρ with
  | .ok _ => .nx ρ
  | .exc x => .ex x ρ
  | .bad => .bad := (rfl)
@[simp] theorem ev_ret : gRet f ρ = match f ρ with
  | .ok d => .rt d
  | .exc x => .ex x ρ
  | .bad => .bad := (rfl)
@[simp] theorem ev_retL : gRetL fl ρ = match fl ρ with
  | .ok ds => .rt (.lst ds)
  | .exc x => .ex x ρ
  | .bad => .bad := (rfl)
@[simp] theorem ev_retS : gRetS f ρ = match f ρ with
  | .ok d => if isSca d = true then .rt d else .bad
  | .exc x => .ex x ρ
  | .bad => .bad := (rfl)
@[simp] theorem ev_for : gFor fl b g ρ = match fl ρ with
  | .ok ds => forL b g ds ρ
  | .exc x => .ex x ρ
  | .bad => .bad := (rfl)
@[simp] theorem ev_mut {op : List D → List D → Option (List D)} : gMut i fs op ρ = match dV i ρ with
  | .ok (.lst xs) => (match fs ρ with
    | .ok as => (match op xs as with
      | some ys => .nx (ρ.set i (some (.lst ys)))
      | none => .bad)
    | .exc x => .ex x ρ
    | .bad => .bad)
  | _ => .bad := (rfl)
@[simp] theorem ev_setIx : gSetIx i fj f ρ = match f ρ with
  | .ok d => (match dV i ρ with
    | .ok (.lst xs) => (match fj ρ with
      | .ok (.int j) => (match ixN xs.length j with
        | some n => .nx (ρ.set i (some (.lst (xs.set n d))))
        | none => .bad)
      | .exc x => .ex x ρ
      | _ => .bad)
    | _ => .bad)
  | .exc x => .ex x ρ
  | .bad => .bad := (rfl)
@[simp] theorem ev_V : dV i ρ = match ρ[i]? with
  | some (some d) => .ok d
  | _ => .bad := (rfl)
@[simp] theorem ev_C {d : D} : dC d ρ = .ok d := (rfl)
@[simp] theorem ev_1 {op : D → Option D} : d1 op fa ρ = (fa ρ).bind fun a => ofO (op a) := (rfl)
@[simp] theorem ev_2 {op : D → D → Option D} : d2 op fa fb ρ = (fa ρ).bind fun a => (fb ρ).bind fun b => ofO (op a b) := (rfl)
@[simp] theorem ev_B {op : List D → Option D} : dB op fs ρ = (fs ρ).bind fun as => ofO (op as) := (rfl)
@[simp] theorem ev_Nil : dNil ρ = .ok [] := (rfl)
@[simp] theorem ev_Cons : dCons fa fs ρ = (fa ρ).bind fun a => (fs ρ).bind fun as => .ok (a :: as) := (rfl)
@[simp] theorem ev_Lst : dLst fs ρ = (fs ρ).bind fun ds => if ds.length ≤ sizeLine then .ok ds else .bad := (rfl)
@[simp] theorem ev_Tup : dTup fs ρ = (fs ρ).bind fun ds => if ds.length ≤ sizeLine then .ok (.tup ds) else .bad := (rfl)
@[simp] theorem ev_L : dL fl ρ = (fl ρ).map .lst := (rfl)
@[simp] theorem ev_B1 : dB1 fa ρ = (fa ρ).bind fun a => match a with
  | .bl b => .ok b
  | _ => .bad := (rfl)
@[simp] theorem ev_AndT : dAndT ft fu ρ = (ft ρ).bind fun a => if a = true then fu ρ else .ok false := (rfl)
@[simp] theorem ev_OrT : dOrT ft fu ρ = (ft ρ).bind fun a => if a = true then .ok true else fu ρ := (rfl)
@[simp] theorem ev_NotT : dNotT ft ρ = (ft ρ).map not := (rfl)
@[simp] theorem ev_AndV : dAndV fa fb ρ = (fa ρ).bind fun a => match a with
  | .bl true => fb ρ
  | .bl false => .ok (.bl false)
  | _ => .bad := (rfl)
@[simp] theorem ev_OrV : dOrV fa fb ρ = (fa ρ).bind fun a => match a with
  | .bl true => .ok (.bl true)
  | .bl false => fb ρ
  | _ => .bad := (rfl)
@[simp] theorem ev_If {α : Type} {fa fb : Env → Res α} : dIf ft fa fb ρ = (ft ρ).bind fun c => if c = true then fa ρ else fb ρ := (rfl)
@[simp] theorem ev_Chain {op op' : D → D → Option D} : dChain op op' fa fb fc ρ = (fa ρ).bind fun a => (fb ρ).bind fun b => (ofO (op a b)).bind (chK op' fc ρ b) := (rfl)
@[simp] theorem ev_Tru : dTru fa ρ = (fa ρ).bind fun a => ofO (truA a) := (rfl)
@[simp] theorem ev_Seq : dSeq fa ρ = (fa ρ).bind fun a => ofO (oSeq a) := (rfl)
@[simp] theorem ev_Rng : dRng fs ρ = (fs ρ).bind fun as => ofO (oRng as) := (rfl)
@[simp] theorem ev_Enum : dEnum fa ρ = (fa ρ).bind fun a => ofO ((oLs a).map (enumD 0)) := (rfl)
@[simp] theorem ev_Zip : dZip fa fb ρ = (fa ρ).bind fun a => (fb ρ).bind fun b => match a, b with
  | .lst xs, .lst ys => .ok (zipD xs ys)
  | _, _ => .bad := (rfl)
@[simp] theorem ev_List : dList fa ρ = (fa ρ).bind fun a => ofO (oItems a) := (rfl)
@[simp] theorem ev_Cat : dCat fa fb ρ = (fa ρ).bind fun a => (fb ρ).bind fun b => ofO (oCat a b) := (rfl)
@[simp] theorem ev_Rep : dRep fa fb ρ = (fa ρ).bind fun a => (fb ρ).bind fun b => ofO (oRep a b) := (rfl)
@[simp] theorem ev_NoP : dNoP ρ = .ok none := (rfl)
@[simp] theorem ev_Part : dPart fa ρ = (fa ρ).bind fun a => ofO ((asInt a).map some) := (rfl)
@[simp] theorem ev_Sl {fl fh : Env → Res (Option Int)} : dSl fa fl fh ρ = (fa ρ).bind fun a => (fl ρ).bind fun lo => (fh ρ).bind fun hi => match a with
  | .lst xs => .ok (cutD xs lo hi)
  | _ => .bad := (rfl)
@[simp] theorem ev_Yes : dYes ρ = .ok true := (rfl)
@[simp] theorem ev_Lc {vs : List Nat} {items : Env → Res (List D)} : dLc items b ft f vs ρ = (items ρ).bind fun ds => if ds.length ≤ sizeLine then compL b ft f (wipeE ρ vs) ds else .bad := (rfl)
@[simp] theorem ev_wipe0 : wipeE ρ [] = ρ := (rfl)
@[simp] theorem ev_wipe1 {v : Nat} {vs : List Nat} : wipeE ρ (v :: vs) = (wipeE ρ vs).set v none := (rfl)
@[simp] theorem ev_step {d : D} : stepC b ft f ρ d = match b d ρ with
  | none => .bad
  | some ρ' => (must (ft ρ')).bind fun c => if c = true then (must (f ρ')).bind fun y => .ok [y] else .ok [] := (rfl)
@[simp] theorem ev_must {α : Type} {a : α} : must (.ok a) = .ok a := (rfl)
@[simp] theorem ev_bN {d : D} : bN i d ρ = if i < ρ.length then some (ρ.set i (some d)) else none := (rfl)
@[simp] theorem ev_bNil : bNil [] ρ = some ρ := (rfl)
@[simp] theorem ev_bCons {bs : Bds} {d : D} {r : List D} : bCons b bs (d :: r) ρ = (b d ρ).bind (bs r) := (rfl)
@[simp] theorem ev_bTup {bs : Bds} {n : Nat} {ds : List D} : bTup n bs (.tup ds) ρ = if ds.length = n then bs ds ρ else none := (rfl)
@[simp] theorem ev_bLst {bs : Bds} {n : Nat} {ds : List D} : bLst n bs (.lst ds) ρ = if ds.length = n then bs ds ρ else none := (rfl)
@[simp] theorem ev_call {F : List D → Res D} : dCall F fs ρ = (fs ρ).bind F := (rfl)
@[simp] theorem ev_callL {F : List D → Res D} : dCallL F fs ρ = (fs ρ).bind fun as => match F as with
  | .ok (.lst ds) => .ok ds
  | .exc x => .exc x
  | _ => .bad := (rfl)
@[simp] theorem ev_callS {F : List D → Res D} : dCallS F fs ρ = (fs ρ).bind fun as => match F as with
  | .ok d => if isSca d = true then .ok d else .bad
  | .exc x => if x.fs.isEmpty = true then .exc x else .bad
  | .bad => .bad := (rfl)
@[simp] theorem ev_callLS {F : List D → Res D} : dCallLS F fs ρ = (fs ρ).bind fun as => match F as with
  | .ok (.lst ds) => if ds.all isSca = true then .ok ds else .bad
  | .exc x => if x.fs.isEmpty = true then .exc x else .bad
  | _ => .bad := (rfl)
@[simp] theorem ev_runB {n N : Nat} {ds : List D} : runB n N g ds = if ds.length = n then (match g (ds.map some ++ List.replicate (N - n) none) with
  | .nx _ => .ok .non
  | .ct _ => .bad
  | .rt d => .ok d
  | .ex x _ => .exc x
  | .bad => .bad) else .bad := (rfl)
@[simp] theorem ev_hid : hid i ρ = ρ.set i none := (rfl)
@[simp] theorem ev_unhid {ρ' : Env} : unhid i ρ ρ' = ρ'.set i (ρ.getD i none) := (rfl)
@[simp] theorem ev_asgN : gAsgN i b f ρ = match f (hid i ρ) with
  | .ok d => (match b d (hid i ρ) with
    | some ρ' => .nx (unhid i ρ ρ')
    | none => .bad)
  | .exc x => .ex x (hid i ρ)
  | .bad => .bad := (rfl)
@[simp] theorem ev_ifN : gIfN i ft g h ρ = match ft (hid i ρ) with
  | .ok b => if b = true then g ρ else h ρ
  | .exc x => .ex x (hid i ρ)
  | .bad => .bad := (rfl)
@[simp] theorem ev_forN {items : Env → Res (List D)} : gForN i items b g ρ = match items (hid i ρ) with
  | .ok ds => forN i b g ds ρ
  | .exc x => .ex x (hid i ρ)
  | .bad => .bad := (rfl)
@[simp] theorem ev_mutN {op : List D → List D → Option (List D)} : gMutN i fj fs op ρ = match dV i ρ, fj (hid i ρ) with
  | .ok (.lst xs), .ok (.int j) => (match ixN xs.length j with
    | some n => (match xs[n]? with
      | some (.lst ys) => (match fs (hid i ρ) with
        | .ok as => (match op ys as with
          | some zs => .nx (ρ.set i (some (.lst (xs.set n (.lst zs)))))
          | none => .bad)
        | .exc x => .ex x (hid i ρ)
        | .bad => .bad)
      | _ => .bad)
    | none => .bad)
  | .ok (.lst _), .exc x => .ex x (hid i ρ)
  | _, _ => .bad := (rfl)
@[simp] theorem ev_try {cs : List Nat} {y : Nat} : gTry cs y i g h ρ = match g ρ with
  | .ex x ρ1 => if x.c ∈ cs then (if subC x.c y = true then (if i < ρ1.length then (match h (ρ1.set i (some (.exc x.c x.fs))) with
      | .nx ρ2 => .nx (ρ2.set i none)
      | .rt d => .rt d
      | _ => .bad) else .bad) else .ex x ρ1) else .bad
  | .nx ρ1 => .nx ρ1
  | .ct ρ1 => .ct ρ1
  | .rt d => .rt d
  | .bad => .bad := (rfl)
end
/-! ### operators on data -/
section
variable {i j : Int}
@[simp] theorem ev_I {C : Int → Int → Prop} [∀ i j, Decidable (C i j)] {g : Int → Int → Int} : oI C g (.int i) (.int j) = if C i j then some (.int (g i j)) else none := (rfl)
@[simp] theorem ev_I0 {g : Int → Int → D} : oI0 g (.int i) (.int j) = some (g i j) := (rfl)
@[simp] theorem ev_add : oAdd (.int i) (.int j) = some (.int (i + j)) := (rfl)
@[simp] theorem ev_neg : oNeg (.int i) = some (.int (-i)) := (rfl)
@[simp] theorem ev_not {b : Bool} : oNot (.bl b) = some (.bl (!b)) := (rfl)
@[simp] theorem ev_isNn {n : Bool} : oIsN n .non = some (.bl (!n)) := (rfl)
@[simp] theorem ev_isNi {n : Bool} : oIsN n (.int i) = some (.bl n) := (rfl)
@[simp] theorem ev_isNl {n : Bool} {xs : List D} : oIsN n (.lst xs) = some (.bl n) := (rfl)
@[simp] theorem ev_isNx {n : Bool} {c : Nat} {xs : List (Nat × D)} : oIsN n (.exc c xs) = some (.bl n) := (rfl)
@[simp] theorem ev_isNt {n : Bool} {xs : List D} : oIsN n (.tup xs) = some (.bl n) := (rfl)
@[simp] theorem ev_isNs {n : Bool} {x : Str} : oIsN n (.str x) = some (.bl n) := (rfl)
@[simp] theorem ev_len {xs : List D} : oLen [.lst xs] = some (.int xs.length) := (rfl)
@[simp] theorem ev_lenT {xs : List D} : oLen [.tup xs] = some (.int xs.length) := (rfl)
@[simp] theorem ev_lenS {ns : List Int} : oLen [.scr ns] = some (.int ns.length) := (rfl)
@[simp] theorem ev_ixL {xs : List D} : oIx (.lst xs) (.int i) = atI xs i := (rfl)
@[simp] theorem ev_ixT {xs : List D} : oIx (.tup xs) (.int i) = atI xs i := (rfl)
@[simp] theorem ev_ixS {ns : List Int} : oIx (.scr ns) (.int i) = (atI ns i).map .int := (rfl)
@[simp] theorem ev_max : oMax2 [.int i, .int j] = some (.int (if j > i then j else i)) := (rfl)
@[simp] theorem ev_min : oMin2 [.int i, .int j] = some (.int (if j < i then j else i)) := (rfl)
@[simp] theorem ev_any {xs : List D} : oAny [.lst xs] = (truL xs).map fun bs => .bl (bs.any id) := (rfl)
@[simp] theorem ev_all {xs : List D} : oAll [.lst xs] = (truL xs).map fun bs => .bl (bs.all id) := (rfl)
@[simp] theorem ev_seqL {xs : List D} : oSeq (.lst xs) = some xs := (rfl)
@[simp] theorem ev_seqT {xs : List D} : oSeq (.tup xs) = some xs := (rfl)
@[simp] theorem ev_seqS {xs : List Int} : oSeq (.scr xs) = some (xs.map .int) := (rfl)
@[simp] theorem ev_itL {xs : List D} : oItems (.lst xs) = some xs := (rfl)
@[simp] theorem ev_itT {xs : List D} : oItems (.tup xs) = some xs := (rfl)
@[simp] theorem ev_lsL {xs : List D} : oLs (.lst xs) = some xs := (rfl)
@[simp] theorem ev_rng1 : oRng [.int j] = if R62 j then some (rngD 0 j.toNat) else none := (rfl)
@[simp] theorem ev_rng2 : oRng [.int i, .int j] = if R62 i ∧ R62 j then some (rngD i (j - i).toNat) else none := (rfl)
@[simp] theorem ev_app {xs : List D} {a : D} : oAppend xs [a] = if xs.length < sizeLine then some (xs ++ [a]) else none := (rfl)
@[simp] theorem ev_ext {xs zs : List D} : oExtend xs [.lst zs] = if xs.length + zs.length ≤ sizeLine then some (xs ++ zs) else none := (rfl)
@[simp] theorem ev_insert {xs : List D} {y : D} : oInsert xs [.int i, y] = if CIns xs.length i then some (xs.take i.toNat ++ [y] ++ xs.drop i.toNat) else none := (rfl)
@[simp] theorem ev_popAt {xs : List D} : oPopAt xs [.int i] = if CPop i then (ixN xs.length i).map fun k => xs.eraseIdx k else none := (rfl)
@[simp] theorem ev_oCat {xs ys : List D} : oCat (.lst xs) (.lst ys) = if xs.length + ys.length ≤ sizeLine then some (xs ++ ys) else none := (rfl)
@[simp] theorem ev_oRep {xs : List D} {k : Int} : oRep (.lst xs) (.int k) = if CRep xs.length k then some (List.replicate k.toNat xs).flatten else none := (rfl)
@[simp] theorem ev_asInt : asInt (.int i) = some i := (rfl)
@[simp] theorem ev_tyN : oIsTy "int" .non = some (.bl false) := (rfl)
@[simp] theorem ev_tyI : oIsTy "int" (.int i) = some (.bl true) := (rfl)
@[simp] theorem ev_tyIb : oIsTy "bool" (.int i) = some (.bl false) := (rfl)
@[simp] theorem ev_tyLl {xs : List D} : oIsTy "list" (.lst xs) = some (.bl true) := (rfl)
@[simp] theorem ev_isXe {cs : List Nat} {f : Nat → Bool} {c : Nat} {fs : List (Nat × D)} : oIsX cs f (.exc c fs) = if c ∈ cs then some (.bl (f c)) else none := (rfl)
@[simp] theorem ev_isXn {cs : List Nat} {f : Nat → Bool} : oIsX cs f .non = some (.bl false) := (rfl)
@[simp] theorem ev_subC {c y : Nat} : subC c y = (c == y || y == 7) := (rfl)
@[simp] theorem sz_le1 : ((1 : Nat) ≤ sizeLine) = True := eq_true (by decide)
@[simp] theorem sz_le2 : ((2 : Nat) ≤ sizeLine) = True := eq_true (by decide)
@[simp] theorem sz_le3 : ((3 : Nat) ≤ sizeLine) = True := eq_true (by decide)
@[simp] theorem sz_le4 : ((4 : Nat) ≤ sizeLine) = True := eq_true (by decide)
@[simp] theorem sz_le5 : ((5 : Nat) ≤ sizeLine) = True := eq_true (by decide)
@[simp] theorem sz_le6 : ((6 : Nat) ≤ sizeLine) = True := eq_true (by decide)
@[simp] theorem sz_le7 : ((7 : Nat) ≤ sizeLine) = True := eq_true (by decide)
@[simp] theorem sz_le8 : ((8 : Nat) ≤ sizeLine) = True := eq_true (by decide)
@[simp] theorem sz_le9 : ((9 : Nat) ≤ sizeLine) = True := eq_true (by decide)
@[simp] theorem sz_le10 : ((10 : Nat) ≤ sizeLine) = True := eq_true (by decide)
@[simp] theorem sz_le11 : ((11 : Nat) ≤ sizeLine) = True := eq_true (by decide)
@[simp] theorem sz_le12 : ((12 : Nat) ≤ sizeLine) = True := eq_true (by decide)
@[simp] theorem sz_le13 : ((13 : Nat) ≤ sizeLine) = True := eq_true (by decide)
@[simp] theorem sz_le14 : ((14 : Nat) ≤ sizeLine) = True := eq_true (by decide)
@[simp] theorem sz_le15 : ((15 : Nat) ≤ sizeLine) = True := eq_true (by decide)
@[simp] theorem sz_le16 : ((16 : Nat) ≤ sizeLine) = True := eq_true (by decide)
theorem sz_lt {n : Nat} (h : n < 16777216) : n < sizeLine := h
theorem sz_le {n : Nat} (h : n ≤ 16777216) : n ≤ sizeLine := h
/-- side conditions of arithmetic -/
theorem mulL (h1 : -(2 ^ 64) < i) (h2 : i < 2 ^ 64) : CMulU i j := .inl (.inl ⟨h1, h2⟩)
theorem mulR (h1 : -(2 ^ 64) < j) (h2 : j < 2 ^ 64) : CMulU i j := .inl (.inr ⟨h1, h2⟩)
theorem divW (h1 : 0 < j) (h2 : j < 2 ^ 64) : CDivW i j := ⟨h1, by
  have : j.natAbs.log2 < 64 := (Nat.log2_lt (by omega)).mpr (by omega)
  omega⟩
theorem ixN_ok {n : Nat} (h0 : 0 ≤ i) (h : i < n) : ixN n i = some i.toNat := by unfold ixN; rw [if_pos h0, if_pos h]
theorem atI_ok {α : Type} {xs : List α} (h0 : 0 ≤ i) (h : i < xs.length) : atI xs i = xs[i.toNat]? := by unfold atI; rw [ixN_ok h0 h]; rfl
end
/-! ### loops -/
theorem forL_inv {b : Bd} {g : Env → Flow} (I : Nat → Env → Prop) : ∀ (ds : List D) (n : Nat) (ρ : Env), I n ρ → (∀ i d ρ, ds[i]? = some d → I (n + i) ρ → ∃ ρ', b d ρ = some ρ' ∧ ∃ ρ2, (g ρ' = .nx ρ2 ∨ g ρ' = .ct ρ2) ∧ I (n + i + 1) ρ2) →
    ∃ ρ', forL b g ds ρ = .nx ρ' ∧ I (n + ds.length) ρ'
  | [], n, ρ, h, _ => ⟨ρ, rfl, h⟩
  | d :: ds, n, ρ, h, st => by
    obtain ⟨ρ1, e1, ρ2, e2, h2⟩ := st 0 d ρ rfl h
    obtain ⟨ρ3, e3, h3⟩ := forL_inv I ds (n + 1) ρ2 h2 fun i d' ρ' hd hI => by
      have z := st (i + 1) d' ρ' (by simpa using hd) (by have : n + (i + 1) = n + 1 + i := by omega
                                                         rw [this]; exact hI)
      have e : n + (i + 1) + 1 = n + 1 + i + 1 := by omega
      rw [e] at z
      exact z
    refine ⟨ρ3, ?_, by have : n + (d :: ds).length = n + 1 + ds.length := by simp; omega
                       rw [this]; exact h3⟩
    show (match b d ρ with
      | none => Flow.bad
      | some ρ' => match g ρ' with
        | .nx ρ2 => forL b g ds ρ2
        | .ct ρ2 => forL b g ds ρ2
        | .rt d => .rt d
        | .ex x ρ2 => .ex x ρ2
        | .bad => .bad) = _
    rw [e1]
    rcases e2 with e2 | e2
    · simp only [e2]; exact e3
    · simp only [e2]; exact e3
theorem forN_inv {b : Bd} {g : Env → Flow} {s : Nat} (I : Nat → Env → Prop) : ∀ (ds : List D) (n : Nat) (ρ : Env), I n ρ → (∀ i d ρ, ds[i]? = some d → I (n + i) ρ → ∃ ρ', b d (hid s ρ) = some ρ' ∧ ∃ ρ2, (g (unhid s ρ ρ') = .nx ρ2 ∨ g (unhid s ρ ρ') = .ct ρ2) ∧ I (n + i + 1) ρ2) →
    ∃ ρ', forN s b g ds ρ = .nx ρ' ∧ I (n + ds.length) ρ'
  | [], n, ρ, h, _ => ⟨ρ, rfl, h⟩
  | d :: ds, n, ρ, h, st => by
    obtain ⟨ρ1, e1, ρ2, e2, h2⟩ := st 0 d ρ rfl h
    obtain ⟨ρ3, e3, h3⟩ := forN_inv I ds (n + 1) ρ2 h2 fun i d' ρ' hd hI => by
      have z := st (i + 1) d' ρ' (by simpa using hd) (by have : n + (i + 1) = n + 1 + i := by omega
                                                         rw [this]; exact hI)
      have e : n + (i + 1) + 1 = n + 1 + i + 1 := by omega
      rw [e] at z
      exact z
    refine ⟨ρ3, ?_, by have : n + (d :: ds).length = n + 1 + ds.length := by simp; omega
                       rw [this]; exact h3⟩
    show (match b d (hid s ρ) with
      | none => Flow.bad
      | some ρ' => match g (unhid s ρ ρ') with
        | .nx ρ2 => forN s b g ds ρ2
        | .ct ρ2 => forN s b g ds ρ2
        | .rt d => .rt d
        | .ex x ρ2 => .ex x ρ2
        | .bad => .bad) = _
    rw [e1]
    rcases e2 with e2 | e2
    · simp only [e2]; exact e3
    · simp only [e2]; exact e3
theorem while_no {ft : Env → Res Bool} {g : Env → Flow} {ρ : Env} (h : ft ρ = .ok false) : gWhile ft g ρ = .nx ρ := gWhile_eq (n := 1) (by unfold whL; rw [h])
theorem while_yes {ft : Env → Res Bool} {g : Env → Flow} {ρ ρ' : Env} {fl : Flow} (h : ft ρ = .ok true) (hg : g ρ = .nx ρ' ∨ g ρ = .ct ρ') (hw : gWhile ft g ρ' = fl) (nb : fl ≠ .bad) : gWhile ft g ρ = fl := by
  obtain ⟨n, hn⟩ := gWhile_run (ft := ft) (g := g) (ρ := ρ') (by rw [hw]; exact nb)
  rw [hw] at hn
  refine gWhile_eq (n := n + 1) ?_
  unfold whL
  rw [h]
  rcases hg with hg | hg
  · simp only [hg]; exact hn
  · simp only [hg]; exact hn
theorem while_inv {ft : Env → Res Bool} {g : Env → Flow} (I : Nat → Env → Prop) (st : ∀ n ρ, I n ρ → (ft ρ = .ok false) ∨ (ft ρ = .ok true ∧ ∃ ρ', (g ρ = .nx ρ' ∨ g ρ = .ct ρ') ∧ ∃ m, m < n ∧ I m ρ')) : ∀ n ρ, I n ρ → ∃ ρ' m, gWhile ft g ρ = .nx ρ' ∧ I m ρ' ∧ ft ρ' = .ok false := fun n => by
  induction n using Nat.strongRecOn with
  | _ n ih =>
    intro ρ h
    rcases st n ρ h with h1 | ⟨h1, ρ', hg, m, hm, h2⟩
    · exact ⟨ρ, n, while_no h1, h, h1⟩
    · obtain ⟨ρ2, k, e, hk, hf⟩ := ih m hm ρ' h2
      exact ⟨ρ2, k, while_yes h1 hg e (fun z => nomatch z), hk, hf⟩
theorem compL_flat {b : Bd} {ft : Env → Res Bool} {fe : Env → Res D} {ρ : Env} {φ : D → List D} : ∀ ds : List D, (∀ d ∈ ds, stepC b ft fe ρ d = .ok (φ d)) → compL b ft fe ρ ds = .ok (ds.flatMap φ)
  | [], _ => rfl
  | d :: ds, h => by
    show (stepC b ft fe ρ d).bind _ = _
    rw [h d List.mem_cons_self]
    show (compL b ft fe ρ ds).bind _ = _
    rw [compL_flat ds fun d' hd => h d' (List.mem_cons_of_mem _ hd)]
    rfl
theorem compL_map {b : Bd} {ft : Env → Res Bool} {fe : Env → Res D} {ρ : Env} {φ : D → D} (ds : List D) (h : ∀ d ∈ ds, stepC b ft fe ρ d = .ok [φ d]) : compL b ft fe ρ ds = .ok (ds.map φ) := by
  rw [compL_flat (φ := fun d => [φ d]) ds h]
  congr 1
  induction ds with
  | nil => rfl
  | cons d ds ih => simp only [List.flatMap_cons, List.map_cons, List.singleton_append]; rw [ih fun d' hd => h d' (List.mem_cons_of_mem _ hd)]
/-- over a list of things put as data -/
theorem compL_mapI {α : Type} {ι : α → D} {b : Bd} {ft : Env → Res Bool} {fe : Env → Res D} {ρ : Env} {φ : α → D} : ∀ (xs : List α) (h : ∀ x ∈ xs, stepC b ft fe ρ (ι x) = .ok [φ x]), compL b ft fe ρ (xs.map ι) = .ok (xs.map φ)
  | [], _ => rfl
  | x :: xs, h => by
    show (stepC b ft fe ρ (ι x)).bind _ = _
    rw [h x List.mem_cons_self]
    show (compL b ft fe ρ (xs.map ι)).bind _ = _
    rw [compL_mapI xs fun d' hd => h d' (List.mem_cons_of_mem _ hd)]
    rfl
theorem compL_flatI {α : Type} {ι : α → D} {b : Bd} {ft : Env → Res Bool} {fe : Env → Res D} {ρ : Env} {φ : α → List D} : ∀ (xs : List α) (h : ∀ x ∈ xs, stepC b ft fe ρ (ι x) = .ok (φ x)), compL b ft fe ρ (xs.map ι) = .ok (xs.flatMap φ)
  | [], _ => rfl
  | x :: xs, h => by
    show (stepC b ft fe ρ (ι x)).bind _ = _
    rw [h x List.mem_cons_self]
    show (compL b ft fe ρ (xs.map ι)).bind _ = _
    rw [compL_flatI xs fun d' hd => h d' (List.mem_cons_of_mem _ hd)]
    rfl
theorem truL_bl : ∀ bs : List Bool, truL (bs.map .bl) = some bs
  | [] => rfl
  | b :: bs => by simp [truL, truD, truL_bl bs]
end PL
namespace PL
open PySem PySem.Spec PyProof.Rows L2
/-! ### == -/
mutual
/-- data of numbers, None, texts, lists, tuples, at most n deep -/
def Cln : Nat → D → Prop
  | _, .non => True
  | _, .int _ => True
  | _, .str x => PyData.canLay0 (.str x) = true
  | 0, .lst _ => False
  | n + 1, .lst xs => Clns n xs
  | 0, .tup _ => False
  | n + 1, .tup xs => Clns n xs
  | _, _ => False
def Clns : Nat → List D → Prop
  | _, [] => True
  | n, d :: ds => Cln n d ∧ Clns n ds
end
theorem clns_of : ∀ {n : Nat} {ds : List D}, (∀ d ∈ ds, Cln n d) → Clns n ds
  | _, [], _ => by simp [Clns]
  | _, d :: ds, h => by
    unfold Clns
    exact ⟨h d List.mem_cons_self, clns_of fun d' hd => h d' (List.mem_cons_of_mem _ hd)⟩

mutual
theorem Cln.py : ∀ {n : Nat} {d : D}, Cln n d → ∃ x, d.py = some x ∧ x.canLay0 = true ∧ x.depth ≤ n + 1
  | _, .non, _ => ⟨_, rfl, rfl, by simp [PyData.depth]⟩
  | _, .int _, _ => ⟨_, rfl, rfl, by simp [PyData.depth]⟩
  | _, .str x, h => ⟨_, rfl, by unfold Cln at h; exact h, by simp [PyData.depth]⟩
  | 0, .lst _, h => by unfold Cln at h; exact h.elim
  | n + 1, .lst xs, h => by
    unfold Cln at h
    obtain ⟨ys, h1, h2, h3⟩ := Clns.py h
    exact ⟨.list ys, by simp [D.py, h1], by simp [PyData.canLay0, h2], by simp [PyData.depth]; omega⟩
  | 0, .tup _, h => by unfold Cln at h; exact h.elim
  | n + 1, .tup xs, h => by
    unfold Cln at h
    obtain ⟨ys, h1, h2, h3⟩ := Clns.py h
    exact ⟨.tuple ys, by simp [D.py, h1], by simp [PyData.canLay0, h2], by simp [PyData.depth]; omega⟩
  | _, .bl _, h => by simp [Cln] at h
  | _, .scr _, h => by simp [Cln] at h
  | _, .obj _ _ _, h => by simp [Cln] at h
  | _, .exc _ _, h => by simp [Cln] at h
theorem Clns.py : ∀ {n : Nat} {ds : List D}, Clns n ds → ∃ xs, D.pys ds = some xs ∧ PyData.canLayAll0 xs = true ∧ PyData.depthAll xs ≤ n + 1
  | _, [], _ => ⟨[], rfl, rfl, by simp [PyData.depthAll]⟩
  | n, d :: ds, h => by
    unfold Clns at h
    obtain ⟨x, h1, h2, h3⟩ := Cln.py h.1
    obtain ⟨xs, h4, h5, h6⟩ := Clns.py h.2
    exact ⟨x :: xs, by simp [D.pys, h1, h4], by simp [PyData.canLayAll0, h2, h5], by simp [PyData.depthAll]; omega⟩
end
mutual
theorem eqv_iff : ∀ {n m : Nat} {a b : D} {x y : PyData}, Cln n a → Cln m b → a.py = some x → b.py = some y → (PyData.eqv x y = true ↔ a = b)
  | n, m, a, b, x, y, ha, hb, hx, hy => by
    cases a with
    | non => cases b <;> simp [Cln, D.py] at hb hx hy <;> first | (subst hx; subst hy; simp [PyData.eqv]) | (subst hx; obtain ⟨z, _, rfl⟩ := hy; simp [PyData.eqv])
    | int i => cases b <;> simp [Cln, D.py] at hb hx hy <;> first | (subst hx; subst hy; simp [PyData.eqv]) | (subst hx; obtain ⟨z, _, rfl⟩ := hy; simp [PyData.eqv])
    | str s => cases b <;> simp [Cln, D.py] at hb hx hy <;> first | (subst hx; subst hy; simp [PyData.eqv]) | (subst hx; obtain ⟨z, _, rfl⟩ := hy; simp [PyData.eqv])
    | lst xs =>
      cases n with
      | zero => simp [Cln] at ha
      | succ n =>
        unfold Cln at ha
        simp only [D.py, Option.map_eq_some_iff] at hx
        obtain ⟨xs', hx', rfl⟩ := hx
        cases b with
        | lst ys =>
          cases m with
          | zero => simp [Cln] at hb
          | succ m =>
            unfold Cln at hb
            simp only [D.py, Option.map_eq_some_iff] at hy
            obtain ⟨ys', hy', rfl⟩ := hy
            have := eqvs_iff ha hb hx' hy'
            simp only [PyData.eqv, D.lst.injEq]
            exact this
        | tup ys =>
          simp only [D.py, Option.map_eq_some_iff] at hy
          obtain ⟨ys', _, rfl⟩ := hy
          simp [PyData.eqv]
        | non => simp [D.py] at hy; subst hy; simp [PyData.eqv]
        | int _ => simp [D.py] at hy; subst hy; simp [PyData.eqv]
        | str _ => simp [D.py] at hy; subst hy; simp [PyData.eqv]
        | bl _ => simp [Cln] at hb
        | scr _ => simp [Cln] at hb
        | obj _ _ _ => simp [Cln] at hb
        | exc _ _ => simp [Cln] at hb
    | tup xs =>
      cases n with
      | zero => simp [Cln] at ha
      | succ n =>
        unfold Cln at ha
        simp only [D.py, Option.map_eq_some_iff] at hx
        obtain ⟨xs', hx', rfl⟩ := hx
        cases b with
        | tup ys =>
          cases m with
          | zero => simp [Cln] at hb
          | succ m =>
            unfold Cln at hb
            simp only [D.py, Option.map_eq_some_iff] at hy
            obtain ⟨ys', hy', rfl⟩ := hy
            have := eqvs_iff ha hb hx' hy'
            simp only [PyData.eqv, D.tup.injEq]
            exact this
        | lst ys =>
          simp only [D.py, Option.map_eq_some_iff] at hy
          obtain ⟨ys', _, rfl⟩ := hy
          simp [PyData.eqv]
        | non => simp [D.py] at hy; subst hy; simp [PyData.eqv]
        | int _ => simp [D.py] at hy; subst hy; simp [PyData.eqv]
        | str _ => simp [D.py] at hy; subst hy; simp [PyData.eqv]
        | bl _ => simp [Cln] at hb
        | scr _ => simp [Cln] at hb
        | obj _ _ _ => simp [Cln] at hb
        | exc _ _ => simp [Cln] at hb
    | bl _ => simp [Cln] at ha
    | scr _ => simp [Cln] at ha
    | obj _ _ _ => simp [Cln] at ha
    | exc _ _ => simp [Cln] at ha
theorem eqvs_iff : ∀ {n m : Nat} {as bs : List D} {xs ys : List PyData}, Clns n as → Clns m bs → D.pys as = some xs → D.pys bs = some ys → (PyData.eqvAll xs ys = true ↔ as = bs)
  | n, m, [], [], xs, ys, ha, hb, hx, hy => by cases hx; cases hy; simp [PyData.eqvAll]
  | n, m, [], b :: bs, xs, ys, ha, hb, hx, hy => by
    cases hx
    unfold Clns at hb
    obtain ⟨z, h1, _⟩ := Cln.py hb.1
    obtain ⟨zs, h2, _⟩ := Clns.py hb.2
    simp [D.pys, h1, h2] at hy
    subst hy
    simp [PyData.eqvAll]
  | n, m, a :: as, [], xs, ys, ha, hb, hx, hy => by
    cases hy
    unfold Clns at ha
    obtain ⟨z, h1, _⟩ := Cln.py ha.1
    obtain ⟨zs, h2, _⟩ := Clns.py ha.2
    simp [D.pys, h1, h2] at hx
    subst hx
    simp [PyData.eqvAll]
  | n, m, a :: as, b :: bs, xs, ys, ha, hb, hx, hy => by
    unfold Clns at ha hb
    obtain ⟨x, h1, _⟩ := Cln.py ha.1
    obtain ⟨xs', h2, _⟩ := Clns.py ha.2
    obtain ⟨y, h3, _⟩ := Cln.py hb.1
    obtain ⟨ys', h4, _⟩ := Clns.py hb.2
    simp [D.pys, h1, h2] at hx
    simp [D.pys, h3, h4] at hy
    subst hx
    subst hy
    have e1 := eqv_iff ha.1 hb.1 h1 h3
    have e2 := eqvs_iff ha.2 hb.2 h2 h4
    simp only [PyData.eqvAll, Bool.and_eq_true, List.cons.injEq]
    rw [e1, e2]
end
theorem eqD_cln {n m : Nat} {a b : D} (ha : Cln n a) (hb : Cln m b) (hn : n < 60) (hm : m < 60) : ∃ r, eqD a b = some r ∧ (r = true ↔ a = b) := by
  obtain ⟨x, h1, h2, h3⟩ := ha.py
  obtain ⟨y, h4, h5, h6⟩ := hb.py
  refine ⟨PyData.eqv x y, ?_, eqv_iff ha hb h1 h4⟩
  unfold eqD
  rw [h1, h4]
  have s1 : SeqAt.shaped x = true := by simp [SeqAt.shaped, h2]; omega
  have s2 : SeqAt.shaped y = true := by simp [SeqAt.shaped, h5]; omega
  simp only [s1, s2, and_self, if_true]
theorem eqD_self {n : Nat} {a : D} (ha : Cln n a) (hn : n < 60) : eqD a a = some true := by
  obtain ⟨r, h1, h2⟩ := eqD_cln ha ha hn hn
  rw [h1, h2.mpr rfl]
theorem oEq_self {n : Nat} {a : D} (ha : Cln n a) (hn : n < 60) : oEq a a = some (.bl true) := by unfold oEq; rw [eqD_self ha hn]; rfl
theorem oNe_self {n : Nat} {a : D} (ha : Cln n a) (hn : n < 60) : oNe a a = some (.bl false) := by unfold oNe; rw [eqD_self ha hn]; rfl
@[simp] theorem ev_eqI {i j : Int} : oEq (.int i) (.int j) = some (.bl (i == j)) := by
  have h : eqD (.int i) (.int j) = some (i == j) := by
    unfold eqD
    simp [D.py, SeqAt.shaped, PyData.canLay0, PyData.depth, PyData.eqv]
  unfold oEq; rw [h]; rfl
@[simp] theorem ev_neI {i j : Int} : oNe (.int i) (.int j) = some (.bl (!(i == j))) := by
  have h : eqD (.int i) (.int j) = some (i == j) := by
    unfold eqD
    simp [D.py, SeqAt.shaped, PyData.canLay0, PyData.depth, PyData.eqv]
  unfold oNe; rw [h]; rfl
/-! ### slices, ranges -/
theorem cutD_nn {xs : List D} {a b : Int} (ha : 0 ≤ a) (hb : 0 ≤ b) : cutD xs (some a) (some b) = (xs.drop a.toNat).take (b.toNat - a.toNat) := by
  unfold cutD
  obtain ⟨m, rfl⟩ := Int.eq_ofNat_of_zero_le ha
  obtain ⟨n, rfl⟩ := Int.eq_ofNat_of_zero_le hb
  rw [show (some ((m : Nat) : Int)) = some ((m : Nat) : Int) from rfl, HT.sIx_nat, HT.sIx_nat]
  simp only [Int.toNat_natCast]
  by_cases h : m ≤ xs.length
  · rw [Nat.min_eq_left h]
    by_cases h2 : n ≤ xs.length
    · rw [Nat.min_eq_left h2]
    · rw [Nat.min_eq_right (by omega), List.take_of_length_le (by simp), List.take_of_length_le (by simp; omega)]
  · rw [List.drop_of_length_le (by omega), List.drop_of_length_le (by omega)]
    simp
theorem rngD_length {lo : Int} {n : Nat} : (rngD lo n).length = n := by simp [rngD]
theorem rngD_get {lo : Int} {n i : Nat} {d : D} (h : (rngD lo n)[i]? = some d) : i < n ∧ d = .int (lo + i) := by
  simp only [rngD, List.getElem?_map, Option.map_eq_some_iff] at h
  obtain ⟨j, hj, rfl⟩ := h
  rw [List.getElem?_eq_some_iff] at hj
  obtain ⟨h, e⟩ := hj
  rw [List.getElem_range] at e
  rw [List.length_range] at h
  exact ⟨h, by rw [e]⟩
theorem r62 {j : Int} (h : 0 ≤ j) (h2 : j < 2 ^ 62) : R62 j := ⟨by omega, h2⟩
end PL
namespace PL
open PySem PySem.Spec PyProof.Rows L2
/-- range(0, n, s) -/
theorem rng0 {n s : Nat} (hs : 0 < s) (hs2 : s < 1000000) (hn : n < 100000000) : oRng [.int 0, .int n, .int s] = some ((List.range ((n + s - 1) / s)).map fun (i : Nat) => .int ((i : Int) * (s : Int))) := by
  have e : Builtin.Range.rangeSize 0 n s = ((n + s - 1) / s : Nat) := by
    unfold Builtin.Range.rangeSize
    rw [if_pos (by omega)]
    by_cases h : (0 : Int) < n
    · rw [if_pos h]
      have h1 : n + s - 1 = (n - 1) + s := by omega
      rw [h1, Nat.add_div_right _ hs]
      have h2 : ((n : Int) - 0 - 1) = ((n - 1 : Nat) : Int) := by omega
      rw [h2]
      push_cast
      rfl
    · rw [if_neg h]
      have : n = 0 := by omega
      subst this
      rw [Nat.zero_add, Nat.div_eq_of_lt (by omega)]; rfl
  have c1 : ((s : Int) ≠ 0) := by omega
  have c2 : (s : Int).natAbs < 1073741824 := by omega
  have c3 : Builtin.Range.small 0 n s = true := by
    have hq : (n + s - 1) / s ≤ n + s := Nat.le_trans (Nat.div_le_self _ _) (by omega)
    unfold Builtin.Range.small
    rw [e]
    generalize (n + s - 1) / s = q at hq
    have f : ∀ z : Int, -(2 ^ 63) ≤ z → z < 2 ^ 63 → Builtin.Range.rangeFitsLong z = true := fun z h1 h2 => by
      unfold Builtin.Range.rangeFitsLong
      exact Bool.and_eq_true_iff.mpr ⟨decide_eq_true h1, decide_eq_true h2⟩
    rw [f 0 (by decide) (by decide), f n (by omega) (by omega), f s (by omega) (by omega), f q (by omega) (by omega), if_pos (by omega), f _ (by omega) (by omega)]
    simp
  have er : oRng [.int 0, .int n, .int s] = if CRng 0 n s then some (rngCD 0 s (Builtin.Range.rangeSize 0 n s).toNat) else none := rfl
  rw [er, if_pos ⟨c1, c2, c3, by rw [e]; exact Int.natCast_nonneg _⟩, e, Int.toNat_natCast]
  unfold rngCD
  refine congrArg some (List.map_congr_left fun i _ => ?_)
  simp
end PL
namespace K72
open PySem PySem.Spec PyProof.Rows L2 PL
def top (i : Nat) : Stmt := PySem.Challenge.pw_mendfield_k72_long_rows_woven.main.body.getD i (.Pass ⟨0, 0, 0, 0⟩)
abbrev s_woven : Stmt := top 5
abbrev s_unwoven : Stmt := top 6
abbrev s_cut_rows : Stmt := top 7
abbrev s_law_cell : Stmt := top 9
abbrev s_law_whole : Stmt := top 10
abbrev s_law_row : Stmt := top 11
abbrev s_law_sign : Stmt := top 12
abbrev s_law_alike : Stmt := top 13
abbrev s_law_no_rows : Stmt := top 14
abbrev s_law_woven_right : Stmt := top 15
abbrev s_law_unwoven_right : Stmt := top 16
abbrev s_law_cut_right : Stmt := top 17
abbrev s_law : Stmt := top 18
structure Vw (K : Fg) (mg : Str → Option Value) : Prop where
  free_len : mg "len" = none
  exc_NoRows : ExcOk K mg 17
  free_any : mg "any" = none
  free_range : mg "range" = none
  free_enumerate : mg "enumerate" = none
  free_isinstance : mg "isinstance" = none
  free_int : mg "int" = none
  free_bool : mg "bool" = none
  free_list : mg "list" = none
  free_zip : mg "zip" = none
  catch_MendError : CatchOk K mg [7, 12, 17] 7
  isx_NoRows : IsX K [7, 12, 17] (fun c => subC c 17) (.ref (clsA K 17))
  gloc_NoRows : mg "NoRows" = some (.ref (clsA K 17))
  isx_NoWord : IsX K [7, 12, 17] (fun c => subC c 12) (.ref (clsA K 12))
  gloc_NoWord : mg "NoWord" = some (.ref (clsA K 12))
  isxt_ValueError : IsX K [7, 12, 17] (fun _ => true) (.type "ValueError")
  free_ValueError : mg "ValueError" = none
  free_all : mg "all" = none
  def_woven : ∃ fd, FunD K "woven" "woven" (defArgs s_woven) (defBody s_woven) (defScope s_woven) [] [] (He.fAd K ("woven", none)) fd
  glo_woven : mg "woven" = some (.ref (He.ga K "woven"))
  def_unwoven : ∃ fd, FunD K "unwoven" "unwoven" (defArgs s_unwoven) (defBody s_unwoven) (defScope s_unwoven) [] [] (He.fAd K ("unwoven", none)) fd
  glo_unwoven : mg "unwoven" = some (.ref (He.ga K "unwoven"))
  def_cut_rows : ∃ fd, FunD K "cut_rows" "cut_rows" (defArgs s_cut_rows) (defBody s_cut_rows) (defScope s_cut_rows) [] [] (He.fAd K ("cut_rows", none)) fd
  glo_cut_rows : mg "cut_rows" = some (.ref (He.ga K "cut_rows"))
  def_law_cell : ∃ fd, FunD K "_law_cell" "_law_cell" (defArgs s_law_cell) (defBody s_law_cell) (defScope s_law_cell) [] [] (He.fAd K ("_law_cell", none)) fd
  glo_law_cell : mg "_law_cell" = some (.ref (He.ga K "_law_cell"))
  def_law_whole : ∃ fd, FunD K "_law_whole" "_law_whole" (defArgs s_law_whole) (defBody s_law_whole) (defScope s_law_whole) [] [] (He.fAd K ("_law_whole", none)) fd
  glo_law_whole : mg "_law_whole" = some (.ref (He.ga K "_law_whole"))
  def_law_row : ∃ fd, FunD K "_law_row" "_law_row" (defArgs s_law_row) (defBody s_law_row) (defScope s_law_row) [] [] (He.fAd K ("_law_row", none)) fd
  glo_law_row : mg "_law_row" = some (.ref (He.ga K "_law_row"))
  def_law_sign : ∃ fd, FunD K "_law_sign" "_law_sign" (defArgs s_law_sign) (defBody s_law_sign) (defScope s_law_sign) [] [] (He.fAd K ("_law_sign", none)) fd
  glo_law_sign : mg "_law_sign" = some (.ref (He.ga K "_law_sign"))
  def_law_alike : ∃ fd, FunD K "_law_alike" "_law_alike" (defArgs s_law_alike) (defBody s_law_alike) (defScope s_law_alike) [] [] (He.fAd K ("_law_alike", none)) fd
  glo_law_alike : mg "_law_alike" = some (.ref (He.ga K "_law_alike"))
  def_law_no_rows : ∃ fd, FunD K "_law_no_rows" "_law_no_rows" (defArgs s_law_no_rows) (defBody s_law_no_rows) (defScope s_law_no_rows) [] [] (He.fAd K ("_law_no_rows", none)) fd
  glo_law_no_rows : mg "_law_no_rows" = some (.ref (He.ga K "_law_no_rows"))
  def_law_woven_right : ∃ fd, FunD K "_law_woven_right" "_law_woven_right" (defArgs s_law_woven_right) (defBody s_law_woven_right) (defScope s_law_woven_right) [] [] (He.fAd K ("_law_woven_right", none)) fd
  glo_law_woven_right : mg "_law_woven_right" = some (.ref (He.ga K "_law_woven_right"))
  def_law_unwoven_right : ∃ fd, FunD K "_law_unwoven_right" "_law_unwoven_right" (defArgs s_law_unwoven_right) (defBody s_law_unwoven_right) (defScope s_law_unwoven_right) [] [] (He.fAd K ("_law_unwoven_right", none)) fd
  glo_law_unwoven_right : mg "_law_unwoven_right" = some (.ref (He.ga K "_law_unwoven_right"))
  def_law_cut_right : ∃ fd, FunD K "_law_cut_right" "_law_cut_right" (defArgs s_law_cut_right) (defBody s_law_cut_right) (defScope s_law_cut_right) [] [] (He.fAd K ("_law_cut_right", none)) fd
  glo_law_cut_right : mg "_law_cut_right" = some (.ref (He.ga K "_law_cut_right"))
  def_law : ∃ fd, FunD K "law" "law" (defArgs s_law) (defBody s_law) (defScope s_law) [] [] (He.fAd K ("law", none)) fd
  glo_law : mg "law" = some (.ref (He.ga K "law"))
section
variable {P : Program} {w : World} {K : Fg} {mg : Str → Option Value} {base : Heap}
theorem sc_woven : FnScope ["rows", "signs", "at", "row"] ["rows"] (defScope s_woven) := ⟨rfl, rfl, rfl, by decide +kernel, rfl, by decide +kernel, by decide +kernel⟩
noncomputable def e1_woven : PL.Env → Res D := (d2 oNe (dB oLen (dCons (dV 3) dNil)) (dB oLen (dCons (d2 oIx (dV 0) (dC (.int 0))) dNil)))
noncomputable def b1_woven : PL.Env → PL.Flow := (gMut 1 (dCons (d2 oIx (dV 3) (dV 2)) dNil) oAppend)
noncomputable def b2_woven : PL.Env → PL.Flow := (gFor (dSeq (dV 0)) (bN 3) b1_woven)
noncomputable def d_woven : PL.Env → PL.Flow := (gSeq (gIf (dB1 (d2 oEq (dB oLen (dCons (dV 0) dNil)) (dC (.int 0)))) (fun ρ => .ex ⟨17, []⟩ ρ) (fun ρ => .nx ρ))
    (gSeq (gIf (dB1 (dB oAny (dCons (dL (dLc (dSeq (dV 0)) (bN 3) dYes e1_woven [3])) dNil))) (fun ρ => .ex ⟨17, []⟩ ρ) (fun ρ => .nx ρ))
    (gSeq (gAsgL 1 (dLst dNil))
    (gSeq (gFor (dRng (dCons (dB oLen (dCons (d2 oIx (dV 0) (dC (.int 0))) dNil)) dNil)) (bN 2) b2_woven)
    (gRet (dV 1))))))
noncomputable def F_woven : List D → Res D := runB 1 4 d_woven
theorem fo_woven (V : Vw K mg) {fd : FuncData} (F : FunD K "woven" "woven" (defArgs s_woven) (defBody s_woven) (defScope s_woven) [] [] (He.fAd K ("woven", none)) fd) : FnOk P w K mg base (L2.CX P w) 1 (He.fAd K ("woven", none)) fd ["rows"] (spD K 1 true F_woven) := by
  refine fn_mk (k := 0) (own' := [1]) F sc_woven rfl (fun cdv A outer s H E hr => ?_)
  have q : QB (cxOf (L2.CX P w) P w K mg base ["rows", "signs", "at", "row"] "woven" (defScope s_woven) (He.fAd K ("woven", none)) cdv A outer s H E) (fun c d _ H => E c d H) true [] [] (defBody s_woven) _ d_woven [1] :=
    (b_cons (s_if (t_eq (hu64 hr) (QE.r (q_len (V.free_len) (QL.r (qvl 0)))) (QE.r q_int)) (b_one (s_raise 17 (V.exc_NoRows) rfl (takes_of rfl rfl rfl rfl))) b_nil)
      (b_cons (s_if (t_val (QE.r (q_any rfl (V.free_any) (QE.r (QF.toE (q_lc (oN := [("row", 3)]) rfl sc_woven.nd (qc_seq (qvl 0)) (blkOk_by (by kernel_rfl)) (fun _ _ _ _ _ => (g_name 3 sc_woven.nd)) (fun _ _ _ _ _ => ts_nil) (fun _ _ _ _ _ => (q_ne (hu64 hr) (QE.r (q_len (V.free_len) (QL.r (qvl 3)))) (QE.r (q_len (V.free_len) (QE.r (q_ix (qvl 0) (QE.r q_int))))))))))))) (b_one (s_raise 17 (V.exc_NoRows) rfl (takes_of rfl rfl rfl rfl))) b_nil)
      (b_cons (s_setF 1 sc_woven.nd (q_lst qa_nil) (own' := [1]))
      (b_cons (s_for (passes_of rfl) rfl (qi_rng1 (V.free_range) (QE.r (q_len (V.free_len) (QE.r (q_ix (qvl 0) (QE.r q_int)))))) (g_name 2 sc_woven.nd) (b_one (s_for (passes_of rfl) rfl (qi_seq (qv 0)) (g_name 3 sc_woven.nd) (b_one (s_mut 1 PySem.F.slot_list_append PySem.F.type_list_append mt_append mS_append (qa_cons (q_ix (qvl 3) (QL.r (qvl 2))) qa_nil))))))
      (b_one (s_retV 1))))))
  exact ⟨_, q.p, q.s⟩
theorem ok_woven (V : Vw K mg) : Cal P w K mg base "woven" 1 1 true F_woven := by
  obtain ⟨fd, F⟩ := V.def_woven
  exact ⟨⟨_, fd, ["rows"], fo_woven V F, V.glo_woven, F.kp, F.bindsN fun _ _ _ _ _ _ us hl => match us, hl with | [_], _ => rfl⟩, runB_len⟩
theorem sc_unwoven : FnScope ["signs", "many", "rows", "at", "sign", "number"] ["signs", "many"] (defScope s_unwoven) := ⟨rfl, rfl, rfl, by decide +kernel, rfl, by decide +kernel, by decide +kernel⟩
noncomputable def b1_unwoven : PL.Env → PL.Flow := (gMutN 2 (d2 oMod (dV 3) (dV 1)) (dCons (dV 4) dNil) oAppend)
noncomputable def d_unwoven : PL.Env → PL.Flow := (gSeq (gIf (dOrT (dB1 (d2 oLt (dV 1) (dC (.int 1)))) (dB1 (d2 oNe (d2 oMod (dB oLen (dCons (dV 0) dNil)) (dV 1)) (dC (.int 0))))) (fun ρ => .ex ⟨17, []⟩ ρ) (fun ρ => .nx ρ))
    (gSeq (gAsgL 2 (dLc (dRng (dCons (dV 1) dNil)) (bN 5) dYes (dL (dLst dNil)) [5]))
    (gSeq (gForN 2 (dEnum (dV 0)) (bTup 2 (bCons (bN 3) (bCons (bN 4) bNil))) b1_unwoven)
    (gRet (dV 2)))))
noncomputable def F_unwoven : List D → Res D := runB 2 6 d_unwoven
theorem fo_unwoven (V : Vw K mg) {fd : FuncData} (F : FunD K "unwoven" "unwoven" (defArgs s_unwoven) (defBody s_unwoven) (defScope s_unwoven) [] [] (He.fAd K ("unwoven", none)) fd) : FnOk P w K mg base (L2.CX P w) 1 (He.fAd K ("unwoven", none)) fd ["signs", "many"] (spD K 2 true F_unwoven) := by
  refine fn_mk (k := 0) (own' := [2]) F sc_unwoven rfl (fun cdv A outer s H E hr => ?_)
  have q : QB (cxOf (L2.CX P w) P w K mg base ["signs", "many", "rows", "at", "sign", "number"] "unwoven" (defScope s_unwoven) (He.fAd K ("unwoven", none)) cdv A outer s H E) (fun c d _ H => E c d H) true [] [] (defBody s_unwoven) _ d_unwoven [2] :=
    (b_cons (s_if (QW.t (w_or (t_lt (QL.r (qvl 1)) (QE.r q_int)) (w_or1 (t_ne (hu64 hr) (QE.r (q_mod (QE.r (q_len (V.free_len) (QL.r (qvl 0)))) (QL.r (qvl 1)))) (QE.r q_int))))) (b_one (s_raise 17 (V.exc_NoRows) rfl (takes_of rfl rfl rfl rfl))) b_nil)
      (b_nestLc 2 (oN := [("number", 5)]) (own := []) rfl sc_unwoven.nd (qi_rng1 (V.free_range) (QL.r (qvl 1))) (blkOk_by (by kernel_rfl)) (fun _ _ _ _ _ => (g_name 5 sc_unwoven.nd)) (fun _ _ _ _ _ => ts_nil) (fun _ _ _ _ _ => (q_lst qa_nil)) (sw_true rfl rfl rfl (by kernel_rfl)) (nb_next (n_for (passes_of rfl) rfl (qi_enum (V.free_enumerate) (qv 0)) (g_tup rfl (gs_cons (g_name 3 sc_unwoven.nd) (gs_cons (g_name 4 sc_unwoven.nd) gs_nil))) (bn_one (n_mut 2 PySem.F.slot_list_append PySem.F.type_list_append mt_append mS_append (QE.r (q_mod (QL.r (qvl 3)) (QL.r (qvl 1)))) (qa_cons (qv 4) qa_nil))))
      (nb_end (b_one (s_retV 2))))))
  exact ⟨_, q.p, q.s⟩
theorem ok_unwoven (V : Vw K mg) : Cal P w K mg base "unwoven" 1 2 true F_unwoven := by
  obtain ⟨fd, F⟩ := V.def_unwoven
  exact ⟨⟨_, fd, ["signs", "many"], fo_unwoven V F, V.glo_unwoven, F.kp, F.bindsN fun _ _ _ _ _ _ us hl => match us, hl with | [_, _], _ => rfl⟩, runB_len⟩
theorem sc_cut_rows : FnScope ["signs", "size", "rows", "at", "row"] ["signs", "size"] (defScope s_cut_rows) := ⟨rfl, rfl, rfl, by decide +kernel, rfl, by decide +kernel, by decide +kernel⟩
noncomputable def t1_cut_rows : PL.Env → Res Bool := (dB1 (d2 oLt (dB oLen (dCons (dV 4) dNil)) (dV 1)))
noncomputable def b1_cut_rows : PL.Env → PL.Flow := (gMut 4 (dCons (dC (.int 0)) dNil) oAppend)
noncomputable def b2_cut_rows : PL.Env → PL.Flow := (gSeq (gAsgL 4 (dSl (dV 0) (dPart (dV 3)) (dPart (d2 oAdd (dV 3) (dV 1)))))
    (gSeq (gWhile t1_cut_rows b1_cut_rows)
    (gMut 2 (dCons (dV 4) dNil) oAppend)))
noncomputable def d_cut_rows : PL.Env → PL.Flow := (gSeq (gAsgL 2 (dLst dNil))
    (gSeq (gFor (dRng (dCons (dC (.int 0)) (dCons (dB oLen (dCons (dV 0) dNil)) (dCons (dV 1) dNil)))) (bN 3) b2_cut_rows)
    (gRet (dV 2))))
noncomputable def F_cut_rows : List D → Res D := runB 2 5 d_cut_rows
theorem fo_cut_rows (V : Vw K mg) {fd : FuncData} (F : FunD K "cut_rows" "cut_rows" (defArgs s_cut_rows) (defBody s_cut_rows) (defScope s_cut_rows) [] [] (He.fAd K ("cut_rows", none)) fd) : FnOk P w K mg base (L2.CX P w) 1 (He.fAd K ("cut_rows", none)) fd ["signs", "size"] (spD K 2 true F_cut_rows) := by
  refine fn_mk (k := 0) (own' := [2]) F sc_cut_rows rfl (fun cdv A outer s H E hr => ?_)
  have q : QB (cxOf (L2.CX P w) P w K mg base ["signs", "size", "rows", "at", "row"] "cut_rows" (defScope s_cut_rows) (He.fAd K ("cut_rows", none)) cdv A outer s H E) (fun c d _ H => E c d H) true [] [] (defBody s_cut_rows) _ d_cut_rows [2] :=
    (b_cons (s_setF 2 sc_cut_rows.nd (q_lst qa_nil) (own' := [2]))
      (b_cons (s_for (passes_of rfl) rfl (qi_rng3 (V.free_range) (QE.r q_int) (QE.r (q_len (V.free_len) (QL.r (qvl 0)))) (QL.r (qvl 1))) (g_name 3 sc_cut_rows.nd) (b_cons (s_setF 4 sc_cut_rows.nd (q_slice (qvl 0) (qo_some (QL.r (qvl 3))) (qo_some (QE.r (q_add (QL.r (qvl 3)) (QL.r (qvl 1)))))) (own' := [4, 2]))
      (b_cons (s_while (passes_of rfl) (t_lt (QE.r (q_len (V.free_len) (QL.r (qvl 4)))) (QL.r (qvl 1))) (b_one (s_mut 4 PySem.F.slot_list_append PySem.F.type_list_append mt_append mS_append (qa_cons q_int qa_nil))))
      (b_one (QS.pre [2] (s_mut 2 PySem.F.slot_list_append PySem.F.type_list_append mt_append mS_append (qa_cons (qv 4) qa_nil)))))))
      (b_one (s_retV 2))))
  exact ⟨_, q.p, q.s⟩
theorem ok_cut_rows (V : Vw K mg) : Cal P w K mg base "cut_rows" 1 2 true F_cut_rows := by
  obtain ⟨fd, F⟩ := V.def_cut_rows
  exact ⟨⟨_, fd, ["signs", "size"], fo_cut_rows V F, V.glo_cut_rows, F.kp, F.bindsN fun _ _ _ _ _ _ us hl => match us, hl with | [_, _], _ => rfl⟩, runB_len⟩
theorem sc_law_cell : FnScope ["script", "k"] ["script", "k"] (defScope s_law_cell) := ⟨rfl, rfl, rfl, by decide +kernel, rfl, by decide +kernel, by decide +kernel⟩
noncomputable def d_law_cell : PL.Env → PL.Flow := (gSeq (gIf (dB1 (d2 oLt (dV 1) (dB oLen (dCons (dV 0) dNil)))) (gRet (d2 oIx (dV 0) (dV 1))) (fun ρ => .nx ρ))
    (gRet (dC (.int 0))))
noncomputable def F_law_cell : List D → Res D := runB 2 2 d_law_cell
theorem fo_law_cell (V : Vw K mg) {fd : FuncData} (F : FunD K "_law_cell" "_law_cell" (defArgs s_law_cell) (defBody s_law_cell) (defScope s_law_cell) [] [] (He.fAd K ("_law_cell", none)) fd) : FnOk P w K mg base (L2.CX P w) 1 (He.fAd K ("_law_cell", none)) fd ["script", "k"] (spD K 2 false F_law_cell) := by
  refine fn_mk (k := 0) (own' := []) F sc_law_cell rfl (fun cdv A outer s H E hr => ?_)
  have q : QB (cxOf (L2.CX P w) P w K mg base ["script", "k"] "_law_cell" (defScope s_law_cell) (He.fAd K ("_law_cell", none)) cdv A outer s H E) (fun c d _ H => E c d H) false [] [] (defBody s_law_cell) _ d_law_cell [] :=
    (b_cons (s_if (t_lt (QL.r (qvl 1)) (QE.r (q_len (V.free_len) (QL.r (qvl 0))))) (b_one (s_ret (q_ix (qvl 0) (QL.r (qvl 1))))) b_nil)
      (b_one (s_ret q_int)))
  exact ⟨_, q.p, q.s⟩
theorem ok_law_cell (V : Vw K mg) : Cal P w K mg base "_law_cell" 1 2 false F_law_cell := by
  obtain ⟨fd, F⟩ := V.def_law_cell
  exact ⟨⟨_, fd, ["script", "k"], fo_law_cell V F, V.glo_law_cell, F.kp, F.bindsN fun _ _ _ _ _ _ us hl => match us, hl with | [_, _], _ => rfl⟩, runB_len⟩
theorem sc_law_whole : FnScope ["x"] ["x"] (defScope s_law_whole) := ⟨rfl, rfl, rfl, by decide +kernel, rfl, by decide +kernel, by decide +kernel⟩
noncomputable def d_law_whole : PL.Env → PL.Flow := (gRet (dAndV (d1 (oIsTy "int") (dV 0)) (d1 oNot (d1 (oIsTy "bool") (dV 0)))))
noncomputable def F_law_whole : List D → Res D := runB 1 1 d_law_whole
theorem fo_law_whole (V : Vw K mg) {fd : FuncData} (F : FunD K "_law_whole" "_law_whole" (defArgs s_law_whole) (defBody s_law_whole) (defScope s_law_whole) [] [] (He.fAd K ("_law_whole", none)) fd) : FnOk P w K mg base (L2.CX P w) 1 (He.fAd K ("_law_whole", none)) fd ["x"] (spD K 1 false F_law_whole) := by
  refine fn_mk (k := 0) (own' := []) F sc_law_whole rfl (fun cdv A outer s H E hr => ?_)
  have q : QB (cxOf (L2.CX P w) P w K mg base ["x"] "_law_whole" (defScope s_law_whole) (He.fAd K ("_law_whole", none)) cdv A outer s H E) (fun c d _ H => E c d H) false [] [] (defBody s_law_whole) _ d_law_whole [] :=
    (b_one (s_ret (q_andV (QE.r (q_isTy "int" (V.free_isinstance) (V.free_int) (QL.r (qvl 0)))) (q_one (q_notV (QE.r (q_isTy "bool" (V.free_isinstance) (V.free_bool) (QL.r (qvl 0)))))))))
  exact ⟨_, q.p, q.s⟩
theorem ok_law_whole (V : Vw K mg) : Cal P w K mg base "_law_whole" 1 1 false F_law_whole := by
  obtain ⟨fd, F⟩ := V.def_law_whole
  exact ⟨⟨_, fd, ["x"], fo_law_whole V F, V.glo_law_whole, F.kp, F.bindsN fun _ _ _ _ _ _ us hl => match us, hl with | [_], _ => rfl⟩, runB_len⟩
theorem sc_law_row : FnScope ["script", "k", "many", "size", "cell", "rest", "found", "i", "number"] ["script", "k", "many", "size"] (defScope s_law_row) := ⟨rfl, rfl, rfl, by decide +kernel, rfl, by decide +kernel, by decide +kernel⟩
noncomputable def b1_law_row : PL.Env → PL.Flow := (gSeq (gAsg (bN 8) (d2 oMod (d2 oMul (d2 oAdd (d2 oAdd (d2 oAdd (d2 oMod (dV 4) (dC (.int 2147483647))) (d2 oMul (dC (.int 7919)) (dV 7))) (d2 oMul (dC (.int 104729)) (dV 1))) (dC (.int 1))) (dC (.int 48271))) (dC (.int 2147483647))))
    (gSeq (gAsg (bN 8) (d2 oMod (d2 oMul (dV 8) (dC (.int 39373))) (dC (.int 2147483629))))
    (gSeq (gAsg (bN 8) (d2 oFdiv (d2 oMod (d2 oMul (dV 8) (d2 oAdd (d2 oAdd (d2 oFdiv (dV 8) (dC (.int 1009))) (dC (.int 7919))) (dV 7))) (dC (.int 2147483629))) (dC (.int 7))))
    (gSeq (gIf (dAndT (dB1 (d2 oGe (dV 4) (d2 oPow (dC (.int 10)) (dC (.int 18))))) (dB1 (d2 oGt (dV 5) (dC (.int 0))))) (gSeq (gAsg (bN 8) (dV 5))
    (gAsg (bN 5) (d2 oFdiv (dV 5) (dV 3)))) (fun ρ => .nx ρ))
    (gMut 6 (dCons (d2 oMod (dV 8) (dV 3)) dNil) oAppend)))))
noncomputable def d_law_row : PL.Env → PL.Flow := (gSeq (gAsg (bN 4) (dCall F_law_cell (dCons (dV 0) (dCons (dV 1) dNil))))
    (gSeq (gAsg (bN 5) (dV 4))
    (gSeq (gAsgL 6 (dLst dNil))
    (gSeq (gFor (dRng (dCons (dV 2) dNil)) (bN 7) b1_law_row)
    (gRet (dV 6))))))
noncomputable def F_law_row : List D → Res D := runB 4 9 d_law_row
theorem fo_law_row (V : Vw K mg) {fd : FuncData} (F : FunD K "_law_row" "_law_row" (defArgs s_law_row) (defBody s_law_row) (defScope s_law_row) [] [] (He.fAd K ("_law_row", none)) fd) : FnOk P w K mg base (L2.CX P w) 2 (He.fAd K ("_law_row", none)) fd ["script", "k", "many", "size"] (spD K 4 true F_law_row) := by
  refine fn_mk (k := 1) (own' := [6]) F sc_law_row rfl (fun cdv A outer s H E hr => ?_)
  have q : QB (cxOf (L2.CX P w) P w K mg base ["script", "k", "many", "size", "cell", "rest", "found", "i", "number"] "_law_row" (defScope s_law_row) (He.fAd K ("_law_row", none)) cdv A outer s H E) (fun c d _ H => E c d H) true [] [] (defBody s_law_row) _ d_law_row [6] :=
    (b_cons (s_set 4 sc_law_row.nd (q_call (ok_law_cell V) (hr.mono (by decide)) (takes_of rfl rfl rfl rfl) (qa_cons (qv 0) (qa_cons (qv 1) qa_nil))) (own' := []))
      (b_cons (s_set 5 sc_law_row.nd (qv 4) (own' := []))
      (b_cons (s_setF 6 sc_law_row.nd (q_lst qa_nil) (own' := [6]))
      (b_cons (s_for (passes_of rfl) rfl (qi_rng1 (V.free_range) (QL.r (qvl 2))) (g_name 7 sc_law_row.nd) (b_cons (s_set 8 sc_law_row.nd (q_mod (QE.r (q_mul (QE.r (q_add (QE.r (q_add (QE.r (q_add (QE.r (q_mod (QL.r (qvl 4)) (QE.r q_int))) (QE.r (q_mul (QE.r q_int) (QL.r (qvl 7)))))) (QE.r (q_mul (QE.r q_int) (QL.r (qvl 1)))))) (QE.r q_int))) (QE.r q_int))) (QE.r q_int)) (own' := [6]))
      (b_cons (s_set 8 sc_law_row.nd (q_mod (QE.r (q_mul (QL.r (qvl 8)) (QE.r q_int))) (QE.r q_int)) (own' := [6]))
      (b_cons (s_set 8 sc_law_row.nd (q_fdiv (QE.r (q_mod (QE.r (q_mul (QL.r (qvl 8)) (QE.r (q_add (QE.r (q_add (QE.r (q_fdiv (QL.r (qvl 8)) (QE.r q_int))) (QE.r q_int))) (QL.r (qvl 7)))))) (QE.r q_int))) (QE.r q_int)) (own' := [6]))
      (b_cons (s_if (QW.t (w_and (t_ge (QL.r (qvl 4)) (QE.r (q_pow (QE.r q_int) (QE.r q_int)))) (w_and1 (t_gt (QL.r (qvl 5)) (QE.r q_int))))) (b_cons (s_set 8 sc_law_row.nd (qv 5) (own' := [6]))
      (b_one (s_set 5 sc_law_row.nd (q_fdiv (QL.r (qvl 5)) (QL.r (qvl 3))) (own' := [6])))) b_nil)
      (b_one (s_mut 6 PySem.F.slot_list_append PySem.F.type_list_append mt_append mS_append (qa_cons (q_mod (QL.r (qvl 8)) (QL.r (qvl 3))) qa_nil))))))))
      (b_one (s_retV 6))))))
  exact ⟨_, q.p, q.s⟩
theorem ok_law_row (V : Vw K mg) : Cal P w K mg base "_law_row" 2 4 true F_law_row := by
  obtain ⟨fd, F⟩ := V.def_law_row
  exact ⟨⟨_, fd, ["script", "k", "many", "size"], fo_law_row V F, V.glo_law_row, F.kp, F.bindsN fun _ _ _ _ _ _ us hl => match us, hl with | [_, _, _, _], _ => rfl⟩, runB_len⟩
theorem sc_law_sign : FnScope ["number"] ["number"] (defScope s_law_sign) := ⟨rfl, rfl, rfl, by decide +kernel, rfl, by decide +kernel, by decide +kernel⟩
noncomputable def d_law_sign : PL.Env → PL.Flow := (gSeq (gIf (dB1 (d2 oEq (d2 oMod (dV 0) (dC (.int 65))) (dC (.int 64)))) (gRet (dC .non)) (fun ρ => .nx ρ))
    (gRet (d2 oMod (dV 0) (dC (.int 65)))))
noncomputable def F_law_sign : List D → Res D := runB 1 1 d_law_sign
theorem fo_law_sign (V : Vw K mg) {fd : FuncData} (F : FunD K "_law_sign" "_law_sign" (defArgs s_law_sign) (defBody s_law_sign) (defScope s_law_sign) [] [] (He.fAd K ("_law_sign", none)) fd) : FnOk P w K mg base (L2.CX P w) 1 (He.fAd K ("_law_sign", none)) fd ["number"] (spD K 1 false F_law_sign) := by
  refine fn_mk (k := 0) (own' := []) F sc_law_sign rfl (fun cdv A outer s H E hr => ?_)
  have q : QB (cxOf (L2.CX P w) P w K mg base ["number"] "_law_sign" (defScope s_law_sign) (He.fAd K ("_law_sign", none)) cdv A outer s H E) (fun c d _ H => E c d H) false [] [] (defBody s_law_sign) _ d_law_sign [] :=
    (b_cons (s_if (t_eq (hu64 hr) (QE.r (q_mod (QL.r (qvl 0)) (QE.r q_int))) (QE.r q_int)) (b_one (s_ret q_non)) b_nil)
      (b_one (s_ret (q_mod (QL.r (qvl 0)) (QE.r q_int)))))
  exact ⟨_, q.p, q.s⟩
theorem ok_law_sign (V : Vw K mg) : Cal P w K mg base "_law_sign" 1 1 false F_law_sign := by
  obtain ⟨fd, F⟩ := V.def_law_sign
  exact ⟨⟨_, fd, ["number"], fo_law_sign V F, V.glo_law_sign, F.kp, F.bindsN fun _ _ _ _ _ _ us hl => match us, hl with | [_], _ => rfl⟩, runB_len⟩
theorem sc_law_alike : FnScope ["found", "due", "one", "other"] ["found", "due"] (defScope s_law_alike) := ⟨rfl, rfl, rfl, by decide +kernel, rfl, by decide +kernel, by decide +kernel⟩
noncomputable def b1_law_alike : PL.Env → PL.Flow := (gIf (dOrT (dB1 (d1 (oIsN false) (dV 2))) (dB1 (d1 (oIsN false) (dV 3)))) (gIf (dOrT (dB1 (d1 (oIsN true) (dV 2))) (dB1 (d1 (oIsN true) (dV 3)))) (gRet (dC (.bl false))) (fun ρ => .nx ρ)) (gIf (dOrT (dNotT (dB1 (dCall F_law_whole (dCons (dV 2) dNil)))) (dB1 (d2 oNe (dV 2) (dV 3)))) (gRet (dC (.bl false))) (fun ρ => .nx ρ)))
noncomputable def d_law_alike : PL.Env → PL.Flow := (gSeq (gIf (dOrT (dNotT (dB1 (d1 (oIsTy "list") (dV 0)))) (dB1 (d2 oNe (dB oLen (dCons (dV 0) dNil)) (dB oLen (dCons (dV 1) dNil))))) (gRet (dC (.bl false))) (fun ρ => .nx ρ))
    (gSeq (gFor (dZip (dV 0) (dV 1)) (bTup 2 (bCons (bN 2) (bCons (bN 3) bNil))) b1_law_alike)
    (gRet (dC (.bl true)))))
noncomputable def F_law_alike : List D → Res D := runB 2 4 d_law_alike
theorem fo_law_alike (V : Vw K mg) {fd : FuncData} (F : FunD K "_law_alike" "_law_alike" (defArgs s_law_alike) (defBody s_law_alike) (defScope s_law_alike) [] [] (He.fAd K ("_law_alike", none)) fd) : FnOk P w K mg base (L2.CX P w) 2 (He.fAd K ("_law_alike", none)) fd ["found", "due"] (spD K 2 false F_law_alike) := by
  refine fn_mk (k := 1) (own' := []) F sc_law_alike rfl (fun cdv A outer s H E hr => ?_)
  have q : QB (cxOf (L2.CX P w) P w K mg base ["found", "due", "one", "other"] "_law_alike" (defScope s_law_alike) (He.fAd K ("_law_alike", none)) cdv A outer s H E) (fun c d _ H => E c d H) false [] [] (defBody s_law_alike) _ d_law_alike [] :=
    (b_cons (s_if (QW.t (w_or (t_not (t_val (QE.r (q_isTy "list" (V.free_isinstance) (V.free_list) (QL.r (qvl 0)))))) (w_or1 (t_ne (hu64 hr) (QE.r (q_len (V.free_len) (QL.r (qvl 0)))) (QE.r (q_len (V.free_len) (QL.r (qvl 1)))))))) (b_one (s_ret q_bl)) b_nil)
      (b_cons (s_for (passes_of rfl) rfl (qi_zip (V.free_zip) (qv 0) (qv 1)) (g_tup rfl (gs_cons (g_name 2 sc_law_alike.nd) (gs_cons (g_name 3 sc_law_alike.nd) gs_nil))) (b_one (s_if (QW.t (w_or (t_isN (QL.r (qvl 2))) (w_or1 (t_isN (QL.r (qvl 3)))))) (b_one (s_if (QW.t (w_or (t_notN (QL.r (qvl 2))) (w_or1 (t_notN (QL.r (qvl 3)))))) (b_one (s_ret q_bl)) b_nil)) (b_one (s_if (QW.t (w_or (t_not (t_val (QE.r (q_call (ok_law_whole V) (hr.mono (by decide)) (takes_of rfl rfl rfl rfl) (qa_cons (qv 2) qa_nil))))) (w_or1 (t_ne (hu64 hr) (QL.r (qvl 2)) (QL.r (qvl 3)))))) (b_one (s_ret q_bl)) b_nil)))))
      (b_one (s_ret q_bl))))
  exact ⟨_, q.p, q.s⟩
theorem ok_law_alike (V : Vw K mg) : Cal P w K mg base "_law_alike" 2 2 false F_law_alike := by
  obtain ⟨fd, F⟩ := V.def_law_alike
  exact ⟨⟨_, fd, ["found", "due"], fo_law_alike V F, V.glo_law_alike, F.kp, F.bindsN fun _ _ _ _ _ _ us hl => match us, hl with | [_, _], _ => rfl⟩, runB_len⟩
theorem sc_law_no_rows : FnScope ["rows", "signs", "many", "met", "e"] ["rows", "signs", "many"] (defScope s_law_no_rows) := ⟨rfl, rfl, rfl, by decide +kernel, rfl, by decide +kernel, by decide +kernel⟩
noncomputable def d_law_no_rows : PL.Env → PL.Flow := (gSeq (gAsg (bN 3) (dC .non))
    (gSeq (gTry [7, 12, 17] 7 4 (gIf (dB1 (d1 (oIsN false) (dV 0))) (gDrop (dL (dCallL F_unwoven (dCons (dV 1) (dCons (dV 2) dNil))))) (gDrop (dL (dCallL F_woven (dCons (dV 0) dNil))))) (gAsg (bN 3) (dV 4)))
    (gSeq (gIf (dOrT (dNotT (dB1 (d1 (oIsX [7, 12, 17] fun c => subC c 17) (dV 3)))) (dB1 (d1 (oIsX [7, 12, 17] fun c => subC c 12) (dV 3)))) (gRet (dC (.bl false))) (fun ρ => .nx ρ))
    (gRet (d1 (oIsX [7, 12, 17] fun _ => true) (dV 3))))))
noncomputable def F_law_no_rows : List D → Res D := runB 3 5 d_law_no_rows
theorem fo_law_no_rows (V : Vw K mg) {fd : FuncData} (F : FunD K "_law_no_rows" "_law_no_rows" (defArgs s_law_no_rows) (defBody s_law_no_rows) (defScope s_law_no_rows) [] [] (He.fAd K ("_law_no_rows", none)) fd) : FnOk P w K mg base (L2.CX P w) 2 (He.fAd K ("_law_no_rows", none)) fd ["rows", "signs", "many"] (spD K 3 false F_law_no_rows) := by
  refine fn_mk (k := 1) (own' := []) F sc_law_no_rows rfl (fun cdv A outer s H E hr => ?_)
  have q : QB (cxOf (L2.CX P w) P w K mg base ["rows", "signs", "many", "met", "e"] "_law_no_rows" (defScope s_law_no_rows) (He.fAd K ("_law_no_rows", none)) cdv A outer s H E) (fun c d _ H => E c d H) false [] [] (defBody s_law_no_rows) _ d_law_no_rows [] :=
    (b_cons (s_set 3 sc_law_no_rows.nd q_non (own' := []))
      (b_cons (s_try (own1 := []) (own2 := []) (own' := []) 4 7 (V.catch_MendError) sc_law_no_rows.nd (takes_of rfl rfl rfl rfl) (fun _ _ _ tk po => (b_one (s_if (t_isN (QL.r (qvl 0))) (b_one (s_drop (QF.toE (q_callF (ok_unwoven V) (hr.mono (by decide)) tk (qa_cons (qv 1) (qa_cons (qv 2) qa_nil)))))) (b_one (s_drop (QF.toE (q_callF (ok_woven V) (hr.mono (by decide)) tk (qa_cons (qv 0) qa_nil)))))))) (fun _ _ => (b_one (s_set 3 sc_law_no_rows.nd (qv 4) (own' := [])))))
      (b_cons (s_if (QW.t (w_or (t_not (t_val (QE.r (q_isX 17 (V.isx_NoRows) (V.gloc_NoRows) (V.free_isinstance) (QL.r (qvl 3)))))) (w_or1 (t_val (QE.r (q_isX 12 (V.isx_NoWord) (V.gloc_NoWord) (V.free_isinstance) (QL.r (qvl 3)))))))) (b_one (s_ret q_bl)) b_nil)
      (b_one (s_ret (q_isXT "ValueError" (V.isxt_ValueError) (V.free_ValueError) (V.free_isinstance) (QL.r (qvl 3))))))))
  exact ⟨_, q.p, q.s⟩
theorem ok_law_no_rows (V : Vw K mg) : Cal P w K mg base "_law_no_rows" 2 3 false F_law_no_rows := by
  obtain ⟨fd, F⟩ := V.def_law_no_rows
  exact ⟨⟨_, fd, ["rows", "signs", "many"], fo_law_no_rows V F, V.glo_law_no_rows, F.kp, F.bindsN fun _ _ _ _ _ _ us hl => match us, hl with | [_, _, _], _ => rfl⟩, runB_len⟩
theorem sc_law_woven_right : FnScope ["rows", "handed", "due", "at", "found", "back", "row", "one"] ["rows"] (defScope s_law_woven_right) := ⟨rfl, rfl, rfl, by decide +kernel, rfl, by decide +kernel, by decide +kernel⟩
noncomputable def e1_law_woven_right : PL.Env → Res D := (dL (dList (dV 6)))
noncomputable def e2_law_woven_right : PL.Env → Res D := (d2 oIx (dV 6) (dV 3))
noncomputable def b1_law_woven_right : PL.Env → PL.Flow := (gMut 2 (dCons (dL (dLc (dSeq (dV 0)) (bN 6) dYes e2_law_woven_right [6])) dNil) oExtend)
noncomputable def e3_law_woven_right : PL.Env → Res D := (dCall F_law_alike (dCons (dV 7) (dCons (dV 6) dNil)))
noncomputable def d_law_woven_right : PL.Env → PL.Flow := (gSeq (gAsgL 1 (dLc (dSeq (dV 0)) (bN 6) dYes e1_law_woven_right [6]))
    (gSeq (gAsgL 2 (dLst dNil))
    (gSeq (gFor (dRng (dCons (dB oLen (dCons (d2 oIx (dV 0) (dC (.int 0))) dNil)) dNil)) (bN 3) b1_law_woven_right)
    (gSeq (gAsgL 4 (dCallL F_woven (dCons (dV 1) dNil)))
    (gSeq (gIf (dOrT (dNotT (dB1 (dCallS F_law_alike (dCons (dV 4) (dCons (dV 2) dNil))))) (dB1 (d2 oNe (dV 1) (dV 0)))) (gRet (dC (.bl false))) (fun ρ => .nx ρ))
    (gSeq (gMut 4 (dCons (dC (.int 0)) dNil) oAppend)
    (gSeq (gAsgL 5 (dCallL F_unwoven (dCons (dL (dList (dV 2))) (dCons (dB oLen (dCons (dV 0) dNil)) dNil))))
    (gSeq (gIf (dOrT (dNotT (dB1 (d1 (oIsTy "list") (dV 5)))) (dB1 (d2 oNe (dB oLen (dCons (dV 5) dNil)) (dB oLen (dCons (dV 0) dNil))))) (gRet (dC (.bl false))) (fun ρ => .nx ρ))
    (gRet (dB oAll (dCons (dL (dLc (dZip (dV 5) (dV 0)) (bTup 2 (bCons (bN 7) (bCons (bN 6) bNil))) dYes e3_law_woven_right [7, 6])) dNil)))))))))))
noncomputable def F_law_woven_right : List D → Res D := runB 1 8 d_law_woven_right
theorem fo_law_woven_right (V : Vw K mg) {fd : FuncData} (F : FunD K "_law_woven_right" "_law_woven_right" (defArgs s_law_woven_right) (defBody s_law_woven_right) (defScope s_law_woven_right) [] [] (He.fAd K ("_law_woven_right", none)) fd) : FnOk P w K mg base (L2.CX P w) 3 (He.fAd K ("_law_woven_right", none)) fd ["rows"] (spD K 1 false F_law_woven_right) := by
  refine fn_mk (k := 2) (own' := [5, 4, 2]) F sc_law_woven_right rfl (fun cdv A outer s H E hr => ?_)
  have q : QB (cxOf (L2.CX P w) P w K mg base ["rows", "handed", "due", "at", "found", "back", "row", "one"] "_law_woven_right" (defScope s_law_woven_right) (He.fAd K ("_law_woven_right", none)) cdv A outer s H E) (fun c d _ H => E c d H) false [] [] (defBody s_law_woven_right) _ d_law_woven_right [5, 4, 2] :=
    (b_cons (s_setLc 1 (oN := [("row", 6)]) rfl sc_law_woven_right.nd (qc_seq (qvl 0)) (blkOk_by (by kernel_rfl)) (fun _ _ _ _ _ => (g_name 6 sc_law_woven_right.nd)) (fun _ _ _ _ _ => ts_nil) (fun _ _ _ _ _ => (QF.toE (q_list (V.free_list) (qvl 6)))) (sw_true rfl rfl rfl (by kernel_rfl)) (own' := [1]))
      (b_cons (s_setF 2 sc_law_woven_right.nd (q_lst qa_nil) (own' := [2, 1]))
      (b_cons (s_for (passes_of rfl) rfl (qi_rng1 (V.free_range) (QE.r (q_len (V.free_len) (QE.r (q_ix (qvl 0) (QE.r q_int)))))) (g_name 3 sc_law_woven_right.nd) (b_one (s_mut 2 PySem.F.slot_list_extend PySem.F.type_list_extend mt_extend mS_extend (qa_cons (QF.toE (q_lc (oN := [("row", 6)]) rfl sc_law_woven_right.nd (qc_seq (qvl 0)) (blkOk_by (by kernel_rfl)) (fun _ _ _ _ _ => (g_name 6 sc_law_woven_right.nd)) (fun _ _ _ _ _ => ts_nil) (fun _ _ _ _ _ => (q_ix (qvl 6) (QL.r (qvl 3)))))) qa_nil))))
      (b_cons (QS.pre [2] (s_setF 4 sc_law_woven_right.nd (q_callF (ok_woven V) (hr.mono (by decide)) (takes_of rfl rfl rfl rfl) (qa_cons (qv 1) qa_nil)) (own' := [4, 2])))
      (b_cons (s_if (QW.t (w_or (t_not (t_val (QE.r (q_callN (ok_law_alike V) (hr.mono (by decide)) (takes_of rfl rfl rfl rfl) (qr_cons (QL.r (qvl 4)) (qr_cons (QL.r (qvl 2)) qr_nil)))))) (w_or1 (t_ne (hu64 hr) (QL.r (qvl 1)) (QL.r (qvl 0)))))) (b_one (s_ret q_bl)) b_nil)
      (b_cons (s_mut 4 PySem.F.slot_list_append PySem.F.type_list_append mt_append mS_append (qa_cons q_int qa_nil))
      (b_cons (s_setF 5 sc_law_woven_right.nd (q_callF (ok_unwoven V) (hr.mono (by decide)) (takes_of rfl rfl rfl rfl) (qa_cons (QF.toE (q_list (V.free_list) (qvl 2))) (qa_cons (q_len (V.free_len) (QL.r (qvl 0))) qa_nil))) (own' := [5, 4, 2]))
      (b_cons (s_if (QW.t (w_or (t_not (t_val (QE.r (q_isTy "list" (V.free_isinstance) (V.free_list) (QL.r (qvl 5)))))) (w_or1 (t_ne (hu64 hr) (QE.r (q_len (V.free_len) (QL.r (qvl 5)))) (QE.r (q_len (V.free_len) (QL.r (qvl 0)))))))) (b_one (s_ret q_bl)) b_nil)
      (b_one (s_ret (q_all rfl (V.free_all) (QE.r (QF.toE (q_lc (oN := [("one", 7), ("row", 6)]) rfl sc_law_woven_right.nd (qc_zip (V.free_zip) (qvl 5) (qvl 0)) (blkOk_by (by kernel_rfl)) (fun _ _ _ _ _ => (g_tup rfl (gs_cons (g_name 7 sc_law_woven_right.nd) (gs_cons (g_name 6 sc_law_woven_right.nd) gs_nil)))) (fun _ _ _ _ _ => ts_nil) (fun _ _ _ _ _ => (q_call (ok_law_alike V) (hr.mono (by decide)) takes0 (qa_cons (qv 7) (qa_cons (qv 6) qa_nil))))))))))))))))))
  exact ⟨_, q.p, q.s⟩
theorem ok_law_woven_right (V : Vw K mg) : Cal P w K mg base "_law_woven_right" 3 1 false F_law_woven_right := by
  obtain ⟨fd, F⟩ := V.def_law_woven_right
  exact ⟨⟨_, fd, ["rows"], fo_law_woven_right V F, V.glo_law_woven_right, F.kp, F.bindsN fun _ _ _ _ _ _ us hl => match us, hl with | [_], _ => rfl⟩, runB_len⟩
theorem sc_law_unwoven_right : FnScope ["signs", "many", "handed", "found", "due", "at", "sign", "row", "one"] ["signs", "many"] (defScope s_law_unwoven_right) := ⟨rfl, rfl, rfl, by decide +kernel, rfl, by decide +kernel, by decide +kernel⟩
noncomputable def b1_law_unwoven_right : PL.Env → PL.Flow := (gMutN 4 (d2 oMod (dV 5) (dV 1)) (dCons (dV 6) dNil) oAppend)
noncomputable def e1_law_unwoven_right : PL.Env → Res D := (dCall F_law_alike (dCons (dV 8) (dCons (dV 7) dNil)))
noncomputable def d_law_unwoven_right : PL.Env → PL.Flow := (gSeq (gIf (dB1 (d2 oGt (d2 oMod (dB oLen (dCons (dV 0) dNil)) (dV 1)) (dC (.int 0)))) (gRet (dCall F_law_no_rows (dCons (dC .non) (dCons (dL (dList (dV 0))) (dCons (dV 1) dNil))))) (fun ρ => .nx ρ))
    (gSeq (gAsgL 2 (dList (dV 0)))
    (gSeq (gAsgL 3 (dCallL F_unwoven (dCons (dV 2) (dCons (dV 1) dNil))))
    (gSeq (gIf (dOrT (dNotT (dB1 (d1 (oIsTy "list") (dV 3)))) (dOrT (dB1 (d2 oNe (dB oLen (dCons (dV 3) dNil)) (dV 1))) (dB1 (d2 oNe (dV 2) (dV 0))))) (gRet (dC (.bl false))) (fun ρ => .nx ρ))
    (gSeq (gAsgL 4 (dLc (dRng (dCons (dV 1) dNil)) (bN 7) dYes (dL (dLst dNil)) [7]))
    (gSeq (gForN 4 (dEnum (dV 0)) (bTup 2 (bCons (bN 5) (bCons (bN 6) bNil))) b1_law_unwoven_right)
    (gRet (dB oAll (dCons (dL (dLc (dZip (dV 3) (dV 4)) (bTup 2 (bCons (bN 8) (bCons (bN 7) bNil))) dYes e1_law_unwoven_right [8, 7])) dNil)))))))))
noncomputable def F_law_unwoven_right : List D → Res D := runB 2 9 d_law_unwoven_right
theorem fo_law_unwoven_right (V : Vw K mg) {fd : FuncData} (F : FunD K "_law_unwoven_right" "_law_unwoven_right" (defArgs s_law_unwoven_right) (defBody s_law_unwoven_right) (defScope s_law_unwoven_right) [] [] (He.fAd K ("_law_unwoven_right", none)) fd) : FnOk P w K mg base (L2.CX P w) 3 (He.fAd K ("_law_unwoven_right", none)) fd ["signs", "many"] (spD K 2 false F_law_unwoven_right) := by
  refine fn_mk (k := 2) (own' := [4]) F sc_law_unwoven_right rfl (fun cdv A outer s H E hr => ?_)
  have q : QB (cxOf (L2.CX P w) P w K mg base ["signs", "many", "handed", "found", "due", "at", "sign", "row", "one"] "_law_unwoven_right" (defScope s_law_unwoven_right) (He.fAd K ("_law_unwoven_right", none)) cdv A outer s H E) (fun c d _ H => E c d H) false [] [] (defBody s_law_unwoven_right) _ d_law_unwoven_right [4] :=
    (b_cons (s_if (t_gt (QE.r (q_mod (QE.r (q_len (V.free_len) (QL.r (qvl 0)))) (QL.r (qvl 1)))) (QE.r q_int)) (b_one (s_ret (q_call (ok_law_no_rows V) (hr.mono (by decide)) (takes_of rfl rfl rfl rfl) (qa_cons q_non (qa_cons (QF.toE (q_list (V.free_list) (qvl 0))) (qa_cons (qv 1) qa_nil)))))) b_nil)
      (b_cons (s_setF 2 sc_law_unwoven_right.nd (q_list (V.free_list) (qvl 0)) (own' := [2]))
      (b_cons (QS.pre [] (s_setF 3 sc_law_unwoven_right.nd (q_callF (ok_unwoven V) (hr.mono (by decide)) (takes_of rfl rfl rfl rfl) (qa_cons (qv 2) (qa_cons (qv 1) qa_nil))) (own' := [3])))
      (b_cons (s_if (QW.t (w_or (t_not (t_val (QE.r (q_isTy "list" (V.free_isinstance) (V.free_list) (QL.r (qvl 3)))))) (w_or (t_ne (hu64 hr) (QE.r (q_len (V.free_len) (QL.r (qvl 3)))) (QL.r (qvl 1))) (w_or1 (t_ne (hu64 hr) (QL.r (qvl 2)) (QL.r (qvl 0))))))) (b_one (s_ret q_bl)) b_nil)
      (b_nestLc 4 (oN := [("row", 7)]) (own := [3]) rfl sc_law_unwoven_right.nd (qi_rng1 (V.free_range) (QL.r (qvl 1))) (blkOk_by (by kernel_rfl)) (fun _ _ _ _ _ => (g_name 7 sc_law_unwoven_right.nd)) (fun _ _ _ _ _ => ts_nil) (fun _ _ _ _ _ => (q_lst qa_nil)) (sw_true rfl rfl rfl (by kernel_rfl)) (nb_next (n_for (passes_of rfl) rfl (qi_enum (V.free_enumerate) (qv 0)) (g_tup rfl (gs_cons (g_name 5 sc_law_unwoven_right.nd) (gs_cons (g_name 6 sc_law_unwoven_right.nd) gs_nil))) (bn_one (n_mut 4 PySem.F.slot_list_append PySem.F.type_list_append mt_append mS_append (QE.r (q_mod (QL.r (qvl 5)) (QL.r (qvl 1)))) (qa_cons (qv 6) qa_nil))))
      (nb_end (b_one (s_ret (q_all rfl (V.free_all) (QE.r (QF.toE (q_lc (oN := [("one", 8), ("row", 7)]) rfl sc_law_unwoven_right.nd (qc_zip (V.free_zip) (qvl 3) (qvl 4)) (blkOk_by (by kernel_rfl)) (fun _ _ _ _ _ => (g_tup rfl (gs_cons (g_name 8 sc_law_unwoven_right.nd) (gs_cons (g_name 7 sc_law_unwoven_right.nd) gs_nil)))) (fun _ _ _ _ _ => ts_nil) (fun _ _ _ _ _ => (q_call (ok_law_alike V) (hr.mono (by decide)) takes0 (qa_cons (qv 8) (qa_cons (qv 7) qa_nil)))))))))))))))))
  exact ⟨_, q.p, q.s⟩
theorem ok_law_unwoven_right (V : Vw K mg) : Cal P w K mg base "_law_unwoven_right" 3 2 false F_law_unwoven_right := by
  obtain ⟨fd, F⟩ := V.def_law_unwoven_right
  exact ⟨⟨_, fd, ["signs", "many"], fo_law_unwoven_right V F, V.glo_law_unwoven_right, F.kp, F.bindsN fun _ _ _ _ _ _ us hl => match us, hl with | [_, _], _ => rfl⟩, runB_len⟩
theorem sc_law_cut_right : FnScope ["signs", "size", "handed", "found", "k", "row", "due"] ["signs", "size"] (defScope s_law_cut_right) := ⟨rfl, rfl, rfl, by decide +kernel, rfl, by decide +kernel, by decide +kernel⟩
noncomputable def b1_law_cut_right : PL.Env → PL.Flow := (gSeq (gAsgL 6 (dSl (dV 0) (dPart (d2 oMul (dV 4) (dV 1))) (dPart (d2 oMul (d2 oAdd (dV 4) (dC (.int 1))) (dV 1)))))
    (gIf (dNotT (dB1 (dCall F_law_alike (dCons (dV 5) (dCons (dL (dCat (dV 6) (dL (dRep (dL (dLst (dCons (dC (.int 0)) dNil))) (d2 oSub (dV 1) (dB oLen (dCons (dV 6) dNil))))))) dNil))))) (gRet (dC (.bl false))) (fun ρ => .nx ρ)))
noncomputable def d_law_cut_right : PL.Env → PL.Flow := (gSeq (gAsgL 2 (dList (dV 0)))
    (gSeq (gAsgL 3 (dCallL F_cut_rows (dCons (dV 2) (dCons (dV 1) dNil))))
    (gSeq (gIf (dOrT (dNotT (dB1 (d1 (oIsTy "list") (dV 3)))) (dB1 (d2 oNe (dV 2) (dV 0)))) (gRet (dC (.bl false))) (fun ρ => .nx ρ))
    (gSeq (gIf (dB1 (d2 oNe (dB oLen (dCons (dV 3) dNil)) (d2 oFdiv (d2 oSub (d2 oAdd (dB oLen (dCons (dV 0) dNil)) (dV 1)) (dC (.int 1))) (dV 1)))) (gRet (dC (.bl false))) (fun ρ => .nx ρ))
    (gSeq (gFor (dEnum (dV 3)) (bTup 2 (bCons (bN 4) (bCons (bN 5) bNil))) b1_law_cut_right)
    (gRet (dC (.bl true))))))))
noncomputable def F_law_cut_right : List D → Res D := runB 2 7 d_law_cut_right
theorem fo_law_cut_right (V : Vw K mg) {fd : FuncData} (F : FunD K "_law_cut_right" "_law_cut_right" (defArgs s_law_cut_right) (defBody s_law_cut_right) (defScope s_law_cut_right) [] [] (He.fAd K ("_law_cut_right", none)) fd) : FnOk P w K mg base (L2.CX P w) 3 (He.fAd K ("_law_cut_right", none)) fd ["signs", "size"] (spD K 2 false F_law_cut_right) := by
  refine fn_mk (k := 2) (own' := []) F sc_law_cut_right rfl (fun cdv A outer s H E hr => ?_)
  have q : QB (cxOf (L2.CX P w) P w K mg base ["signs", "size", "handed", "found", "k", "row", "due"] "_law_cut_right" (defScope s_law_cut_right) (He.fAd K ("_law_cut_right", none)) cdv A outer s H E) (fun c d _ H => E c d H) false [] [] (defBody s_law_cut_right) _ d_law_cut_right [] :=
    (b_cons (s_setF 2 sc_law_cut_right.nd (q_list (V.free_list) (qvl 0)) (own' := [2]))
      (b_cons (QS.pre [] (s_setF 3 sc_law_cut_right.nd (q_callF (ok_cut_rows V) (hr.mono (by decide)) (takes_of rfl rfl rfl rfl) (qa_cons (qv 2) (qa_cons (qv 1) qa_nil))) (own' := [3])))
      (b_cons (s_if (QW.t (w_or (t_not (t_val (QE.r (q_isTy "list" (V.free_isinstance) (V.free_list) (QL.r (qvl 3)))))) (w_or1 (t_ne (hu64 hr) (QL.r (qvl 2)) (QL.r (qvl 0)))))) (b_one (s_ret q_bl)) b_nil)
      (b_cons (s_if (t_ne (hu64 hr) (QE.r (q_len (V.free_len) (QL.r (qvl 3)))) (QE.r (q_fdiv (QE.r (q_sub (QE.r (q_add (QE.r (q_len (V.free_len) (QL.r (qvl 0)))) (QL.r (qvl 1)))) (QE.r q_int))) (QL.r (qvl 1))))) (b_one (s_ret q_bl)) b_nil)
      (b_cons (QS.pre [] (s_for (passes_of rfl) rfl (qi_enum (V.free_enumerate) (qv 3)) (g_tup rfl (gs_cons (g_name 4 sc_law_cut_right.nd) (gs_cons (g_name 5 sc_law_cut_right.nd) gs_nil))) (QB.post (own1 := [6]) (b_cons (s_setF 6 sc_law_cut_right.nd (q_slice (qvl 0) (qo_some (QE.r (q_mul (QL.r (qvl 4)) (QL.r (qvl 1))))) (qo_some (QE.r (q_mul (QE.r (q_add (QL.r (qvl 4)) (QE.r q_int))) (QL.r (qvl 1)))))) (own' := [6]))
      (b_one (s_if (t_not (t_val (QE.r (q_call (ok_law_alike V) (hr.mono (by decide)) (takes_of rfl rfl rfl rfl) (qa_cons (qv 5) (qa_cons (QF.toE (q_cat (qvl 6) (QE.l (QF.toE (q_rep (QE.l (QF.toE (q_lst (qa_cons q_int qa_nil)))) (QE.r (q_sub (QL.r (qvl 1)) (QE.r (q_len (V.free_len) (QL.r (qvl 6))))))))))) qa_nil)))))) (b_one (s_ret q_bl)) b_nil))))))
      (b_one (s_ret q_bl)))))))
  exact ⟨_, q.p, q.s⟩
theorem ok_law_cut_right (V : Vw K mg) : Cal P w K mg base "_law_cut_right" 3 2 false F_law_cut_right := by
  obtain ⟨fd, F⟩ := V.def_law_cut_right
  exact ⟨⟨_, fd, ["signs", "size"], fo_law_cut_right V F, V.glo_law_cut_right, F.kp, F.bindsN fun _ _ _ _ _ _ us hl => match us, hl with | [_, _], _ => rfl⟩, runB_len⟩
theorem sc_law : FnScope ["script", "a", "b", "c", "d", "e", "many", "size", "numbers", "signs", "rows", "spoilt", "at", "some", "parts", "plain", "number", "k", "row", "sign"] ["script"] (defScope s_law) := ⟨rfl, rfl, rfl, by decide +kernel, rfl, by decide +kernel, by decide +kernel⟩
noncomputable def e1_law : PL.Env → Res D := (dCall F_law_sign (dCons (dV 16) dNil))
noncomputable def e2_law : PL.Env → Res D := (dL (dSl (dV 9) (dPart (d2 oMul (dV 17) (dV 7))) (dPart (d2 oMul (d2 oAdd (dV 17) (dC (.int 1))) (dV 7)))))
noncomputable def e3_law : PL.Env → Res D := (dCall F_law_sign (dCons (dV 16) dNil))
noncomputable def e4_law : PL.Env → Res D := (dV 19)
noncomputable def t1_law : PL.Env → Res Bool := (dB1 (d1 (oIsN true) (dV 19)))
noncomputable def d_law : PL.Env → PL.Flow := (gSeq (gAsg (bLst 5 (bCons (bN 1) (bCons (bN 2) (bCons (bN 3) (bCons (bN 4) (bCons (bN 5) bNil)))))) (dL (dCallL F_law_row (dCons (dV 0) (dCons (dC (.int 0)) (dCons (dC (.int 5)) (dCons (dC (.int 999983)) dNil)))))))
    (gSeq (gAsg (bN 6) (d2 oAdd (dC (.int 1)) (d2 oMod (dV 1) (dC (.int 4)))))
    (gSeq (gAsg (bN 7) (d2 oMod (dV 2) (dC (.int 76))))
    (gSeq (gIf (dB1 (d2 oEq (d2 oMod (dV 3) (dC (.int 3))) (dC (.int 1)))) (gSeq (gAsg (bN 6) (d2 oAdd (dC (.int 1)) (d2 oMod (dV 2) (dC (.int 75)))))
    (gAsg (bN 7) (d2 oMod (dV 1) (dC (.int 5))))) (fun ρ => .nx ρ))
    (gSeq (gAsgL 8 (dCallL F_law_row (dCons (dV 0) (dCons (dC (.int 1)) (dCons (d2 oMul (dV 6) (dV 7)) (dCons (d2 oMul (dC (.int 65)) (dC (.int 64))) dNil))))))
    (gSeq (gAsgL 9 (dLc (dSeq (dV 8)) (bN 16) dYes e1_law [16]))
    (gSeq (gAsgL 10 (dLc (dRng (dCons (dV 6) dNil)) (bN 17) dYes e2_law [17]))
    (gSeq (gIf (dNotT (dB1 (dCall F_law_woven_right (dCons (dV 10) dNil)))) (gRet (dC (.bl false))) (fun ρ => .nx ρ))
    (gSeq (gAsgL 11 (dLc (dSeq (dV 10)) (bN 18) dYes (dL (dList (dV 18))) [18]))
    (gSeq (gAsgN 11 (bN 12) (d2 oMod (dV 4) (dV 6)))
    (gSeq (gIfN 11 (dAndT (dB1 (d2 oEq (d2 oMod (d2 oFdiv (dV 3) (dC (.int 3))) (dC (.int 2))) (dC (.int 1)))) (dB1 (d2 oGt (dV 7) (dC (.int 0))))) (gMutN 11 (dV 12) (dCons (d2 oMod (d2 oFdiv (dV 4) (dC (.int 128))) (dV 7)) dNil) oPopAt) (gMutN 11 (dV 12) (dCons (d2 oMod (d2 oFdiv (dV 4) (dC (.int 128))) (d2 oAdd (dV 7) (dC (.int 1)))) (dCons (dC (.int 0)) dNil)) oInsert))
    (gSeq (gIf (dAndT (dB1 (d2 oGt (dV 6) (dC (.int 1)))) (dNotT (dB1 (dCall F_law_no_rows (dCons (dV 11) (dCons (dC .non) (dCons (dC (.int 0)) dNil))))))) (gRet (dC (.bl false))) (fun ρ => .nx ρ))
    (gSeq (gAsgL 13 (dLc (dSeq (dL (dCallL F_law_row (dCons (dV 0) (dCons (dC (.int 2)) (dCons (d2 oMod (dV 5) (dC (.int 201))) (dCons (dC (.int 65)) dNil))))))) (bN 16) dYes e3_law [16]))
    (gSeq (gAsg (bN 14) (d2 oAdd (dC (.int 1)) (d2 oMod (d2 oFdiv (dV 1) (dC (.int 8))) (dC (.int 200)))))
    (gSeq (gIf (dAndT (dB1 (d2 oEq (d2 oMod (d2 oFdiv (dV 5) (dC (.int 256))) (dC (.int 2))) (dC (.int 0)))) (dB1 (d2 oGt (dB oLen (dCons (dV 13) dNil)) (dC (.int 0))))) (gAsg (bN 14) (d2 oAdd (dC (.int 1)) (d2 oMod (d2 oFdiv (dV 1) (dC (.int 8))) (dB oLen (dCons (dV 13) dNil))))) (fun ρ => .nx ρ))
    (gSeq (gIf (dNotT (dB1 (dCall F_law_unwoven_right (dCons (dV 13) (dCons (dV 14) dNil))))) (gRet (dC (.bl false))) (fun ρ => .nx ρ))
    (gSeq (gAsgL 15 (dLc (dSeq (dV 13)) (bN 19) t1_law e4_law [19]))
    (gRet (dAndV (dCall F_law_cut_right (dCons (dV 15) (dCons (d2 oAdd (dC (.int 1)) (d2 oMod (d2 oFdiv (dV 2) (dC (.int 128))) (dC (.int 90)))) dNil))) (dCall F_law_woven_right (dCons (dV 10) dNil)))))))))))))))))))))
noncomputable def F_law : List D → Res D := runB 1 20 d_law
theorem fo_law (V : Vw K mg) {fd : FuncData} (F : FunD K "law" "law" (defArgs s_law) (defBody s_law) (defScope s_law) [] [] (He.fAd K ("law", none)) fd) : FnOk P w K mg base (L2.CX P w) 4 (He.fAd K ("law", none)) fd ["script"] (spD K 1 false F_law) := by
  refine fn_mk (k := 3) (own' := [15]) F sc_law rfl (fun cdv A outer s H E hr => ?_)
  have q : QB (cxOf (L2.CX P w) P w K mg base ["script", "a", "b", "c", "d", "e", "many", "size", "numbers", "signs", "rows", "spoilt", "at", "some", "parts", "plain", "number", "k", "row", "sign"] "law" (defScope s_law) (He.fAd K ("law", none)) cdv A outer s H E) (fun c d _ H => E c d H) false [] [] (defBody s_law) _ d_law [15] :=
    (b_cons (s_asg (QF.toE (q_callF (ok_law_row V) (hr.mono (by decide)) (takes_of rfl rfl rfl rfl) (qa_cons (qv 0) (qa_cons q_int (qa_cons q_int (qa_cons q_int qa_nil)))))) (g_lst rfl (gs_cons (g_name 1 sc_law.nd) (gs_cons (g_name 2 sc_law.nd) (gs_cons (g_name 3 sc_law.nd) (gs_cons (g_name 4 sc_law.nd) (gs_cons (g_name 5 sc_law.nd) gs_nil)))))))
      (b_cons (s_set 6 sc_law.nd (q_add (QE.r q_int) (QE.r (q_mod (QL.r (qvl 1)) (QE.r q_int)))) (own' := []))
      (b_cons (s_set 7 sc_law.nd (q_mod (QL.r (qvl 2)) (QE.r q_int)) (own' := []))
      (b_cons (s_if (t_eq (hu64 hr) (QE.r (q_mod (QL.r (qvl 3)) (QE.r q_int))) (QE.r q_int)) (b_cons (s_set 6 sc_law.nd (q_add (QE.r q_int) (QE.r (q_mod (QL.r (qvl 2)) (QE.r q_int)))) (own' := []))
      (b_one (s_set 7 sc_law.nd (q_mod (QL.r (qvl 1)) (QE.r q_int)) (own' := [])))) b_nil)
      (b_cons (s_setF 8 sc_law.nd (q_callF (ok_law_row V) (hr.mono (by decide)) (takes_of rfl rfl rfl rfl) (qa_cons (qv 0) (qa_cons q_int (qa_cons (q_mul (QL.r (qvl 6)) (QL.r (qvl 7))) (qa_cons (q_mul (QE.r q_int) (QE.r q_int)) qa_nil))))) (own' := [8]))
      (b_cons (s_setF 9 sc_law.nd (q_lc (oN := [("number", 16)]) rfl sc_law.nd (qc_seq (qvl 8)) (blkOk_by (by kernel_rfl)) (fun _ _ _ _ _ => (g_name 16 sc_law.nd)) (fun _ _ _ _ _ => ts_nil) (fun _ _ _ _ _ => (q_call (ok_law_sign V) (hr.mono (by decide)) takes0 (qa_cons (qv 16) qa_nil)))) (own' := [9, 8]))
      (b_cons (s_setLc 10 (oN := [("k", 17)]) rfl sc_law.nd (qi_rng1 (V.free_range) (QL.r (qvl 6))) (blkOk_by (by kernel_rfl)) (fun _ _ _ _ _ => (g_name 17 sc_law.nd)) (fun _ _ _ _ _ => ts_nil) (fun _ _ _ _ _ => (QF.toE (q_slice (qvl 9) (qo_some (QE.r (q_mul (QL.r (qvl 17)) (QL.r (qvl 7))))) (qo_some (QE.r (q_mul (QE.r (q_add (QL.r (qvl 17)) (QE.r q_int))) (QL.r (qvl 7)))))))) (sw_true rfl rfl rfl (by kernel_rfl)) (own' := [10, 9, 8]))
      (b_cons (QS.pre [9, 8] (s_if (t_not (t_val (QE.r (q_call (ok_law_woven_right V) (hr.mono (by decide)) (takes_of rfl rfl rfl rfl) (qa_cons (qv 10) qa_nil))))) (b_one (s_ret q_bl)) b_nil))
      (b_nestLc 11 (oN := [("row", 18)]) (own := [9, 8]) rfl sc_law.nd (qc_seq (qvl 10)) (blkOk_by (by kernel_rfl)) (fun _ _ _ _ _ => (g_name 18 sc_law.nd)) (fun _ _ _ _ _ => ts_nil) (fun _ _ _ _ _ => (q_list (V.free_list) (qvl 18))) (sw_true rfl rfl rfl (by kernel_rfl)) (nb_next (n_set 12 sc_law.nd (q_mod (QL.r (qvl 4)) (QL.r (qvl 6))))
      (nb_next (n_if (QW.t (w_and (t_eq (hu64 hr) (QE.r (q_mod (QE.r (q_fdiv (QL.r (qvl 3)) (QE.r q_int))) (QE.r q_int))) (QE.r q_int)) (w_and1 (t_gt (QL.r (qvl 7)) (QE.r q_int))))) (bn_one (n_mut 11 PySem.F.slot_list_pop PySem.F.type_list_pop mt_popAt mS_popAt (QL.r (qvl 12)) (qa_cons (q_mod (QE.r (q_fdiv (QL.r (qvl 4)) (QE.r q_int))) (QL.r (qvl 7))) qa_nil))) (bn_one (n_mut 11 PySem.F.slot_list_insert PySem.F.type_list_insert mt_ins mS_insert (QL.r (qvl 12)) (qa_cons (q_mod (QE.r (q_fdiv (QL.r (qvl 4)) (QE.r q_int))) (QE.r (q_add (QL.r (qvl 7)) (QE.r q_int)))) (qa_cons q_int qa_nil)))))
      (nb_end (b_cons (QS.pre [] (s_if (QW.t (w_and (t_gt (QL.r (qvl 6)) (QE.r q_int)) (w_and1 (t_not (t_val (QE.r (q_call (ok_law_no_rows V) (hr.mono (by decide)) (takes_of rfl rfl rfl rfl) (qa_cons (qv 11) (qa_cons q_non (qa_cons q_int qa_nil)))))))))) (b_one (s_ret q_bl)) b_nil))
      (b_cons (s_setLc 13 (oN := [("number", 16)]) rfl sc_law.nd (qc_seq (QE.l (QF.toE (q_callF (ok_law_row V) (hr.mono (by decide)) (takes_of rfl rfl rfl rfl) (qa_cons (qv 0) (qa_cons q_int (qa_cons (q_mod (QL.r (qvl 5)) (QE.r q_int)) (qa_cons q_int qa_nil)))))))) (blkOk_by (by kernel_rfl)) (fun _ _ _ _ _ => (g_name 16 sc_law.nd)) (fun _ _ _ _ _ => ts_nil) (fun _ _ _ _ _ => (q_call (ok_law_sign V) (hr.mono (by decide)) takes0 (qa_cons (qv 16) qa_nil))) (sw_true rfl rfl rfl (by kernel_rfl)) (own' := [13]))
      (b_cons (s_set 14 sc_law.nd (q_add (QE.r q_int) (QE.r (q_mod (QE.r (q_fdiv (QL.r (qvl 1)) (QE.r q_int))) (QE.r q_int)))) (own' := [13]))
      (b_cons (s_if (QW.t (w_and (t_eq (hu64 hr) (QE.r (q_mod (QE.r (q_fdiv (QL.r (qvl 5)) (QE.r q_int))) (QE.r q_int))) (QE.r q_int)) (w_and1 (t_gt (QE.r (q_len (V.free_len) (QL.r (qvl 13)))) (QE.r q_int))))) (b_one (s_set 14 sc_law.nd (q_add (QE.r q_int) (QE.r (q_mod (QE.r (q_fdiv (QL.r (qvl 1)) (QE.r q_int))) (QE.r (q_len (V.free_len) (QL.r (qvl 13))))))) (own' := [13]))) b_nil)
      (b_cons (QS.pre [] (s_if (t_not (t_val (QE.r (q_call (ok_law_unwoven_right V) (hr.mono (by decide)) (takes_of rfl rfl rfl rfl) (qa_cons (qv 13) (qa_cons (qv 14) qa_nil)))))) (b_one (s_ret q_bl)) b_nil))
      (b_cons (s_setLc 15 (oN := [("sign", 19)]) rfl sc_law.nd (qc_seq (qvl 13)) (blkOk_by (by kernel_rfl)) (fun _ _ _ _ _ => (g_name 19 sc_law.nd)) (fun _ _ _ _ _ => (ts_one (t_notN (QL.r (qvl 19))))) (fun _ _ _ _ _ => (qv 19)) (sw_true rfl rfl rfl (by kernel_rfl)) (own' := [15]))
      (b_one (QS.pre [] (s_ret (q_andV (QE.r (q_call (ok_law_cut_right V) (hr.mono (by decide)) (takes_of rfl rfl rfl rfl) (qa_cons (qv 15) (qa_cons (q_add (QE.r q_int) (QE.r (q_mod (QE.r (q_fdiv (QL.r (qvl 2)) (QE.r q_int))) (QE.r q_int)))) qa_nil)))) (q_one (q_call (ok_law_woven_right V) (hr.mono (by decide)) (takes_of rfl rfl rfl rfl) (qa_cons (qv 10) qa_nil)))))))))))))))))))))))))
  exact ⟨_, q.p, q.s⟩
theorem ok_law (V : Vw K mg) : Cal P w K mg base "law" 4 1 false F_law := by
  obtain ⟨fd, F⟩ := V.def_law
  exact ⟨⟨_, fd, ["script"], fo_law V F, V.glo_law, F.kp, F.bindsN fun _ _ _ _ _ _ us hl => match us, hl with | [_], _ => rfl⟩, runB_len⟩
end
end K72
namespace K72
open PySem PySem.Spec PyProof.Rows L2 PL
theorem F_cell {ns : List Int} {k : Int} (h0 : 0 ≤ k) (h1 : ns.length ≤ 63) : ∃ c, F_law_cell [.scr ns, .int k] = .ok (.int c) := by
  unfold F_law_cell d_law_cell
  by_cases h : k < ns.length
  · have h2 : k.toNat < ns.length := by omega
    exact ⟨ns[k.toNat], by simp [h, atI_ok h0 h, List.getElem?_eq_getElem h2]⟩
  · exact ⟨0, by simp [h]⟩
theorem F_row {ns : List Int} {k many size : Int} (h0 : 0 ≤ k) (h1 : ns.length ≤ 63) (hk : k < 100) (hm : 0 ≤ many) (hm2 : many < 100000) (hs : 0 < size) (hs2 : size < 2 ^ 62) :
    ∃ xs : List Int, F_law_row [.scr ns, .int k, .int many, .int size] = .ok (.lst (xs.map .int)) ∧ xs.length = many.toNat ∧ ∀ x ∈ xs, 0 ≤ x ∧ x < size := by
  obtain ⟨c, hc⟩ := F_cell (ns := ns) h0 h1
  unfold F_law_row d_law_row
  have key := forL_inv (b := bN 7) (g := b1_law_row)
    (fun n ρ => ∃ (r : Int) (xs : List Int) (o7 o8 : Option D), ρ = [some (.scr ns), some (.int k), some (.int many), some (.int size), some (.int c), some (.int r), some (.lst (xs.map .int)), o7, o8] ∧ xs.length = n ∧ ∀ x ∈ xs, 0 ≤ x ∧ x < size)
    (rngD 0 many.toNat) 0 [some (.scr ns), some (.int k), some (.int many), some (.int size), some (.int c), some (.int c), some (.lst []), none, none] ⟨c, [], none, none, rfl, rfl, by simp⟩ ?_
  · obtain ⟨ρ', e, r, xs, o7, o8, rfl, hl, hx⟩ := key
    exact ⟨xs, by simp [hc, r62 hm (by omega), e, rngD_length], by simpa [rngD_length] using hl, hx⟩
  · rintro i d ρ hd ⟨r, xs, o7, o8, rfl, hl, hx⟩
    obtain ⟨hi, rfl⟩ := rngD_get hd
    refine ⟨_, by simp; rfl, ?_⟩
    have m1 : ∀ x : Int, CMulU 7919 x := fun x => mulL (by decide) (by decide)
    have m2 : ∀ x : Int, CMulU 104729 x := fun x => mulL (by decide) (by decide)
    have m3 : ∀ x : Int, CMulU x 48271 := fun x => mulR (by decide) (by decide)
    have m4 : ∀ x : Int, CMulU x 39373 := fun x => mulR (by decide) (by decide)
    have m5 : ∀ x y : Int, CMulU (x % 2147483629) y := fun x y => mulL (by have := Int.emod_nonneg x (show (2147483629 : Int) ≠ 0 by decide); omega) (by have := Int.emod_lt_of_pos x (show (0 : Int) < 2147483629 by decide); omega)
    have q1 : ∀ x : Int, CDivW x 1009 := fun x => divW (by decide) (by decide)
    have q2 : ∀ x : Int, CDivW x 7 := fun x => divW (by decide) (by decide)
    have q3 : ∀ x : Int, CDivW x size := fun x => divW hs (by omega)
    have p1 : CPow 10 18 := ⟨by decide, by decide, by decide⟩
    have hz : xs.length < sizeLine := sz_lt (by omega)
    unfold b1_law_row
    by_cases c1 : (1000000000000000000 : Int) ≤ c
    · by_cases c2 : 0 < r
      · refine ⟨_, .inl (by simp [m1, m2, m3, m4, m5, q1, q2, q3, p1, hs, c1, c2, hz]; rfl), _, xs ++ [r % size], _, _, by rw [List.map_append]; rfl, by simp [hl], ?_⟩
        intro x hx'
        rcases List.mem_append.mp hx' with h | h
        · exact hx x h
        · simp at h; subst h; exact ⟨Int.emod_nonneg _ (by omega), Int.emod_lt_of_pos _ hs⟩
      · refine ⟨_, .inl (by simp [m1, m2, m3, m4, m5, q1, q2, q3, p1, hs, c1, c2, hz]; rfl), _, xs ++ [_ % size], _, _, by rw [List.map_append]; rfl, by simp [hl], ?_⟩
        intro x hx'
        rcases List.mem_append.mp hx' with h | h
        · exact hx x h
        · simp at h; subst h; exact ⟨Int.emod_nonneg _ (by omega), Int.emod_lt_of_pos _ hs⟩
    · refine ⟨_, .inl (by simp [m1, m2, m3, m4, m5, q1, q2, q3, p1, hs, c1, hz]; rfl), _, xs ++ [_ % size], _, _, by rw [List.map_append]; rfl, by simp [hl], ?_⟩
      intro x hx'
      rcases List.mem_append.mp hx' with h | h
      · exact hx x h
      · simp at h; subst h; exact ⟨Int.emod_nonneg _ (by omega), Int.emod_lt_of_pos _ hs⟩

/-- a sign -/
def sg : Option Int → D
  | none => .non
  | some i => .int i
theorem sg_inj {a b : Option Int} (h : sg a = sg b) : a = b := by
  cases a <;> cases b <;> simp [sg] at h ⊢; exact h
theorem cln_sg {n : Nat} (a : Option Int) : Cln n (sg a) := by cases a <;> simp [sg, Cln]
theorem F_sign {n : Int} (h : 0 ≤ n) : F_law_sign [.int n] = .ok (sg (if n % 65 = 64 then none else some (n % 65))) := by
  unfold F_law_sign d_law_sign
  by_cases c : n % 65 = 64
  · simp [c, sg]
  · simp [c, sg]
theorem F_whole {i : Int} : F_law_whole [.int i] = .ok (.bl true) := by
  unfold F_law_whole d_law_whole
  simp
theorem zip_self {α : Type} (ι : α → D) : ∀ xs : List α, zipD (xs.map ι) (xs.map ι) = xs.map fun x => .tup [ι x, ι x]
  | [] => rfl
  | x :: xs => by simp [zipD, zip_self ι xs]
theorem F_alike (xs : List (Option Int)) : F_law_alike [.lst (xs.map sg), .lst (xs.map sg)] = .ok (.bl true) := by
  unfold F_law_alike d_law_alike
  have key := forL_inv (b := (bTup 2 (bCons (bN 2) (bCons (bN 3) bNil)))) (g := b1_law_alike) (fun n ρ => ∃ o2 o3 : Option D, ρ = [some (.lst (xs.map sg)), some (.lst (xs.map sg)), o2, o3])
    (zipD (xs.map sg) (xs.map sg)) 0 [some (.lst (xs.map sg)), some (.lst (xs.map sg)), none, none] ⟨none, none, rfl⟩ ?_
  · obtain ⟨ρ', e, o2, o3, rfl⟩ := key
    simp [e]
  · rintro i d ρ hd ⟨o2, o3, rfl⟩
    rw [zip_self, List.getElem?_map, Option.map_eq_some_iff] at hd
    obtain ⟨x, _, rfl⟩ := hd
    refine ⟨_, by simp; rfl, _, .inl ?_, some (sg x), some (sg x), rfl⟩
    unfold b1_law_alike
    cases x with
    | none => simp [sg]
    | some i => simp [sg, F_whole]
end K72
namespace K72
open PySem PySem.Spec PyProof.Rows L2 PL
abbrev Row := List (Option Int)
def rowD (r : Row) : D := .lst (r.map sg)
def tb (rows : List Row) : D := .lst (rows.map rowD)
def col (rows : List Row) (a : Nat) : Row := rows.map fun r => r.getD a none
def wv (rows : List Row) (n : Nat) : Row := (List.range n).flatMap (col rows)
theorem wv_succ (rows : List Row) (n : Nat) : wv rows (n + 1) = wv rows n ++ col rows n := by simp [wv, List.range_succ]
theorem col_length (rows : List Row) (a : Nat) : (col rows a).length = rows.length := by simp [col]
theorem wv_length (rows : List Row) (n : Nat) : (wv rows n).length = n * rows.length := by
  induction n with
  | zero => simp [wv]
  | succ n ih => rw [wv_succ, List.length_append, ih, col_length, Nat.succ_mul]
theorem map_sg_inj : ∀ {a b : Row}, a.map sg = b.map sg → a = b
  | [], [], _ => rfl
  | [], _ :: _, h => by simp at h
  | _ :: _, [], h => by simp at h
  | x :: a, y :: b, h => by
    simp only [List.map_cons, List.cons.injEq] at h
    rw [sg_inj h.1, map_sg_inj h.2]
theorem rowD_inj {a b : Row} (h : rowD a = rowD b) : a = b := by
  simp only [rowD, D.lst.injEq] at h
  exact map_sg_inj h
theorem cln_row (r : Row) : Cln 1 (rowD r) := by
  unfold rowD Cln
  exact clns_of fun d hd => by
    obtain ⟨x, _, rfl⟩ := List.mem_map.mp hd
    exact cln_sg x
theorem cln_tb (rows : List Row) : Cln 2 (tb rows) := by
  unfold tb Cln
  exact clns_of fun d hd => by
    obtain ⟨x, _, rfl⟩ := List.mem_map.mp hd
    exact cln_row x
theorem sg_get {r : Row} {a : Nat} (h : a < r.length) : (r.map sg)[a]? = some (sg (r.getD a none)) := by
  rw [List.getElem?_map, List.getD_eq_getElem?_getD, List.getElem?_eq_getElem h]; rfl
theorem comp_woven {rows : List Row} {r0 : Row} (h0 : rows[0]? = some r0) : compL (bN 3) dYes e1_woven [some (.lst (rows.map rowD)), none, none, none] (rows.map rowD) = .ok (rows.map fun r => .bl (!((r.length : Int) == (r0.length : Int)))) := by
  refine compL_mapI (ι := rowD) rows fun r hr => ?_
  have hl : 0 < rows.length := (List.getElem?_eq_some_iff.mp h0).1
  have e0 : atI (rows.map rowD) 0 = some (rowD r0) := by
    rw [atI_ok (by omega) (by simpa using hl)]; simp [h0]
  simp [e1_woven, e0, rowD]
theorem F_woven_ok {rows : List Row} {size : Nat} (hne : 0 < rows.length) (hl : ∀ r ∈ rows, r.length = size) (hz : size * rows.length < 16777216) (hs : size < 1000000) (hr : rows.length < 1000000) : F_woven [tb rows] = .ok (.lst ((wv rows size).map sg)) := by
  have h0 : rows[0]? = some rows[0] := List.getElem?_eq_getElem hne
  have hr0 : rows[0].length = size := hl _ (List.getElem_mem hne)
  have e0 : atI (rows.map rowD) 0 = some (rowD rows[0]) := by
    rw [atI_ok (by omega) (by simpa using hne)]; simp [h0]
  have ec := comp_woven h0
  have ea : (rows.map fun r => D.bl (!((r.length : Int) == (rows[0].length : Int)))) = (rows.map fun _ => false).map D.bl := by
    rw [List.map_map]
    refine List.map_congr_left fun r hr => ?_
    simp [hl r hr, hr0]
  rw [ea] at ec
  have an : ((rows.map fun _ => false).any id) = false := by simp
  have key := forL_inv (b := bN 2) (g := b2_woven) (fun n ρ => ∃ o2 o3 : Option D, ρ = [some (.lst (rows.map rowD)), some (.lst ((wv rows n).map sg)), o2, o3])
    (rngD 0 size) 0 [some (.lst (rows.map rowD)), some (.lst []), none, none] ⟨none, none, rfl⟩ ?_
  · obtain ⟨ρ', e, o2, o3, rfl⟩ := key
    rw [rngD_length, Nat.zero_add] at e
    have e1 : oLen [rowD rows[0]] = some (.int size) := by simp [rowD, hr0]
    unfold F_woven d_woven tb
    have hn : ¬ (rows.length : Int) = 0 := by omega
    have hn2 : rows.length ≤ sizeLine := sz_le (by omega)
    have hn3 : rows ≠ [] := by intro h; simp [h] at hne
    simp [hn, hn2, hn3, ec, truL_bl, e0, e1, r62 (show (0 : Int) ≤ size by omega) (by omega), e, -List.map_map, -List.map_const', an]
  · rintro i d ρ hd ⟨o2, o3, rfl⟩
    obtain ⟨hi, rfl⟩ := rngD_get hd
    refine ⟨_, by simp; rfl, ?_⟩
    have key2 := forL_inv (b := bN 3) (g := b1_woven) (fun n ρ => ∃ o3 : Option D, ρ = [some (.lst (rows.map rowD)), some (.lst ((wv rows i ++ (col rows i).take n).map sg)), some (.int i), o3])
      (rows.map rowD) 0 [some (.lst (rows.map rowD)), some (.lst ((wv rows i).map sg)), some (.int i), o3] ⟨o3, by simp⟩ ?_
    · obtain ⟨ρ', e, o3', rfl⟩ := key2
      refine ⟨_, .inl ?_, some (.int i), o3', rfl⟩
      have et : (col rows i).take (0 + (rows.map rowD).length) = col rows i := by rw [List.take_of_length_le]; simp [col_length]
      rw [et] at e
      simp [b2_woven, e, wv_succ]
    · rintro n d ρ hd ⟨o3, rfl⟩
      rw [List.getElem?_map, Option.map_eq_some_iff] at hd
      obtain ⟨r, hn, rfl⟩ := hd
      have hr' : r ∈ rows := List.mem_of_getElem? hn
      have hlt : n < rows.length := (List.getElem?_eq_some_iff.mp hn).1
      have eg : atI (r.map sg) (i : Int) = some (sg (r.getD i none)) := by
        rw [atI_ok (by omega) (by simp [hl r hr']; omega), Int.toNat_natCast]
        exact sg_get (by rw [hl r hr']; exact hi)
      refine ⟨_, by simp; rfl, _, .inl ?_, some (rowD r), rfl⟩
      have hz2 : (wv rows i ++ (col rows i).take n).length < sizeLine := sz_lt <| by
        rw [List.length_append, wv_length, List.length_take, col_length]
        have : i * rows.length + rows.length ≤ size * rows.length := by rw [← Nat.succ_mul]; exact Nat.mul_le_mul_right _ hi
        omega
      have et : (col rows i).take (0 + n + 1) = (col rows i).take n ++ [r.getD i none] := by
        have hc : (col rows i)[n]? = some (r.getD i none) := by simp [col, hn]
        have : 0 + n + 1 = n + 1 := by omega
        rw [this, List.take_add_one, hc]; rfl
      rw [et]
      unfold b1_woven rowD
      simp only [List.length_append, List.length_take] at hz2
      simp [eg, hz2]
theorem F_woven_bad {rows : List Row} (hne : 0 < rows.length) (hr : rows.length < 1000000) (hb : ∃ r ∈ rows, r.length ≠ rows[0].length) : F_woven [tb rows] = .exc ⟨17, []⟩ := by
  have h0 : rows[0]? = some rows[0] := List.getElem?_eq_getElem hne
  have ec := comp_woven h0
  have ea : (rows.map fun r => D.bl (!((r.length : Int) == (rows[0].length : Int)))) = (rows.map fun r => !((r.length : Int) == (rows[0].length : Int))).map D.bl := by rw [List.map_map]; rfl
  rw [ea] at ec
  have an : ((rows.map fun r => !((r.length : Int) == (rows[0].length : Int))).any id) = true := by
    rw [List.any_eq_true]
    obtain ⟨r, h1, h2⟩ := hb
    refine ⟨true, List.mem_map.mpr ⟨r, h1, ?_⟩, rfl⟩
    simp; omega
  unfold F_woven d_woven tb
  have hn2 : rows.length ≤ sizeLine := sz_le (by omega)
  have hn3 : rows ≠ [] := by intro h; simp [h] at hne
  simp [hn2, hn3, ec, truL_bl, an, -List.map_map, -List.any_map]
end K72
namespace K72
open PySem PySem.Spec PyProof.Rows L2 PL
def put (m n : Nat) (R : List Row) (x : Option Int) : List Row := R.set (n % m) (R.getD (n % m) [] ++ [x])
def unwS (m : Nat) : Nat → List Row → Row → List Row
  | _, R, [] => R
  | n, R, x :: xs => unwS m (n + 1) (put m n R x) xs
theorem put_length (m n : Nat) (R : List Row) (x : Option Int) : (put m n R x).length = R.length := by simp [put]
theorem unwS_length (m : Nat) : ∀ (xs : Row) (n : Nat) (R : List Row), (unwS m n R xs).length = R.length
  | [], _, _ => rfl
  | x :: xs, n, R => by rw [unwS, unwS_length m xs, put_length]
theorem unwS_snoc (m : Nat) (y : Option Int) : ∀ (xs : Row) (n : Nat) (R : List Row), unwS m n R (xs ++ [y]) = put m (n + xs.length) (unwS m n R xs) y
  | [], _, _ => rfl
  | x :: xs, n, R => by
    have e : n + (x :: xs).length = n + 1 + xs.length := by simp; omega
    rw [e, List.cons_append, unwS, unwS_snoc m y xs (n + 1), unwS]
theorem unwS_append (m : Nat) (ys : Row) : ∀ (xs : Row) (n : Nat) (R : List Row), unwS m n R (xs ++ ys) = unwS m (n + xs.length) (unwS m n R xs) ys
  | [], _, _ => rfl
  | x :: xs, n, R => by
    have e : n + (x :: xs).length = n + 1 + xs.length := by simp; omega
    rw [e, List.cons_append, unwS, unwS_append m ys xs (n + 1), unwS]
theorem put_bound {m n b : Nat} {R : List Row} {x : Option Int} (h : ∀ r ∈ R, r.length ≤ b) : ∀ r ∈ put m n R x, r.length ≤ b + 1 := fun r hr => by
  unfold put at hr
  rcases List.mem_or_eq_of_mem_set hr with hr | hr
  · exact Nat.le_succ_of_le (h r hr)
  · subst hr
    rw [List.length_append, List.getD_eq_getElem?_getD]
    cases e : R[n % m]? with
    | none => simp
    | some r => simpa using h r (List.mem_of_getElem? e)
theorem unwS_bound (m : Nat) : ∀ (xs : Row) (n b : Nat) (R : List Row), (∀ r ∈ R, r.length ≤ b) → ∀ r ∈ unwS m n R xs, r.length ≤ b + xs.length
  | [], _, _, _, h => h
  | x :: xs, n, b, R, h => by
    have e : b + (x :: xs).length = b + 1 + xs.length := by simp; omega
    rw [e, unwS]
    exact unwS_bound m xs (n + 1) (b + 1) _ (put_bound h)
theorem take_succ_get {α : Type} {xs : List α} {i : Nat} {x : α} (h : xs[i]? = some x) : xs.take (i + 1) = xs.take i ++ [x] := by rw [List.take_add_one, h]; rfl
/-- the loop that both of them go through -/
theorem loop_unw {xs : Row} {m : Nat} {b : Bd} {g : PL.Env → PL.Flow} {s : Nat} {ρ0 : PL.Env} (E : List Row → PL.Env → Prop) (hm : 0 < m)
    (st : ∀ (i : Nat) (x : Option Int) (R : List Row) (ρ : PL.Env), i < xs.length → R.length = m → (∀ r ∈ R, r.length ≤ xs.length) → E R ρ → ∃ ρ', b (.tup [.int (i : Int), sg x]) (hid s ρ) = some ρ' ∧ ∃ ρ2, g (unhid s ρ ρ') = .nx ρ2 ∧ E (put m i R x) ρ2)
    (h0 : E (List.replicate m []) ρ0) : ∃ ρ', forN s b g (enumD 0 (xs.map sg)) ρ0 = .nx ρ' ∧ E (unwS m 0 (List.replicate m []) xs) ρ' := by
  have key := forN_inv (s := s) (b := b) (g := g) (fun n ρ => E (unwS m 0 (List.replicate m []) (xs.take n)) ρ) (enumD 0 (xs.map sg)) 0 ρ0 (by simpa [unwS] using h0) ?_
  · obtain ⟨ρ', e, h⟩ := key
    rw [enumD_length, List.length_map, Nat.zero_add, List.take_length] at h
    exact ⟨ρ', e, h⟩
  · rintro i d ρ hd hE
    have hi : i < xs.length := by
      have := (List.getElem?_eq_some_iff.mp hd).1
      simpa [enumD_length] using this
    have hx : (xs.map sg)[i]? = some (sg xs[i]) := by rw [List.getElem?_map, List.getElem?_eq_getElem hi]; rfl
    have hd2 := enumD_get (xs.map sg) 0 i _ hx
    rw [hd] at hd2
    cases hd2
    have hb := unwS_bound m (xs.take i) 0 0 (List.replicate m []) (by simp)
    rw [Nat.zero_add] at hE
    obtain ⟨ρ', e1, ρ2, e2, h2⟩ := st i xs[i] _ ρ hi (by rw [unwS_length]; simp) (fun r hr => by have := hb r hr; simp at this; omega) hE
    refine ⟨ρ', by simpa using e1, ρ2, .inl e2, ?_⟩
    have ex : xs[i]? = some xs[i] := List.getElem?_eq_getElem hi
    rw [Nat.zero_add, take_succ_get ex, unwS_snoc]
    have hl : (xs.take i).length = i := by simp; omega
    rw [hl, Nat.zero_add]
    exact h2
theorem step_mut {R : List Row} {m i : Nat} {x : Option Int} (hm : 0 < m) (hR : R.length = m) (hb : ∀ r ∈ R, r.length < 16777216) :
    ∃ r : Row, ixN (R.map rowD).length ((i : Int) % (m : Int)) = some (i % m) ∧ (R.map rowD)[i % m]? = some (rowD r) ∧ r.length < sizeLine ∧ (R.map rowD).set (i % m) (.lst (r.map sg ++ [sg x])) = (put m i R x).map rowD := by
  have hi : i % m < m := Nat.mod_lt _ hm
  have e1 : ((i : Int) % (m : Int)) = ((i % m : Nat) : Int) := by simp
  have h1 : R[i % m]? = some R[i % m] := List.getElem?_eq_getElem (by omega)
  refine ⟨R[i % m], ?_, by rw [List.getElem?_map, h1]; rfl, sz_lt (hb _ (List.getElem_mem _)), ?_⟩
  · rw [e1, ixN_ok (by omega) (by rw [List.length_map, hR]; exact_mod_cast hi), Int.toNat_natCast]
  · unfold put
    rw [List.map_set, List.getD_eq_getElem?_getD, h1]
    simp [rowD]
theorem F_unwoven_ok {xs : Row} {m : Nat} (hm : 0 < m) (hd : xs.length % m = 0) (hz : xs.length < 16777216) (hm2 : m < 16777216) : F_unwoven [.lst (xs.map sg), .int m] = .ok (tb (unwS m 0 (List.replicate m []) xs)) := by
  obtain ⟨ρ', e, o3, o4, o5, rfl⟩ := loop_unw (xs := xs) (m := m) (s := 2) (b := (bTup 2 (bCons (bN 3) (bCons (bN 4) bNil)))) (g := b1_unwoven) (ρ0 := [some (.lst (xs.map sg)), some (.int m), some (tb (List.replicate m [])), none, none, none])
    (fun R ρ => ∃ o3 o4 o5 : Option D, ρ = [some (.lst (xs.map sg)), some (.int m), some (tb R), o3, o4, o5]) hm (by
      rintro i x R ρ hi hR hb ⟨o3, o4, o5, rfl⟩
      obtain ⟨r, h1, h2, h3, h4⟩ := step_mut (i := i) (x := x) hm hR (fun r hr => by have := hb r hr; omega)
      refine ⟨_, by simp; rfl, _, ?_, some (.int (i : Int)), some (sg x), o5, rfl⟩
      have hm' : (0 : Int) < m := by omega
      simp only [List.length_map] at h1
      unfold b1_unwoven tb
      simp [hm, hm', h1, h2, rowD, h3, h4]) ⟨none, none, none, rfl⟩
  have ec : compL (bN 5) dYes (dL (dLst dNil)) [some (.lst (xs.map sg)), some (.int m), none, none, none, none] (rngD 0 m) = .ok ((List.replicate m []).map rowD) := by
    have := compL_mapI (ι := fun (i : Nat) => D.int (0 + (i : Int))) (b := bN 5) (ft := dYes) (fe := dL (dLst dNil)) (ρ := [some (.lst (xs.map sg)), some (.int m), none, none, none, none]) (φ := fun _ => rowD []) (List.range m) (fun i _ => by simp [rowD])
    have e2 : (List.range m).map (fun _ => rowD []) = (List.replicate m []).map rowD := by simp [List.map_const']
    rw [e2] at this
    exact this
  have hm' : (0 : Int) < m := by omega
  have hm1 : ¬ ((m : Int) < 1) := by omega
  have hdd : ((xs.length : Int) % (m : Int)) = 0 := by
    have : ((xs.length % m : Nat) : Int) = 0 := by rw [hd]; rfl
    simpa using this
  have hm3 : m ≤ sizeLine := sz_le (by omega)
  unfold F_unwoven d_unwoven
  unfold tb at e ⊢
  simp [hm, hm', hm1, hdd, r62 (show (0 : Int) ≤ m by omega) (by omega), rngD_length, hm3, ec, e, -List.map_replicate]
theorem F_unwoven_bad {xs : Row} {m : Nat} (hm : 0 < m) (hd : xs.length % m ≠ 0) : F_unwoven [.lst (xs.map sg), .int m] = .exc ⟨17, []⟩ := by
  have hm' : (0 : Int) < m := by omega
  have hm1 : ¬ ((m : Int) < 1) := by omega
  have hdd : ¬ ((xs.length : Int) % (m : Int)) = 0 := by
    intro h
    have : ((xs.length % m : Nat) : Int) = 0 := by simpa using h
    omega
  unfold F_unwoven d_unwoven
  simp [hm, hm', hm1, hdd]
/-! ### woven, then unwoven -/
theorem put_at {m a : Nat} {L : List Row} {r : Row} {T : List Row} {x : Option Int} (hb : L.length < m) : put m (a * m + L.length) (L ++ r :: T) x = L ++ (r ++ [x]) :: T := by
  have e : (a * m + L.length) % m = L.length := by rw [Nat.mul_comm, Nat.mul_add_mod]; exact Nat.mod_eq_of_lt hb
  unfold put
  rw [e, List.getD_eq_getElem?_getD]
  simp
theorem unw_col {m a : Nat} : ∀ (T : List Row) (c : Row) (L : List Row), L.length + T.length = m → c.length = T.length → unwS m (a * m + L.length) (L ++ T) c = L ++ List.zipWith (fun r x => r ++ [x]) T c
  | [], [], L, _, _ => by simp [unwS]
  | [], _ :: _, _, _, h => by cases h
  | _ :: _, [], _, _, h => by cases h
  | r :: T, x :: c, L, h, h2 => by
    have hlt : L.length < m := by simp at h; omega
    rw [unwS, put_at hlt]
    have ih := unw_col (m := m) (a := a) T c (L ++ [r ++ [x]]) (by simp at h ⊢; omega) (by simpa using h2)
    rw [List.append_assoc] at ih
    have e : a * m + L.length + 1 = a * m + (L ++ [r ++ [x]]).length := by simp; omega
    rw [e]
    simp only [List.singleton_append] at ih
    rw [ih]
    simp
theorem unw_wv (rows : List Row) (size : Nat) (hl : ∀ r ∈ rows, r.length = size) : ∀ n, n ≤ size → unwS rows.length 0 (List.replicate rows.length []) (wv rows n) = rows.map fun r => r.take n
  | 0, _ => by simp [wv, unwS, List.map_const']
  | n + 1, h => by
    rw [wv_succ, unwS_append, unw_wv rows size hl n (by omega), wv_length, Nat.zero_add]
    have := unw_col (m := rows.length) (a := n) (rows.map fun r => r.take n) (col rows n) [] (by simp) (by simp [col_length])
    simp only [List.length_nil, Nat.add_zero, List.nil_append] at this
    rw [this]
    unfold col
    rw [List.zipWith_map]
    clear this
    induction rows with
    | nil => rfl
    | cons r rows ih =>
      have hr : n < r.length := by rw [hl r List.mem_cons_self]; omega
      have hg : r[n]? = some (r.getD n none) := by rw [List.getD_eq_getElem?_getD, List.getElem?_eq_getElem hr]; rfl
      simp only [List.zipWith_cons_cons, List.map_cons]
      rw [take_succ_get hg, ih fun r hr => hl r (List.mem_cons_of_mem _ hr)]
theorem unw_back (rows : List Row) (size : Nat) (hl : ∀ r ∈ rows, r.length = size) : unwS rows.length 0 (List.replicate rows.length []) (wv rows size) = rows := by
  rw [unw_wv rows size hl size (Nat.le_refl _)]
  conv => rhs; rw [← List.map_id rows]
  refine List.map_congr_left fun r hr => ?_
  rw [← hl r hr, List.take_length]; rfl
end K72
namespace K72
open PySem PySem.Spec PyProof.Rows L2 PL
/-- cut_rows -/
def piece (xs : Row) (s k : Nat) : Row := (xs.drop (k * s)).take s
def pad (s : Nat) (r : Row) : Row := r ++ List.replicate (s - r.length) (some 0)
def cutS (xs : Row) (s : Nat) : List Row := (List.range ((xs.length + s - 1) / s)).map fun k => pad s (piece xs s k)
theorem piece_le (xs : Row) (s k : Nat) : (piece xs s k).length ≤ s := by simp [piece]; omega
theorem sl_piece {xs : Row} {s k : Nat} : cutD (xs.map sg) (some ((k : Int) * (s : Int))) (some ((k : Int) * (s : Int) + (s : Int))) = (piece xs s k).map sg := by
  rw [← Int.natCast_mul, cutD_nn (by omega) (by omega)]
  have e : (((k * s : Nat) : Int) + (s : Int)).toNat - ((k * s : Nat) : Int).toNat = s := by omega
  rw [e, Int.toNat_natCast]
  simp [piece]
theorem pad_loop {A B C : Option D} {s : Nat} (hs : s < 1000000) : ∀ (n : Nat) (r : Row), s - r.length = n →
    gWhile t1_cut_rows b1_cut_rows [A, some (.int s), B, C, some (.lst (r.map sg))] = .nx [A, some (.int s), B, C, some (.lst ((pad s r).map sg))]
  | 0, r, h => by
    have hl : ¬ ((r.length : Int) < s) := by omega
    rw [while_no (by unfold t1_cut_rows; simp; omega)]
    simp [pad, h]
  | n + 1, r, h => by
    have hl : r.length < s := by omega
    have hz : r.length < sizeLine := sz_lt (by omega)
    refine while_yes (ρ' := [A, some (.int s), B, C, some (.lst ((r ++ [some 0]).map sg))]) (by unfold t1_cut_rows; simp; omega) (.inl (by unfold b1_cut_rows; simp [hz, sg])) ?_ (fun z => nomatch z)
    rw [pad_loop hs n (r ++ [some 0]) (by simp; omega)]
    have e : pad s (r ++ [some 0]) = pad s r := by
      unfold pad
      rw [List.append_assoc, h]
      have : s - (r ++ [some 0]).length = n := by simp; omega
      rw [this]; rfl
    rw [e]
theorem F_cut {xs : Row} {s : Nat} (hs : 0 < s) (hs2 : s < 1000000) (hz : xs.length < 1000000) : F_cut_rows [.lst (xs.map sg), .int s] = .ok (tb (cutS xs s)) := by
  have hq : (xs.length + s - 1) / s ≤ xs.length + s := Nat.le_trans (Nat.div_le_self _ _) (by omega)
  have key := forL_inv (b := bN 3) (g := b2_cut_rows) (fun n ρ => ∃ o3 o4 : Option D, ρ = [some (.lst (xs.map sg)), some (.int s), some (tb ((List.range n).map fun k => pad s (piece xs s k))), o3, o4])
    ((List.range ((xs.length + s - 1) / s)).map fun (i : Nat) => .int ((i : Int) * (s : Int))) 0 [some (.lst (xs.map sg)), some (.int s), some (.lst []), none, none] ⟨none, none, rfl⟩ ?_
  · obtain ⟨ρ', e, o3, o4, rfl⟩ := key
    unfold F_cut_rows d_cut_rows
    unfold tb at e ⊢
    simp only [List.length_map, List.length_range, Nat.zero_add] at e
    have er := rng0 (n := xs.length) hs hs2 (by omega)
    simp [er, e, cutS]
  · rintro i d ρ hd ⟨o3, o4, rfl⟩
    rw [List.getElem?_map, Option.map_eq_some_iff] at hd
    obtain ⟨j, hj, rfl⟩ := hd
    rw [List.getElem?_eq_some_iff] at hj
    obtain ⟨hj, ej⟩ := hj
    rw [List.getElem_range] at ej
    subst ej
    rw [List.length_range] at hj
    refine ⟨_, by simp; rfl, _, .inl ?_, some (.int ((i : Int) * (s : Int))), some (rowD (pad s (piece xs s i))), rfl⟩
    · unfold b2_cut_rows
      have h1 := sl_piece (xs := xs) (s := s) (k := i)
      have h2 := pad_loop (A := some (.lst (xs.map sg))) (B := some (tb ((List.range i).map fun k => pad s (piece xs s k)))) (C := some (.int ((i : Int) * (s : Int)))) hs2 _ (piece xs s i) rfl
      have hz : (((List.range i).map fun k => pad s (piece xs s k)).map rowD).length < sizeLine := sz_lt (by simp; omega)
      rw [Nat.zero_add]
      unfold tb at h2 ⊢
      simp only [List.length_map, List.length_range] at hz
      simp [h1, h2, hz, List.range_succ, rowD, -List.map_map]
end K72
namespace K72
open PySem PySem.Spec PyProof.Rows L2 PL
theorem F_no1 {rows : List Row} (hne : 0 < rows.length) (hr : rows.length < 1000000) (hb : ∃ r ∈ rows, r.length ≠ rows[0].length) {z : Int} : F_law_no_rows [tb rows, .non, .int z] = .ok (.bl true) := by
  have h := F_woven_bad hne hr hb
  have e : oIsN false (tb rows) = some (.bl false) := rfl
  unfold F_law_no_rows d_law_no_rows
  simp [h, e]
theorem F_no2 {xs : Row} {m : Nat} (hm : 0 < m) (hd : xs.length % m ≠ 0) : F_law_no_rows [.non, .lst (xs.map sg), .int m] = .ok (.bl true) := by
  have h := F_unwoven_bad hm hd
  unfold F_law_no_rows d_law_no_rows
  simp [h]
theorem alls {rows : List Row} {b : Bd} {fe : PL.Env → Res D} {ρ : PL.Env} (h : ∀ r : Row, stepC b dYes fe ρ (.tup [rowD r, rowD r]) = .ok [.bl true]) : compL b dYes fe ρ (zipD (rows.map rowD) (rows.map rowD)) = .ok ((rows.map fun _ => true).map D.bl) := by
  rw [zip_self]
  have := compL_mapI (ι := fun r => D.tup [rowD r, rowD r]) (b := b) (ft := dYes) (fe := fe) (ρ := ρ) (φ := fun _ => D.bl true) rows (fun r _ => h r)
  rw [this, List.map_map]; rfl
theorem F_unwoven_right {xs : Row} {m : Nat} (hm : 0 < m) (hz : xs.length < 1000000) (hm2 : m < 1000000) : F_law_unwoven_right [.lst (xs.map sg), .int m] = .ok (.bl true) := by
  have hm' : (0 : Int) < m := by omega
  by_cases hd : xs.length % m = 0
  · have hdd : ((xs.length : Int) % (m : Int)) = 0 := by
      have : ((xs.length % m : Nat) : Int) = 0 := by rw [hd]; rfl
      simpa using this
    have hF := F_unwoven_ok hm hd (by omega) (by omega)
    have hcl : Cln 1 (.lst (xs.map sg)) := cln_row xs
    have hne := oNe_self hcl (by omega)
    obtain ⟨ρ', e, o5, o6, o7, o8, rfl⟩ := loop_unw (xs := xs) (m := m) (s := 4) (b := (bTup 2 (bCons (bN 5) (bCons (bN 6) bNil)))) (g := b1_law_unwoven_right)
      (ρ0 := [some (.lst (xs.map sg)), some (.int m), some (.lst (xs.map sg)), some (tb (unwS m 0 (List.replicate m []) xs)), some (tb (List.replicate m [])), none, none, none, none])
      (fun R ρ => ∃ o5 o6 o7 o8 : Option D, ρ = [some (.lst (xs.map sg)), some (.int m), some (.lst (xs.map sg)), some (tb (unwS m 0 (List.replicate m []) xs)), some (tb R), o5, o6, o7, o8]) hm (by
        rintro i x R ρ hi hR hb ⟨o5, o6, o7, o8, rfl⟩
        obtain ⟨r, h1, h2, h3, h4⟩ := step_mut (i := i) (x := x) hm hR (fun r hr => by have := hb r hr; omega)
        refine ⟨_, by simp; rfl, _, ?_, some (.int (i : Int)), some (sg x), o7, o8, rfl⟩
        simp only [List.length_map] at h1
        unfold b1_law_unwoven_right
        have et : tb R = .lst (R.map rowD) := rfl
        have et2 : tb (put m i R x) = .lst ((put m i R x).map rowD) := rfl
        rw [et, et2]
        simp [hm, hm', h1, h2, rowD, h3, h4]) ⟨none, none, none, none, rfl⟩
    have ec : compL (bN 7) dYes (dL (dLst dNil)) [some (.lst (xs.map sg)), some (.int m), some (.lst (xs.map sg)), some (tb (unwS m 0 (List.replicate m []) xs)), none, none, none, none, none] (rngD 0 m) = .ok ((List.replicate m []).map rowD) := by
      have := compL_mapI (ι := fun (i : Nat) => D.int (0 + (i : Int))) (b := bN 7) (ft := dYes) (fe := dL (dLst dNil)) (ρ := [some (.lst (xs.map sg)), some (.int m), some (.lst (xs.map sg)), some (tb (unwS m 0 (List.replicate m []) xs)), none, none, none, none, none]) (φ := fun _ => rowD []) (List.range m) (fun i _ => by simp [rowD])
      have e2 : (List.range m).map (fun _ => rowD []) = (List.replicate m []).map rowD := by simp [List.map_const']
      rw [e2] at this
      exact this
    have hl : (unwS m 0 (List.replicate m []) xs).length = m := by rw [unwS_length]; simp
    generalize hU : unwS m 0 (List.replicate m []) xs = U at *
    have hm3 : m ≤ sizeLine := sz_le (by omega)
    have hm4 : U.length ≤ sizeLine := by rw [hl]; exact hm3
    have et : ∀ R, tb R = .lst (R.map rowD) := fun _ => rfl
    rw [et] at e ec hF
    rw [et] at e
    have el : (zipD (U.map rowD) (U.map rowD)).length ≤ sizeLine := by rw [zipD_length]; simp [hm4]
    have ea := alls (rows := U) (b := bTup 2 (bCons (bN 8) (bCons (bN 7) bNil))) (fe := e1_law_unwoven_right) (ρ := [some (.lst (xs.map sg)), some (.int m), some (.lst (xs.map sg)), some (.lst (U.map rowD)), some (.lst (U.map rowD)), o5, o6, none, none]) (fun r => by
      have := F_alike r
      unfold e1_law_unwoven_right rowD
      simp [this])
    have an : ((U.map fun _ => true).all id) = true := by simp
    unfold F_law_unwoven_right d_law_unwoven_right
    simp [hm, hm', hdd, hF, hne, hl, r62 (show (0 : Int) ≤ m by omega) (by omega), rngD_length, hm3, hm4, ec, e, el, ea, truL_bl, an, -List.map_replicate, -List.map_map, -List.map_const', zipD_length]
  · have hdd : (0 : Int) < ((xs.length : Int) % (m : Int)) := by
      have h1 : (0 : Int) < ((xs.length % m : Nat) : Int) := by omega
      simpa using h1
    have h := F_no2 hm hd
    unfold F_law_unwoven_right d_law_unwoven_right
    simp [hm, hm', hdd, h]
end K72
namespace K72
open PySem PySem.Spec PyProof.Rows L2 PL
theorem F_woven_right {rows : List Row} {size : Nat} (hne : 0 < rows.length) (hl : ∀ r ∈ rows, r.length = size) (hz : size * rows.length < 1000000) (hs : size < 100000) (hr : rows.length < 100000) : F_law_woven_right [tb rows] = .ok (.bl true) := by
  have et : ∀ R, tb R = .lst (R.map rowD) := fun _ => rfl
  have h0 : rows[0]? = some rows[0] := List.getElem?_eq_getElem hne
  have hr0 : rows[0].length = size := hl _ (List.getElem_mem hne)
  have e0 : atI (rows.map rowD) 0 = some (rowD rows[0]) := by
    rw [atI_ok (by omega) (by simpa using hne)]; simp [h0]
  have e1 : oLen [rowD rows[0]] = some (.int size) := by simp [rowD, hr0]
  have ec : compL (bN 6) dYes e1_law_woven_right [some (.lst (rows.map rowD)), none, none, none, none, none, none, none] (rows.map rowD) = .ok (rows.map rowD) :=
    compL_mapI (ι := rowD) rows fun r hr => by simp [e1_law_woven_right, rowD]
  have hF := F_woven_ok hne hl (by omega) (by omega) (by omega)
  have hwl : (wv rows size).length = size * rows.length := wv_length rows size
  have hA := F_alike (wv rows size)
  have hU := F_unwoven_ok (xs := wv rows size) (m := rows.length) hne (by rw [hwl]; simp) (by rw [hwl]; omega) (by omega)
  rw [unw_back rows size hl] at hU
  have hne2 := oNe_self (cln_tb rows) (by omega)
  rw [et] at hF hU hne2
  have hn2 : rows.length ≤ sizeLine := sz_le (by omega)
  have hn3 : (wv rows size).length < sizeLine := sz_lt (by omega)
  have key := forL_inv (b := bN 3) (g := b1_law_woven_right) (fun n ρ => ∃ o3 : Option D, ρ = [some (.lst (rows.map rowD)), some (.lst (rows.map rowD)), some (.lst ((wv rows n).map sg)), o3, none, none, none, none])
    (rngD 0 size) 0 [some (.lst (rows.map rowD)), some (.lst (rows.map rowD)), some (.lst []), none, none, none, none, none] ⟨none, rfl⟩ ?_
  · obtain ⟨ρ', e, o3, rfl⟩ := key
    rw [rngD_length, Nat.zero_add] at e
    have ea := alls (rows := rows) (b := bTup 2 (bCons (bN 7) (bCons (bN 6) bNil))) (fe := e3_law_woven_right) (ρ := [some (.lst (rows.map rowD)), some (.lst (rows.map rowD)), some (.lst ((wv rows size).map sg)), o3, some (.lst ((wv rows size).map sg ++ [.int 0])), some (.lst (rows.map rowD)), none, none]) (fun r => by
      have := F_alike r
      unfold e3_law_woven_right rowD
      simp [this])
    have an : ((rows.map fun _ => true).all id) = true := by simp
    have el : (zipD (rows.map rowD) (rows.map rowD)).length ≤ sizeLine := by rw [zipD_length]; simp [hn2]
    unfold F_law_woven_right d_law_woven_right
    rw [et]
    simp [hn2, ec, e0, e1, r62 (show (0 : Int) ≤ size by omega) (by omega), e, hF, hA, hne2, hU, hn3, ea, truL_bl, an, isSca, -List.map_map, zipD_length]
  · rintro i d ρ hd ⟨o3, rfl⟩
    obtain ⟨hi, rfl⟩ := rngD_get hd
    refine ⟨_, by simp; rfl, _, .inl ?_, some (.int (i : Int)), rfl⟩
    have ec2 : compL (bN 6) dYes e2_law_woven_right [some (.lst (rows.map rowD)), some (.lst (rows.map rowD)), some (.lst ((wv rows i).map sg)), some (.int (i : Int)), none, none, none, none] (rows.map rowD) = .ok ((col rows i).map sg) := by
      have := compL_mapI (ι := rowD) (b := bN 6) (ft := dYes) (fe := e2_law_woven_right) (ρ := [some (.lst (rows.map rowD)), some (.lst (rows.map rowD)), some (.lst ((wv rows i).map sg)), some (.int (i : Int)), none, none, none, none]) (φ := fun r => sg (r.getD i none)) rows fun r hr => by
        have eg : atI (r.map sg) (i : Int) = some (sg (r.getD i none)) := by
          rw [atI_ok (by omega) (by simp [hl r hr]; omega), Int.toNat_natCast]
          exact sg_get (by rw [hl r hr]; exact hi)
        simp [e2_law_woven_right, rowD, eg]
      rw [this]
      simp [col]
    have hz2 : (wv rows i).length + rows.length ≤ sizeLine := sz_le (by
      rw [wv_length]
      have : i * rows.length + rows.length ≤ size * rows.length := by rw [← Nat.succ_mul]; exact Nat.mul_le_mul_right _ hi
      omega)
    unfold b1_law_woven_right
    simp [hn2, ec2, hz2, wv_succ, Nat.zero_add, col_length]
theorem F_cut_right {xs : Row} {s : Nat} (hs : 0 < s) (hs2 : s < 100000) (hz : xs.length < 100000) : F_law_cut_right [.lst (xs.map sg), .int s] = .ok (.bl true) := by
  have et : ∀ R, tb R = .lst (R.map rowD) := fun _ => rfl
  have hF := F_cut (xs := xs) hs (by omega) (by omega)
  rw [et] at hF
  have hne2 := oNe_self (cln_row xs) (by omega)
  unfold rowD at hne2
  have hcl : (cutS xs s).length = (xs.length + s - 1) / s := by simp [cutS]
  have key := forL_inv (b := bTup 2 (bCons (bN 4) (bCons (bN 5) bNil))) (g := b1_law_cut_right) (fun n ρ => ∃ o4 o5 o6 : Option D, ρ = [some (.lst (xs.map sg)), some (.int s), some (.lst (xs.map sg)), some (.lst ((cutS xs s).map rowD)), o4, o5, o6])
    (enumD 0 ((cutS xs s).map rowD)) 0 [some (.lst (xs.map sg)), some (.int s), some (.lst (xs.map sg)), some (.lst ((cutS xs s).map rowD)), none, none, none] ⟨none, none, none, rfl⟩ ?_
  · obtain ⟨ρ', e, o4, o5, o6, rfl⟩ := key
    have hdiv : CDivW ((xs.length : Int) + s - 1) s := divW (by omega) (by omega)
    have hq : ((xs.length : Int) + s - 1) / s = (((xs.length + s - 1) / s : Nat) : Int) := by
      have : ((xs.length : Int) + s - 1) = ((xs.length + s - 1 : Nat) : Int) := by omega
      rw [this]; rfl
    unfold F_law_cut_right d_law_cut_right
    simp [hF, hne2, hdiv, hq, hcl, e]
  · rintro i d ρ hd ⟨o4, o5, o6, rfl⟩
    have hi : i < (xs.length + s - 1) / s := by
      have := (List.getElem?_eq_some_iff.mp hd).1
      simpa [enumD_length, hcl] using this
    have hr : (cutS xs s)[i]? = some (pad s (piece xs s i)) := by simp [cutS, hi]
    have hd2 := enumD_get ((cutS xs s).map rowD) 0 i (rowD (pad s (piece xs s i))) (by rw [List.getElem?_map, hr]; rfl)
    rw [hd] at hd2
    cases hd2
    refine ⟨_, by simp; rfl, _, .inl ?_, some (.int (i : Int)), some (rowD (pad s (piece xs s i))), some (rowD (piece xs s i)), rfl⟩
    have h1 := sl_piece (xs := xs) (s := s) (k := i)
    have h3 : ((i : Int) + 1) * s = (i : Int) * s + s := by rw [Int.add_mul, Int.one_mul]
    have m1 : ∀ x : Int, CMulU x s := fun x => mulR (by omega) (by omega)
    have hp := piece_le xs s i
    have h4 : ((s : Int) - (piece xs s i).length).toNat = s - (piece xs s i).length := by omega
    have h5 : CRep 1 ((s : Int) - (piece xs s i).length) := ⟨by omega, by omega, by rw [h4]; exact sz_le (by omega)⟩
    have h7 : s - (piece xs s i).length ≤ sizeLine := sz_le (by omega)
    have h8 : (piece xs s i).length + (s - (piece xs s i).length) ≤ sizeLine := sz_le (by omega)
    have hA := F_alike (pad s (piece xs s i))
    have hp2 : (pad s (piece xs s i)).map sg = (piece xs s i).map sg ++ (List.replicate (s - (piece xs s i).length) [D.int 0]).flatten := by
      simp [pad, sg]
    have hfl : (List.replicate (s - (piece xs s i).length) [D.int 0]).flatten.length = s - (piece xs s i).length := by simp
    unfold b1_law_cut_right rowD
    rw [hp2] at hA ⊢
    simp [m1, h3, h1, h4, h5, h7, h8, hA, hfl, -List.flatten_replicate_singleton, -List.length_flatten]
end K72
namespace K72
open PySem PySem.Spec PyProof.Rows L2 PL
theorem seq_nx {g h : PL.Env → PL.Flow} {ρ ρ' : PL.Env} {fl : PL.Flow} (e : g ρ = .nx ρ') (k : h ρ' = fl) : gSeq g h ρ = fl := by rw [ev_seq, e]; exact k
def sgn (n : Int) : Option Int := if n % 65 = 64 then none else some (n % 65)
theorem sign_map {f : PL.Env → Res D} {ρ : PL.Env} {b : Bd} (xs : List Int) (h : ∀ x ∈ xs, stepC b dYes f ρ (.int x) = .ok [sg (sgn x)]) : compL b dYes f ρ (xs.map D.int) = .ok ((xs.map sgn).map sg) := by
  rw [compL_mapI (ι := D.int) (φ := fun x => sg (sgn x)) xs h, List.map_map]; rfl
theorem rows_len {signs : Row} {m s : Nat} (h : signs.length = m * s) : ∀ r ∈ (List.range m).map (piece signs s), r.length = s := by
  intro r hr
  obtain ⟨k, hk, rfl⟩ := List.mem_map.mp hr
  rw [List.mem_range] at hk
  simp only [piece, List.length_take, List.length_drop, h]
  have : k * s + s ≤ m * s := by rw [← Nat.succ_mul]; exact Nat.mul_le_mul_right _ hk
  omega
theorem spoilt_bad {rows : List Row} {s i : Nat} {r' : Row} (hm : 1 < rows.length) (hl : ∀ r ∈ rows, r.length = s) (hi : i < rows.length) (hr : r'.length ≠ s) : ∃ r ∈ rows.set i r', r.length ≠ ((rows.set i r')[0]'(by simp; omega)).length := by
  by_cases h0 : i = 0
  · subst h0
    refine ⟨rows[1], ?_, ?_⟩
    · have : (rows.set 0 r')[1]? = some rows[1] := by rw [List.getElem?_set_ne (by omega), List.getElem?_eq_getElem hm]
      exact List.mem_of_getElem? this
    · rw [List.getElem_set_self, hl _ (List.getElem_mem _)]; exact fun z => hr z.symm
  · refine ⟨r', ?_, ?_⟩
    · have : (rows.set i r')[i]? = some r' := List.getElem?_set_self hi
      exact List.mem_of_getElem? this
    · rw [List.getElem_set_ne (by omega), hl _ (List.getElem_mem _)]; exact hr
theorem plain_of {ρ : PL.Env} (hl : ρ.length = 20) (xs : Row) : compL (bN 19) t1_law e4_law ρ (xs.map sg) = .ok ((xs.filter Option.isSome).map sg) := by
  rw [compL_flatI (ι := sg) (φ := fun x => if x.isSome then [sg x] else []) xs]
  · congr 1
    induction xs with
    | nil => rfl
    | cons x xs ih => cases x <;> simp [ih]
  · intro x _
    cases x with
    | none => simp [t1_law, e4_law, sg, hl]
    | some i => simp [t1_law, e4_law, sg, hl]
theorem five {xs : List Int} (h : xs.length = 5) : ∃ a b c d e, xs = [a, b, c, d, e] := by
  match xs, h with
  | [a, b, c, d, e], _ => exact ⟨a, b, c, d, e, rfl⟩
theorem er_map {α β : Type} (f : α → β) : ∀ (l : List α) (j : Nat), (l.map f).eraseIdx j = (l.eraseIdx j).map f
  | [], _ => rfl
  | _ :: _, 0 => rfl
  | x :: l, j + 1 => by simp [er_map f l j]
theorem law_true (ns : List Int) (hn : ns.length ≤ 63) (hb : ∀ z ∈ ns, Builtin.Int.intBits z ≤ 1048576) : F_law [.scr ns] = .ok (.bl true) := by
  obtain ⟨x0, h0, l0, b0⟩ := F_row (ns := ns) (k := 0) (many := 5) (size := 999983) (by omega) hn (by omega) (by omega) (by omega) (by omega) (by decide)
  obtain ⟨a, b, c, d, e, rfl⟩ := five (by simpa using l0)
  have ba := b0 a (by simp)
  have bb := b0 b (by simp)
  have bc := b0 c (by simp)
  have bd := b0 d (by simp)
  have be := b0 e (by simp)
  clear b0 l0
  -- how many, how long
  obtain ⟨m, s, hms, hm, hz, hs⟩ : ∃ m s : Nat, (if c % 3 = 1 then (1 + b % 75 = (m : Int) ∧ a % 5 = (s : Int)) else (1 + a % 4 = (m : Int) ∧ b % 76 = (s : Int))) ∧ 0 < m ∧ m * s ≤ 300 ∧ s ≤ 75 := by
    by_cases hc : c % 3 = 1
    · refine ⟨(1 + b % 75).toNat, (a % 5).toNat, ?_, by omega, ?_, by omega⟩
      · rw [if_pos hc]; omega
      · have h1 : (1 + b % 75).toNat ≤ 75 := by omega
        have h2 : (a % 5).toNat ≤ 4 := by omega
        exact Nat.mul_le_mul h1 h2
    · refine ⟨(1 + a % 4).toNat, (b % 76).toNat, ?_, by omega, ?_, by omega⟩
      · rw [if_neg hc]; omega
      · have h1 : (1 + a % 4).toNat ≤ 4 := by omega
        have h2 : (b % 76).toNat ≤ 75 := by omega
        exact Nat.mul_le_mul h1 h2
  have hm2 : m ≤ 76 := by
    by_cases hc : c % 3 = 1
    · rw [if_pos hc] at hms; omega
    · rw [if_neg hc] at hms; omega
  obtain ⟨x1, h1, l1, b1⟩ := F_row (ns := ns) (k := 1) (many := (m : Int) * s) (size := 4160) (by omega) hn (by omega) (by rw [← Int.natCast_mul]; omega) (by rw [← Int.natCast_mul]; omega) (by omega) (by decide)
  obtain ⟨x2, h2, l2, b2⟩ := F_row (ns := ns) (k := 2) (many := e % 201) (size := 65) (by omega) hn (by omega) (by omega) (by omega) (by omega) (by decide)
  have l1' : x1.length = m * s := by rw [l1, ← Int.natCast_mul, Int.toNat_natCast]
  have l2' : x2.length ≤ 200 := by omega
  obtain ⟨signs, hsg⟩ : ∃ z : Row, z = x1.map sgn := ⟨_, rfl⟩
  have ls : signs.length = m * s := by simp [hsg, l1']
  obtain ⟨rows, hrw⟩ : ∃ z : List Row, z = (List.range m).map (piece signs s) := ⟨_, rfl⟩
  have lr : rows.length = m := by simp [hrw]
  have hl : ∀ r ∈ rows, r.length = s := by rw [hrw]; exact rows_len ls
  have hW : F_law_woven_right [tb rows] = .ok (.bl true) := F_woven_right (by omega) hl (by rw [lr, Nat.mul_comm]; omega) (by omega) (by omega)
  obtain ⟨some', hso⟩ : ∃ z : Row, z = x2.map sgn := ⟨_, rfl⟩
  have lsome : some'.length = x2.length := by simp [hso]
  have hm' : (0 : Int) < m := by omega
  have key : d_law [some (.scr ns), none, none, none, none, none, none, none, none, none, none, none, none, none, none, none, none, none, none, none] = .rt (.bl true) := by
    unfold d_law
    refine seq_nx (ρ' := [some (.scr ns), some (.int a), some (.int b), some (.int c), some (.int d), some (.int e), none, none, none, none, none, none, none, none, none, none, none, none, none, none]) (by simp [h0]) ?_
    have step4 : ∀ fl : PL.Flow, ∀ h : PL.Env → PL.Flow, h [some (.scr ns), some (.int a), some (.int b), some (.int c), some (.int d), some (.int e), some (.int m), some (.int s), none, none, none, none, none, none, none, none, none, none, none, none] = fl → gSeq (gAsg (bN 6) (d2 oAdd (dC (.int 1)) (d2 oMod (dV 1) (dC (.int 4))))) (gSeq (gAsg (bN 7) (d2 oMod (dV 2) (dC (.int 76)))) (gSeq (gIf (dB1 (d2 oEq (d2 oMod (dV 3) (dC (.int 3))) (dC (.int 1)))) (gSeq (gAsg (bN 6) (d2 oAdd (dC (.int 1)) (d2 oMod (dV 2) (dC (.int 75))))) (gAsg (bN 7) (d2 oMod (dV 1) (dC (.int 5))))) (fun ρ => .nx ρ)) h)) [some (.scr ns), some (.int a), some (.int b), some (.int c), some (.int d), some (.int e), none, none, none, none, none, none, none, none, none, none, none, none, none, none] = fl := by
      intro fl h k
      by_cases hc : c % 3 = 1
      · rw [if_pos hc] at hms
        simp [hc, hms.1, hms.2, k]
      · rw [if_neg hc] at hms
        simp [hc, hms.1, hms.2, k]
    refine step4 _ _ ?_
    have mss : CMulU (m : Int) s := mulL (by omega) (by omega)
    have m6 : CMulU 65 64 := mulL (by decide) (by decide)
    refine seq_nx (ρ' := [some (.scr ns), some (.int a), some (.int b), some (.int c), some (.int d), some (.int e), some (.int m), some (.int s), some (.lst (x1.map .int)), none, none, none, none, none, none, none, none, none, none, none]) (by simp [mss, m6, h1]) ?_
    have hx1 : x1.length ≤ sizeLine := sz_le (by omega)
    have es1 : compL (bN 16) dYes e1_law [some (.scr ns), some (.int a), some (.int b), some (.int c), some (.int d), some (.int e), some (.int m), some (.int s), some (.lst (x1.map .int)), none, none, none, none, none, none, none, none, none, none, none] (x1.map .int) = .ok (signs.map sg) := by
      rw [hsg]
      exact sign_map x1 fun x hx => by
        have := F_sign (b1 x hx).1
        unfold e1_law sgn
        simp [this]
    refine seq_nx (ρ' := [some (.scr ns), some (.int a), some (.int b), some (.int c), some (.int d), some (.int e), some (.int m), some (.int s), some (.lst (x1.map .int)), some (.lst (signs.map sg)), none, none, none, none, none, none, none, none, none, none]) (by simp [hx1, es1]) ?_
    have mss2 : ∀ x : Int, CMulU x s := fun x => mulR (by omega) (by omega)
    have es2 : compL (bN 17) dYes e2_law [some (.scr ns), some (.int a), some (.int b), some (.int c), some (.int d), some (.int e), some (.int m), some (.int s), some (.lst (x1.map .int)), some (.lst (signs.map sg)), none, none, none, none, none, none, none, none, none, none] (rngD 0 m) = .ok (rows.map rowD) := by
      have := compL_mapI (ι := fun (i : Nat) => D.int (0 + (i : Int))) (b := bN 17) (ft := dYes) (fe := e2_law) (ρ := [some (.scr ns), some (.int a), some (.int b), some (.int c), some (.int d), some (.int e), some (.int m), some (.int s), some (.lst (x1.map .int)), some (.lst (signs.map sg)), none, none, none, none, none, none, none, none, none, none]) (φ := fun k => rowD (piece signs s k)) (List.range m) (fun k _ => by
        have h3 := sl_piece (xs := signs) (s := s) (k := k)
        have h4 : ((k : Int) + 1) * s = (k : Int) * s + s := by rw [Int.add_mul, Int.one_mul]
        unfold e2_law rowD
        simp [mss2, h4, h3])
      rw [show rows.map rowD = (List.range m).map fun k => rowD (piece signs s k) by simp [hrw]]
      exact this
    have hm6 : m ≤ sizeLine := sz_le (by omega)
    have et : ∀ R, tb R = .lst (R.map rowD) := fun _ => rfl
    rw [et] at hW
    refine seq_nx (ρ' := [some (.scr ns), some (.int a), some (.int b), some (.int c), some (.int d), some (.int e), some (.int m), some (.int s), some (.lst (x1.map .int)), some (.lst (signs.map sg)), some (.lst (rows.map rowD)), none, none, none, none, none, none, none, none, none]) (by simp [r62 (show (0 : Int) ≤ m by omega) (by omega), rngD_length, hm6, es2]) ?_
    refine seq_nx (ρ' := [some (.scr ns), some (.int a), some (.int b), some (.int c), some (.int d), some (.int e), some (.int m), some (.int s), some (.lst (x1.map .int)), some (.lst (signs.map sg)), some (.lst (rows.map rowD)), none, none, none, none, none, none, none, none, none]) (by simp [hW]) ?_
    have lr6 : rows.length ≤ sizeLine := sz_le (by omega)
    have es3 : compL (bN 18) dYes (dL (dList (dV 18))) [some (.scr ns), some (.int a), some (.int b), some (.int c), some (.int d), some (.int e), some (.int m), some (.int s), some (.lst (x1.map .int)), some (.lst (signs.map sg)), some (.lst (rows.map rowD)), none, none, none, none, none, none, none, none, none] (rows.map rowD) = .ok (rows.map rowD) := compL_mapI (ι := rowD) rows fun r _ => by simp [rowD]
    refine seq_nx (ρ' := [some (.scr ns), some (.int a), some (.int b), some (.int c), some (.int d), some (.int e), some (.int m), some (.int s), some (.lst (x1.map .int)), some (.lst (signs.map sg)), some (.lst (rows.map rowD)), some (.lst (rows.map rowD)), none, none, none, none, none, none, none, none]) (by simp [lr6, es3]) ?_
    obtain ⟨at', hat, hat2⟩ : ∃ z : Nat, d % (m : Int) = z ∧ z < m := ⟨(d % (m : Int)).toNat, by have := Int.emod_nonneg d (show (m : Int) ≠ 0 by omega); omega, by have := Int.emod_lt_of_pos d hm'; have := Int.emod_nonneg d (show (m : Int) ≠ 0 by omega); omega⟩
    refine seq_nx (ρ' := [some (.scr ns), some (.int a), some (.int b), some (.int c), some (.int d), some (.int e), some (.int m), some (.int s), some (.lst (x1.map .int)), some (.lst (signs.map sg)), some (.lst (rows.map rowD)), some (.lst (rows.map rowD)), some (.int at'), none, none, none, none, none, none, none]) (by simp [hm, hat]) ?_
    obtain ⟨R0, hra⟩ : ∃ R0, rows[at']? = some R0 := ⟨_, List.getElem?_eq_getElem (by omega)⟩
    have hrd : rowD R0 = .lst (R0.map sg) := rfl
    have hra2 : (rows.map rowD)[at']? = some (rowD R0) := by rw [List.getElem?_map, hra]; rfl
    have hlr : R0.length = s := hl _ (List.mem_of_getElem? hra)
    have hix : ixN rows.length (at' : Int) = some at' := by rw [ixN_ok (by omega) (by omega), Int.toNat_natCast]
    obtain ⟨r', hr', hstep⟩ : ∃ r' : Row, r'.length ≠ s ∧ (gIfN 11 (dAndT (dB1 (d2 oEq (d2 oMod (d2 oFdiv (dV 3) (dC (.int 3))) (dC (.int 2))) (dC (.int 1)))) (dB1 (d2 oGt (dV 7) (dC (.int 0))))) (gMutN 11 (dV 12) (dCons (d2 oMod (d2 oFdiv (dV 4) (dC (.int 128))) (dV 7)) dNil) oPopAt) (gMutN 11 (dV 12) (dCons (d2 oMod (d2 oFdiv (dV 4) (dC (.int 128))) (d2 oAdd (dV 7) (dC (.int 1)))) (dCons (dC (.int 0)) dNil)) oInsert)) [some (.scr ns), some (.int a), some (.int b), some (.int c), some (.int d), some (.int e), some (.int m), some (.int s), some (.lst (x1.map .int)), some (.lst (signs.map sg)), some (.lst (rows.map rowD)), some (.lst (rows.map rowD)), some (.int at'), none, none, none, none, none, none, none] = .nx [some (.scr ns), some (.int a), some (.int b), some (.int c), some (.int d), some (.int e), some (.int m), some (.int s), some (.lst (x1.map .int)), some (.lst (signs.map sg)), some (.lst (rows.map rowD)), some (.lst ((rows.set at' r').map rowD)), some (.int at'), none, none, none, none, none, none, none] := by
      have q3 : CDivW c 3 := divW (by decide) (by decide)
      have q128 : CDivW d 128 := divW (by decide) (by decide)
      have m2 : (0 : Int) < 2 := by decide
      by_cases hc2 : c / 3 % 2 = 1 ∧ 0 < s
      · have hs' : (0 : Int) < s := by omega
        obtain ⟨j, hj, hj2⟩ : ∃ z : Nat, d / 128 % (s : Int) = z ∧ z < s := ⟨(d / 128 % (s : Int)).toNat, by have := Int.emod_nonneg (d / 128) (show (s : Int) ≠ 0 by omega); omega, by have := Int.emod_lt_of_pos (d / 128) hs'; have := Int.emod_nonneg (d / 128) (show (s : Int) ≠ 0 by omega); omega⟩
        have hix2 : ixN s (j : Int) = some j := by rw [ixN_ok (by omega) (by omega), Int.toNat_natCast]
        have hj63 : CPop (j : Int) := ⟨by omega, by omega⟩
        refine ⟨R0.eraseIdx j, by rw [List.length_eraseIdx_of_lt (by omega), hlr]; omega, ?_⟩
        have es : (rows.map rowD).set at' (.lst ((R0.map sg).eraseIdx j)) = (rows.set at' (R0.eraseIdx j)).map rowD := by
          rw [List.map_set, rowD, er_map]
        simp [q3, q128, hc2.1, hc2.2, hix, hra, hrd, hj, hix2, hj63, hlr, es, -List.map_set]
      · have hs1 : (0 : Int) < (s : Int) + 1 := by omega
        obtain ⟨j, hj, hj2⟩ : ∃ z : Nat, d / 128 % ((s : Int) + 1) = z ∧ z < s + 1 := ⟨(d / 128 % ((s : Int) + 1)).toNat, by have := Int.emod_nonneg (d / 128) (show ((s : Int) + 1) ≠ 0 by omega); omega, by have := Int.emod_lt_of_pos (d / 128) hs1; have := Int.emod_nonneg (d / 128) (show ((s : Int) + 1) ≠ 0 by omega); omega⟩
        have hj63 : CIns s (j : Int) := ⟨sz_lt (by omega), by omega, by omega⟩
        have hsz : s < sizeLine := sz_lt (by omega)
        refine ⟨R0.take j ++ [some 0] ++ R0.drop j, by simp [hlr]; omega, ?_⟩
        have es : (rows.map rowD).set at' (.lst ((R0.map sg).take j ++ [.int 0] ++ (R0.map sg).drop j)) = (rows.set at' (R0.take j ++ [some 0] ++ R0.drop j)).map rowD := by
          rw [List.map_set]; simp [rowD, sg]
        by_cases h1 : c / 3 % 2 = 1
        · have h2 : ¬ (0 < s) := fun h2 => hc2 ⟨h1, h2⟩
          simp [q3, q128, h1, h2, hs1, hix, hra, hrd, hj, hj63, hlr, hsz, -List.map_set]
          simpa using es
        · simp [q3, q128, h1, hs1, hix, hra, hrd, hj, hj63, hlr, hsz, -List.map_set]
          simpa using es
    refine seq_nx (ρ' := [some (.scr ns), some (.int a), some (.int b), some (.int c), some (.int d), some (.int e), some (.int m), some (.int s), some (.lst (x1.map .int)), some (.lst (signs.map sg)), some (.lst (rows.map rowD)), some (.lst ((rows.set at' r').map rowD)), some (.int at'), none, none, none, none, none, none, none]) (hstep) ?_
    have hN : 1 < m → F_law_no_rows [.lst ((rows.set at' r').map rowD), .non, .int 0] = .ok (.bl true) := fun h => by
      have := F_no1 (rows := rows.set at' r') (z := 0) (by simp; omega) (by simp; omega) (spoilt_bad (by omega) hl (by omega) hr')
      exact this
    refine seq_nx (ρ' := [some (.scr ns), some (.int a), some (.int b), some (.int c), some (.int d), some (.int e), some (.int m), some (.int s), some (.lst (x1.map .int)), some (.lst (signs.map sg)), some (.lst (rows.map rowD)), some (.lst ((rows.set at' r').map rowD)), some (.int at'), none, none, none, none, none, none, none]) (by
      by_cases h1m : 1 < m
      · have h1i : (1 : Int) < m := by omega
        have hN' := hN h1m
        simp [h1m, h1i, hN', -List.map_set]
      · have h1i : ¬ (1 : Int) < m := by omega
        simp [h1m, h1i, -List.map_set]) ?_
    have hx2 : x2.length ≤ sizeLine := sz_le (by omega)
    have es4 : compL (bN 16) dYes e3_law [some (.scr ns), some (.int a), some (.int b), some (.int c), some (.int d), some (.int e), some (.int m), some (.int s), some (.lst (x1.map .int)), some (.lst (signs.map sg)), some (.lst (rows.map rowD)), some (.lst ((rows.set at' r').map rowD)), some (.int at'), none, none, none, none, none, none, none] (x2.map .int) = .ok (some'.map sg) := by
      rw [hso]
      exact sign_map x2 fun x hx => by
        have := F_sign (b2 x hx).1
        unfold e3_law sgn
        simp [this]
    simp only [List.map_set] at es4 ⊢
    refine seq_nx (ρ' := [some (.scr ns), some (.int a), some (.int b), some (.int c), some (.int d), some (.int e), some (.int m), some (.int s), some (.lst (x1.map .int)), some (.lst (signs.map sg)), some (.lst (rows.map rowD)), some (.lst ((rows.set at' r').map rowD)), some (.int at'), some (.lst (some'.map sg)), none, none, none, none, none, none]) (by simp [h2, hx2, es4]) ?_
    have qa8 : CDivW a 8 := divW (by decide) (by decide)
    have qe256 : CDivW e 256 := divW (by decide) (by decide)
    have qb128 : CDivW b 128 := divW (by decide) (by decide)
    refine seq_nx (ρ' := [some (.scr ns), some (.int a), some (.int b), some (.int c), some (.int d), some (.int e), some (.int m), some (.int s), some (.lst (x1.map .int)), some (.lst (signs.map sg)), some (.lst (rows.map rowD)), some (.lst ((rows.map rowD).set at' (rowD r'))), some (.int at'), some (.lst (some'.map sg)), some (.int (1 + a / 8 % 200)), none, none, none, none, none]) (by simp [qa8]) ?_
    obtain ⟨p, hp, hp2, hpe⟩ : ∃ p : Nat, 0 < p ∧ p < 1000000 ∧ (gIf (dAndT (dB1 (d2 oEq (d2 oMod (d2 oFdiv (dV 5) (dC (.int 256))) (dC (.int 2))) (dC (.int 0)))) (dB1 (d2 oGt (dB oLen (dCons (dV 13) dNil)) (dC (.int 0))))) (gAsg (bN 14) (d2 oAdd (dC (.int 1)) (d2 oMod (d2 oFdiv (dV 1) (dC (.int 8))) (dB oLen (dCons (dV 13) dNil))))) (fun ρ => .nx ρ)) [some (.scr ns), some (.int a), some (.int b), some (.int c), some (.int d), some (.int e), some (.int m), some (.int s), some (.lst (x1.map .int)), some (.lst (signs.map sg)), some (.lst (rows.map rowD)), some (.lst ((rows.map rowD).set at' (rowD r'))), some (.int at'), some (.lst (some'.map sg)), some (.int (1 + a / 8 % 200)), none, none, none, none, none] = .nx [some (.scr ns), some (.int a), some (.int b), some (.int c), some (.int d), some (.int e), some (.int m), some (.int s), some (.lst (x1.map .int)), some (.lst (signs.map sg)), some (.lst (rows.map rowD)), some (.lst ((rows.map rowD).set at' (rowD r'))), some (.int at'), some (.lst (some'.map sg)), some (.int p), none, none, none, none, none] := by
      by_cases he : e / 256 % 2 = 0 ∧ 0 < some'.length
      · have hl0 : (0 : Int) < some'.length := by omega
        have h1 := Int.emod_nonneg (a / 8) (show (some'.length : Int) ≠ 0 by omega)
        have h2 := Int.emod_lt_of_pos (a / 8) hl0
        refine ⟨(1 + a / 8 % some'.length).toNat, by omega, by omega, ?_⟩
        have h3 : (((1 + a / 8 % some'.length).toNat : Nat) : Int) = 1 + a / 8 % some'.length := by omega
        rw [h3]
        simp [qe256, qa8, he.1, he.2]
      · refine ⟨(1 + a / 8 % 200).toNat, by omega, by omega, ?_⟩
        have h3 : (((1 + a / 8 % 200).toNat : Nat) : Int) = 1 + a / 8 % 200 := by omega
        rw [h3]
        by_cases h1 : e / 256 % 2 = 0
        · have h2 : ¬ (0 < some'.length) := fun h => he ⟨h1, h⟩
          simp [qe256, h1, h2]
        · simp [qe256, h1]
    refine seq_nx (ρ' := [some (.scr ns), some (.int a), some (.int b), some (.int c), some (.int d), some (.int e), some (.int m), some (.int s), some (.lst (x1.map .int)), some (.lst (signs.map sg)), some (.lst (rows.map rowD)), some (.lst ((rows.map rowD).set at' (rowD r'))), some (.int at'), some (.lst (some'.map sg)), some (.int p), none, none, none, none, none]) (hpe) ?_
    have hUn := F_unwoven_right (xs := some') hp (by omega) hp2
    refine seq_nx (ρ' := [some (.scr ns), some (.int a), some (.int b), some (.int c), some (.int d), some (.int e), some (.int m), some (.int s), some (.lst (x1.map .int)), some (.lst (signs.map sg)), some (.lst (rows.map rowD)), some (.lst ((rows.map rowD).set at' (rowD r'))), some (.int at'), some (.lst (some'.map sg)), some (.int p), none, none, none, none, none]) (by simp [hUn]) ?_
    have hsl : some'.length ≤ sizeLine := sz_le (by omega)
    have es5 := plain_of (ρ := [some (.scr ns), some (.int a), some (.int b), some (.int c), some (.int d), some (.int e), some (.int m), some (.int s), some (.lst (x1.map .int)), some (.lst (signs.map sg)), some (.lst (rows.map rowD)), some (.lst ((rows.map rowD).set at' (rowD r'))), some (.int at'), some (.lst (some'.map sg)), some (.int p), none, none, none, none, none]) rfl some'
    refine seq_nx (ρ' := [some (.scr ns), some (.int a), some (.int b), some (.int c), some (.int d), some (.int e), some (.int m), some (.int s), some (.lst (x1.map .int)), some (.lst (signs.map sg)), some (.lst (rows.map rowD)), some (.lst ((rows.map rowD).set at' (rowD r'))), some (.int at'), some (.lst (some'.map sg)), some (.int p), some (.lst ((some'.filter Option.isSome).map sg)), none, none, none, none]) (by simp [hsl, es5]) ?_
    have hc0 := Int.emod_nonneg (b / 128) (show (90 : Int) ≠ 0 by decide)
    have hc1 := Int.emod_lt_of_pos (b / 128) (show (0 : Int) < 90 by decide)
    have hC := F_cut_right (xs := some'.filter Option.isSome) (s := (1 + b / 128 % 90).toNat) (by omega) (by omega) (by have := List.length_filter_le Option.isSome some'; omega)
    have h3 : (((1 + b / 128 % 90).toNat : Nat) : Int) = 1 + b / 128 % 90 := by omega
    rw [h3] at hC
    simp [qb128, hC, hW]
  unfold F_law
  simp [key]
end K72
namespace K72
open PySem PySem.Spec PyProof.Rows L2 PL
def dfs : List He.DefD := [⟨("woven", none), "woven", "woven", defArgs s_woven, defBody s_woven, defScope s_woven, [], []⟩, ⟨("unwoven", none), "unwoven", "unwoven", defArgs s_unwoven, defBody s_unwoven, defScope s_unwoven, [], []⟩, ⟨("cut_rows", none), "cut_rows", "cut_rows", defArgs s_cut_rows, defBody s_cut_rows, defScope s_cut_rows, [], []⟩, ⟨("_law_cell", none), "_law_cell", "_law_cell", defArgs s_law_cell, defBody s_law_cell, defScope s_law_cell, [], []⟩, ⟨("_law_whole", none), "_law_whole", "_law_whole", defArgs s_law_whole, defBody s_law_whole, defScope s_law_whole, [], []⟩, ⟨("_law_row", none), "_law_row", "_law_row", defArgs s_law_row, defBody s_law_row, defScope s_law_row, [], []⟩, ⟨("_law_sign", none), "_law_sign", "_law_sign", defArgs s_law_sign, defBody s_law_sign, defScope s_law_sign, [], []⟩, ⟨("_law_alike", none), "_law_alike", "_law_alike", defArgs s_law_alike, defBody s_law_alike, defScope s_law_alike, [], []⟩, ⟨("_law_no_rows", none), "_law_no_rows", "_law_no_rows", defArgs s_law_no_rows, defBody s_law_no_rows, defScope s_law_no_rows, [], []⟩, ⟨("_law_woven_right", none), "_law_woven_right", "_law_woven_right", defArgs s_law_woven_right, defBody s_law_woven_right, defScope s_law_woven_right, [], []⟩, ⟨("_law_unwoven_right", none), "_law_unwoven_right", "_law_unwoven_right", defArgs s_law_unwoven_right, defBody s_law_unwoven_right, defScope s_law_unwoven_right, [], []⟩, ⟨("_law_cut_right", none), "_law_cut_right", "_law_cut_right", defArgs s_law_cut_right, defBody s_law_cut_right, defScope s_law_cut_right, [], []⟩, ⟨("law", none), "law", "law", defArgs s_law, defBody s_law, defScope s_law, [], []⟩]
def fas : List He.Fa := [.free "len", .exc "NoRows", .glo "NoRows", .free "any", .free "range", .free "enumerate", .free "isinstance", .free "int", .free "bool", .free "list", .free "zip", .glo "MendError", .glo "NoWord", .free "ValueError", .free "all", .glo "woven", .glo "unwoven", .glo "cut_rows", .glo "_law_cell", .glo "_law_whole", .glo "_law_row", .glo "_law_sign", .glo "_law_alike", .glo "_law_no_rows", .glo "_law_woven_right", .glo "_law_unwoven_right", .glo "_law_cut_right", .glo "law"]
def exB (K : Fg) : Bool := (((catchB K [7, 12, 17] 7 && isxB K [7, 12, 17] (fun c => subC c 17) (.ref (clsA K 17))) && isxB K [7, 12, 17] (fun c => subC c 12) (.ref (clsA K 12))) && isxB K [7, 12, 17] (fun _ => true) (.type "ValueError"))
abbrev Rw : PySem.W.OpenRow := PySem.W.OpenLaw.row PySem.Challenge.rw_mendfield_k72_long_rows_woven
abbrev qv : Program := PySem.W.view Rw.prog [18]
abbrev hk : PySem.W.Hook := He.hookX 4 fas dfs [] [] exB
def ob (s : PySem.W.SharedT) : He.AlX := He.obsX 4 fas dfs [] [] exB (HandSHeadRun.getT s)
theorem ob_eq (s : PySem.W.SharedT) : ob s = hk.obs s.abs := He.obsX_eq (HandSHeadRun.getT_eq s)
def loose : List PySem.Str := ["MendError", "NoWord", "NoRows", "woven", "unwoven", "cut_rows", "_law_cell", "_law_whole", "_law_row", "_law_sign", "_law_alike", "_law_no_rows", "_law_woven_right", "_law_unwoven_right", "_law_cut_right"]
theorem run (w : World) : HandSHeadRun.RunEq Rw qv hk ob 200000 loose w := by
  intro os
  kernel_rfl
theorem vw_of {K : Fg} {h : Heap} {mg : Str → Option Value} {w : World} (X : K.In h) (G : h.Ns mainGlobals mg) (c : He.SaysX fas dfs [] [] exB w h K) : Vw K mg := by
  have c1 := c.t.d
  have m := c.more
  simp only [exB, Bool.and_eq_true] at m
  exact { free_len := He.free_ok X G (c1.fact 0 (f := .free "len") rfl), exc_NoRows := exc_mk X G (c1.fact 1 (f := .exc "NoRows") rfl) (c1.fact 2 (f := .glo "NoRows") rfl), free_any := He.free_ok X G (c1.fact 3 (f := .free "any") rfl), free_range := He.free_ok X G (c1.fact 4 (f := .free "range") rfl), free_enumerate := He.free_ok X G (c1.fact 5 (f := .free "enumerate") rfl), free_isinstance := He.free_ok X G (c1.fact 6 (f := .free "isinstance") rfl), free_int := He.free_ok X G (c1.fact 7 (f := .free "int") rfl), free_bool := He.free_ok X G (c1.fact 8 (f := .free "bool") rfl), free_list := He.free_ok X G (c1.fact 9 (f := .free "list") rfl), free_zip := He.free_ok X G (c1.fact 10 (f := .free "zip") rfl), catch_MendError := catch_ok (He.glo_ok X G (c1.fact 11 (f := .glo "MendError") rfl)) m.1.1.1, isx_NoRows := isxB_ok m.1.1.2, gloc_NoRows := He.glo_ok X G (c1.fact 2 (f := .glo "NoRows") rfl), isx_NoWord := isxB_ok m.1.2, gloc_NoWord := He.glo_ok X G (c1.fact 12 (f := .glo "NoWord") rfl), isxt_ValueError := isxB_ok m.2, free_ValueError := He.free_ok X G (c1.fact 13 (f := .free "ValueError") rfl), free_all := He.free_ok X G (c1.fact 14 (f := .free "all") rfl), def_woven := c1.def_ 0 rfl, glo_woven := He.glo_ok X G (c1.fact 15 (f := .glo "woven") rfl), def_unwoven := c1.def_ 1 rfl, glo_unwoven := He.glo_ok X G (c1.fact 16 (f := .glo "unwoven") rfl), def_cut_rows := c1.def_ 2 rfl, glo_cut_rows := He.glo_ok X G (c1.fact 17 (f := .glo "cut_rows") rfl), def_law_cell := c1.def_ 3 rfl, glo_law_cell := He.glo_ok X G (c1.fact 18 (f := .glo "_law_cell") rfl), def_law_whole := c1.def_ 4 rfl, glo_law_whole := He.glo_ok X G (c1.fact 19 (f := .glo "_law_whole") rfl), def_law_row := c1.def_ 5 rfl, glo_law_row := He.glo_ok X G (c1.fact 20 (f := .glo "_law_row") rfl), def_law_sign := c1.def_ 6 rfl, glo_law_sign := He.glo_ok X G (c1.fact 21 (f := .glo "_law_sign") rfl), def_law_alike := c1.def_ 7 rfl, glo_law_alike := He.glo_ok X G (c1.fact 22 (f := .glo "_law_alike") rfl), def_law_no_rows := c1.def_ 8 rfl, glo_law_no_rows := He.glo_ok X G (c1.fact 23 (f := .glo "_law_no_rows") rfl), def_law_woven_right := c1.def_ 9 rfl, glo_law_woven_right := He.glo_ok X G (c1.fact 24 (f := .glo "_law_woven_right") rfl), def_law_unwoven_right := c1.def_ 10 rfl, glo_law_unwoven_right := He.glo_ok X G (c1.fact 25 (f := .glo "_law_unwoven_right") rfl), def_law_cut_right := c1.def_ 11 rfl, glo_law_cut_right := He.glo_ok X G (c1.fact 26 (f := .glo "_law_cut_right") rfl), def_law := c1.def_ 12 rfl, glo_law := He.glo_ok X G (c1.fact 27 (f := .glo "law") rfl) }
end K72
open PySem PySem.W PySem.Calls PyProof.Rows
theorem PySem.Challenge.cw_mendfield_k72_long_rows_woven_holds : PySem.Challenge.rw_mendfield_k72_long_rows_woven.Holds := by
  w_on; o_law
  refine HandSHeadRun.head_any (r := OpenLaw.row PySem.Challenge.rw_mendfield_k72_long_rows_woven) (q := view (OpenLaw.row PySem.Challenge.rw_mendfield_k72_long_rows_woven).prog [18]) (H := K72.hk) (ob := K72.ob) (M := 200000) (loose := K72.loose) (d := HandSHeadRun.topDef (OpenLaw.row PySem.Challenge.rw_mendfield_k72_long_rows_woven).prog 18) (kwd := []) K72.ob_eq
    (by kernel_rfl) (fun s => by kernel_rfl) K72.run (by kernel_rfl) (by kernel_rfl) (by kernel_rfl) (by rfl) (by first | assumption | decide +kernel) (by decide +kernel) ⟨rfl, rfl, rfl, rfl, rfl, by decide +kernel⟩ ?hw ?hc
  case hw => w_witness2
  case hc =>
    refine PL.walk_ofEB (l := PySem.Challenge.rw_mendfield_k72_long_rows_woven) (n := 63) (k := 4) (x := "script") (CX := fun w => L2.CX PySem.Challenge.rw_mendfield_k72_long_rows_woven.prog w) rfl (by decide) (by kernel_rfl) ⟨rfl, by decide, by decide⟩ ?F (fun w H s e s' h => PL.cx_false h)
    intro w mg fa h Y G hmg0
    obtain ⟨K, KX, c⟩ := Y
    have hmg : mg ("law" : PySem.Str) = some (.ref fa) := by
      have e : (HandSHeadRun.topDef (OpenLaw.row PySem.Challenge.rw_mendfield_k72_long_rows_woven).prog 18).name = ("law" : PySem.Str) := by kernel_rfl
      rw [← e]
      exact hmg0
    have V := K72.vw_of KX G c
    obtain ⟨fd, F⟩ := V.def_law
    have e := hmg.symm.trans V.glo_law
    cases e
    have b := L2.FunD.bindsA (ps := ["script"]) F fun _ _ _ _ _ _ us hl => match us, hl with | [_], _ => rfl
    refine ⟨K, fd, PL.spD K 1 false K72.F_law, KX, fun s v => b s [v] rfl, fun H a ns h1 h2 hS => PL.sp_law K72.law_true H a ns h1 h2 hS, fun base hK hn => ?_⟩
    exact K72.fo_law (P := PySem.Challenge.rw_mendfield_k72_long_rows_woven.prog) (w := w) (base := base) V F
