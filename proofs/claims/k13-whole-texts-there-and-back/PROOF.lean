import PyProof.Rows.All
import HandS.ForMost
import HandS.ForExc
import HandS.TupAny
import HandS.TupMul
import HandS.Deep
import HandS.WideBits
import HandS.IsInst
import HandS.NoneIn
import HandS.Flow
import HandS.More
import HandS.Conv
import PyProof.ReprRoads
import PyProof.ReprLen
import PyProof.Rows.RegFStrParts
import HandS.SetFor
import HandS.Text
import HandS.RaiseMore
import HandS.Walk
import PySem.Challenge.RW_relayholds_k13_whole_texts_there_and_bac
set_option Elab.async false
set_option linter.all false
set_option maxRecDepth 100000
/-! L3: data by structure over the layer's heap: what is never changed is a term, what changes stands in a memory. -/
namespace L3
open PySem PySem.Spec PyProof.Rows L2

inductive D where
  | non | bl (b : Bool) | int (i : Int) | str (x : Str)
  | tup (ds : List D) | lst (ds : List D)
  | obj (C : Addr) (ns : List Str) (ds : List D)
  | ref (a : Addr) | ty (n : String)
  | scr (ns : List Int)

mutual
inductive Is (K : PySem.W.Frag) (F : Hp) : D → V → Prop
  | non : Is K F .non .non
  | bl (b : Bool) : Is K F (.bl b) (.bl b)
  | int (i : Int) : Is K F (.int i) (.int i)
  | str (x : Str) : Is K F (.str x) (.str x)
  | tup {a : Addr} {vs : List V} {ds : List D} : SqT K F a vs → IsA K F ds vs → Is K F (.tup ds) (.ref a)
  | lst {a : Addr} {vs : List V} {ds : List D} : F a = some (.lst vs) → IsA K F ds vs → Is K F (.lst ds) (.ref a)
  | obj {a C dx : Addr} {ns : List Str} {vs : List V} {ds : List D} : F a = some (.ins C dx (ns.zip vs)) → ns.length = ds.length → IsA K F ds vs → Is K F (.obj C ns ds) (.ref a)
  | ref (a : Addr) : Is K F (.ref a) (.ref a)
  | ty (n : String) : Is K F (.ty n) (.ty n)
  | scr {a : Addr} {ns : List Int} : SqL K F a (ns.map V.int) → Is K F (.scr ns) (.ref a)
inductive IsA (K : PySem.W.Frag) (F : Hp) : List D → List V → Prop
  | nil : IsA K F [] []
  | cons {d : D} {v : V} {ds : List D} {vs : List V} : Is K F d v → IsA K F ds vs → IsA K F (d :: ds) (v :: vs)
end

theorem sqT_mono {K : PySem.W.Frag} {F F' : Hp} {a : Addr} {xs : List V} (s : Same F F') (h : SqT K F a xs) : SqT K F' a xs := by
  rcases h with (h | ⟨o, h⟩) | h
  · exact .inl (.inl (s _ _ h))
  · exact .inl (.inr ⟨o, s _ _ h⟩)
  · exact .inr h

theorem sqL_mono {K : PySem.W.Frag} {F F' : Hp} {a : Addr} {xs : List V} (s : Same F F') (h : SqL K F a xs) : SqL K F' a xs := s.seq h

section
variable {K : PySem.W.Frag} {F F' : Hp}
mutual
theorem Is.mono (s : Same F F') : ∀ {d : D} {v : V}, Is K F d v → Is K F' d v
  | _, _, .non => .non
  | _, _, .bl b => .bl b
  | _, _, .int i => .int i
  | _, _, .str x => .str x
  | _, _, .tup h1 h2 => .tup (sqT_mono s h1) (IsA.mono s h2)
  | _, _, .lst h1 h2 => .lst (s _ _ h1) (IsA.mono s h2)
  | _, _, .obj h1 h0 h2 => .obj (s _ _ h1) h0 (IsA.mono s h2)
  | _, _, .ref a => .ref a
  | _, _, .ty n => .ty n
  | _, _, .scr h => .scr (sqL_mono s h)
theorem IsA.mono (s : Same F F') : ∀ {ds : List D} {vs : List V}, IsA K F ds vs → IsA K F' ds vs
  | _, _, .nil => .nil
  | _, _, .cons h1 h2 => .cons (Is.mono s h1) (IsA.mono s h2)
end

theorem IsA.length : ∀ {ds : List D} {vs : List V}, IsA K F ds vs → ds.length = vs.length
  | _, _, .nil => rfl
  | _, _, .cons _ t => by simp [IsA.length t]
theorem IsA.get : ∀ {ds : List D} {vs : List V} {i : Nat} {d : D}, IsA K F ds vs → ds[i]? = some d → ∃ v, vs[i]? = some v ∧ Is K F d v
  | _, _, _, _, .nil, e => by simp at e
  | _, _, 0, _, .cons r _, e => by simp at e; subst e; exact ⟨_, rfl, r⟩
  | _, _, i + 1, d, .cons _ t, e => by
    obtain ⟨u, h1, h2⟩ := IsA.get (i := i) (d := d) t (by simpa using e)
    exact ⟨u, by simpa using h1, h2⟩
theorem IsA.getV : ∀ {ds : List D} {vs : List V} {i : Nat} {v : V}, IsA K F ds vs → vs[i]? = some v → ∃ d, ds[i]? = some d ∧ Is K F d v
  | _, _, _, _, .nil, e => by simp at e
  | _, _, 0, _, .cons r _, e => by simp at e; subst e; exact ⟨_, rfl, r⟩
  | _, _, i + 1, d, .cons _ t, e => by
    obtain ⟨u, h1, h2⟩ := IsA.getV (i := i) (v := d) t (by simpa using e)
    exact ⟨u, by simpa using h1, h2⟩
theorem IsA.append : ∀ {ds es : List D} {vs us : List V}, IsA K F ds vs → IsA K F es us → IsA K F (ds ++ es) (vs ++ us)
  | _, _, _, _, .nil, s => s
  | _, _, _, _, .cons r t, s => .cons r (IsA.append t s)
theorem IsA.take : ∀ {ds : List D} {vs : List V} (n : Nat), IsA K F ds vs → IsA K F (ds.take n) (vs.take n)
  | _, _, 0, _ => .nil
  | _, _, _ + 1, .nil => .nil
  | _, _, n + 1, .cons r t => .cons r (IsA.take n t)
theorem IsA.drop : ∀ {ds : List D} {vs : List V} (n : Nat), IsA K F ds vs → IsA K F (ds.drop n) (vs.drop n)
  | _, _, 0, r => r
  | _, _, _ + 1, .nil => .nil
  | _, _, n + 1, .cons _ t => IsA.drop n t
theorem IsA.set {d : D} {v : V} (r : Is K F d v) : ∀ {ds : List D} {vs : List V} (i : Nat), IsA K F ds vs → IsA K F (ds.set i d) (vs.set i v)
  | _, _, _, .nil => .nil
  | _, _, 0, .cons _ t => .cons r t
  | _, _, i + 1, .cons q t => .cons q (IsA.set r i t)
theorem IsA.eraseIdx : ∀ {ds : List D} {vs : List V} (i : Nat), IsA K F ds vs → IsA K F (ds.eraseIdx i) (vs.eraseIdx i)
  | _, _, _, .nil => .nil
  | _, _, 0, .cons _ t => t
  | _, _, i + 1, .cons q t => .cons q (IsA.eraseIdx i t)
theorem IsA.rev {ds : List D} {vs : List V} (h : IsA K F ds vs) : IsA K F ds.reverse vs.reverse := by
  induction ds generalizing vs with
  | nil => cases h; exact .nil
  | cons d ds ih =>
    cases h with
    | cons r t =>
      rw [List.reverse_cons, List.reverse_cons]
      exact (ih t).append (.cons r .nil)
theorem IsA.rep {ds : List D} {vs : List V} (h : IsA K F ds vs) : ∀ k : Nat, IsA K F (List.replicate k ds).flatten (List.replicate k vs).flatten
  | 0 => .nil
  | k + 1 => by
    rw [List.replicate_succ, List.replicate_succ, List.flatten_cons, List.flatten_cons]
    exact h.append (IsA.rep h k)
theorem IsA.ins {d : D} {v : V} (r : Is K F d v) {ds : List D} {vs : List V} (i : Nat) (h : IsA K F ds vs) : IsA K F (ds.take i ++ d :: ds.drop i) (vs.take i ++ v :: vs.drop i) :=
  (h.take i).append (.cons r (h.drop i))
theorem IsA.lookupZ {f : Str} {d : D} : ∀ {ns : List Str} {ds : List D} {vs : List V}, IsA K F ds vs → (ns.zip ds).lookup f = some d → ∃ v, (ns.zip vs).lookup f = some v ∧ Is K F d v
  | [], _, _, _, e => by simp at e
  | _ :: _, _, _, .nil, e => by simp at e
  | n :: ns, _, _, .cons r t, e => by
    rw [List.zip_cons_cons, List.lookup_cons] at e
    rw [List.zip_cons_cons, List.lookup_cons]
    cases h : f == n with
    | true => rw [h] at e; simp only at e ⊢; cases e; exact ⟨_, rfl, r⟩
    | false => rw [h] at e; simp only at e ⊢; exact IsA.lookupZ t e
theorem IsA.ints : ∀ {ns : List Int} {vs : List V}, IsA K F (ns.map D.int) vs → vs = ns.map V.int
  | [], _, .nil => rfl
  | n :: ns, _, .cons r t => by cases r; rw [IsA.ints t]; rfl
theorem IsA.strs : ∀ {ns : List Str} {vs : List V}, IsA K F (ns.map D.str) vs → vs = ns.map V.str
  | [], _, .nil => rfl
  | n :: ns, _, .cons r t => by cases r; rw [IsA.strs t]; rfl
theorem IsA.bls : ∀ {ns : List Bool} {vs : List V}, IsA K F (ns.map D.bl) vs → vs = ns.map V.bl
  | [], _, .nil => rfl
  | n :: ns, _, .cons r t => by cases r; rw [IsA.bls t]; rfl
theorem isA_ints : ∀ ns : List Int, IsA K F (ns.map D.int) (ns.map V.int)
  | [] => .nil
  | n :: ns => .cons (.int n) (isA_ints ns)
theorem isA_strs : ∀ ns : List Str, IsA K F (ns.map D.str) (ns.map V.str)
  | [] => .nil
  | n :: ns => .cons (.str n) (isA_strs ns)
theorem isA_bls : ∀ ns : List Bool, IsA K F (ns.map D.bl) (ns.map V.bl)
  | [] => .nil
  | n :: ns => .cons (.bl n) (isA_bls ns)
end

/-! ### slots -/
abbrev St3 := List (Option D)
inductive Sl (K : PySem.W.Frag) (F : Hp) : St3 → L2.St → Prop
  | nil : Sl K F [] []
  | free {δ : St3} {σ : L2.St} (v : Option V) : Sl K F δ σ → Sl K F (none :: δ) (v :: σ)
  | cons {δ : St3} {σ : L2.St} {d : D} {v : V} : Is K F d v → Sl K F δ σ → Sl K F (some d :: δ) (some v :: σ)
section
variable {K : PySem.W.Frag} {F F' : Hp}
theorem Sl.mono (s : Same F F') : ∀ {δ : St3} {σ : L2.St}, Sl K F δ σ → Sl K F' δ σ
  | _, _, .nil => .nil
  | _, _, .free v t => .free v (t.mono s)
  | _, _, .cons r t => .cons (r.mono s) (t.mono s)
theorem Sl.length : ∀ {δ : St3} {σ : L2.St}, Sl K F δ σ → δ.length = σ.length
  | _, _, .nil => rfl
  | _, _, .free v t => by simp [t.length]
  | _, _, .cons r t => by simp [t.length]
theorem Sl.get : ∀ {δ : St3} {σ : L2.St} {i : Nat} {d : D}, Sl K F δ σ → δ[i]? = some (some d) → ∃ v, σ[i]? = some (some v) ∧ Is K F d v
  | _, _, _, _, .nil, e => by simp at e
  | _, _, 0, _, .free v t, e => by simp at e
  | _, _, 0, _, .cons r t, e => by simp at e; subst e; exact ⟨_, rfl, r⟩
  | _, _, i + 1, d, .free v t, e => by
    obtain ⟨u, h1, h2⟩ := Sl.get (i := i) (d := d) t (by simpa using e)
    exact ⟨u, by simpa using h1, h2⟩
  | _, _, i + 1, d, .cons r t, e => by
    obtain ⟨u, h1, h2⟩ := Sl.get (i := i) (d := d) t (by simpa using e)
    exact ⟨u, by simpa using h1, h2⟩
theorem Sl.set {d : D} {v : V} (r : Is K F d v) : ∀ {δ : St3} {σ : L2.St} (i : Nat), Sl K F δ σ → Sl K F (δ.set i (some d)) (σ.set i (some v))
  | _, _, _, .nil => .nil
  | _, _, 0, .free _ t => .cons r t
  | _, _, 0, .cons _ t => .cons r t
  | _, _, i + 1, .free w t => .free w (t.set r i)
  | _, _, i + 1, .cons q t => .cons q (t.set r i)
theorem Sl.drop1 : ∀ {δ : St3} {σ : L2.St} (i : Nat) (v : Option V), Sl K F δ σ → Sl K F (δ.set i none) (σ.set i v)
  | _, _, _, _, .nil => .nil
  | _, _, 0, _, .free _ t => .free _ t
  | _, _, 0, _, .cons _ t => .free _ t
  | _, _, i + 1, v, .free w t => .free w (t.drop1 i v)
  | _, _, i + 1, v, .cons q t => .cons q (t.drop1 i v)
/-- a slot less known -/
theorem Sl.weak : ∀ {δ : St3} {σ : L2.St} (i : Nat), Sl K F δ σ → Sl K F (δ.set i none) σ
  | _, _, _, .nil => .nil
  | _, _, 0, .free _ t => .free _ t
  | _, _, 0, .cons _ t => .free _ t
  | _, _, i + 1, .free w t => .free w (t.weak i)
  | _, _, i + 1, .cons q t => .cons q (t.weak i)
def wipe3 (δ : St3) : List Nat → St3
  | [] => δ
  | v :: vs => (wipe3 δ vs).set v none
theorem Sl.wipe {δ : St3} {σ : L2.St} (h : Sl K F δ σ) : ∀ vs : List Nat, Sl K F (wipe3 δ vs) (wipe σ vs)
  | [] => h
  | v :: vs => (Sl.wipe h vs).drop1 v none
def start3 (N : List Str) (ds : List D) : St3 := ds.map some ++ List.replicate (N.length - ds.length) none
theorem sl_none : ∀ n : Nat, Sl K F (List.replicate n none) (List.replicate n none)
  | 0 => .nil
  | n + 1 => .free none (sl_none n)
theorem sl_app : ∀ {ds : List D} {vs : List V} {δ : St3} {σ : L2.St}, IsA K F ds vs → Sl K F δ σ → Sl K F (ds.map some ++ δ) (vs.map some ++ σ)
  | _, _, _, _, .nil, h => h
  | _, _, _, _, .cons r t, h => .cons r (sl_app t h)
theorem Sl.start {N : List Str} {ds : List D} {vs : List V} (h : IsA K F ds vs) : Sl K F (start3 N ds) (start N vs) := by
  unfold start3 L2.start
  rw [h.length]
  exact sl_app h (sl_none _)
end

/-! ### the memory of what may change -/
inductive MO where
  | lst (ds : List D)
  | dK (kvs : List (Key × D))
  | dT (kvs : List (List Key × D))
  | ins (C : Addr) (fs : List (Str × D))
abbrev Mem := Addr → Option MO
def put (M : Mem) (a : Addr) (o : MO) : Mem := fun b => if b = a then some o else M b
def del (M : Mem) (a : Addr) : Mem := fun b => if b = a then none else M b
theorem put_same {M : Mem} {a : Addr} {o : MO} : put M a o a = some o := by unfold put; rw [if_pos rfl]
theorem put_ne {M : Mem} {a b : Addr} {o : MO} (h : b ≠ a) : put M a o b = M b := by unfold put; rw [if_neg h]
theorem del_same {M : Mem} {a : Addr} : del M a a = none := by unfold del; rw [if_pos rfl]
theorem del_ne {M : Mem} {a b : Addr} (h : b ≠ a) : del M a b = M b := by unfold del; rw [if_neg h]
theorem put_put {M : Mem} {a : Addr} {o u : MO} : put (put M a o) a u = put M a u := by
  funext b; unfold put; split <;> rfl
theorem del_put {M : Mem} {a : Addr} {o : MO} (h : M a = none) : del (put M a o) a = M := by
  funext b; unfold put del; split
  · rename_i e; subst e; exact h.symm
  · rename_i e; exact if_neg e
theorem mne {M : Mem} {a b : Addr} {o : MO} (h : M a = some o) (h' : M b = none) : a ≠ b := fun e => by subst e; rw [h] at h'; cases h'

def IsKV {κ : Type} (K : PySem.W.Frag) (F : Hp) : List (κ × D) → List (κ × V) → Prop := Paired fun p q => p.1 = q.1 ∧ Is K F p.2 q.2
theorem IsKV.mono {κ : Type} {K : PySem.W.Frag} {F F' : Hp} (s : Same F F') {l : List (κ × D)} {r : List (κ × V)} (h : IsKV K F l r) : IsKV K F' l r :=
  Paired.mapP h fun _ _ z => ⟨z.1, z.2.mono s⟩
def MOk (K : PySem.W.Frag) (F H : Hp) (a : Addr) : MO → Prop
  | .lst ds => ∃ vs, H a = some (.lst vs) ∧ IsA K F ds vs
  | .dK kvs => ∃ ws, H a = some (.dK ws) ∧ IsKV K F kvs ws
  | .dT kvs => ∃ ws, H a = some (.dT ws) ∧ IsKV K F kvs ws
  | .ins C fs => ∃ dx gs, H a = some (.ins C dx gs) ∧ IsKV K F fs gs
structure RM (K : PySem.W.Frag) (F : Hp) (M : Mem) (H : Hp) : Prop where
  sub : Same F H
  ok : ∀ a o, M a = some o → F a = none ∧ MOk K F H a o
def Frm (F : Hp) (M : Mem) (H F' : Hp) (M' : Mem) (H' : Hp) : Prop := ∀ b u, H b = some u → M b = none → M' b = none ∧ H' b = some u ∧ (F b = none → F' b = none)
structure Ext (K : PySem.W.Frag) (F : Hp) (M : Mem) (H F' : Hp) (M' : Mem) (H' : Hp) : Prop where
  same : Same F F'
  frm : Frm F M H F' M' H'
  rm : RM K F' M' H'
section
variable {K : PySem.W.Frag} {F F' F1 H H' H1 : Hp} {M M' M1 : Mem} {a : Addr}
theorem MOk.mono (s : Same F F') {o : MO} (h : MOk K F H a o) (e : H' a = H a) : MOk K F' H' a o := by
  cases o with
  | lst ds => obtain ⟨vs, h1, h2⟩ := h; exact ⟨vs, e.trans h1, h2.mono s⟩
  | dK ds => obtain ⟨vs, h1, h2⟩ := h; exact ⟨vs, e.trans h1, h2.mono s⟩
  | dT ds => obtain ⟨vs, h1, h2⟩ := h; exact ⟨vs, e.trans h1, h2.mono s⟩
  | ins C ds => obtain ⟨dx, vs, h1, h2⟩ := h; exact ⟨dx, vs, e.trans h1, h2.mono s⟩
theorem MOk.there {o : MO} (h : MOk K F H a o) : ∃ u, H a = some u ∧ Mut (some u) := by
  cases o with
  | lst ds => obtain ⟨vs, h1, _⟩ := h; exact ⟨_, h1, trivial⟩
  | dK ds => obtain ⟨vs, h1, _⟩ := h; exact ⟨_, h1, trivial⟩
  | dT ds => obtain ⟨vs, h1, _⟩ := h; exact ⟨_, h1, trivial⟩
  | ins C ds => obtain ⟨dx, vs, h1, _⟩ := h; exact ⟨_, h1, trivial⟩
theorem Ext.refl (r : RM K F M H) : Ext K F M H F M H := ⟨Same.refl _, fun _ _ h1 h2 => ⟨h2, h1, id⟩, r⟩
theorem Ext.trans (x : Ext K F M H F1 M1 H1) (y : Ext K F1 M1 H1 F' M' H') : Ext K F M H F' M' H' :=
  ⟨x.same.trans y.same, fun b u h1 h2 => let ⟨m, h, f⟩ := x.frm b u h1 h2; let ⟨m', h', f'⟩ := y.frm b u h m; ⟨m', h', fun z => f' (f z)⟩, y.rm⟩
theorem RM.fresh (r : RM K F M H) {p : Addr} (n : H p = none) : M p = none ∧ F p = none := by
  constructor
  · cases e : M p with
    | none => rfl
    | some o => obtain ⟨u, h, _⟩ := (r.ok p o e).2.there; rw [n] at h; cases h
  · exact r.sub.free n
/-- a new object that stays as it is -/
theorem Ext.newF (r : RM K F M H) {p : Addr} (n : H p = none) (u : HO) : Ext K F M H (upd F p u) M (upd H p u) := by
  have f := r.fresh n
  have sF : Same F (upd F p u) := fun b o e => by rw [upd_ne (ne_of_none e f.2)]; exact e
  refine ⟨sF, fun b o h1 h2 => ⟨h2, by rw [upd_ne (ne_of_none h1 n)]; exact h1, fun z => by rw [upd_ne (ne_of_none h1 n)]; exact z⟩, fun b o e => ?_, fun b o e => ?_⟩
  · by_cases hb : b = p
    · subst hb; rw [upd_same] at e ⊢; exact e
    · rw [upd_ne hb] at e ⊢; exact r.sub _ _ e
  · obtain ⟨h1, h2⟩ := r.ok b o e
    have hb : b ≠ p := mne e f.1
    exact ⟨by rw [upd_ne hb]; exact h1, h2.mono sF (upd_ne hb)⟩
/-- a new object that may change -/
theorem Ext.newM (r : RM K F M H) {p : Addr} (n : H p = none) {u : HO} {o : MO} (k : MOk K F (upd H p u) p o) : Ext K F M H F (put M p o) (upd H p u) := by
  have f := r.fresh n
  refine ⟨Same.refl _, fun b w h1 h2 => ⟨by rw [put_ne (ne_of_none h1 n)]; exact h2, by rw [upd_ne (ne_of_none h1 n)]; exact h1, id⟩, fun b w e => ?_, fun b w e => ?_⟩
  · rw [upd_ne (ne_of_none e f.2)]; exact r.sub _ _ e
  · by_cases hb : b = p
    · subst hb; rw [put_same] at e; cases e; exact ⟨f.2, k⟩
    · rw [put_ne hb] at e
      obtain ⟨h1, h2⟩ := r.ok b w e
      exact ⟨h1, h2.mono (Same.refl _) (upd_ne hb)⟩
/-- a new object nobody will look at -/
theorem Ext.new0 (r : RM K F M H) {p : Addr} (n : H p = none) (u : HO) : Ext K F M H F M (upd H p u) := by
  have f := r.fresh n
  refine ⟨Same.refl _, fun b w h1 h2 => ⟨h2, by rw [upd_ne (ne_of_none h1 n)]; exact h1, id⟩, fun b w e => ?_, fun b w e => ?_⟩
  · rw [upd_ne (ne_of_none e f.2)]; exact r.sub _ _ e
  · obtain ⟨h1, h2⟩ := r.ok b w e
    exact ⟨h1, h2.mono (Same.refl _) (upd_ne (mne e f.1))⟩
/-- an object of the memory is changed -/
theorem Ext.write (r : RM K F M H) {p : Addr} {o o' : MO} {u : HO} (e : M p = some o) (k : MOk K F (upd H p u) p o') : Ext K F M H F (put M p o') (upd H p u) := by
  obtain ⟨f, m⟩ := r.ok p o e
  refine ⟨Same.refl _, fun b w h1 h2 => ?_, fun b w e1 => ?_, fun b w e1 => ?_⟩
  · have hb : b ≠ p := fun z => by subst z; rw [h2] at e; cases e
    exact ⟨by rw [put_ne hb]; exact h2, by rw [upd_ne hb]; exact h1, id⟩
  · have hb : b ≠ p := ne_of_none e1 f
    rw [upd_ne hb]; exact r.sub _ _ e1
  · by_cases hb : b = p
    · subst hb; rw [put_same] at e1; cases e1; exact ⟨f, k⟩
    · rw [put_ne hb] at e1
      obtain ⟨h1, h2⟩ := r.ok b w e1
      exact ⟨h1, h2.mono (Same.refl _) (upd_ne hb)⟩
/-- a list of the memory will change no more -/
theorem Ext.freeze (r : RM K F M H) {p : Addr} {ds : List D} (e : M p = some (.lst ds)) : ∃ F', Ext K F M H F' (del M p) H ∧ Is K F' (.lst ds) (.ref p) := by
  obtain ⟨f, vs, h1, h2⟩ := r.ok p _ e
  have sF : Same F (upd F p (.lst vs)) := fun b o e => by rw [upd_ne (ne_of_none e f)]; exact e
  refine ⟨upd F p (.lst vs), ⟨sF, fun b u h3 h4 => ⟨?_, h3, fun z => ?_⟩, fun b o e1 => ?_, fun b o e1 => ?_⟩, .lst upd_same (h2.mono sF)⟩
  · by_cases hb : b = p
    · subst hb; exact del_same
    · rw [del_ne hb]; exact h4
  · have hb : b ≠ p := fun q => by subst q; rw [h4] at e; cases e
    rw [upd_ne hb]; exact z
  · by_cases hb : b = p
    · subst hb; rw [upd_same] at e1; cases e1; exact h1
    · rw [upd_ne hb] at e1; exact r.sub _ _ e1
  · have hb : b ≠ p := fun z => by subst z; rw [del_same] at e1; cases e1
    rw [del_ne hb] at e1
    obtain ⟨h3, h4⟩ := r.ok b o e1
    exact ⟨by rw [upd_ne hb]; exact h3, h4.mono sF rfl⟩
/-- less is looked at -/
def Mem.le (M M' : Mem) : Prop := ∀ a o, M a = some o → M' a = some o
theorem Ext.forget (r : RM K F M H) (l : Mem.le M' M) : Ext K F M H F M' H := by
  refine ⟨Same.refl _, fun b u h1 h2 => ⟨?_, h1, id⟩, r.sub, fun b o e => r.ok b o (l b o e)⟩
  cases e : M' b with
  | none => rfl
  | some o => have := l b o e; rw [h2] at this; cases this
end

/-! ### readings over data -/
abbrev VK3 := D → Mem → Prop
abbrev TE3 := St3 → Mem → VK3 → Prop
abbrev TT3 := St3 → Mem → (Bool → Mem → Prop) → Prop
abbrev TA3 := St3 → Mem → (List D → Mem → Prop) → Prop
structure Ends3 where
  nx : St3 → Mem → Prop
  rt : VK3
  bk : St3 → Mem → Prop := fun _ _ => False
  ct : St3 → Mem → Prop := fun _ _ => False
abbrev TS3 := Ends3 → St3 → Mem → Prop
section
variable (K : PySem.W.Frag)
def K3 (F : Hp) (M : Mem) (H : Hp) (Q3 : VK3) (Q : VK) : Prop := ∀ F' M' H' d v, Ext K F M H F' M' H' → Is K F' d v → Q3 d M' → Q v H'
def KT3 (F : Hp) (M : Mem) (H : Hp) (Q3 : Bool → Mem → Prop) (Q : Bool → Hp → Prop) : Prop := ∀ F' M' H' b, Ext K F M H F' M' H' → Q3 b M' → Q b H'
def KA3 (F : Hp) (M : Mem) (H : Hp) (Q3 : List D → Mem → Prop) (Q : List V → Hp → Prop) : Prop := ∀ F' M' H' ds vs, Ext K F M H F' M' H' → IsA K F' ds vs → Q3 ds M' → Q vs H'
def KN3 (F : Hp) (M : Mem) (H : Hp) (Q3 : St3 → Mem → Prop) (Q : L2.St → Hp → Prop) : Prop := ∀ F' M' H' δ σ, Ext K F M H F' M' H' → Sl K F' δ σ → Q3 δ M' → Q σ H'
structure KS3 (F : Hp) (M : Mem) (H : Hp) (E : Ends3) (D : Ends) : Prop where
  nx : KN3 K F M H E.nx D.nx
  rt : K3 K F M H E.rt D.rt
  bk : KN3 K F M H E.bk D.bk
  ct : KN3 K F M H E.ct D.ct
def up (t : TE3) : TE := fun σ H Q => ∃ F M δ Q3, RM K F M H ∧ Sl K F δ σ ∧ t δ M Q3 ∧ K3 K F M H Q3 Q
def upT (t : TT3) : TT := fun σ H Q => ∃ F M δ Q3, RM K F M H ∧ Sl K F δ σ ∧ t δ M Q3 ∧ KT3 K F M H Q3 Q
def upA (t : TA3) : TA := fun σ H Q => ∃ F M δ Q3, RM K F M H ∧ Sl K F δ σ ∧ t δ M Q3 ∧ KA3 K F M H Q3 Q
def upS (t : TS3) : TS := fun D σ H => ∃ F M δ E, RM K F M H ∧ Sl K F δ σ ∧ t E δ M ∧ KS3 K F M H E D
end
section
variable {K : PySem.W.Frag} {F F' H H' : Hp} {M M' : Mem}
theorem K3.ext {Q3 : VK3} {Q : VK} (k : K3 K F M H Q3 Q) (x : Ext K F M H F' M' H') : K3 K F' M' H' Q3 Q := fun _ _ _ _ _ y => k _ _ _ _ _ (x.trans y)
theorem KT3.ext {Q3 : Bool → Mem → Prop} {Q : Bool → Hp → Prop} (k : KT3 K F M H Q3 Q) (x : Ext K F M H F' M' H') : KT3 K F' M' H' Q3 Q := fun _ _ _ _ y => k _ _ _ _ (x.trans y)
theorem KN3.ext {Q3 : St3 → Mem → Prop} {Q : L2.St → Hp → Prop} (k : KN3 K F M H Q3 Q) (x : Ext K F M H F' M' H') : KN3 K F' M' H' Q3 Q := fun _ _ _ _ _ y => k _ _ _ _ _ (x.trans y)
theorem KS3.ext {E : Ends3} {D : Ends} (k : KS3 K F M H E D) (x : Ext K F M H F' M' H') : KS3 K F' M' H' E D := ⟨k.nx.ext x, k.rt.ext x, k.bk.ext x, k.ct.ext x⟩
end

/-! ### the judgements -/
abbrev E3 (X : Cx) (e : Expr) (t : TE3) : Prop := PE X e (up X.K t)
abbrev T3 (X : Cx) (e : Expr) (t : TT3) : Prop := PT X e (upT X.K t)
abbrev W3 (X : Cx) (e : Expr) (t : TT3) : Prop := PW X e (upT X.K t)
abbrev A3 (X : Cx) (es : List Expr) (t : TA3) : Prop := PA X es (upA X.K t)
abbrev S3 (X : Cx) (st : Stmt) (t : TS3) : Prop := PS X st (upS X.K t)
abbrev B3 (X : Cx) (st : List Stmt) (t : TS3) : Prop := PSs X st (upS X.K t)
theorem pe_imp {X : Cx} {e : Expr} {t t' : TE} (h : PE X e t) (k : ∀ σ H Q, t' σ H Q → t σ H Q) : PE X e t' := ⟨fun pins s σ H Q I q => h.run pins s σ H Q I (k σ H Q q)⟩
theorem pt_imp {X : Cx} {e : Expr} {t t' : TT} (h : PT X e t) (k : ∀ σ H Q, t' σ H Q → t σ H Q) : PT X e t' := ⟨fun pins s σ H Q I q => h.run pins s σ H Q I (k σ H Q q)⟩
theorem pw_imp {X : Cx} {e : Expr} {t t' : TT} (h : PW X e t) (k : ∀ σ H Q, t' σ H Q → t σ H Q) : PW X e t' := ⟨fun wh pins s σ H Q I q => h.run wh pins s σ H Q I (k σ H Q q)⟩
theorem pa_imp {X : Cx} {e : List Expr} {t t' : TA} (h : PA X e t) (k : ∀ σ H Q, t' σ H Q → t σ H Q) : PA X e t' := ⟨fun ps pins s σ H Q I q => h.run ps pins s σ H Q I (k σ H Q q)⟩
theorem ps_imp {X : Cx} {e : Stmt} {t t' : TS} (h : PS X e t) (k : ∀ D σ H, t' D σ H → t D σ H) : PS X e t' := ⟨fun pins s σ H D I q => h.run pins s σ H D I (k D σ H q)⟩
theorem pss_imp {X : Cx} {e : List Stmt} {t t' : TS} (h : PSs X e t) (k : ∀ D σ H, t' D σ H → t D σ H) : PSs X e t' := ⟨fun pins s σ H D I q => h.run pins s σ H D I (k D σ H q)⟩

/-! ### names, constants -/
def v3 (i : Nat) (δ : St3) (M : Mem) (Q : VK3) : Prop := match δ[i]? with | some (some d) => Q d M | _ => False
def c3 (d : D) (_ : St3) (M : Mem) (Q : VK3) : Prop := Q d M
section
variable {X : Cx} {pos : Pos}
theorem e3_of {e : Expr} {i : Nat} (h : PE X e (tVar i)) : E3 X e (v3 i) := pe_imp h fun σ H Q ⟨F, M, δ, Q3, rm, sl, q, k⟩ => by
  unfold v3 at q
  split at q
  · rename_i d e
    obtain ⟨v, h1, h2⟩ := sl.get e
    exact ⟨v, h1, k _ _ _ _ _ (.refl rm) h2 q⟩
  · exact q.elim
theorem e3_con {e : Expr} {v : V} {d : D} (h : PE X e (tC v)) (is : ∀ F, Is X.K F d v) : E3 X e (c3 d) := pe_imp h fun σ H Q ⟨F, M, δ, Q3, rm, sl, q, k⟩ => k _ _ _ _ _ (.refl rm) (is F) q
theorem e3_int {i : Int} {j} : E3 X (.Constant (.int i) j pos) (c3 (.int i)) := e3_con pe_int fun _ => .int i
theorem e3_bl {b : Bool} {j} : E3 X (.Constant (.bool b) j pos) (c3 (.bl b)) := e3_con pe_bl fun _ => .bl b
theorem e3_non {j} : E3 X (.Constant .none j pos) (c3 .non) := e3_con pe_non fun _ => .non
theorem e3_str {x : Str} {j} : E3 X (.Constant (.str x) j pos) (c3 (.str x)) := e3_con pe_str fun _ => .str x
theorem e3_var (i : Nat) {x : Str} {pos : Pos} (hN : X.N[i]? = some x := by rfl) (hv : Vis X.env.scope x := by first | exact Or.inl rfl | exact Or.inr (Or.inl rfl) | exact Or.inr (Or.inr rfl)) (hd : (x == ("__debug__" : Str)) = false := by decide)
    (hcd : (x == ("__classdict__" : Str)) = false := by decide) : E3 X (.Name x pos) (v3 i) := e3_of (pe_var hN hv hd hcd)
theorem e3_glob {x : Str} {v : V} {u : Value} {d : D} (hg : Gl X x) (hm : X.mg x = some u) (r : RelV v u) (is : ∀ F, Is X.K F d v) (hd : (x == ("__debug__" : Str)) = false := by decide) : E3 X (.Name x pos) (c3 d) := e3_con (pe_glob hg hm r hd) is
end

/-! ### operators by values -/
abbrev R3 := D → D → Mem → VK3 → Prop
def OpL (K : PySem.W.Frag) (r : R2) (r3 : R3) : Prop := ∀ (F : Hp) (M : Mem) (H : Hp) (dx dy : D) (x y : V) (Q3 : VK3) (Q : VK), RM K F M H → Is K F dx x → Is K F dy y → r3 dx dy M Q3 → K3 K F M H Q3 Q → r x y H Q
def op3 (r3 : R3) (ta tb : TE3) (δ : St3) (M : Mem) (Q : VK3) : Prop := ta δ M fun x M1 => tb δ M1 fun y M2 => r3 x y M2 Q
theorem lift2 {K : PySem.W.Frag} {r : R2} {r3 : R3} (hl : OpL K r r3) {ta tb : TE3} {σ : L2.St} {H : Hp} {Q : VK} (h : up K (op3 r3 ta tb) σ H Q) : tOp r (up K ta) (up K tb) σ H Q := by
  obtain ⟨F, M, δ, Q3, rm, sl, q, k⟩ := h
  refine ⟨F, M, δ, _, rm, sl, q, fun F1 M1 H1 dx x x1 ix q1 => ?_⟩
  refine ⟨F1, M1, δ, _, x1.rm, sl.mono x1.same, q1, fun F2 M2 H2 dy y x2 iy q2 => ?_⟩
  exact hl F2 M2 H2 dx dy x y Q3 Q x2.rm (ix.mono x2.same) iy q2 (k.ext (x1.trans x2))
section
variable {X : Cx} {a b c : Expr} {ta tb tc : TE3} {pos : Pos} {r r' : R2} {r3 r3' : R3}
theorem e3_op {op : Operator} (ho : OpR X (binaryOp op) r ∧ OpL X.K r r3) (ha : E3 X a ta) (hb : E3 X b tb) : E3 X (.BinOp a op b pos) (op3 r3 ta tb) :=
  pe_imp (pe_op ho.1 ha hb) fun _ _ _ h => lift2 ho.2 h
theorem e3_cmp {op : CmpOp} (ho : OpR X (compareOp op) r ∧ OpL X.K r r3) (ha : E3 X a ta) (hb : E3 X b tb) (hm : behindInMarks op b = false := by first | exact nomark _ | rfl) : E3 X (.Compare a [op] [b] pos) (op3 r3 ta tb) :=
  pe_imp (pe_cmpR ho.1 ha hb hm) fun _ _ _ h => lift2 ho.2 h
/-- a op1 b op2 c -/
def chain3 (r r' : R3) (ta tb tc : TE3) (δ : St3) (M : Mem) (Q : VK3) : Prop := ta δ M fun x M1 => tb δ M1 fun y M2 => r x y M2 fun z M3 => match z with
  | .bl true => tc δ M3 fun w M4 => r' y w M4 Q
  | .bl false => Q (.bl false) M3
  | _ => False
theorem e3_chain {op op' : CmpOp} (ho : OpR X (compareOp op) r ∧ OpL X.K r r3) (ho' : OpR X (compareOp op') r' ∧ OpL X.K r' r3') (ha : E3 X a ta) (hb : E3 X b tb) (hc : E3 X c tc)
    (hm : lastMarks [op, op'] [b, c] = false := by with_unfolding_all rfl) : E3 X (.Compare a [op, op'] [b, c] pos) (chain3 r3 r3' ta tb tc) :=
  pe_imp (pe_chain ho.1 ho'.1 ha hb hc hm) fun σ H Q ⟨F, M, δ, Q3, rm, sl, q, k⟩ => by
    refine ⟨F, M, δ, _, rm, sl, q, fun F1 M1 H1 dx x x1 ix q1 => ?_⟩
    refine ⟨F1, M1, δ, _, x1.rm, sl.mono x1.same, q1, fun F2 M2 H2 dy y x2 iy q2 => ?_⟩
    refine ho.2 F2 M2 H2 dx dy x y _ _ x2.rm (ix.mono x2.same) iy q2 fun F4 M4 H4 dz z x4 iz q4 => ?_
    split at q4
    · cases iz
      refine ⟨true, rfl, ?_⟩
      rw [if_pos rfl]
      refine ⟨F4, M4, δ, _, x4.rm, sl.mono (x1.same.trans (x2.same.trans x4.same)), q4, fun F3 M3 H3 dw w x3 iw q3 => ?_⟩
      exact ho'.2 F3 M3 H3 dy dw y w Q3 Q x3.rm (iy.mono (x4.same.trans x3.same)) iw q3 (k.ext (x1.trans (x2.trans (x4.trans x3))))
    · cases iz
      refine ⟨false, rfl, ?_⟩
      rw [if_neg Bool.false_ne_true]
      exact k _ _ _ _ _ (x1.trans (x2.trans x4)) (.bl false) q4
    · exact q4.elim
/-- a value that is a bool, as a test -/
def tst3 (t : TE3) (δ : St3) (M : Mem) (Q : Bool → Mem → Prop) : Prop := t δ M fun d M1 => match d with | .bl b => Q b M1 | _ => False
theorem t3_val {e : Expr} {t : TE3} (h : E3 X e t) (he : ∀ whole, isTrue e X.env whole = (do let v ← whole; standAt e.pos; holding [v] (truthy v)) := by intro _; rfl) : T3 X e (tst3 t) :=
  pt_imp (pt_val h he) fun σ H Q ⟨F, M, δ, Q3, rm, sl, q, k⟩ => ⟨F, M, δ, _, rm, sl, q, fun F1 M1 H1 d v x1 iv q1 => by
    split at q1
    · cases iv; exact ⟨_, rfl, k _ _ _ _ x1 q1⟩
    · exact q1.elim⟩
theorem t3_cmp {op : CmpOp} (ho : OpR X (compareOp op) r ∧ OpL X.K r r3) (ha : E3 X a ta) (hb : E3 X b tb) (hm : behindInMarks op b = false := by first | exact nomark _ | rfl) : T3 X (.Compare a [op] [b] pos) (tst3 (op3 r3 ta tb)) :=
  pt_imp (pt_cmpR ho.1 ha hb hm) fun σ H Q ⟨F, M, δ, Q3, rm, sl, q, k⟩ => by
    show tTest (tOp r (up X.K ta) (up X.K tb)) σ H Q
    refine lift2 ho.2 ⟨F, M, δ, _, rm, sl, q, fun F1 M1 H1 d v x1 iv q1 => ?_⟩
    split at q1
    · cases iv; exact ⟨_, rfl, k _ _ _ _ x1 q1⟩
    · exact q1.elim
theorem t3_chain {op op' : CmpOp} (ho : OpR X (compareOp op) r ∧ OpL X.K r r3) (ho' : OpR X (compareOp op') r' ∧ OpL X.K r' r3') (ha : E3 X a ta) (hb : E3 X b tb) (hc : E3 X c tc)
    (hm : lastMarks [op, op'] [b, c] = false := by with_unfolding_all rfl) : T3 X (.Compare a [op, op'] [b, c] pos) (tst3 (chain3 r3 r3' ta tb tc)) :=
  pt_imp (pt_chain ho.1 ho'.1 ha hb hc hm) fun σ H Q ⟨F, M, δ, Q3, rm, sl, q, k⟩ => by
    show tChain r r' (up X.K ta) (up X.K tb) (up X.K tc) σ H _
    refine ⟨F, M, δ, _, rm, sl, q, fun F1 M1 H1 dx x x1 ix q1 => ?_⟩
    refine ⟨F1, M1, δ, _, x1.rm, sl.mono x1.same, q1, fun F2 M2 H2 dy y x2 iy q2 => ?_⟩
    refine ho.2 F2 M2 H2 dx dy x y _ _ x2.rm (ix.mono x2.same) iy q2 fun F4 M4 H4 dz z x4 iz q4 => ?_
    split at q4
    · cases iz
      refine ⟨true, rfl, ?_⟩
      rw [if_pos rfl]
      refine ⟨F4, M4, δ, _, x4.rm, sl.mono (x1.same.trans (x2.same.trans x4.same)), q4, fun F3 M3 H3 dw w x3 iw q3 => ?_⟩
      refine ho'.2 F3 M3 H3 dy dw y w _ _ x3.rm (iy.mono (x4.same.trans x3.same)) iw q3 fun F5 M5 H5 d v x5 iv q5 => ?_
      split at q5
      · cases iv; exact ⟨_, rfl, k _ _ _ _ (x1.trans (x2.trans (x4.trans (x3.trans x5)))) q5⟩
      · exact q5.elim
    · cases iz
      refine ⟨false, rfl, ?_⟩
      rw [if_neg Bool.false_ne_true]
      exact ⟨_, rfl, k _ _ _ _ (x1.trans (x2.trans x4)) q4⟩
    · exact q4.elim
end

/-! ### and, or, not -/
section
variable {X : Cx} {a b : Expr} {rest : List Expr} {t u : TT3} {ta tb : TE3} {pos : Pos}
def and3 (t u : TT3) (δ : St3) (M : Mem) (Q : Bool → Mem → Prop) : Prop := t δ M fun c M1 => if c = true then u δ M1 Q else Q false M1
def or3 (t u : TT3) (δ : St3) (M : Mem) (Q : Bool → Mem → Prop) : Prop := t δ M fun c M1 => if c = true then Q true M1 else u δ M1 Q
def not3 (t : TT3) (δ : St3) (M : Mem) (Q : Bool → Mem → Prop) : Prop := t δ M fun c M1 => Q (!c) M1
theorem w3_and1 (ha : T3 X a t) : W3 X (.BoolOp .And [a] pos) t := pw_and1 ha
theorem w3_or1 (ha : T3 X a t) : W3 X (.BoolOp .Or [a] pos) t := pw_or1 ha
theorem w3_and (ha : T3 X a t) (hb : W3 X (.BoolOp .And (b :: rest) pos) u) : W3 X (.BoolOp .And (a :: b :: rest) pos) (and3 t u) :=
  pw_imp (pw_and ha hb) fun σ H Q ⟨F, M, δ, Q3, rm, sl, q, k⟩ => ⟨F, M, δ, _, rm, sl, q, fun F1 M1 H1 c x1 q1 => by
    cases c with
    | true => rw [if_pos rfl] at q1 ⊢; exact ⟨F1, M1, δ, _, x1.rm, sl.mono x1.same, q1, k.ext x1⟩
    | false => rw [if_neg Bool.false_ne_true] at q1 ⊢; exact k _ _ _ _ x1 q1⟩
theorem w3_or (ha : T3 X a t) (hb : W3 X (.BoolOp .Or (b :: rest) pos) u) : W3 X (.BoolOp .Or (a :: b :: rest) pos) (or3 t u) :=
  pw_imp (pw_or ha hb) fun σ H Q ⟨F, M, δ, Q3, rm, sl, q, k⟩ => ⟨F, M, δ, _, rm, sl, q, fun F1 M1 H1 c x1 q1 => by
    cases c with
    | true => rw [if_pos rfl] at q1 ⊢; exact k _ _ _ _ x1 q1
    | false => rw [if_neg Bool.false_ne_true] at q1 ⊢; exact ⟨F1, M1, δ, _, x1.rm, sl.mono x1.same, q1, k.ext x1⟩⟩
theorem t3_not (ha : T3 X a t) : T3 X (.UnaryOp .Not a pos) (not3 t) :=
  pt_imp (pt_not ha) fun σ H Q ⟨F, M, δ, Q3, rm, sl, q, k⟩ => ⟨F, M, δ, _, rm, sl, q, fun F1 M1 H1 c x1 q1 => k _ _ _ _ x1 q1⟩
def ife3 (t : TT3) (ta tb : TE3) (δ : St3) (M : Mem) (Q : VK3) : Prop := t δ M fun c M1 => if c = true then ta δ M1 Q else tb δ M1 Q
theorem e3_if {c : Expr} (hc : T3 X c t) (ha : E3 X a ta) (hb : E3 X b tb) : E3 X (.IfExp c a b pos) (ife3 t ta tb) :=
  pe_imp (pe_ifExp hc ha hb) fun σ H Q ⟨F, M, δ, Q3, rm, sl, q, k⟩ => ⟨F, M, δ, _, rm, sl, q, fun F1 M1 H1 c x1 q1 => by
    cases c with
    | true => rw [if_pos rfl] at q1 ⊢; exact ⟨F1, M1, δ, _, x1.rm, sl.mono x1.same, q1, k.ext x1⟩
    | false => rw [if_neg Bool.false_ne_true] at q1 ⊢; exact ⟨F1, M1, δ, _, x1.rm, sl.mono x1.same, q1, k.ext x1⟩⟩
end
end L3

namespace L3
open PySem PySem.Spec PyProof.Rows L2

section
variable {K : PySem.W.Frag} {F F' H H' : Hp} {M M' : Mem} {d e : D} {v u : V} {ds es : List D} {vs us : List V}
def lview (M : Mem) : D → Option (List D)
  | .lst ds => some ds
  | .ref p => match M p with | some (.lst ds) => some ds | _ => none
  | _ => none
theorem lview_is (rm : RM K F M H) (i : Is K F d v) (e : lview M d = some ds) : ∃ a vs, v = .ref a ∧ H a = some (.lst vs) ∧ IsA K F ds vs := by
  cases i with
  | lst h1 h2 => cases e; exact ⟨_, _, rfl, rm.sub _ _ h1, h2⟩
  | ref a =>
    unfold lview at e
    simp only at e
    split at e
    · rename_i ds' h
      cases e
      obtain ⟨_, vs, h1, h2⟩ := rm.ok a _ h
      exact ⟨a, vs, rfl, h1, h2⟩
    · cases e
  | _ => cases e
theorem lview_ref {p : Addr} (h : M p = some (.lst ds)) : lview M (.ref p) = some ds := by
  unfold lview; simp only [h]
theorem ref_lview {p : Addr} (h : lview M (.ref p) = some ds) : M p = some (.lst ds) := by
  unfold lview at h
  simp only at h
  split at h
  · rename_i e; cases h; exact e
  · cases h
theorem lview_lst : lview M (.lst ds) = some ds := rfl
theorem lview_tup : lview M (.tup ds) = none := rfl
theorem lview_int {i : Int} : lview M (.int i) = none := rfl
theorem lview_str {i : Str} : lview M (.str i) = none := rfl
theorem lview_bl {i : Bool} : lview M (.bl i) = none := rfl
theorem lview_non : lview M .non = none := rfl
theorem lview_scr {ns : List Int} : lview M (.scr ns) = none := rfl
theorem lview_obj {C : Addr} {ns : List Str} : lview M (.obj C ns ds) = none := rfl
def newL (ds : List D) (M : Mem) (Q : VK3) : Prop := Q (.lst ds) M ∨ ∀ p, M p = none → Q (.ref p) (put M p (.lst ds))
theorem newL_up {p : Addr} {Q3 : VK3} {Q : VK} (rm : RM K F M H) (n : H p = none) (ia : IsA K F ds vs) (q : newL ds M Q3) (k : K3 K F M H Q3 Q) : Q (.ref p) (upd H p (.lst vs)) := by
  rcases q with q | q
  · have x := Ext.newF rm n (.lst vs)
    exact k _ _ _ _ _ x (.lst upd_same (ia.mono x.same)) q
  · exact k _ _ _ _ _ (Ext.newM (o := .lst ds) rm n ⟨vs, upd_same, ia⟩) (.ref p) (q p (rm.fresh n).1)
theorem newT_up {p : Addr} {Q3 : VK3} {Q : VK} (rm : RM K F M H) (n : H p = none) (ia : IsA K F ds vs) (q : Q3 (.tup ds) M) (k : K3 K F M H Q3 Q) : Q (.ref p) (upd H p (.tup vs)) := by
  have x := Ext.newF rm n (.tup vs)
  exact k _ _ _ _ _ x (.tup (.inl (.inl upd_same)) (ia.mono x.same)) q
theorem IsA.nil_iff (h : IsA K F ds vs) : vs = [] ↔ ds = [] := by
  cases h <;> simp

def flatD : D → Bool
  | .non => true
  | .bl _ => true
  | .int _ => true
  | .str _ => true
  | _ => false
def eqF : D → D → Bool
  | .non, .non => true
  | .bl a, .bl b => a == b
  | .bl a, .int b => (if a then 1 else 0) == b
  | .int a, .bl b => a == (if b then 1 else 0)
  | .int a, .int b => a == b
  | .str a, .str b => a == b
  | _, _ => false
theorem flat_is (i : Is K F d v) (f : flatD d = true) : flatV v = true := by
  cases i <;> first | rfl | cases f
theorem eqF_is (i : Is K F d v) (j : Is K F e u) (f : flatD d = true) (g : flatD e = true) : eqV v u = eqF d e := by
  cases i <;> first | (cases f; done) | (cases j <;> first | (cases g; done) | rfl)
theorem flatA_is : ∀ {ds : List D} {vs : List V}, IsA K F ds vs → ds.all flatD = true → vs.all flatV = true
  | _, _, .nil, _ => rfl
  | _, _, .cons r t, f => by
    rw [List.all_cons, Bool.and_eq_true] at f ⊢
    exact ⟨flat_is r f.1, flatA_is t f.2⟩
def inD (x : D) (ds : List D) : Bool := ds.any fun y => eqF y x
theorem inD_is (i : Is K F d v) (f : flatD d = true) : ∀ {ds : List D} {vs : List V}, IsA K F ds vs → ds.all flatD = true → inV v vs = inD d ds
  | _, _, .nil, _ => rfl
  | _, _, .cons r t, g => by
    rw [List.all_cons, Bool.and_eq_true] at g
    unfold inV inD
    rw [List.any_cons, List.any_cons, eqF_is r i g.1 f]
    exact congrArg _ (inD_is i f t g.2)

mutual
inductive Py (M : Mem) : D → PyData → Prop
  | non : Py M .non .none
  | bl (b : Bool) : Py M (.bl b) (.bool b)
  | int (i : Int) : Py M (.int i) (.int i)
  | str (x : Str) : Py M (.str x) (.str x)
  | tup {ds : List D} {xs : List PyData} : PyA M ds xs → Py M (.tup ds) (.tuple xs)
  | lst {ds : List D} {xs : List PyData} : PyA M ds xs → Py M (.lst ds) (.list xs)
  | ref {p : Addr} {ds : List D} {xs : List PyData} : M p = some (.lst ds) → PyA M ds xs → Py M (.ref p) (.list xs)
inductive PyA (M : Mem) : List D → List PyData → Prop
  | nil : PyA M [] []
  | cons {d : D} {x : PyData} {ds : List D} {xs : List PyData} : Py M d x → PyA M ds xs → PyA M (d :: ds) (x :: xs)
end
mutual
theorem Py.dp (rm : RM K F M H) : ∀ {d : D} {x : PyData} {v : V}, Py M d x → Is K F d v → Dp K H v x
  | _, _, _, .non, .non => .non
  | _, _, _, .bl _, .bl b => .bl b
  | _, _, _, .int _, .int b => .int b
  | _, _, _, .str _, .str b => .str b
  | _, _, _, .tup h, .tup h1 h2 => .tup (sqT_mono rm.sub h1) (PyA.dp rm h h2)
  | _, _, _, .lst h, .lst h1 h2 => .lst (.inl (.inl (rm.sub _ _ h1))) (PyA.dp rm h h2)
  | _, _, _, .ref (p := p) e h, .ref _ => by
    obtain ⟨_, vs, h1, h2⟩ := rm.ok p _ e
    exact .lst (.inl (.inl h1)) (PyA.dp rm h h2)
theorem PyA.dp (rm : RM K F M H) : ∀ {ds : List D} {xs : List PyData} {vs : List V}, PyA M ds xs → IsA K F ds vs → DpAll K H vs xs
  | _, _, _, .nil, .nil => .nil
  | _, _, _, .cons h t, .cons h1 t1 => .cons (Py.dp rm h h1) (PyA.dp rm t t1)
end
mutual
def pd : D → Option PyData
  | .non => some .none
  | .bl b => some (.bool b)
  | .int i => some (.int i)
  | .str x => some (.str x)
  | .tup ds => (pdA ds).map .tuple
  | .lst ds => (pdA ds).map .list
  | .obj _ _ _ => none
  | .ref _ => none
  | .ty _ => none
  | .scr _ => none
def pdA : List D → Option (List PyData)
  | [] => some []
  | d :: ds => match pd d, pdA ds with | some x, some xs => some (x :: xs) | _, _ => none
end
mutual
theorem Py.of_pd : ∀ {d : D} {x : PyData}, pd d = some x → Py M d x
  | .non, _, h => by cases h; exact .non
  | .bl b, _, h => by cases h; exact .bl b
  | .int b, _, h => by cases h; exact .int b
  | .str b, _, h => by cases h; exact .str b
  | .tup ds, x, h => by
    unfold pd at h
    obtain ⟨xs, h1, rfl⟩ := Option.map_eq_some_iff.mp h
    exact .tup (PyA.of_pd h1)
  | .lst ds, x, h => by
    unfold pd at h
    obtain ⟨xs, h1, rfl⟩ := Option.map_eq_some_iff.mp h
    exact .lst (PyA.of_pd h1)
  | .obj _ _ _, _, h => by cases h
  | .ref _, _, h => by cases h
  | .ty _, _, h => by cases h
  | .scr _, _, h => by cases h
theorem PyA.of_pd : ∀ {ds : List D} {xs : List PyData}, pdA ds = some xs → PyA M ds xs
  | [], _, h => by cases h; exact .nil
  | d :: ds, _, h => by
    unfold pdA at h
    split at h
    · rename_i x xs h1 h2
      cases h
      exact .cons (Py.of_pd h1) (PyA.of_pd h2)
    · cases h
end
end

/-! ### operators -/
section
variable {X : Cx}
def r3Add (x y : D) (M : Mem) (Q : VK3) : Prop := match lview M x, lview M y with
  | some xs, some ys => xs.length + ys.length ≤ sizeLine ∧ newL (xs ++ ys) M Q
  | _, _ => (match x, y with
    | .int i, .int j => Q (.int (i + j)) M
    | .str i, .str j => i.length + j.length ≤ sizeLine ∧ Q (.str (i ++ j)) M
    | .tup xs, .tup ys => xs.length + ys.length ≤ sizeLine ∧ Q (.tup (xs ++ ys)) M
    | _, _ => False)
theorem catL {K : PySem.W.Frag} : OpL K rCat (fun x y M Q => ∃ xs ys, lview M x = some xs ∧ lview M y = some ys ∧ xs.length + ys.length ≤ sizeLine ∧ newL (xs ++ ys) M Q) := by
  rintro F M H dx dy x y Q3 Q rm ix iy ⟨xs, ys, e1, e2, hz, q⟩ k
  obtain ⟨a, vs, rfl, h1, a1⟩ := lview_is rm ix e1
  obtain ⟨b, us, rfl, h2, a2⟩ := lview_is rm iy e2
  exact ⟨a, b, vs, us, rfl, rfl, h1, h2, by rw [← a1.length, ← a2.length]; exact hz, fun p n => newL_up rm n (a1.append a2) q k⟩
theorem op_add3 : OpR X (binaryOp .Add) (fun x y H Q => (∃ i j, x = .int i ∧ y = .int j ∧ Q (.int (i + j)) H) ∨ (∃ i j, x = .str i ∧ y = .str j ∧ i.length + j.length ≤ sizeLine ∧ Q (.str (i ++ j)) H) ∨ rCatA X.K x y H Q ∨ rCat x y H Q) ∧ OpL X.K (fun x y H Q => (∃ i j, x = .int i ∧ y = .int j ∧ Q (.int (i + j)) H) ∨ (∃ i j, x = .str i ∧ y = .str j ∧ i.length + j.length ≤ sizeLine ∧ Q (.str (i ++ j)) H) ∨ rCatA X.K x y H Q ∨ rCat x y H Q) r3Add := by
  refine ⟨op_add.or (op_add_str.or (op_catA.or op_cat)), fun F M H dx dy x y Q3 Q rm ix iy q k => ?_⟩
  unfold r3Add at q
  split at q
  · rename_i xs ys e1 e2
    exact .inr (.inr (.inr (catL F M H _ _ x y Q3 Q rm ix iy ⟨xs, ys, e1, e2, q.1, q.2⟩ k)))
  · split at q
    · cases ix; cases iy
      exact .inl ⟨_, _, rfl, rfl, k _ _ _ _ _ (.refl rm) (.int _) q⟩
    · cases ix; cases iy
      exact .inr (.inl ⟨_, _, rfl, rfl, q.1, k _ _ _ _ _ (.refl rm) (.str _) q.2⟩)
    · obtain ⟨hz, q⟩ := q
      cases ix with
      | tup h1 a1 =>
      cases iy with
      | tup h2 a2 =>
      refine .inr (.inr (.inl ⟨_, _, _, _, rfl, rfl, sqT_mono rm.sub h1, sqT_mono rm.sub h2, by rw [← a1.length, ← a2.length]; exact hz, fun e => ?_, fun _ e => ?_, fun _ _ p n => newT_up rm n (a1.append a2) q k⟩))
      · rw [a1.nil_iff] at e
        subst e
        exact k _ _ _ _ _ (.refl rm) (.tup h2 a2) q
      · rw [a2.nil_iff] at e
        subst e
        rw [List.append_nil] at q
        exact k _ _ _ _ _ (.refl rm) (.tup h1 a1) q
    · exact q.elim
def r3I (C : Int → Int → Prop) (g : Int → Int → Int) : R3 := fun x y M Q => match x, y with | .int i, .int j => C i j ∧ Q (.int (g i j)) M | _, _ => False
/-- ints in, a value out -/
theorem op_ii {f : Value → Value → Sem Value} {C : Int → Int → Prop} {g : Int → Int → Int} (h : OpR X f (rI C fun i j => .int (g i j))) :
    OpR X f (rI C fun i j => .int (g i j)) ∧ OpL X.K (rI C fun i j => .int (g i j)) (r3I C g) :=
  ⟨h, fun F M H dx dy x y Q3 Q rm ix iy q k => by
    unfold r3I at q
    split at q
    · cases ix; cases iy; exact ⟨_, _, rfl, rfl, q.1, k _ _ _ _ _ (.refl rm) (.int _) q.2⟩
    · exact q.elim⟩
def r3I0 (g : Int → Int → Int) : R3 := fun x y M Q => match x, y with | .int i, .int j => Q (.int (g i j)) M | _, _ => False
def r3B (g : Int → Int → Bool) : R3 := fun x y M Q => match x, y with | .int i, .int j => Q (.bl (g i j)) M | _, _ => False
theorem op_sub3 : OpR X (binaryOp .Sub) (rI0 fun i j => .int (i - j)) ∧ OpL X.K (rI0 fun i j => .int (i - j)) (r3I0 fun i j => i - j) :=
  ⟨op_sub, fun F M H dx dy x y Q3 Q rm ix iy q k => by
    unfold r3I0 at q
    split at q
    · cases ix; cases iy; exact ⟨_, _, rfl, rfl, k _ _ _ _ _ (.refl rm) (.int _) q⟩
    · exact q.elim⟩
theorem op_mod3 : OpR X (binaryOp .Mod) (rI (fun _ j => 0 < j) fun i j => .int (i % j)) ∧ OpL X.K (rI (fun _ j => 0 < j) fun i j => .int (i % j)) (r3I (fun _ j => 0 < j) fun i j => i % j) := op_ii op_mod
theorem op_fdiv3 : OpR X (binaryOp .FloorDiv) (rI CDiv fun i j => .int (i / j)) ∧ OpL X.K (rI CDiv fun i j => .int (i / j)) (r3I CDiv fun i j => i / j) := op_ii op_fdiv
theorem op_pow3 : OpR X (binaryOp .Pow) (rI CPow fun i j => .int (i ^ j.toNat)) ∧ OpL X.K (rI CPow fun i j => .int (i ^ j.toNat)) (r3I CPow fun i j => i ^ j.toNat) := op_ii op_pow
theorem bI {f : Value → Value → Sem Value} {g : Int → Int → Bool} (h : OpR X f (rI0 fun i j => .bl (g i j))) :
    OpR X f (rI0 fun i j => .bl (g i j)) ∧ OpL X.K (rI0 fun i j => .bl (g i j)) (r3B g) :=
  ⟨h, fun F M H dx dy x y Q3 Q rm ix iy q k => by
    unfold r3B at q
    split at q
    · cases ix; cases iy; exact ⟨_, _, rfl, rfl, k _ _ _ _ _ (.refl rm) (.bl _) q⟩
    · exact q.elim⟩
theorem op_lt3 : OpR X (compareOp .Lt) (rI0 fun i j => .bl (decide (i < j))) ∧ OpL X.K (rI0 fun i j => .bl (decide (i < j))) (r3B fun i j => decide (i < j)) := bI op_lt
theorem op_le3 : OpR X (compareOp .LtE) (rI0 fun i j => .bl (decide (i ≤ j))) ∧ OpL X.K (rI0 fun i j => .bl (decide (i ≤ j))) (r3B fun i j => decide (i ≤ j)) := bI op_le
theorem op_gt3 : OpR X (compareOp .Gt) (rI0 fun i j => .bl (decide (j < i))) ∧ OpL X.K (rI0 fun i j => .bl (decide (j < i))) (r3B fun i j => decide (j < i)) := bI op_gt
theorem op_ge3 : OpR X (compareOp .GtE) (rI0 fun i j => .bl (decide (j ≤ i))) ∧ OpL X.K (rI0 fun i j => .bl (decide (j ≤ i))) (r3B fun i j => decide (j ≤ i)) := bI op_ge
/-- a * b: ints; a list, a tuple again and again -/
def r3Mul : R3 := fun x y M Q => match x, y with
  | .int i, .int j => CMul i j ∧ Q (.int (i * j)) M
  | .tup xs, .int k => xs ≠ [] ∧ 2 ≤ k ∧ k ≤ 1000 ∧ xs.length ≤ 1000 ∧ Q (.tup (List.replicate k.toNat xs).flatten) M
  | x, .int k => ∃ xs, lview M x = some xs ∧ -(2 ^ 63) ≤ k ∧ k < 2 ^ 63 ∧ xs.length * k.toNat ≤ sizeLine ∧ newL (List.replicate k.toNat xs).flatten M Q
  | _, _ => False
theorem op_mul3 : OpR X (binaryOp .Mult) (fun x y H Q => rI CMul (fun i j => .int (i * j)) x y H Q ∨ rRepT X.K x y H Q ∨ rRep x y H Q) ∧ OpL X.K (fun x y H Q => rI CMul (fun i j => .int (i * j)) x y H Q ∨ rRepT X.K x y H Q ∨ rRep x y H Q) r3Mul := by
  refine ⟨op_mul.or (op_repT.or op_rep), fun F M H dx dy x y Q3 Q rm ix iy q k => ?_⟩
  unfold r3Mul at q
  split at q
  · cases ix; cases iy
    exact .inl ⟨_, _, rfl, rfl, q.1, k _ _ _ _ _ (.refl rm) (.int _) q.2⟩
  · obtain ⟨h0, h1, h2, h3, q⟩ := q
    cases iy
    cases ix with
    | tup t1 a1 =>
    refine .inr (.inl ⟨_, _, _, rfl, rfl, sqT_mono rm.sub t1, fun e => h0 (a1.nil_iff.mp e), h1, h2, by rw [← a1.length]; exact h3, fun p n => newT_up rm n (a1.rep _) q k⟩)
  · obtain ⟨xs, e1, h1, h2, h3, q⟩ := q
    cases iy
    obtain ⟨a, vs, rfl, h4, a1⟩ := lview_is rm ix e1
    exact .inr (.inr ⟨a, _, vs, rfl, rfl, h4, h1, h2, by rw [← a1.length]; exact h3, fun p n => newL_up rm n (a1.rep _) q k⟩)
  · exact q.elim

/-! ### ==, in, is -/
def r3Eq : R3 := fun x y M Q => match x, y with
  | .int i, .int j => Q (.bl (decide (i = j))) M
  | .str i, .str j => Q (.bl (decide (i = j))) M
  | .bl i, .bl j => Q (.bl (decide (i = j))) M
  | x, y => ∃ d e, Py M x d ∧ Py M y e ∧ SeqAt.shaped d = true ∧ SeqAt.shaped e = true ∧ Q (.bl (PyData.eqv d e)) M
def r3Ne : R3 := fun x y M Q => match x, y with
  | .int i, .int j => Q (.bl (!decide (i = j))) M
  | .str i, .str j => Q (.bl (!decide (i = j))) M
  | .bl i, .bl j => Q (.bl (!decide (i = j))) M
  | x, y => ∃ d e, Py M x d ∧ Py M y e ∧ SeqAt.shaped d = true ∧ SeqAt.shaped e = true ∧ Q (.bl (!PyData.eqv d e)) M
theorem op_eq3 (hu : X.A.units + 64 < cLine) : OpR X (compareOp .Eq) (fun x y H Q => rEq x y H Q ∨ rEqD X.K x y H Q) ∧ OpL X.K (fun x y H Q => rEq x y H Q ∨ rEqD X.K x y H Q) r3Eq := by
  refine ⟨op_eq.or (op_eqD hu), fun F M H dx dy x y Q3 Q rm ix iy q k => ?_⟩
  unfold r3Eq at q
  split at q
  · cases ix; cases iy
    exact .inl ⟨rfl, k _ _ _ _ _ (.refl rm) (.bl _) (by simpa using q)⟩
  · cases ix; cases iy
    exact .inl ⟨rfl, k _ _ _ _ _ (.refl rm) (.bl _) (by simpa using q)⟩
  · cases ix; cases iy
    exact .inl ⟨rfl, k _ _ _ _ _ (.refl rm) (.bl _) (by simpa using q)⟩
  · obtain ⟨d, e, h1, h2, h3, h4, q⟩ := q
    exact .inr ⟨d, e, h1.dp rm ix, h2.dp rm iy, h3, h4, k _ _ _ _ _ (.refl rm) (.bl _) q⟩
theorem op_ne3 (hu : X.A.units + 64 < cLine) : OpR X (compareOp .NotEq) (fun x y H Q => rNe x y H Q ∨ rNeD X.K x y H Q) ∧ OpL X.K (fun x y H Q => rNe x y H Q ∨ rNeD X.K x y H Q) r3Ne := by
  refine ⟨op_ne.or (op_neD hu), fun F M H dx dy x y Q3 Q rm ix iy q k => ?_⟩
  unfold r3Ne at q
  split at q
  · cases ix; cases iy
    exact .inl ⟨rfl, k _ _ _ _ _ (.refl rm) (.bl _) (by simpa using q)⟩
  · cases ix; cases iy
    exact .inl ⟨rfl, k _ _ _ _ _ (.refl rm) (.bl _) (by simpa using q)⟩
  · cases ix; cases iy
    exact .inl ⟨rfl, k _ _ _ _ _ (.refl rm) (.bl _) (by simpa using q)⟩
  · obtain ⟨d, e, h1, h2, h3, h4, q⟩ := q
    exact .inr ⟨d, e, h1.dp rm ix, h2.dp rm iy, h3, h4, k _ _ _ _ _ (.refl rm) (.bl _) q⟩
def isNon : D → Bool
  | .non => true
  | _ => false
def r3Is (neg : Bool) : R3 := fun x y M Q => match y with
  | .non => Q (.bl (if neg then !isNon x else isNon x)) M
  | _ => False
theorem isNon_is {K : PySem.W.Frag} {F : Hp} {d : D} {v : V} (i : Is K F d v) : decide (v = V.non) = isNon d := by
  cases i <;> simp [isNon]
theorem op_is3 : OpR X (compareOp .Is) (fun x y H Q => y = .non ∧ Q (.bl (decide (x = .non))) H) ∧ OpL X.K (fun x y H Q => y = .non ∧ Q (.bl (decide (x = .non))) H) (r3Is false) :=
  ⟨op_isN, fun F M H dx dy x y Q3 Q rm ix iy q k => by
    unfold r3Is at q
    split at q
    · cases iy; exact ⟨rfl, k _ _ _ _ _ (.refl rm) (by rw [isNon_is ix]; exact .bl _) q⟩
    · exact q.elim⟩
theorem op_isnot3 : OpR X (compareOp .IsNot) (fun x y H Q => y = .non ∧ Q (.bl (!decide (x = .non))) H) ∧ OpL X.K (fun x y H Q => y = .non ∧ Q (.bl (!decide (x = .non))) H) (r3Is true) :=
  ⟨op_notN, fun F M H dx dy x y Q3 Q rm ix iy q k => by
    unfold r3Is at q
    split at q
    · cases iy; exact ⟨rfl, k _ _ _ _ _ (.refl rm) (by rw [isNon_is ix]; exact .bl _) q⟩
    · exact q.elim⟩
/-- x in y: a sign in a text; a flat thing in a list or tuple of flat things -/
def r3In (neg : Bool) (x y : D) (M : Mem) (Q : VK3) : Prop := match lview M y with
  | some ys => flatD x = true ∧ ys.all flatD = true ∧ Q (.bl (if neg then !inD x ys else inD x ys)) M
  | none => (match x, y with
    | .str c, .str z => ∃ n, c = ⟨#[n]⟩ ∧ Q (.bl (if neg then !decide (n ∈ z.cps.toList) else decide (n ∈ z.cps.toList))) M
    | x, .tup ys => flatD x = true ∧ ys.all flatD = true ∧ Q (.bl (if neg then !inD x ys else inD x ys)) M
    | _, _ => False)
theorem inL {K : PySem.W.Frag} (neg : Bool) : OpL K (fun x y H Q => (∃ (c : Nat) (z : Str), x = .str ⟨#[c]⟩ ∧ y = .str z ∧ Q (.bl (if neg then !decide (c ∈ z.cps.toList) else decide (c ∈ z.cps.toList))) H) ∨ rIn K neg x y H Q) (r3In neg) := fun F M H dx dy x y Q3 Q rm ix iy q k => by
  unfold r3In at q
  split at q
  · rename_i ys e
    obtain ⟨f, g, q⟩ := q
    obtain ⟨a, vs, rfl, h4, a1⟩ := lview_is rm iy e
    refine .inr ⟨_, _, rfl, .inl (.inl (.inl h4)), flat_is ix f, flatA_is a1 g, ?_⟩
    rw [inD_is ix f a1 g]
    exact k _ _ _ _ _ (.refl rm) (.bl _) q
  · split at q
    · obtain ⟨n, rfl, q⟩ := q
      cases ix; cases iy
      exact .inl ⟨n, _, rfl, rfl, k _ _ _ _ _ (.refl rm) (.bl _) q⟩
    · obtain ⟨f, g, q⟩ := q
      cases iy with
      | tup t1 a1 =>
      refine .inr ⟨_, _, rfl, .inr (sqT_mono rm.sub t1), flat_is ix f, flatA_is a1 g, ?_⟩
      rw [inD_is ix f a1 g]
      exact k _ _ _ _ _ (.refl rm) (.bl _) q
    · exact q.elim
theorem op_in3 : OpR X (compareOp .In) (fun x y H Q => (∃ (c : Nat) (z : Str), x = .str ⟨#[c]⟩ ∧ y = .str z ∧ Q (.bl (if false = true then !decide (c ∈ z.cps.toList) else decide (c ∈ z.cps.toList))) H) ∨ rIn X.K false x y H Q) ∧ OpL X.K (fun x y H Q => (∃ (c : Nat) (z : Str), x = .str ⟨#[c]⟩ ∧ y = .str z ∧ Q (.bl (if false = true then !decide (c ∈ z.cps.toList) else decide (c ∈ z.cps.toList))) H) ∨ rIn X.K false x y H Q) (r3In false) :=
  ⟨OpR.or (fun pins s σ H x y v u Q I rx ry q => op_in_sign pins s σ H x y v u Q I rx ry (by simpa using q)) op_in_seq, inL false⟩
theorem op_notin3 : OpR X (compareOp .NotIn) (fun x y H Q => (∃ (c : Nat) (z : Str), x = .str ⟨#[c]⟩ ∧ y = .str z ∧ Q (.bl (if true = true then !decide (c ∈ z.cps.toList) else decide (c ∈ z.cps.toList))) H) ∨ rIn X.K true x y H Q) ∧ OpL X.K (fun x y H Q => (∃ (c : Nat) (z : Str), x = .str ⟨#[c]⟩ ∧ y = .str z ∧ Q (.bl (if true = true then !decide (c ∈ z.cps.toList) else decide (c ∈ z.cps.toList))) H) ∨ rIn X.K true x y H Q) (r3In true) :=
  ⟨OpR.or (fun pins s σ H x y v u Q I rx ry q => op_notIn_sign pins s σ H x y v u Q I rx ry (by simpa using q)) op_notIn_seq, inL true⟩

/-! ### one place -/
def un3 (g : Int → Int) (ta : TE3) (δ : St3) (M : Mem) (Q : VK3) : Prop := ta δ M fun d M1 => match d with | .int i => Q (.int (g i)) M1 | _ => False
theorem e3_neg {a : Expr} {ta : TE3} {pos : Pos} (ha : E3 X a ta) : E3 X (.UnaryOp .USub a pos) (un3 (fun i => -i) ta) :=
  pe_imp (pe_un un_neg ha) fun σ H Q ⟨F, M, δ, Q3, rm, sl, q, k⟩ => ⟨F, M, δ, _, rm, sl, q, fun F1 M1 H1 d v x1 iv q1 => by
    split at q1
    · cases iv; exact ⟨_, rfl, k _ _ _ _ _ x1 (.int _) q1⟩
    · exact q1.elim⟩

/-! ### truth -/
def truD (M : Mem) (d : D) : Option Bool := match lview M d with
  | some ds => some (!ds.isEmpty)
  | none => (match d with
    | .non => some false
    | .bl b => some b
    | .int i => some (i != 0)
    | .str y => if y.length ≤ sizeLine then some ((y.length : Int) != 0) else none
    | .tup ds => some (!ds.isEmpty)
    | .ref p => (match M p with | some (.dK ds) => some (!ds.isEmpty) | _ => none)
    | _ => none)
def tru3 (t : TE3) (δ : St3) (M : Mem) (Q : Bool → Mem → Prop) : Prop := t δ M fun d M1 => match truD M1 d with | some b => Q b M1 | none => False
theorem isEmpty_isA {K : PySem.W.Frag} {F : Hp} {ds : List D} {vs : List V} (h : IsA K F ds vs) : vs.isEmpty = ds.isEmpty := by cases h <;> rfl
theorem isEmpty_isKV {κ : Type} {K : PySem.W.Frag} {F : Hp} {ds : List (κ × D)} {vs : List (κ × V)} (h : IsKV K F ds vs) : vs.isEmpty = ds.isEmpty := by cases h <;> rfl
theorem truD_is {K : PySem.W.Frag} {F H : Hp} {M : Mem} {d : D} {v : V} {b : Bool} (rm : RM K F M H) (i : Is K F d v) (e : truD M d = some b) : TruV K v H b := by
  unfold truD at e
  split at e
  · rename_i ds h
    cases e
    obtain ⟨a, vs, rfl, h1, h2⟩ := lview_is rm i h
    exact .inl ⟨_, .inl (.inl h1), by rw [isEmpty_isA h2]⟩
  · cases i with
    | non => cases e; rfl
    | bl b => cases e; rfl
    | int i => cases e; rfl
    | str x =>
      by_cases hz : x.length ≤ sizeLine
      · have e' : (if x.length ≤ sizeLine then some ((x.length : Int) != 0) else none) = some b := e
        rw [if_pos hz] at e'
        cases e'
        exact ⟨hz, rfl⟩
      · have e' : (if x.length ≤ sizeLine then some ((x.length : Int) != 0) else none) = some b := e
        rw [if_neg hz] at e'
        cases e'
    | tup h1 h2 => cases e; exact .inr (.inl ⟨_, sqT_mono rm.sub h1, by rw [isEmpty_isA h2]⟩)
    | ref p =>
      simp only at e
      split at e
      · rename_i ds h
        cases e
        obtain ⟨_, vs, h1, h2⟩ := rm.ok p _ h
        exact .inr (.inr ⟨_, h1, by rw [isEmpty_isKV h2]⟩)
      · cases e
    | _ => cases e
theorem t3_tru {a : Expr} {ta : TE3} (ha : E3 X a ta) (he : ∀ whole, isTrue a X.env whole = (do let v ← whole; standAt a.pos; holding [v] (truthy v)) := by intro _; rfl) : T3 X a (tru3 ta) :=
  pt_imp (pt_truth ha he) fun σ H Q ⟨F, M, δ, Q3, rm, sl, q, k⟩ => ⟨F, M, δ, _, rm, sl, q, fun F1 M1 H1 d v x1 iv q1 => by
    split at q1
    · rename_i b e
      exact ⟨b, truD_is x1.rm iv e, k _ _ _ _ x1 q1⟩
    · exact q1.elim⟩
end

/-! ### or, and, not as values -/
section
variable {X : Cx} {a b : Expr} {rest : List Expr} {ta tb : TE3} {pos : Pos}
def orv3 (ta tb : TE3) (δ : St3) (M : Mem) (Q : VK3) : Prop := ta δ M fun d M1 => match truD M1 d with | some true => Q d M1 | some false => tb δ M1 Q | none => False
def andv3 (ta tb : TE3) (δ : St3) (M : Mem) (Q : VK3) : Prop := ta δ M fun d M1 => match truD M1 d with | some true => tb δ M1 Q | some false => Q d M1 | none => False
end
end L3

namespace L3
open PySem PySem.Spec PyProof.Rows L2

/-! ### arguments, displays -/
section
variable {X : Cx} {e a b : Expr} {es : List Expr} {te ta tb : TE3} {t : TA3} {pos : Pos}
def nil3 (_ : St3) (M : Mem) (Q : List D → Mem → Prop) : Prop := Q [] M
def cons3 (ta : TE3) (tr : TA3) (δ : St3) (M : Mem) (Q : List D → Mem → Prop) : Prop := ta δ M fun d M1 => tr δ M1 fun ds M2 => Q (d :: ds) M2
theorem a3_nil : A3 X [] nil3 := pa_imp pa_nil fun σ H Q ⟨F, M, δ, Q3, rm, sl, q, k⟩ => k _ _ _ _ _ (.refl rm) .nil q
theorem a3_cons (ha : E3 X e te) (hr : A3 X es t) (hs : starEach (e :: es) X.env = (false, eval e X.env) :: starEach es X.env := by rfl) : A3 X (e :: es) (cons3 te t) :=
  pa_imp (pa_cons ha hr hs) fun σ H Q ⟨F, M, δ, Q3, rm, sl, q, k⟩ => ⟨F, M, δ, _, rm, sl, q, fun F1 M1 H1 d v x1 iv q1 =>
    ⟨F1, M1, δ, _, x1.rm, sl.mono x1.same, q1, fun F2 M2 H2 ds vs x2 ivs q2 => k _ _ _ _ _ (x1.trans x2) (.cons (iv.mono x2.same) ivs) q2⟩⟩
def tup3 (t : TA3) (δ : St3) (M : Mem) (Q : VK3) : Prop := t δ M fun ds M1 => ds.length ≤ sizeLine ∧ Q (.tup ds) M1
def lst3 (t : TA3) (δ : St3) (M : Mem) (Q : VK3) : Prop := t δ M fun ds M1 => ds.length ≤ sizeLine ∧ newL ds M1 Q
theorem e3_tup {x1} (h : A3 X es t) : E3 X (.Tuple es x1 pos) (tup3 t) :=
  pe_imp (pe_tup h) fun σ H Q ⟨F, M, δ, Q3, rm, sl, q, k⟩ => ⟨F, M, δ, _, rm, sl, q, fun F1 M1 H1 ds vs x1 iv q1 =>
    ⟨by rw [← iv.length]; exact q1.1, fun p n => newT_up x1.rm n iv q1.2 (k.ext x1)⟩⟩
theorem e3_lst (h : A3 X es t) : E3 X (.List es pos) (lst3 t) :=
  pe_imp (pe_lst h) fun σ H Q ⟨F, M, δ, Q3, rm, sl, q, k⟩ => ⟨F, M, δ, _, rm, sl, q, fun F1 M1 H1 ds vs x1 iv q1 =>
    ⟨by rw [← iv.length]; exact q1.1, fun p n => newL_up x1.rm n iv q1.2 (k.ext x1)⟩⟩
end

/-! ### calls of what is known by values -/
abbrev RC := List D → Mem → VK3 → Prop
def CaL (K : PySem.W.Frag) (r : List V → Hp → VK → Prop) (r3 : RC) : Prop := ∀ (F : Hp) (M : Mem) (H : Hp) (ds : List D) (vs : List V) (Q3 : VK3) (Q : VK), RM K F M H → IsA K F ds vs → r3 ds M Q3 → K3 K F M H Q3 Q → r vs H Q
def cal3 (r3 : RC) (t : TA3) (δ : St3) (M : Mem) (Q : VK3) : Prop := t δ M fun ds M1 => r3 ds M1 Q
section
variable {X : Cx} {e : Expr} {es : List Expr} {t : TA3} {pos p : Pos} {x : Str} {id T : String} {r : List V → Hp → VK → Prop} {r3 : RC}
theorem e3_callB (hc : CallR X (.builtin id) r ∧ CaL X.K r r3) (hg : Gl X x) (hm : X.mg x = none) (hv : bootBuiltins x = some (.builtin id)) (ha : A3 X (e :: es) t) (hn : x ≠ "__name__" := by decide) (hdb : (x == ("__debug__" : Str)) = false := by decide)
    (he : starEach (e :: es) X.env = (false, eval e X.env) :: starEach es X.env := by rfl) (hpl : (backTo pos (starEach es X.env)).any (·.1) = false := by rfl) : E3 X (.Call (.Name x p) (e :: es) [] pos) (cal3 r3 t) :=
  pe_imp (pe_callB hc.1 hg hm hv ha hn hdb he hpl) fun σ H Q ⟨F, M, δ, Q3, rm, sl, q, k⟩ => ⟨F, M, δ, _, rm, sl, q, fun F1 M1 H1 ds vs x1 iv q1 => hc.2 _ _ _ _ _ Q3 Q x1.rm iv q1 (k.ext x1)⟩
theorem e3_callTy (hc : CallR X (.type T) r ∧ CaL X.K r r3) (hg : Gl X x) (hm : X.mg x = none) (hv : bootBuiltins x = some (.type T)) (ha : A3 X (e :: es) t) (hn : x ≠ "__name__" := by decide) (hdb : (x == ("__debug__" : Str)) = false := by decide)
    (he : starEach (e :: es) X.env = (false, eval e X.env) :: starEach es X.env := by rfl) (hpl : (backTo pos (starEach es X.env)).any (·.1) = false := by rfl) : E3 X (.Call (.Name x p) (e :: es) [] pos) (cal3 r3 t) :=
  pe_imp (pe_callTy hc.1 hg hm hv ha hn hdb he hpl) fun σ H Q ⟨F, M, δ, Q3, rm, sl, q, k⟩ => ⟨F, M, δ, _, rm, sl, q, fun F1 M1 H1 ds vs x1 iv q1 => hc.2 _ _ _ _ _ Q3 Q x1.rm iv q1 (k.ext x1)⟩
end

/-! ### calls of the text's defs -/
/-- an exception by its class, what it bears, the memory -/
abbrev XK3 := Value → Option (Str × D) → Mem → Prop
abbrev Sp3 := List D → Mem → VK3 → XK3 → Prop
def Pay (K : PySem.W.Frag) (F : Hp) : Option (Str × D) → Option Addr → Prop
  | none, none => True
  | some (f, d), some a => ∃ v, F a = some (.xd [(f, v)]) ∧ Is K F d v
  | _, _ => False
def X3 (K : PySem.W.Frag) (F : Hp) (M : Mem) (H : Hp) (E3 : XK3) (E : XK) : Prop := ∀ F' M' H' c p od, Ext K F M H F' M' H' → Pay K F' p od → E3 c p M' → E c od H'
def sp3 (K : PySem.W.Frag) (s : Sp3) : Sp := fun vs H Q E => ∃ F M ds Q3 E3, RM K F M H ∧ IsA K F ds vs ∧ s ds M Q3 E3 ∧ K3 K F M H Q3 Q ∧ X3 K F M H E3 E
def no3 : XK3 := fun _ _ _ => False
theorem X3.no {K : PySem.W.Frag} {F : Hp} {M : Mem} {H : Hp} {E : XK} : X3 K F M H no3 E := fun _ _ _ _ _ _ _ _ h => h.elim
def call3 (s : Sp3) (t : TA3) (δ : St3) (M : Mem) (Q : VK3) : Prop := t δ M fun ds M1 => s ds M1 Q no3
section
variable {X : Cx} {k : Nat} {f C : Addr} {fd : FuncData} {ps : List Str} {s : Sp3} {x m : Str} {p pos apos : Pos} {e o : Expr} {es : List Expr} {ta : TE3} {t : TA3}
theorem e3_call (F : FnOk X.prog X.w X.K X.mg X.base CX0 k f fd ps (sp3 X.K s)) (hr : Room k X.A) (hg : Gl X x) (hm : X.mg x = some (.ref f)) (hk : PySem.W.keepIn X.K (.ref f) = true) (hb : Binds X.K fd ps []) (ha : A3 X (e :: es) t)
    (hdb : (x == ("__debug__" : Str)) = false := by decide) (he : starEach (e :: es) X.env = (false, eval e X.env) :: starEach es X.env := by rfl) (hpl : (backTo pos (starEach es X.env)).any (·.1) = false := by rfl) :
    E3 X (.Call (.Name x p) (e :: es) [] pos) (call3 s t) :=
  pe_imp (pe_call F hr hg hm hk hb .nil pass0 ha hdb he hpl) fun σ H Q ⟨F, M, δ, Q3, rm, sl, q, k⟩ => ⟨F, M, δ, _, rm, sl, q, fun F1 M1 H1 ds vs x1 iv q1 => by
    show sp3 X.K s (vs ++ []) H1 Q E0
    rw [List.append_nil]
    exact ⟨F1, M1, ds, Q3, no3, x1.rm, iv, q1, k.ext x1, X3.no⟩⟩
theorem e3_call0 (F : FnOk X.prog X.w X.K X.mg X.base CX0 k f fd ps (sp3 X.K s)) (hr : Room k X.A) (hg : Gl X x) (hm : X.mg x = some (.ref f)) (hk : PySem.W.keepIn X.K (.ref f) = true) (hb : Binds X.K fd ps [])
    (hdb : (x == ("__debug__" : Str)) = false := by decide) : E3 X (.Call (.Name x p) [] [] pos) (call3 s nil3) :=
  pe_imp (pe_call0 F hr hg hm hk hb .nil pass0 hdb) fun σ H Q ⟨F, M, δ, Q3, rm, sl, q, k⟩ => ⟨F, M, [], Q3, no3, rm, .nil, q, k, X3.no⟩
end
section
variable {P : Program} {w : World} {K : PySem.W.Frag} {mg : Str → Option Value} {base : Heap}
/-- THE RULE for a def that raises nothing -/
theorem ok3 {x qual : Str} {st : Stmt} {f : Addr} {fd : FuncData} {N ps : List Str} {k : Nat} {sp : Sp3} (F : Fun K x qual st f fd) (S : FnScope N ps (defScope st)) (len : ∀ ds M Q E, sp ds M Q E → ds.length = ps.length)
    (hbody : ∀ (cdv : Value) (A : Around) (outer : List Env) (s : Shared) (H : Hp) (E : XK), Room k (A.deeper (envOfC qual (defScope st) s.heap.objs.size f cdv)) →
      ∃ t, B3 (cxOf CX0 P w K mg base N qual (defScope st) f cdv A outer s H E).nox (defBody st) t ∧ ∀ ds M Q E', sp ds M Q E' → t { nx := fun _ M' => Q .non M', rt := Q } (start3 N ds) M) : FnOk P w K mg base CX0 (k + 1) f fd ps (sp3 K sp) := by
  refine F.ok S (fun vs H Q E h => ?_) fun cdv A outer s H vs Q E hr h => ?_
  · obtain ⟨F, M, ds, Q3, E3, rm, iv, q, _⟩ := h
    rw [← iv.length]; exact len _ _ _ _ q
  · obtain ⟨t, ht, hq⟩ := hbody cdv A outer s H E hr
    obtain ⟨F, M, ds, Q3, E3, rm, iv, q, k3, x3⟩ := h
    refine ⟨_, ht, F, M, start3 N ds, _, rm, Sl.start iv, hq ds M Q3 E3 q, ?_, k3, fun _ _ _ _ _ _ _ h => h.elim, fun _ _ _ _ _ _ _ h => h.elim⟩
    exact fun F' M' H' δ σ x sl q => k3 _ _ _ _ _ x .non q
end

/-! ### statements -/
section
variable {X : Cx} {st : Stmt} {rest : List Stmt} {t u : TS3} {e : Expr} {te : TE3} {pos : Pos}
def next3 (D : Ends3) (δ : St3) (M : Mem) : Prop := D.nx δ M
def seq3 (t u : TS3) (D : Ends3) (δ : St3) (M : Mem) : Prop := t { D with nx := u D } δ M
theorem b3_nil : B3 X [] next3 := pss_imp pss_nil fun D σ H ⟨F, M, δ, E, rm, sl, q, k⟩ => k.nx _ _ _ _ _ (.refl rm) sl q
theorem b3_cons (h1 : S3 X st t) (h2 : B3 X rest u) : B3 X (st :: rest) (seq3 t u) :=
  pss_imp (pss_cons h1 h2) fun D σ H ⟨F, M, δ, E, rm, sl, q, k⟩ => ⟨F, M, δ, _, rm, sl, q, fun F1 M1 H1 δ1 σ1 x1 sl1 q1 => ⟨F1, M1, δ1, E, x1.rm, sl1, q1, k.ext x1⟩, k.rt, k.bk, k.ct⟩
theorem b3_one (h1 : S3 X st t) : B3 X [st] t := pss_one h1
theorem s3_pass : S3 X (.Pass pos) next3 := ps_imp ps_pass fun D σ H ⟨F, M, δ, E, rm, sl, q, k⟩ => k.nx _ _ _ _ _ (.refl rm) sl q
theorem s3_doc {x j pos pos'} : S3 X (.Expr (.Constant (.str x) j pos) pos') next3 := ps_imp ps_doc fun D σ H ⟨F, M, δ, E, rm, sl, q, k⟩ => k.nx _ _ _ _ _ (.refl rm) sl q
def drop3 (te : TE3) (D : Ends3) (δ : St3) (M : Mem) : Prop := te δ M fun _ M1 => D.nx δ M1
theorem s3_expr (he : E3 X e te) (hs : swapsWith e none pos.line X.env = pure false := by rfl) : S3 X (.Expr e pos) (drop3 te) :=
  ps_imp (ps_expr he hs) fun D σ H ⟨F, M, δ, E, rm, sl, q, k⟩ => ⟨F, M, δ, _, rm, sl, q, fun F1 M1 H1 d v x1 iv q1 => k.nx _ _ _ _ _ x1 (sl.mono x1.same) q1⟩
def ret3 (te : TE3) (D : Ends3) (δ : St3) (M : Mem) : Prop := te δ M D.rt
theorem s3_ret (he : E3 X e te) : S3 X (.Return (some e) pos) (ret3 te) :=
  ps_imp (ps_ret he) fun D σ H ⟨F, M, δ, E, rm, sl, q, k⟩ => ⟨F, M, δ, _, rm, sl, q, fun F1 M1 H1 d v x1 iv q1 => k.rt _ _ _ _ _ x1 iv q1⟩
def retn3 (D : Ends3) (δ : St3) (M : Mem) : Prop := D.rt .non M
theorem s3_retn : S3 X (.Return none pos) retn3 := ps_imp ps_retN fun D σ H ⟨F, M, δ, E, rm, sl, q, k⟩ => k.rt _ _ _ _ _ (.refl rm) .non q
def if3 (c : TT3) (t u : TS3) (D : Ends3) (δ : St3) (M : Mem) : Prop := c δ M fun b M1 => if b = true then t D δ M1 else u D δ M1
theorem s3_if {c : Expr} {a b : List Stmt} {tc : TT3} (hc : T3 X c tc) (ha : B3 X a t) (hb : B3 X b u) : S3 X (.If c a b pos) (if3 tc t u) :=
  ps_imp (ps_if hc ha hb) fun D σ H ⟨F, M, δ, E, rm, sl, q, k⟩ => ⟨F, M, δ, _, rm, sl, q, fun F1 M1 H1 b x1 q1 => by
    cases b with
    | true => rw [if_pos rfl] at q1 ⊢; exact ⟨F1, M1, δ, E, x1.rm, sl.mono x1.same, q1, k.ext x1⟩
    | false => rw [if_neg Bool.false_ne_true] at q1 ⊢; exact ⟨F1, M1, δ, E, x1.rm, sl.mono x1.same, q1, k.ext x1⟩⟩
def brk3 (D : Ends3) (δ : St3) (M : Mem) : Prop := D.bk δ M
def cont3 (D : Ends3) (δ : St3) (M : Mem) : Prop := D.ct δ M
theorem s3_brk : S3 X (.Break pos) brk3 := ps_imp ps_break fun D σ H ⟨F, M, δ, E, rm, sl, q, k⟩ => k.bk _ _ _ _ _ (.refl rm) sl q
theorem s3_cont : S3 X (.Continue pos) cont3 := ps_imp ps_continue fun D σ H ⟨F, M, δ, E, rm, sl, q, k⟩ => k.ct _ _ _ _ _ (.refl rm) sl q
def set3 (i : Nat) (te : TE3) (D : Ends3) (δ : St3) (M : Mem) : Prop := te δ M fun d M1 => D.nx (δ.set i (some d)) M1
theorem s3_set {i : Nat} {x : Str} {pos' : Pos} (hN : X.N.Nodup) (hi : X.N[i]? = some x) (hx : Loc X.env.scope x) (he : E3 X e te) (hs : swapsWith e (some (.Name x pos')) pos.line X.env = pure false := by rfl) (hf : X.fn x = true ∨ X.env.scope.names.lookup x = some .local := by first | exact .inl rfl | exact .inr rfl | assumption) :
    S3 X (.Assign [.Name x pos'] e pos) (set3 i te) :=
  ps_imp (ps_set hN hi hx he hs hf) fun D σ H ⟨F, M, δ, E, rm, sl, q, k⟩ => ⟨F, M, δ, _, rm, sl, q, fun F1 M1 H1 d v x1 iv q1 => k.nx _ _ _ _ _ x1 ((sl.mono x1.same).set iv i) q1⟩
/-- x += e, ints -/
def aug3 (i : Nat) (te : TE3) (D : Ends3) (δ : St3) (M : Mem) : Prop := match δ[i]? with
  | some (some (.int a)) => te δ M fun d M1 => match d with | .int b => D.nx (δ.set i (some (.int (a + b)))) M1 | _ => False
  | _ => False
theorem s3_aug {i : Nat} {x : Str} {pos' : Pos} (hN : X.N.Nodup) (hi : X.N[i]? = some x) (hx : Loc X.env.scope x) (he : E3 X e te) (hf : X.fn x = true ∨ X.env.scope.names.lookup x = some .local := by first | exact .inl rfl | exact .inr rfl | assumption) :
    S3 X (.AugAssign (.Name x pos') .Add e pos) (aug3 i te) :=
  ps_imp (ps_aug hN hi hx he ip_add hf) fun D σ H ⟨F, M, δ, E, rm, sl, q, k⟩ => by
    unfold aug3 at q
    split at q
    · rename_i a ea
      obtain ⟨v, h1, h2⟩ := sl.get ea
      cases h2
      refine ⟨_, h1, F, M, δ, _, rm, sl, q, fun F1 M1 H1 d v x1 iv q1 => ?_⟩
      split at q1
      · cases iv
        exact ⟨_, _, rfl, rfl, k.nx _ _ _ _ _ x1 ((sl.mono x1.same).set (.int _) i) q1⟩
      · exact q1.elim
    · exact q.elim
def while3 (c : TT3) (tb : TS3) (D : Ends3) (δ : St3) (M : Mem) : Prop := ∃ (Pv : St3 → Mem → Prop) (μ : St3 → Mem → Nat), Pv δ M ∧ ∀ δ M, Pv δ M → c δ M fun b M1 => if b = true then
  tb { D with nx := fun δ' M' => Pv δ' M' ∧ μ δ' M' < μ δ M, ct := fun δ' M' => Pv δ' M' ∧ μ δ' M' < μ δ M, bk := D.nx } δ M1 else D.nx δ M1
theorem s3_while {c : Expr} {body : List Stmt} {tc : TT3} {tb : TS3} (hp : PassesOwn (model X.prog X.w) X.A X.env X.xe) (hc : T3 X c tc) (hb : B3 X body tb) : S3 X (.While c body [] pos) (while3 tc tb) :=
  ps_imp (ps_while hp hc hb) fun D σ H ⟨F, M, δ, E, rm, sl, ⟨Pv, μ, h0, hs⟩, k⟩ => by
    refine ⟨fun m σ' H' => ∃ F' M' δ', Ext X.K F M H F' M' H' ∧ Sl X.K F' δ' σ' ∧ Pv δ' M' ∧ m = μ δ' M', ⟨_, F, M, δ, .refl rm, sl, h0, rfl⟩, ?_⟩
    rintro m σ1 H1 ⟨F1, M1, δ1, x1, sl1, p1, rfl⟩
    refine ⟨F1, M1, δ1, _, x1.rm, sl1, hs δ1 M1 p1, fun F2 M2 H2 b x2 q2 => ?_⟩
    cases b with
    | true =>
      rw [if_pos rfl] at q2 ⊢
      refine ⟨fun σ' H' => ∃ F' M' δ', Ext X.K F M H F' M' H' ∧ Sl X.K F' δ' σ' ∧ Pv δ' M' ∧ μ δ' M' < μ δ1 M1, fun σ' H' ⟨F', M', δ', x, s, p, l⟩ => ⟨_, l, F', M', δ', x, s, p, rfl⟩, F2, M2, δ1, _, x2.rm, sl1.mono x2.same, q2, ?_, (k.rt.ext x1).ext x2, (k.nx.ext x1).ext x2, ?_⟩
      · exact fun F3 M3 H3 δ3 σ3 x3 sl3 q3 => ⟨F3, M3, δ3, x1.trans (x2.trans x3), sl3, q3⟩
      · exact fun F3 M3 H3 δ3 σ3 x3 sl3 q3 => ⟨F3, M3, δ3, x1.trans (x2.trans x3), sl3, q3⟩
    | false =>
      rw [if_neg Bool.false_ne_true] at q2 ⊢
      exact k.nx _ _ _ _ _ (x1.trans x2) (sl1.mono x2.same) q2
end

/-! ### targets -/
inductive Tg where
  | nm (i : Nat)
  | tp (ts : List Tg)
mutual
def asg : Tg → D → St3 → Option St3
  | .nm i, d, δ => some (δ.set i (some d))
  | .tp ts, .tup ds, δ => asgs ts ds δ
  | .tp _, _, _ => none
def asgs : List Tg → List D → St3 → Option St3
  | [], [], δ => some δ
  | t :: ts, d :: ds, δ => match asg t d δ with | some δ' => asgs ts ds δ' | none => none
  | _, _, _ => none
end
mutual
def Tg.slots : Tg → List Nat
  | .nm i => [i]
  | .tp ts => slotsA ts
def slotsA : List Tg → List Nat
  | [] => []
  | t :: ts => t.slots ++ slotsA ts
end
def WEq (is : List Nat) (σ σ' : L2.St) : Prop := ∀ vs : List Nat, (∀ i ∈ is, i ∈ vs) → wipe σ' vs = wipe σ vs
theorem wipe_get {σ : L2.St} {j : Nat} : ∀ vs : List Nat, (wipe σ vs)[j]? = if j ∈ vs then σ[j]?.map (fun _ => none) else σ[j]?
  | [] => by simp [wipe]
  | v :: vs => by
    unfold wipe
    rw [List.getElem?_set, wipe_length, wipe_get vs]
    by_cases h : v = j
    · subst h
      simp only [if_true, List.mem_cons, true_or]
      by_cases hl : v < σ.length
      · rw [if_pos hl, List.getElem?_eq_getElem hl]; rfl
      · rw [if_neg hl, List.getElem?_eq_none (by omega)]; rfl
    · rw [if_neg h]
      simp only [List.mem_cons, Ne.symm h, false_or]
theorem wipe_set {σ : L2.St} {i : Nat} {x : Option V} {vs : List Nat} (h : i ∈ vs) : wipe (σ.set i x) vs = wipe σ vs := by
  apply List.ext_getElem?
  intro j
  rw [wipe_get, wipe_get]
  by_cases hj : j ∈ vs
  · rw [if_pos hj, if_pos hj, List.getElem?_set]
    by_cases e : i = j
    · subst e
      rw [if_pos rfl]
      by_cases hl : i < σ.length
      · rw [if_pos hl, List.getElem?_eq_getElem hl]; rfl
      · rw [if_neg hl, List.getElem?_eq_none (by omega)]
    · rw [if_neg e]
  · have e : i ≠ j := fun e => hj (e ▸ h)
    rw [if_neg hj, if_neg hj, List.getElem?_set_ne e]
def upG (K : PySem.W.Frag) (tg : Tg) : TG := fun v σ H Q => ∃ F M δ d δ', RM K F M H ∧ Sl K F δ σ ∧ Is K F d v ∧ asg tg d δ = some δ' ∧ ∀ σ', Sl K F δ' σ' → WEq tg.slots σ σ' → Q σ' H
def upGs (K : PySem.W.Frag) (ts : List Tg) : TGs := fun vs σ H Q => ∃ F M δ ds δ', RM K F M H ∧ Sl K F δ σ ∧ IsA K F ds vs ∧ asgs ts ds δ = some δ' ∧ ∀ σ', Sl K F δ' σ' → WEq (slotsA ts) σ σ' → Q σ' H
abbrev G3 (X : Cx) (e : Expr) (tg : Tg) : Prop := PG X e (upG X.K tg)
abbrev Gs3 (X : Cx) (es : List Expr) (ts : List Tg) : Prop := PGs X es (upGs X.K ts)
theorem pg_imp {X : Cx} {e : Expr} {t t' : TG} (h : PG X e t) (k : ∀ v σ H Q, t' v σ H Q → t v σ H Q) : PG X e t' := ⟨fun pins s σ H v u Q I r q => h.run pins s σ H v u Q I r (k v σ H Q q)⟩
theorem pgs_imp {X : Cx} {es : List Expr} {t t' : TGs} (h : PGs X es t) (k : ∀ v σ H Q, t' v σ H Q → t v σ H Q) : PGs X es t' := ⟨fun pins s σ H v u Q I r q => h.run pins s σ H v u Q I r (k v σ H Q q)⟩
section
variable {X : Cx} {e : Expr} {es : List Expr} {pos : Pos}
theorem g3_nm {i : Nat} {x : Str} (hN : X.N.Nodup) (hi : X.N[i]? = some x) (hx : Loc X.env.scope x) (hf : X.fn x = true ∨ X.env.scope.names.lookup x = some .local := by first | exact .inl rfl | exact .inr rfl | assumption) : G3 X (.Name x pos) (.nm i) :=
  pg_imp (pg_name hN hi hx hf) fun v σ H Q ⟨F, M, δ, d, δ', rm, sl, iv, e, k⟩ => by
    cases e
    exact k _ (sl.set iv i) fun vs h => wipe_set (h i (by simp [Tg.slots]))
theorem gs3_nil : Gs3 X [] [] := pgs_imp pgs_nil fun vs σ H Q ⟨F, M, δ, ds, δ', rm, sl, iv, e, k⟩ => by
  cases iv with
  | nil => cases e; exact ⟨rfl, k _ sl fun _ _ => rfl⟩
  | cons r t => cases e
theorem gs3_cons {t : Tg} {ts : List Tg} (h1 : G3 X e t) (h2 : Gs3 X es ts) (hs : (assignEach (e :: es) X.env).map (·.2) = assign e X.env :: (assignEach es X.env).map (·.2) := by rfl) : Gs3 X (e :: es) (t :: ts) :=
  pgs_imp (pgs_cons h1 h2 hs) fun vs σ H Q ⟨F, M, δ, ds, δ', rm, sl, iv, e, k⟩ => by
    cases iv with
    | nil => cases e
    | cons r rr =>
      unfold asgs at e
      split at e
      · rename_i δ1 e1
        refine ⟨_, _, rfl, F, M, δ, _, δ1, rm, sl, r, e1, fun σ1 sl1 w1 => ⟨F, M, δ1, _, δ', rm, sl1, rr, e, fun σ2 sl2 w2 => k σ2 sl2 fun vs h => ?_⟩⟩
        rw [w2 vs fun i hi => h i (by simp [slotsA, hi]), w1 vs fun i hi => h i (by simp [slotsA, hi])]
      · cases e
theorem g3_tp {k n : Nat} {ts : List Tg} (hc : X.calm = true) (h : Gs3 X es ts) (hl : ts.length = n) (hn : (assignEach es X.env).length = n := by rfl) (hst : (assignEach es X.env).findIdx? (·.1) = none := by rfl) : G3 X (.Tuple es k pos) (.tp ts) :=
  pg_imp (pg_tup hc h hn hst) fun v σ H Q ⟨F, M, δ, d, δ', rm, sl, iv, e, k⟩ => by
    cases iv with
    | tup h1 h2 =>
      have e' : asgs ts _ δ = some δ' := e
      have len : ∀ (ts : List Tg) (ds : List D) (δ δ' : St3), asgs ts ds δ = some δ' → ds.length = ts.length := by
        intro ts
        induction ts with
        | nil => intro ds δ δ' e; cases ds with | nil => rfl | cons _ _ => cases e
        | cons t ts ih =>
          intro ds δ δ' e
          cases ds with
          | nil => cases e
          | cons d ds =>
            unfold asgs at e
            split at e
            · simp [ih _ _ _ e]
            · cases e
      exact ⟨_, _, rfl, sqT_mono rm.sub h1, by rw [← h2.length, len _ _ _ _ e', hl], F, M, δ, _, δ', rm, sl, h2, e', fun σ' s w => k σ' s w⟩
    | _ => cases e
/-- target = value -/
def asg3 (tg : Tg) (te : TE3) (D : Ends3) (δ : St3) (M : Mem) : Prop := te δ M fun d M1 => match asg tg d δ with | some δ' => D.nx δ' M1 | none => False
theorem s3_asg {tg e : Expr} {te : TE3} {g : Tg} {pos : Pos} (he : E3 X e te) (hg : G3 X tg g) (hs : swapsWithSole [tg] e pos.line X.env = pure false := by rfl) (hw : swappedStores [tg] e X.env = pure none := by rfl)
    (h1 : (assignEach [tg] X.env).map (·.2) = [assign tg X.env] := by rfl) : S3 X (.Assign [tg] e pos) (asg3 g te) :=
  ps_imp (ps_asg he hg hs hw h1) fun D σ H ⟨F, M, δ, E, rm, sl, q, k⟩ => ⟨F, M, δ, _, rm, sl, q, fun F1 M1 H1 d v x1 iv q1 => by
    split at q1
    · rename_i δ' e
      exact ⟨F1, M1, δ, d, δ', x1.rm, sl.mono x1.same, iv, e, fun σ' s _ => k.nx _ _ _ _ _ x1 s q1⟩
    · exact q1.elim⟩
/-- a, b = x, y with plain names -/
def par3 (i j : Nat) (ta tb : TE3) (D : Ends3) (δ : St3) (M : Mem) : Prop := ta δ M fun x M1 => tb δ M1 fun y M2 => D.nx ((δ.set i (some x)).set j (some y)) M2
theorem s3_par {i j : Nat} {x y : Str} {a b : Expr} {ta tb : TE3} {px py pt : Pos} {kt k2 pt2} (hc : X.calm = true) (hN : X.N.Nodup) (hi : X.N[i]? = some x) (hj : X.N[j]? = some y) (hij : i ≠ j)
    (hx : X.env.scope.names.lookup x = some .local) (hy : X.env.scope.names.lookup y = some .local) (ha : E3 X a ta) (hb : E3 X b tb)
    (hw : swappedStores [.Tuple [.Name x px, .Name y py] kt pt] (.Tuple [a, b] k2 pt2) X.env = pure (some [x, y]) := by rfl)
    (hs : swapsWithSole [.Tuple [.Name x px, .Name y py] kt pt] (.Tuple [a, b] k2 pt2) pos.line X.env = pure false := by rfl) (h1 : starEach [a, b] X.env = (false, eval a X.env) :: starEach [b] X.env := by rfl) (h2 : starEach [b] X.env = (false, eval b X.env) :: starEach [] X.env := by rfl) :
    S3 X (.Assign [.Tuple [.Name x px, .Name y py] kt pt] (.Tuple [a, b] k2 pt2) pos) (par3 i j ta tb) :=
  ps_imp (ps_par hc hN hi hj hij hx hy (a3_cons ha (a3_cons hb a3_nil h2) h1) hw hs) fun D σ H ⟨F, M, δ, E, rm, sl, q, k⟩ =>
    ⟨F, M, δ, fun ds M2 => match ds with | [x, y] => E.nx ((δ.set i (some x)).set j (some y)) M2 | _ => False, rm, sl, q, fun F1 M1 H1 ds vs x1 iv q1 => by
      simp only at q1
      split at q1
      · cases iv with
        | cons r1 t1 => cases t1 with
          | cons r2 t2 => cases t2; exact ⟨_, _, rfl, k.nx _ _ _ _ _ x1 (((sl.mono x1.same).set r1 i).set r2 j) q1⟩
      · exact q1.elim⟩
end

/-! ### what is walked -/
abbrev TI3 := St3 → Mem → (List D → (Mem → Prop) → Mem → Prop) → Prop
def ItOk (K : PySem.W.Frag) (F0 : Hp) (C : Mem → Prop) (J : It) (ds : List D) : Prop := ∀ F M H, Same F0 F → RM K F M H → C M → ∀ i : Nat,
  (∀ h : i < ds.length, J.go i H ∧ ∀ x H', J.yld i H x H' → ∃ F', Ext K F M H F' M H' ∧ Is K F' ds[i] x) ∧ (ds.length ≤ i → J.stop i H)
def upI (K : PySem.W.Frag) (t : TI3) : TI := fun σ H R => ∃ F M δ Q3, RM K F M H ∧ Sl K F δ σ ∧ t δ M Q3 ∧ ∀ F' M' H' J ds C, Ext K F M H F' M' H' → ItOk K F' C J ds → C M' → Q3 ds C M' → R J H'
abbrev I3 (X : Cx) (tg e : Expr) (t : TI3) : Prop := PI X tg e (upI X.K t)
theorem pi_imp {X : Cx} {tg e : Expr} {t t' : TI} (h : PI X tg e t) (k : ∀ σ H R, t' σ H R → t σ H R) : PI X tg e t' := ⟨fun pins s σ H R I q => h.run pins s σ H R I (k σ H R q)⟩
abbrev yes : Mem → Prop := fun _ => True
section
variable {K : PySem.W.Frag}
theorem itl_ok {F : Hp} {a : Addr} {vs : List V} {ds : List D} (e : F a = some (.lst vs)) (i : IsA K F ds vs) : ItOk K F yes (Itl K a) ds := by
  intro F1 M1 H1 s rm _ j
  have hq : SqL K H1 a vs := .inl (.inl (rm.sub _ _ (s _ _ e)))
  refine ⟨fun h => ?_, fun h => ⟨vs, hq, by rw [← i.length]; exact h⟩⟩
  obtain ⟨v, h1, h2⟩ := i.get (List.getElem?_eq_getElem h)
  refine ⟨⟨vs, v, hq, h1⟩, fun x H' ⟨e1, y⟩ => ?_⟩
  subst e1
  rw [y vs hq] at h1
  cases h1
  exact ⟨F1, .refl rm, h2.mono s⟩
theorem itm_ok {F : Hp} {p : Addr} {ds : List D} : ItOk K F (fun M => lview M (.ref p) = some ds) (Itl K p) ds := by
  intro F1 M1 H1 s rm c j
  obtain ⟨_, vs, h0, i⟩ := rm.ok p _ (ref_lview c)
  have hq : SqL K H1 p vs := .inl (.inl h0)
  refine ⟨fun h => ?_, fun h => ⟨vs, hq, by rw [← i.length]; exact h⟩⟩
  obtain ⟨v, h1, h2⟩ := i.get (List.getElem?_eq_getElem h)
  refine ⟨⟨vs, v, hq, h1⟩, fun x H' ⟨e1, y⟩ => ?_⟩
  subst e1
  rw [y vs hq] at h1
  cases h1
  exact ⟨F1, .refl rm, h2⟩
theorem itt_ok {F : Hp} {a : Addr} {vs : List V} {ds : List D} (e : SqT K F a vs) (i : IsA K F ds vs) : ItOk K F yes (Itt K a) ds := by
  intro F1 M1 H1 s rm _ j
  have hq : SqT K H1 a vs := sqT_mono rm.sub (sqT_mono s e)
  refine ⟨fun h => ?_, fun h => ⟨vs, hq, by rw [← i.length]; exact h⟩⟩
  obtain ⟨v, h1, h2⟩ := i.get (List.getElem?_eq_getElem h)
  refine ⟨⟨vs, v, hq, h1⟩, fun x H' ⟨e1, y⟩ => ?_⟩
  subst e1
  rw [y vs hq] at h1
  cases h1
  exact ⟨F1, .refl rm, h2.mono s⟩
def signs (z : Str) : List D := z.cps.toList.map fun c => .str ⟨#[c]⟩
theorem its_ok {F : Hp} {z : Str} : ItOk K F yes (Its z) (signs z) := by
  intro F1 M1 H1 s rm _ j
  refine ⟨fun h => ?_, fun h => by show z.cps.size ≤ j; simpa [signs] using h⟩
  have h' : j < z.cps.size := by simpa [signs] using h
  refine ⟨h', fun x H' ⟨e1, c, y, ex⟩ => ?_⟩
  subst e1 ex
  refine ⟨F1, .refl rm, ?_⟩
  have e2 : z.cps[j] = c := by rw [Array.getElem?_eq_getElem h'] at y; exact Option.some.inj y
  have e3 : (signs z)[j] = .str ⟨#[c]⟩ := by simp [signs, e2]
  rw [e3]
  exact .str _
theorem itr_ok {F : Hp} {lo : Int} {n : Nat} : ItOk K F yes (Itr lo n) ((List.range n).map fun (i : Nat) => D.int (lo + i)) := by
  intro F1 M1 H1 s rm _ j
  refine ⟨fun h => ?_, fun h => by show n ≤ j; simpa using h⟩
  have h' : j < n := by simpa using h
  refine ⟨h', fun x H' ⟨e1, e2⟩ => ?_⟩
  subst e1 e2
  refine ⟨F1, .refl rm, ?_⟩
  simp only [List.getElem_map, List.getElem_range]
  exact .int _
end
section
variable {X : Cx} {tg e : Expr} {te : TE3} {ta : TA3} {p pos : Pos}
/-- a list, a tuple, a text -/
theorem pi_any {l : Expr} {tl : TE} (hl : PE X l tl) : PI X tg l (fun σ H R => tl σ H fun x H1 => (∃ a, x = .ref a ∧ (∃ xs, SqL X.K H1 a xs) ∧ R (Itl X.K a) H1) ∨ (∃ a, x = .ref a ∧ (∃ xs, SqT X.K H1 a xs) ∧ R (Itt X.K a) H1) ∨ ∃ z, x = .str z ∧ R (Its z) H1) := by
  refine ⟨fun pins s σ H R I h => ?_⟩
  refine thn (hl.run pins s σ H _ I h) fun v s1 ⟨x, H1, I1, r1, q1⟩ => ?_
  rcases q1 with ⟨a, ex, ⟨xs, hq⟩, q⟩ | ⟨a, ex, ⟨xs, hq⟩, q⟩ | ⟨z, ex, q⟩
  · subst ex
    cases r1
    obtain ⟨its, rv, p, hz⟩ := I1.list hq
    refine wpAny_pyIter_list p.isList ?_
    refine ⟨s1.heap.objs.size, [s1.heap.objs.size], _, _, H1, rfl, I1.kept (t' := s1.toks) fun b o e => Heap.get?_push_of_some _ e, turn_list a _, ⟨_, Heap.get?_push_size _ rfl, rfl, rfl⟩, fun b hb => ?_, q⟩
    have e : b = s1.heap.objs.size := by simpa using hb
    subst e
    exact I1.fpOk (Nat.le_refl _) (I1.hok.fresh (Nat.le_refl _))
  · subst ex
    cases r1
    obtain ⟨its, rv, p, hz⟩ := I1.tuple hq
    refine wpAny_pyIter_tuple (show s1.heap.IsTuple a its.toArray from p) ?_
    refine ⟨s1.heap.objs.size, [s1.heap.objs.size], _, _, H1, rfl, I1.kept (t' := s1.toks) fun b o e => Heap.get?_push_of_some _ e, turn_tuple a _, ⟨_, Heap.get?_push_size _ rfl, rfl, rfl⟩, fun b hb => ?_, q⟩
    have e : b = s1.heap.objs.size := by simpa using hb
    subst e
    exact I1.fpOk (Nat.le_refl _) (I1.hok.fresh (Nat.le_refl _))
  · subst ex
    obtain ⟨t, rfl⟩ := r1
    cases ha : z.cps.all (· < 128)
    · exact wpAny_pyIter_wide ha (pi_one (tk := s1.toks) I1 _ (turn_str _ z t "str_iterator" (.inr rfl)) ⟨_, Heap.get?_push_size _ rfl, rfl, rfl⟩ q)
    · exact wpAny_pyIter_ascii ha (pi_one (tk := s1.toks) I1 _ (turn_str _ z t "str_ascii_iterator" (.inl rfl)) ⟨_, Heap.get?_push_size _ rfl, rfl, rfl⟩ q)
def srcD (d : D) (M : Mem) (Q : List D → (Mem → Prop) → Mem → Prop) : Prop := match lview M d with
  | some ds => Q ds (fun M' => lview M' d = some ds) M
  | none => (match d with
    | .tup ds => Q ds yes M
    | .str z => Q (signs z) yes M
    | _ => False)
def src3 (te : TE3) (δ : St3) (M : Mem) (Q : List D → (Mem → Prop) → Mem → Prop) : Prop := te δ M fun d M1 => srcD d M1 Q
theorem i3_src (he : E3 X e te) : I3 X tg e (src3 te) :=
  pi_imp (pi_any he) fun σ H R ⟨F, M, δ, Q3, rm, sl, q, k⟩ => ⟨F, M, δ, _, rm, sl, q, fun F1 M1 H1 d v x1 iv q1 => by
    unfold srcD at q1
    split at q1
    · rename_i ds e
      cases iv with
      | lst h1 h2 =>
        cases e
        exact .inl ⟨_, rfl, ⟨_, .inl (.inl (x1.rm.sub _ _ h1))⟩, k _ _ _ _ _ (fun M' => lview M' (.lst _) = some _) x1 (fun F1 M1 H1 s rm _ => itl_ok h1 h2 F1 M1 H1 s rm trivial) rfl q1⟩
      | ref a =>
        obtain ⟨_, vs, h1, h2⟩ := x1.rm.ok _ _ (ref_lview e)
        exact .inl ⟨_, rfl, ⟨_, .inl (.inl h1)⟩, k _ _ _ _ _ _ x1 itm_ok e q1⟩
      | _ => cases e
    · split at q1
      · cases iv with
        | tup h1 h2 => exact .inr (.inl ⟨_, rfl, ⟨_, sqT_mono x1.rm.sub h1⟩, k _ _ _ _ _ _ x1 (itt_ok h1 h2) trivial q1⟩)
      · cases iv
        exact .inr (.inr ⟨_, rfl, k _ _ _ _ _ _ x1 its_ok trivial q1⟩)
      · exact q1.elim⟩
def rng1 (ta : TA3) (δ : St3) (M : Mem) (Q : List D → (Mem → Prop) → Mem → Prop) : Prop := ta δ M fun ds M1 => match ds with
  | [.int n] => -(2 ^ 62) ≤ n ∧ n < 2 ^ 62 ∧ Q ((List.range n.toNat).map fun (i : Nat) => D.int (0 + i)) yes M1
  | _ => False
theorem i3_rng1 {a : Expr} (hg : Gl X "range") (hm : X.mg "range" = none) (ha : A3 X [a] ta) (hs : starEach [a] X.env = [(false, eval a X.env)] := by rfl) : I3 X tg (.Call (.Name "range" p) [a] [] pos) (rng1 ta) :=
  pi_imp (pi_range1 hg hm ha hs) fun σ H R ⟨F, M, δ, Q3, rm, sl, q, k⟩ => ⟨F, M, δ, _, rm, sl, q, fun F1 M1 H1 ds vs x1 iv q1 => by
    split at q1
    · cases iv with
      | cons r t => cases t; cases r; exact ⟨_, rfl, q1.1, q1.2.1, k _ _ _ _ _ _ x1 itr_ok trivial q1.2.2⟩
    · exact q1.elim⟩
def rng2 (ta : TA3) (δ : St3) (M : Mem) (Q : List D → (Mem → Prop) → Mem → Prop) : Prop := ta δ M fun ds M1 => match ds with
  | [.int m, .int n] => (-(2 ^ 62) ≤ m ∧ m < 2 ^ 62 ∧ -(2 ^ 62) ≤ n ∧ n < 2 ^ 62) ∧ Q ((List.range (n - m).toNat).map fun (i : Nat) => D.int (m + i)) yes M1
  | _ => False
theorem i3_rng2 {a b : Expr} (hg : Gl X "range") (hm : X.mg "range" = none) (ha : A3 X [a, b] ta) (hs : starEach [a, b] X.env = [(false, eval a X.env), (false, eval b X.env)] := by rfl) (hs2 : starEach [b] X.env = [(false, eval b X.env)] := by rfl) : I3 X tg (.Call (.Name "range" p) [a, b] [] pos) (rng2 ta) :=
  pi_imp (pi_range2 hg hm ha hs hs2) fun σ H R ⟨F, M, δ, Q3, rm, sl, q, k⟩ => ⟨F, M, δ, _, rm, sl, q, fun F1 M1 H1 ds vs x1 iv q1 => by
    split at q1
    · cases iv with
      | cons r t => cases t with
        | cons r' t => cases t; cases r; cases r'; exact ⟨_, _, rfl, q1.1, k _ _ _ _ _ _ x1 itr_ok trivial q1.2⟩
    · exact q1.elim⟩
/-- enumerate of a list -/
def enumD (ds : List D) : List D := ds.zipIdx.map fun p => .tup [.int (p.2 : Nat), p.1]
theorem ite_ok {K : PySem.W.Frag} {F : Hp} {a : Addr} {ds : List D} {C : Mem → Prop} (hC : ∀ F1 M1 H1, Same F F1 → RM K F1 M1 H1 → C M1 → ∃ vs, H1 a = some (.lst vs) ∧ IsA K F1 ds vs) : ItOk K F C (Ite K a) (enumD ds) := by
  intro F1 M1 H1 s rm c j
  obtain ⟨vs, h1, i⟩ := hC F1 M1 H1 s rm c
  have hq : SqL K H1 a vs := .inl (.inl h1)
  have hl : (enumD ds).length = ds.length := by simp [enumD]
  refine ⟨fun h => ?_, fun h => ⟨vs, hq, by rw [← i.length, ← hl]; exact h⟩⟩
  have h' : j < ds.length := by omega
  obtain ⟨v, h2, h3⟩ := i.get (List.getElem?_eq_getElem h')
  refine ⟨⟨vs, v, hq, h2⟩, fun x H' ⟨T, y, ex, n, eH, f⟩ => ?_⟩
  subst ex eH
  have ey := f vs hq
  rw [h2] at ey
  cases ey
  have x1 := Ext.newF rm n (.tup [.int (j : Nat), v])
  refine ⟨_, x1, ?_⟩
  have e3 : (enumD ds)[j] = .tup [.int (j : Nat), ds[j]] := by simp [enumD]
  rw [e3]
  exact .tup (.inl (.inl upd_same)) (.cons (.int _) (.cons (h3.mono x1.same) .nil))
def enum3 (ta : TA3) (δ : St3) (M : Mem) (Q : List D → (Mem → Prop) → Mem → Prop) : Prop := ta δ M fun ds M1 => match ds with
  | [d] => (match lview M1 d with | some xs => Q (enumD xs) (fun M' => lview M' d = some xs) M1 | none => False)
  | _ => False
theorem i3_enum {elts : List Expr} {kk : Nat} {tpos : Pos} (hg : Gl X "enumerate") (hm : X.mg "enumerate" = none) (ha : A3 X [e] ta) (hs : starEach [e] X.env = [(false, eval e X.env)] := by rfl) : I3 X (.Tuple elts kk tpos) (.Call (.Name "enumerate" p) [e] [] pos) (enum3 ta) :=
  pi_imp (pi_enum hg hm ha hs) fun σ H R ⟨F, M, δ, Q3, rm, sl, q, k⟩ => ⟨F, M, δ, _, rm, sl, q, fun F1 M1 H1 ds vs x1 iv q1 => by
    split at q1
    · split at q1
      · rename_i xs e
        cases iv with
        | cons r t =>
          cases t
          obtain ⟨a, vs, rfl, h1, h2⟩ := lview_is x1.rm r e
          refine ⟨_, _, rfl, .inl (.inl h1), k _ _ _ _ _ _ x1 (ite_ok fun F2 M2 H2 s rm2 c => ?_) e q1⟩
          obtain ⟨b, us, eb, h3, h4⟩ := lview_is rm2 (r.mono s) c
          cases eb
          exact ⟨us, h3, h4⟩
      · exact q1.elim
    · exact q1.elim⟩
end

/-! ### for -/
section
variable {X : Cx} {tg iter : Expr} {body : List Stmt} {ts : TI3} {g : Tg} {tb : TS3} {pos : Pos}
def for3 (ts : TI3) (g : Tg) (tb : TS3) (D : Ends3) (δ : St3) (M : Mem) : Prop := ts δ M fun ds C M1 => ∃ Pv : Nat → St3 → Mem → Prop, Pv 0 δ M1 ∧ (∀ i δ M, Pv i δ M → C M) ∧
  (∀ (i : Nat) (h : i < ds.length) δ M, Pv i δ M → match asg g ds[i] δ with | some δ' => tb { D with nx := Pv (i + 1), ct := Pv (i + 1), bk := D.nx } δ' M | none => False) ∧ ∀ δ M, Pv ds.length δ M → D.nx δ M
theorem s3_for (hp : PassesOwn (model X.prog X.w) X.A X.env X.xe) (hc : X.calm = true) (hi : I3 X tg iter ts) (hg : G3 X tg g) (hb : B3 X body tb) (hs : ∀ x, foldedSetIterable iter X.env x = pure x := by intro _; rfl) : S3 X (.For tg iter body [] pos) (for3 ts g tb) :=
  ps_imp (ps_for hp hc hi hg hb hs) fun D σ H ⟨F, M, δ, E, rm, sl, q, k⟩ => by
    refine ⟨F, M, δ, _, rm, sl, q, fun F1 M1 H1 J ds C x1 ok c1 ⟨Pv, h0, hC, hs, hd⟩ => ?_⟩
    refine ⟨fun i m σ' H' => ∃ F' M' δ', Ext X.K F M H F' M' H' ∧ Same F1 F' ∧ Sl X.K F' δ' σ' ∧ Pv i δ' M' ∧ i ≤ ds.length ∧ m = ds.length - i, ⟨_, F1, M1, δ, x1, Same.refl _, sl.mono x1.same, h0, Nat.zero_le _, rfl⟩, ?_⟩
    rintro i m σ2 H2 ⟨F2, M2, δ2, x2, s2, sl2, p2, hi2, rfl⟩
    obtain ⟨o1, o2⟩ := ok F2 M2 H2 s2 x2.rm (hC _ _ _ p2) i
    by_cases hlt : i < ds.length
    · obtain ⟨go, yl⟩ := o1 hlt
      refine .inr ⟨go, fun σ' H' => ∃ F' M' δ', Ext X.K F M H F' M' H' ∧ Same F1 F' ∧ Sl X.K F' δ' σ' ∧ Pv (i + 1) δ' M', fun σ' H' ⟨F', M', δ', x, s, sl', p'⟩ => ⟨ds.length - (i + 1), by omega, F', M', δ', x, s, sl', p', hlt, rfl⟩, fun x H' y => ?_⟩
      obtain ⟨F3, x3, is3⟩ := yl x H' y
      have q3 := hs i hlt δ2 M2 p2
      split at q3
      · rename_i δ3 e3
        refine ⟨F3, M2, δ2, _, δ3, x3.rm, sl2.mono x3.same, is3, e3, fun σ' sl' _ => ?_⟩
        refine ⟨F3, M2, δ3, _, x3.rm, sl', q3, ?_, (k.rt.ext x2).ext x3, (k.nx.ext x2).ext x3, ?_⟩
        · exact fun F4 M4 H4 δ4 σ4 x4 sl4 q4 => ⟨F4, M4, δ4, x2.trans (x3.trans x4), s2.trans (x3.same.trans x4.same), sl4, q4⟩
        · exact fun F4 M4 H4 δ4 σ4 x4 sl4 q4 => ⟨F4, M4, δ4, x2.trans (x3.trans x4), s2.trans (x3.same.trans x4.same), sl4, q4⟩
      · exact q3.elim
    · have e : i = ds.length := by omega
      subst e
      exact .inl ⟨o2 (Nat.le_refl _), k.nx _ _ _ _ _ x2 sl2 (hd _ _ p2)⟩
end

/-! ### comprehensions -/
section
variable {X : Cx}
abbrev Ts3 (X : Cx) (ifs : List Expr) (t : TT3) : Prop := PTs X ifs (upT X.K t)
def yes3 (_ : St3) (M : Mem) (Q : Bool → Mem → Prop) : Prop := Q true M
theorem ts3_nil : Ts3 X [] yes3 := ⟨fun pins s σ H Q I h => pts_nil.run pins s σ H Q I (by obtain ⟨F, M, δ, Q3, rm, sl, q, k⟩ := h; exact k _ _ _ _ (.refl rm) q)⟩
theorem ts3_one {c : Expr} {t : TT3} (h : T3 X c t) : Ts3 X [c] t := pts_one h
def lc3 (ts : TI3) (g : Tg) (tt : TT3) (te : TE3) (vs : List Nat) (δ : St3) (M : Mem) (Q : VK3) : Prop := ts δ M fun ds C M1 => ∃ Pv : Nat → List D → Mem → Prop, Pv 0 [] M1 ∧ (∀ i acc M, Pv i acc M → C M) ∧
  (∀ (i : Nat) (h : i < ds.length) acc M, Pv i acc M → match asg g ds[i] (wipe3 δ vs) with
    | some δ' => tt δ' M fun b M2 => if b = true then te δ' M2 fun y M3 => acc.length < sizeLine ∧ Pv (i + 1) (acc ++ [y]) M3 else Pv (i + 1) acc M2
    | none => False) ∧ ∀ acc M, Pv ds.length acc M → newL acc M Q
theorem lc_lift {K : PySem.W.Frag} {ts : TI3} {g : Tg} {tt : TT3} {te : TE3} {vs : List Nat} (hv : ∀ i ∈ g.slots, i ∈ vs) {σ : L2.St} {H : Hp} {Q : VK} (h : up K (lc3 ts g tt te vs) σ H Q) : tLc (upI K ts) (upG K g) (upT K tt) (up K te) vs σ H Q := by
  obtain ⟨F, M, δ, Q3, rm, sl, q, k⟩ := h
  refine ⟨F, M, δ, _, rm, sl, q, fun F1 M1 H1 J ds C x1 ok c1 ⟨Pv, h0, hC, hs, hd⟩ D nD => ?_⟩
  have f1 := x1.rm.fresh nD
  have y1 := Ext.new0 x1.rm nD (.lst [])
  refine ⟨fun i m H' => ∃ F' M' acc av, Ext K F1 M1 H1 F' M' H' ∧ H' D = some (.lst av) ∧ M' D = none ∧ F' D = none ∧ IsA K F' acc av ∧ Pv i acc M' ∧ i ≤ ds.length ∧ m = ds.length - i,
    ⟨_, F1, M1, [], [], y1, upd_same, f1.1, f1.2, .nil, h0, Nat.zero_le _, rfl⟩, ?_⟩
  rintro i m H2 ⟨F2, M2, acc, av, x2, eD, mD, fD, ia, p2, hi2, rfl⟩
  obtain ⟨o1, o2⟩ := ok F2 M2 H2 x2.same x2.rm (hC _ _ _ p2) i
  by_cases hlt : i < ds.length
  · obtain ⟨go, yl⟩ := o1 hlt
    refine .inr ⟨go, fun H' => ∃ F' M' acc av, Ext K F1 M1 H1 F' M' H' ∧ H' D = some (.lst av) ∧ M' D = none ∧ F' D = none ∧ IsA K F' acc av ∧ Pv (i + 1) acc M', fun H' ⟨F', M', acc, av, a, b, c, d, e, f⟩ => ⟨ds.length - (i + 1), by omega, F', M', acc, av, a, b, c, d, e, f, hlt, rfl⟩, fun x H' y => ?_⟩
    obtain ⟨F3, x3, is3⟩ := yl x H' y
    have q3 := hs i hlt acc M2 p2
    have keep : ∀ {F4 : Hp} {M4 : Mem} {H4 : Hp}, Ext K F2 M2 H2 F4 M4 H4 → H4 D = some (.lst av) ∧ M4 D = none ∧ F4 D = none := fun x4 => let ⟨a, b, c⟩ := x4.frm D _ eD mD; ⟨b, a, c fD⟩
    split at q3
    · rename_i δ3 e3
      have slw : Sl K F3 (wipe3 δ vs) (wipe σ vs) := ((sl.mono x1.same).mono (x2.same.trans x3.same)).wipe vs
      refine ⟨F3, M2, wipe3 δ vs, _, δ3, x3.rm, slw, is3, e3, fun σ' sl' w => ⟨?_, ?_⟩⟩
      · rw [w vs hv]
        apply List.ext_getElem?
        intro j
        rw [wipe_get, wipe_get]
        by_cases hj : j ∈ vs
        · rw [if_pos hj, if_pos hj]
          cases σ[j]? <;> rfl
        · rw [if_neg hj]
      · refine ⟨F3, M2, δ3, _, x3.rm, sl', q3, fun F4 M4 H4 b x4 q4 => ?_⟩
        cases b with
        | false =>
          rw [if_neg Bool.false_ne_true] at q4 ⊢
          have x5 := x3.trans x4
          obtain ⟨a, b, c⟩ := keep x5
          exact ⟨F4, M4, acc, av, x2.trans x5, a, b, c, ia.mono x5.same, q4⟩
        | true =>
          rw [if_pos rfl] at q4 ⊢
          refine ⟨F4, M4, δ3, _, x4.rm, sl'.mono x4.same, q4, fun F5 M5 H5 d v x5 iv q5 => ?_⟩
          have x6 := x3.trans (x4.trans x5)
          obtain ⟨a, b, c⟩ := keep x6
          refine ⟨av, a, by rw [← ia.length]; exact q5.1, F5, M5, acc ++ [d], av ++ [v], ?_, upd_same, b, c, (ia.mono x6.same).append (.cons iv .nil), q5.2⟩
          have x7 := x2.trans x6
          refine ⟨x7.same, fun b' u h1 h2 => ?_, fun b' o e => ?_, fun b' o e => ?_⟩
          · have hb : b' ≠ D := ne_of_none h1 nD
            rw [upd_ne hb]
            exact x7.frm b' u h1 h2
          · have hb : b' ≠ D := ne_of_none e c
            rw [upd_ne hb]
            exact x7.rm.sub _ _ e
          · have hb : b' ≠ D := mne e b
            obtain ⟨h3, h4⟩ := x7.rm.ok b' o e
            exact ⟨h3, h4.mono (Same.refl _) (upd_ne hb)⟩
    · exact q3.elim
  · have e : i = ds.length := by omega
    subst e
    refine .inl ⟨o2 (Nat.le_refl _), ?_⟩
    have q4 := hd acc M2 p2
    have x4 := x1.trans x2
    rcases q4 with q4 | q4
    · -- it stays as it is
      have sF : Same F2 (upd F2 D (.lst av)) := fun b o e => by rw [upd_ne (ne_of_none e fD)]; exact e
      refine k _ M2 _ _ _ ⟨x4.same.trans sF, fun b u h1 h2 => ?_, fun b o e => ?_, fun b o e => ?_⟩ (.lst upd_same (ia.mono sF)) q4
      · obtain ⟨m1, m2, m3⟩ := x1.frm b u h1 h2
        have hb : b ≠ D := ne_of_none m2 nD
        obtain ⟨n1, n2, n3⟩ := x4.frm b u h1 h2
        exact ⟨n1, n2, fun z => by rw [upd_ne hb]; exact n3 z⟩
      · by_cases hb : b = D
        · subst hb; rw [upd_same] at e; cases e; exact eD
        · rw [upd_ne hb] at e; exact x4.rm.sub _ _ e
      · have hb : b ≠ D := mne e mD
        obtain ⟨h3, h4⟩ := x4.rm.ok b o e
        exact ⟨by rw [upd_ne hb]; exact h3, h4.mono sF rfl⟩
    · refine k F2 (put M2 D (.lst acc)) _ _ _ ⟨x4.same, fun b u h1 h2 => ?_, x4.rm.sub, fun b o e => ?_⟩ (.ref D) (q4 D mD)
      · obtain ⟨m1, m2, m3⟩ := x1.frm b u h1 h2
        have hb : b ≠ D := ne_of_none m2 nD
        obtain ⟨n1, n2, n3⟩ := x4.frm b u h1 h2
        exact ⟨by rw [put_ne hb]; exact n1, n2, n3⟩
      · by_cases hb : b = D
        · subst hb; rw [put_same] at e; cases e; exact ⟨fD, av, eD, ia⟩
        · rw [put_ne hb] at e; exact x4.rm.ok b o e
theorem e3_lc {elt tg iter : Expr} {ifs : List Expr} {scope : Scope} {own : List (Str × Nat)} {pos : Pos} {ts : TI3} {g : Tg} {tt : TT3} {te : TE3} (hc : X.calm = true) (hN : X.N.Nodup) (hi : I3 X tg iter ts) (ok : BlkOk X.N X.env.scope scope own)
    (hg : ∀ (s : Shared) (H : Hp) (C : Addr) (cl : List (Str × Addr)) (fp : List Addr), G3 (X.blk s H scope (compEnvC scope cl C X.env) fp) tg g) (ht : ∀ (s : Shared) (H : Hp) (C : Addr) (cl : List (Str × Addr)) (fp : List Addr), Ts3 (X.blk s H scope (compEnvC scope cl C X.env) fp) ifs tt)
    (he : ∀ (s : Shared) (H : Hp) (C : Addr) (cl : List (Str × Addr)) (fp : List Addr), E3 (X.blk s H scope (compEnvC scope cl C X.env) fp) elt te) (hv : ∀ i ∈ g.slots, i ∈ own.map (·.2) := by decide) (hs : ∀ x, foldedSetIterable iter X.env x = pure x := by intro _; rfl) :
    E3 X (.ListComp elt [⟨tg, iter, ifs, 0⟩] scope pos) (lc3 ts g tt te (own.map (·.2))) :=
  pe_imp (pe_lc hc hN hi ok hg ht he hs) fun σ H Q h => lc_lift hv h
theorem s3_setLc {i : Nat} {y : Str} {py : Pos} {elt tg iter : Expr} {ifs : List Expr} {scope : Scope} {own : List (Str × Nat)} {pos spos : Pos} {ts : TI3} {g : Tg} {tt : TT3} {te : TE3} (hc : X.calm = true) (hN : X.N.Nodup) (hy : X.N[i]? = some y) (hyl : X.env.scope.names.lookup y = some .local)
    (hsw : swapsWith (.ListComp elt [⟨tg, iter, ifs, 0⟩] scope pos) (some (.Name y py)) spos.line X.env = pure true) (hi : I3 X tg iter ts) (ok : BlkOk X.N X.env.scope scope own)
    (hg : ∀ (s : Shared) (H : Hp) (C : Addr) (cl : List (Str × Addr)) (fp : List Addr), G3 (X.blk s H scope (compEnvC scope cl C X.env) fp) tg g) (ht : ∀ (s : Shared) (H : Hp) (C : Addr) (cl : List (Str × Addr)) (fp : List Addr), Ts3 (X.blk s H scope (compEnvC scope cl C X.env) fp) ifs tt)
    (he : ∀ (s : Shared) (H : Hp) (C : Addr) (cl : List (Str × Addr)) (fp : List Addr), E3 (X.blk s H scope (compEnvC scope cl C X.env) fp) elt te) (hv : ∀ i ∈ g.slots, i ∈ own.map (·.2) := by decide) (hs : ∀ x, foldedSetIterable iter X.env x = pure x := by intro _; rfl) :
    S3 X (.Assign [.Name y py] (.ListComp elt [⟨tg, iter, ifs, 0⟩] scope pos) spos) (set3 i (lc3 ts g tt te (own.map (·.2)))) :=
  ps_imp (ps_setLc hc hN hy hyl hsw hi ok hg ht he hs) fun D σ H ⟨F, M, δ, E, rm, sl, q, k⟩ => by
    show tLc _ _ _ _ _ σ H _
    exact lc_lift hv ⟨F, M, δ, _, rm, sl, q, fun F1 M1 H1 d v x1 iv q1 => k.nx _ _ _ _ _ x1 ((sl.mono x1.same).set iv i) q1⟩
end
end L3

namespace L3
open PySem PySem.Spec PyProof.Rows L2

section
variable {K : PySem.W.Frag} {F H : Hp} {M : Mem}
theorem IsA.atI {ds : List D} {vs : List V} {i : Int} {d : D} (h : IsA K F ds vs) (e : atI ds i = some d) : ∃ v, L2.atI vs i = some v ∧ Is K F d v := by
  unfold L2.atI at e ⊢
  rw [← h.length]
  cases q : ixN ds.length i with
  | none => rw [q] at e; cases e
  | some j => rw [q] at e; exact h.get e
theorem atI_nn {α : Type} {xs : List α} {i : Int} (h : 0 ≤ i) : atI xs i = xs[i.toNat]? := by
  unfold atI ixN
  rw [if_pos h]
  by_cases hl : i < xs.length
  · rw [if_pos hl]; rfl
  · rw [if_neg hl, List.getElem?_eq_none (by omega)]; rfl
def cutD {α : Type} (xs : List α) (lo hi : Option Int) : List α := (xs.drop (HT.sIx xs.length 0 lo)).take (HT.sIx xs.length xs.length hi - HT.sIx xs.length 0 lo)
theorem IsA.cut {ds : List D} {vs : List V} (h : IsA K F ds vs) (lo hi : Option Int) : IsA K F (cutD ds lo hi) (cutV vs lo hi) := by
  unfold cutD cutV
  rw [h.length]
  exact (h.drop _).take _
theorem cutD_whole {α : Type} {xs : List α} {lo hi : Option Int} (h : HT.sIx xs.length 0 lo = 0 ∧ HT.sIx xs.length xs.length hi = xs.length) : cutD xs lo hi = xs := by
  unfold cutD
  rw [h.1, h.2]
  simp
theorem cutD_length {α : Type} (xs : List α) (lo hi : Option Int) : (cutD xs lo hi).length ≤ xs.length := by
  unfold cutD
  rw [List.length_take, List.length_drop]
  omega
theorem cutD_from {α : Type} (xs : List α) (k : Nat) : cutD xs (some (k : Int)) none = xs.drop k := by
  unfold cutD
  rw [HT.sIx_nat, HT.sIx_none]
  by_cases h : k ≤ xs.length
  · rw [Nat.min_eq_left h, List.take_of_length_le (by simp)]
  · rw [Nat.min_eq_right (by omega), List.drop_length, List.drop_of_length_le (by omega)]; simp
theorem cutD_to {α : Type} (xs : List α) (k : Nat) : cutD xs none (some (k : Int)) = xs.take k := by
  unfold cutD
  rw [HT.sIx_nat, HT.sIx_none, List.drop_zero, Nat.sub_zero]
  by_cases h : k ≤ xs.length
  · rw [Nat.min_eq_left h]
  · rw [Nat.min_eq_right (by omega), List.take_length, List.take_of_length_le (by omega)]
theorem cutD_both {α : Type} (xs : List α) (j k : Nat) : cutD xs (some (j : Int)) (some (k : Int)) = (xs.take k).drop j := by
  unfold cutD
  rw [HT.sIx_nat, HT.sIx_nat]
  rw [List.drop_take]
  by_cases h : j ≤ xs.length
  · have e1 : min j xs.length = j := Nat.min_eq_left h
    rw [e1]
    by_cases h2 : k ≤ xs.length
    · have e2 : min k xs.length = k := Nat.min_eq_left h2
      rw [e2]
    · have e2 : min k xs.length = xs.length := Nat.min_eq_right (by omega)
      rw [e2, List.take_of_length_le (by rw [List.length_drop]; omega), List.take_of_length_le (by rw [List.length_drop]; omega)]
  · have e1 : min j xs.length = xs.length := Nat.min_eq_right (by omega)
    rw [e1, List.drop_length, List.drop_of_length_le (by omega : xs.length ≤ j)]
    simp
end

/-! ### subscripts -/
section
variable {X : Cx} {a b e : Expr} {ta tb te : TE3} {pos : Pos}
def r3Ix (x y : D) (M : Mem) (Q : VK3) : Prop := match y with
  | .int i => (match lview M x with
    | some ds => (match atI ds i with | some d => Q d M | none => False)
    | none => (match x with
      | .tup ds => (match atI ds i with | some d => Q d M | none => False)
      | .str z => z.length ≤ sizeLine ∧ (match atI z.cps.toList i with | some c => Q (.str ⟨#[c]⟩) M | none => False)
      | .scr ns => (match ns[i.toNat]? with | some c => 0 ≤ i ∧ Q (.int c) M | none => False)
      | _ => False))
  | _ => False
theorem ixL {K : PySem.W.Frag} : OpL K (rIx K) r3Ix := fun F M H dx dy x y Q3 Q rm ix iy q k => by
  unfold r3Ix at q
  split at q
  · cases iy
    split at q
    · rename_i ds e0
      split at q
      · rename_i d e
        obtain ⟨a, vs, rfl, h4, a1⟩ := lview_is rm ix e0
        obtain ⟨v, e1, i1⟩ := a1.atI e
        exact .inl ⟨_, _, _, v, rfl, rfl, .inl (.inl h4), e1, k _ _ _ _ _ (.refl rm) i1 q⟩
      · exact q.elim
    · split at q
      · split at q
        · rename_i d e
          cases ix with
          | tup h1 h2 =>
            obtain ⟨v, e1, i1⟩ := h2.atI e
            exact .inr (.inl ⟨_, _, _, v, rfl, rfl, sqT_mono rm.sub h1, e1, k _ _ _ _ _ (.refl rm) i1 q⟩)
        · exact q.elim
      · obtain ⟨hz, q⟩ := q
        split at q
        · rename_i c e
          cases ix
          exact .inr (.inr ⟨_, _, c, rfl, rfl, hz, e, k _ _ _ _ _ (.refl rm) (.str _) q⟩)
        · exact q.elim
      · split at q
        · rename_i c e
          cases ix with
          | scr h => exact .inl ⟨_, _, _, .int c, rfl, rfl, sqL_mono rm.sub h, by rw [atI_nn q.1, List.getElem?_map, e]; rfl, k _ _ _ _ _ (.refl rm) (.int c) q.2⟩
        · exact q.elim
      · exact q.elim
  · exact q.elim
theorem e3_ix (ha : E3 X a ta) (hb : E3 X b tb) (hs : PlainIx b := by exact fun _ _ => rfl) : E3 X (.Subscript a b pos) (op3 r3Ix ta tb) :=
  pe_imp (pe_ix ix_seq ha hb hs) fun _ _ _ h => lift2 ixL h
/-- the script: a list of ints, known -/
abbrev TO3 := St3 → Mem → (Option Int → Mem → Prop) → Prop
def upO (K : PySem.W.Frag) (t : TO3) : TO := fun σ H Q => ∃ F M δ Q3, RM K F M H ∧ Sl K F δ σ ∧ t δ M Q3 ∧ ∀ F' M' H' o, Ext K F M H F' M' H' → Q3 o M' → Q o H'
abbrev O3 (X : Cx) (e : Option Expr) (t : TO3) : Prop := PO X e (upO X.K t)
theorem po_imp {e : Option Expr} {t t' : TO} (h : PO X e t) (k : ∀ σ H Q, t' σ H Q → t σ H Q) : PO X e t' := ⟨fun pins s σ H Q I q => h.run pins s σ H Q I (k σ H Q q)⟩
def no_o3 (_ : St3) (M : Mem) (Q : Option Int → Mem → Prop) : Prop := Q none M
def some_o3 (t : TE3) (δ : St3) (M : Mem) (Q : Option Int → Mem → Prop) : Prop := t δ M fun d M1 => match d with | .int i => Q (some i) M1 | _ => False
theorem o3_none : O3 X none no_o3 := po_imp po_none fun σ H Q ⟨F, M, δ, Q3, rm, sl, q, k⟩ => k _ _ _ _ (.refl rm) q
theorem o3_some (h : E3 X e te) : O3 X (some e) (some_o3 te) := po_imp (po_some h) fun σ H Q ⟨F, M, δ, Q3, rm, sl, q, k⟩ => ⟨F, M, δ, _, rm, sl, q, fun F1 M1 H1 d v x1 iv q1 => by
  split at q1
  · cases iv; exact ⟨_, rfl, k _ _ _ _ x1 q1⟩
  · exact q1.elim⟩
def slD (lo hi : Option Int) (x : D) (M : Mem) (Q : VK3) : Prop := match lview M x with
  | some ds => newL (cutD ds lo hi) M Q
  | none => (match x with
    | .tup ds => Q (.tup (cutD ds lo hi)) M
    | .str z => z.length ≤ sizeLine ∧ Q (.str (cutS z lo hi)) M
    | _ => False)
def sl3 (te : TE3) (tl th : TO3) (δ : St3) (M : Mem) (Q : VK3) : Prop := te δ M fun x M1 => tl δ M1 fun lo M2 => th δ M2 fun hi M3 => slD lo hi x M3 Q
theorem e3_sl {lo hi : Option Expr} {tl th : TO3} {p2 : Pos} (he : E3 X e te) (hl : O3 X lo tl) (hu : O3 X hi th) : E3 X (.Subscript e (.Slice lo hi none p2) pos) (sl3 te tl th) :=
  pe_imp (pe_slice (SlR.or sl_tupA (SlR.or sl_str sl_list)) he hl hu) fun σ H Q ⟨F, M, δ, Q3, rm, sl, q, k⟩ => ⟨F, M, δ, _, rm, sl, q, fun F1 M1 H1 d v x1 iv q1 =>
    ⟨F1, M1, δ, _, x1.rm, sl.mono x1.same, q1, fun F2 M2 H2 lo x2 q2 => ⟨F2, M2, δ, _, x2.rm, (sl.mono x1.same).mono x2.same, q2, fun F3 M3 H3 hi x3 q3 => by
      have x := x1.trans (x2.trans x3)
      have k' := k.ext x
      have iv' := iv.mono (x2.same.trans x3.same)
      unfold slD at q3
      split at q3
      · rename_i ds e0
        obtain ⟨a, vs, rfl, h4, a1⟩ := lview_is x3.rm iv' e0
        exact .inr (.inr ⟨_, _, rfl, .inl (.inl h4), fun p n => newL_up x3.rm n (a1.cut lo hi) q3 k'⟩)
      · split at q3
        · cases iv' with
          | tup h1 h2 =>
            refine .inl ⟨_, _, rfl, sqT_mono x3.rm.sub h1, fun w => ?_, fun _ p n => newT_up x3.rm n (h2.cut lo hi) q3 k'⟩
            rw [← h2.length] at w
            rw [cutD_whole w] at q3
            exact k' _ _ _ _ _ (.refl x3.rm) (.tup h1 h2) q3
        · cases iv'
          exact .inr (.inl ⟨_, rfl, q3.1, k' _ _ _ _ _ (.refl x3.rm) (.str _) q3.2⟩)
        · exact q3.elim⟩⟩⟩
/-- a[b] = e -/
def setix3 (to ti te : TE3) (D : Ends3) (δ : St3) (M : Mem) : Prop := te δ M fun d M1 => to δ M1 fun o M2 => ti δ M2 fun i M3 => match o, i with
  | .ref p, .int n => (match M3 p with | some (.lst ds) => (match ixN ds.length n with | some j => D.nx δ (put M3 p (.lst (ds.set j d))) | none => False) | _ => False)
  | _, _ => False
theorem s3_setix {o i e : Expr} {to ti te : TE3} {pos' : Pos} (he : E3 X e te) (ho : E3 X o to) (hi : E3 X i ti)
    (ha : ∀ v, assign (.Subscript o i pos') X.env v = (do
      let ov ← holding [v] (eval o X.env)
      let iv ← holding [v, ov] (eval i X.env)
      standAt pos'
      holding [v, ov, iv] (setItem ov iv v)
      release [v, ov, iv] []) := by intro _; rfl)
    (hs : swapsWithSole [.Subscript o i pos'] e pos.line X.env = pure false := by rfl) (hw : swappedStores [.Subscript o i pos'] e X.env = pure none := by rfl)
    (h1 : (assignEach [.Subscript o i pos'] X.env).map (·.2) = [assign (.Subscript o i pos') X.env] := by rfl) : S3 X (.Assign [.Subscript o i pos'] e pos) (setix3 to ti te) :=
  ps_imp (ps_asg he (pg_sub ho hi set_list ha) hs hw h1) fun D σ H ⟨F, M, δ, E, rm, sl, q, k⟩ => ⟨F, M, δ, _, rm, sl, q, fun F1 M1 H1 d v x1 iv q1 =>
    ⟨F1, M1, δ, _, x1.rm, sl.mono x1.same, q1, fun F2 M2 H2 od ov x2 io q2 => ⟨F2, M2, δ, _, x2.rm, (sl.mono x1.same).mono x2.same, q2, fun F3 M3 H3 id' iv' x3 ii q3 => by
      split at q3
      · cases io; cases ii
        split at q3
        · rename_i ds e0
          split at q3
          · rename_i j ej
            obtain ⟨_, vs, h1, h2⟩ := x3.rm.ok _ _ e0
            have w := Ext.write (o' := .lst (ds.set j d)) (u := .lst (vs.set j v)) x3.rm e0 ⟨_, upd_same, h2.set (iv.mono (x2.same.trans x3.same)) j⟩
            exact ⟨_, vs, _, j, rfl, rfl, h1, by rw [← h2.length]; exact ej, k.nx _ _ _ _ _ (x1.trans (x2.trans (x3.trans w))) (sl.mono (x1.same.trans (x2.same.trans x3.same))) q3⟩
          · exact q3.elim
        · exact q3.elim
      · exact q3.elim⟩⟩⟩
end

/-! ### methods of built-in types -/
def MtL (K : PySem.W.Frag) (r : V → List V → Hp → VK → Prop) (r3 : D → RC) : Prop := ∀ (F : Hp) (M : Mem) (H : Hp) (dx : D) (x : V) (ds : List D) (vs : List V) (Q3 : VK3) (Q : VK), RM K F M H → Is K F dx x → IsA K F ds vs → r3 dx ds M Q3 → K3 K F M H Q3 Q → r x vs H Q
def bm3 (chk : D → Mem → Prop) (r3 : D → RC) (to : TE3) (t : TA3) (δ : St3) (M : Mem) (Q : VK3) : Prop := to δ M fun d M1 => chk d M1 ∧ t δ M1 fun ds M2 => r3 d ds M2 Q
def chkL (d : D) (M : Mem) : Prop := (lview M d).isSome = true
def chkS (d : D) (_ : Mem) : Prop := match d with | .str _ => True | _ => False
def TyL (K : PySem.W.Frag) (T : String) (chk : D → Mem → Prop) : Prop := ∀ (F : Hp) (M : Mem) (H : Hp) (d : D) (v : V), RM K F M H → Is K F d v → chk d M → tyV K T v H
theorem tyL_list {K : PySem.W.Frag} : TyL K "list" chkL := fun F M H d v rm iv c => by
  obtain ⟨ds, e⟩ := Option.isSome_iff_exists.mp c
  obtain ⟨a, vs, rfl, h, _⟩ := lview_is rm iv e
  exact .inl ⟨rfl, vs, .inl (.inl h)⟩
theorem tyL_str {K : PySem.W.Frag} : TyL K "str" chkS := fun F M H d v rm iv c => by
  cases iv <;> first | exact c.elim | rfl
section
variable {X : Cx} {o e : Expr} {es : List Expr} {to : TE3} {t : TA3} {name : Str} {apos cpos : Pos} {T id : String} {r : V → List V → Hp → VK → Prop} {r3 : D → RC} {chk : D → Mem → Prop}
theorem e3_bm0 (pa : PlainAttrs T) (slot : Slot T name id) (hty : typeOf (.builtin id) = pure (.type "method_descriptor")) (ty : TyL X.K T chk) (hm : MtR X id r ∧ MtL X.K r r3) (ho : E3 X o to)
    (hbase : attributeBase o name X.env (eval o X.env) = eval o X.env := by rfl) (hline : (apos.endLine == cpos.line) = true := by rfl) : E3 X (.Call (.Attribute o name apos) [] [] cpos) (bm3 chk r3 to nil3) :=
  pe_imp (pe_bm0 pa slot hty hm.1 ho hbase hline) fun σ H Q ⟨F, M, δ, Q3, rm, sl, q, k⟩ => ⟨F, M, δ, _, rm, sl, q, fun F1 M1 H1 d v x1 iv q1 =>
    ⟨ty _ _ _ _ _ x1.rm iv q1.1, hm.2 _ _ _ _ _ _ _ Q3 Q x1.rm iv .nil q1.2 (k.ext x1)⟩⟩
theorem e3_bm (pa : PlainAttrs T) (slot : Slot T name id) (hty : typeOf (.builtin id) = pure (.type "method_descriptor")) (ty : TyL X.K T chk) (hm : MtR X id r ∧ MtL X.K r r3) (ho : E3 X o to) (ha : A3 X (e :: es) t)
    (hbase : attributeBase o name X.env (eval o X.env) = eval o X.env := by rfl)
    (hfew : ((backTo cpos (starEach (e :: es) X.env)).all (fun x => !x.1) && (backToKw cpos (keywordEach [] X.env)).all (fun x => x.1.isSome)
      && decide ((e :: es).length + ([] : List Keyword).length + (if ([] : List Keyword).isEmpty then 0 else 1) < 30)) = true := by rfl)
    (hline : (apos.endLine == cpos.line) = true := by rfl) (hs : starEach (e :: es) X.env = (false, eval e X.env) :: starEach es X.env := by rfl) (hplain : (backTo cpos (starEach es X.env)).any (·.1) = false := by rfl) :
    E3 X (.Call (.Attribute o name apos) (e :: es) [] cpos) (bm3 chk r3 to t) :=
  pe_imp (pe_bm pa slot hty hm.1 ho ha hbase hfew hline hs hplain) fun σ H Q ⟨F, M, δ, Q3, rm, sl, q, k⟩ => ⟨F, M, δ, _, rm, sl, q, fun F1 M1 H1 d v x1 iv q1 =>
    ⟨ty _ _ _ _ _ x1.rm iv q1.1, F1, M1, δ, _, x1.rm, sl.mono x1.same, q1.2, fun F2 M2 H2 ds vs x2 ia q2 => hm.2 _ _ _ _ _ _ _ Q3 Q x2.rm (iv.mono x2.same) ia q2 (k.ext (x1.trans x2))⟩⟩
/-- what a method does to a list of the memory -/
def onL (g : List D → List D → Mem → (List D → D → Prop) → Prop) : D → RC := fun x args M Q => match x with
  | .ref p => (match M p with | some (.lst ds) => g ds args M (fun ds' d => Q d (put M p (.lst ds'))) | _ => False)
  | _ => False
theorem onL_of {K : PySem.W.Frag} {F H : Hp} {M : Mem} {dx : D} {x : V} {args : List D} {Q3 : VK3} {g : List D → List D → Mem → (List D → D → Prop) → Prop} (rm : RM K F M H) (ix : Is K F dx x) (q : onL g dx args M Q3) :
    ∃ p ds vs, x = .ref p ∧ M p = some (.lst ds) ∧ H p = some (.lst vs) ∧ IsA K F ds vs ∧ g ds args M (fun ds' d => Q3 d (put M p (.lst ds'))) := by
  unfold onL at q
  split at q
  · cases ix
    split at q
    · rename_i ds e
      obtain ⟨_, vs, h1, h2⟩ := rm.ok _ _ e
      exact ⟨_, ds, vs, rfl, e, h1, h2, q⟩
    · exact q.elim
  · exact q.elim
theorem wr_up {K : PySem.W.Frag} {F H : Hp} {M : Mem} {p : Addr} {ds ds' : List D} {vs' : List V} {d : D} {v : V} {Q3 : VK3} {Q : VK} (rm : RM K F M H) (e : M p = some (.lst ds)) (i : IsA K F ds' vs') (iv : Is K F d v) (q : Q3 d (put M p (.lst ds'))) (k : K3 K F M H Q3 Q) : Q v (upd H p (.lst vs')) :=
  k _ _ _ _ _ (Ext.write (o' := .lst ds') rm e ⟨vs', upd_same, i⟩) iv q
def r3Append : D → RC := onL fun ds args _ Q => match args with | [d] => ds.length < sizeLine ∧ Q (ds ++ [d]) .non | _ => False
theorem m3_append : MtR X "list.append" rAppend ∧ MtL X.K rAppend r3Append := ⟨mt_append, fun F M H dx x ds vs Q3 Q rm ix ia q k => by
  obtain ⟨p, xs, us, rfl, e, h1, h2, q⟩ := onL_of rm ix q
  split at q
  · cases ia with
    | cons r t => cases t; exact ⟨p, us, _, rfl, rfl, h1, by rw [← h2.length]; exact q.1, wr_up rm e (h2.append (.cons r .nil)) .non q.2 k⟩
  · exact q.elim⟩
def r3Clear : D → RC := onL fun ds args _ Q => match args with | [] => Q [] .non | _ => False
theorem m3_clear : MtR X "list.clear" rClear ∧ MtL X.K rClear r3Clear := ⟨mt_clear, fun F M H dx x ds vs Q3 Q rm ix ia q k => by
  obtain ⟨p, xs, us, rfl, e, h1, h2, q⟩ := onL_of rm ix q
  split at q
  · cases ia; exact ⟨p, us, rfl, rfl, h1, wr_up rm e .nil .non q k⟩
  · exact q.elim⟩
def r3Reverse : D → RC := onL fun ds args _ Q => match args with | [] => Q ds.reverse .non | _ => False
theorem m3_reverse : MtR X "list.reverse" rReverse ∧ MtL X.K rReverse r3Reverse := ⟨mt_reverse, fun F M H dx x ds vs Q3 Q rm ix ia q k => by
  obtain ⟨p, xs, us, rfl, e, h1, h2, q⟩ := onL_of rm ix q
  split at q
  · cases ia; exact ⟨p, us, rfl, rfl, h1, wr_up rm e h2.rev .non q k⟩
  · exact q.elim⟩
/-- pop(), pop(i) -/
def r3Pop : D → RC := onL fun ds args _ Q => match args with
  | [] => (match ds[ds.length - 1]? with | some d => Q ds.dropLast d | none => False)
  | [.int i] => -(2 ^ 63) ≤ i ∧ i < 2 ^ 63 ∧ (match seqIndex? i ds.length with | some k => (match ds[k]? with | some d => Q (ds.eraseIdx k) d | none => False) | none => False)
  | _ => False
theorem IsA.dropLast {K : PySem.W.Frag} {F : Hp} {ds : List D} {vs : List V} (h : IsA K F ds vs) : IsA K F ds.dropLast vs.dropLast := by
  rw [List.dropLast_eq_take, List.dropLast_eq_take, h.length]
  exact h.take _
theorem m3_pop : MtR X "list.pop" (fun x vs H Q => rPop x vs H Q ∨ rPopAt x vs H Q) ∧ MtL X.K (fun x vs H Q => rPop x vs H Q ∨ rPopAt x vs H Q) r3Pop := ⟨MtR.or mt_pop mt_popAt, fun F M H dx x ds vs Q3 Q rm ix ia q k => by
  obtain ⟨p, xs, us, rfl, e, h1, h2, q⟩ := onL_of rm ix q
  split at q
  · cases ia
    split at q
    · rename_i d ed
      obtain ⟨v, e1, i1⟩ := h2.get ed
      exact .inl ⟨p, us, v, rfl, rfl, h1, by rw [← h2.length]; exact e1, wr_up rm e h2.dropLast i1 q k⟩
    · exact q.elim
  · obtain ⟨b1, b2, q⟩ := q
    split at q
    · rename_i j ej
      split at q
      · rename_i d ed
        obtain ⟨v, e1, i1⟩ := h2.get ed
        cases ia with
        | cons r t => cases t; cases r; exact .inr ⟨p, us, _, j, v, rfl, rfl, h1, b1, b2, by rw [← h2.length]; exact ej, e1, wr_up rm e (h2.eraseIdx j) i1 q k⟩
      · exact q.elim
    · exact q.elim
  · exact q.elim⟩
def r3Insert : D → RC := onL fun ds args _ Q => match args with | [.int i, d] => ds.length < sizeLine ∧ 0 ≤ i ∧ i < 2 ^ 63 ∧ Q (ds.take i.toNat ++ [d] ++ ds.drop i.toNat) .non | _ => False
theorem m3_insert : MtR X "list.insert" (fun x vs H Q => ∃ (l : Addr) (xs : List V) (i : Int) (y : V), x = .ref l ∧ vs = [.int i, y] ∧ H l = some (.lst xs) ∧ xs.length < sizeLine ∧ 0 ≤ i ∧ i < 2 ^ 63 ∧
    Q .non (upd H l (.lst (xs.take i.toNat ++ [y] ++ xs.drop i.toNat)))) ∧ MtL X.K (fun x vs H Q => ∃ (l : Addr) (xs : List V) (i : Int) (y : V), x = .ref l ∧ vs = [.int i, y] ∧ H l = some (.lst xs) ∧ xs.length < sizeLine ∧ 0 ≤ i ∧ i < 2 ^ 63 ∧
    Q .non (upd H l (.lst (xs.take i.toNat ++ [y] ++ xs.drop i.toNat)))) r3Insert := ⟨mt_insert, fun F M H dx x ds vs Q3 Q rm ix ia q k => by
  obtain ⟨p, xs, us, rfl, e, h1, h2, q⟩ := onL_of rm ix q
  split at q
  · obtain ⟨b1, b2, b3, q⟩ := q
    cases ia with
    | cons r t => cases t with
      | cons r' t' => cases t'; cases r; exact ⟨p, us, _, _, rfl, rfl, h1, by rw [← h2.length]; exact b1, b2, b3, wr_up rm e (((h2.take _).append (.cons r' .nil)).append (h2.drop _)) .non q k⟩
  · exact q.elim⟩
def r3Extend : D → RC := onL fun ds args M Q => match args with | [y] => (match lview M y with | some zs => ds.length + zs.length ≤ sizeLine ∧ Q (ds ++ zs) .non | none => False) | _ => False
theorem m3_extend : MtR X "list.extend" rExtend ∧ MtL X.K rExtend r3Extend := ⟨mt_extend, fun F M H dx x ds vs Q3 Q rm ix ia q k => by
  obtain ⟨p, xs, us, rfl, e, h1, h2, q⟩ := onL_of rm ix q
  split at q
  · split at q
    · rename_i zs ez
      cases ia with
      | cons r t =>
        cases t
        obtain ⟨b, ws, rfl, h3, h4⟩ := lview_is rm r ez
        exact ⟨p, b, us, ws, rfl, rfl, h1, h3, by rw [← h2.length, ← h4.length]; exact q.1, wr_up rm e (h2.append h4) .non q.2 k⟩
    · exact q.elim
  · exact q.elim⟩
def strsOf : List D → Option (List Str)
  | [] => some []
  | .str x :: r => (strsOf r).map (x :: ·)
  | _ => none
theorem strsOf_eq : ∀ {ds : List D} {ys : List Str}, strsOf ds = some ys → ds = ys.map .str
  | [], _, h => by cases h; rfl
  | .str x :: r, _, h => by
    unfold strsOf at h
    obtain ⟨ys, h1, rfl⟩ := Option.map_eq_some_iff.mp h
    rw [strsOf_eq h1]; rfl
theorem strsOf_map : ∀ ys : List Str, strsOf (ys.map .str) = some ys
  | [] => rfl
  | y :: ys => by rw [List.map_cons]; unfold strsOf; rw [strsOf_map ys]; rfl
/-- sep.join -/
def joinQ (a : Str) (ds : List D) (M : Mem) (Q : VK3) : Prop := match strsOf ds with | some ys => (ys.map (·.length)).sum + ys.length * a.length ≤ 16777216 ∧ Q (.str (Txt.join a ys)) M | none => False
def r3Join (x : D) (args : List D) (M : Mem) (Q : VK3) : Prop := match x, args with
  | .str a, [y] => (match lview M y with
    | some ds => joinQ a ds M Q
    | none => (match y with | .tup ds => joinQ a ds M Q | _ => False))
  | _, _ => False
theorem m3_join : MtR X "str.join" (fun x xs H Q => ∃ a p, ∃ ys : List Str, x = .str a ∧ xs = [.ref p] ∧ (SqL X.K H p (ys.map V.str) ∨ SqT X.K H p (ys.map V.str)) ∧
    (ys.map (·.length)).sum + ys.length * a.length ≤ 16777216 ∧ Q (.str (Txt.join a ys)) H) ∧ MtL X.K (fun x xs H Q => ∃ a p, ∃ ys : List Str, x = .str a ∧ xs = [.ref p] ∧ (SqL X.K H p (ys.map V.str) ∨ SqT X.K H p (ys.map V.str)) ∧
    (ys.map (·.length)).sum + ys.length * a.length ≤ 16777216 ∧ Q (.str (Txt.join a ys)) H) r3Join := ⟨mt_join, fun F M H dx x ds vs Q3 Q rm ix ia q k => by
  unfold r3Join at q
  split at q
  · split at q
    · rename_i ds e0
      unfold joinQ at q
      split at q
      · rename_i ys ey
        cases ix
        cases ia with
        | cons r t =>
          cases t
          obtain ⟨b, ws, rfl, h3, h4⟩ := lview_is rm r e0
          rw [strsOf_eq ey] at h4
          rw [h4.strs] at h3
          exact ⟨_, _, ys, rfl, rfl, .inl (.inl (.inl h3)), q.1, k _ _ _ _ _ (.refl rm) (.str _) q.2⟩
      · exact q.elim
    · split at q
      · unfold joinQ at q
        split at q
        · rename_i ys ey
          cases ix
          cases ia with
          | cons r t =>
            cases t
            cases r with
            | tup h1 h2 =>
              rw [strsOf_eq ey] at h2
              rw [h2.strs] at h1
              exact ⟨_, _, ys, rfl, rfl, .inr (sqT_mono rm.sub h1), q.1, k _ _ _ _ _ (.refl rm) (.str _) q.2⟩
        · exact q.elim
      · exact q.elim
  · exact q.elim⟩
end
end L3

namespace L3
open PySem PySem.Spec PyProof.Rows L2

section
variable {X : Cx}
/-! ### len, all, any -/
def r3Len (args : List D) (M : Mem) (Q : VK3) : Prop := match args with
  | [d] => (match lview M d with
    | some ds => Q (.int (ds.length : Nat)) M
    | none => (match d with
      | .str z => z.length ≤ sizeLine ∧ Q (.int (z.length : Nat)) M
      | .tup ds => Q (.int (ds.length : Nat)) M
      | .scr ns => Q (.int (ns.length : Nat)) M
      | .ref p => (match M p with | some (.dK ds) => Q (.int (ds.length : Nat)) M | _ => False)
      | _ => False))
  | _ => False
theorem IsKV.length {κ : Type} {K : PySem.W.Frag} {F : Hp} {l : List (κ × D)} {r : List (κ × V)} (h : IsKV K F l r) : l.length = r.length := Paired.length h
theorem c3_len : CallR X (.builtin "len") (fun xs H Q => (∃ x n, xs = [x] ∧ LenV X.K x H n ∧ Q (.int n) H) ∨ ∃ a kvs, xs = [V.ref a] ∧ H a = some (.dK kvs) ∧ Q (.int kvs.length) H) ∧ CaL X.K (fun xs H Q => (∃ x n, xs = [x] ∧ LenV X.K x H n ∧ Q (.int n) H) ∨ ∃ a kvs, xs = [V.ref a] ∧ H a = some (.dK kvs) ∧ Q (.int kvs.length) H) r3Len :=
  ⟨CallR.or call_len call_lenD, fun F M H ds vs Q3 Q rm ia q k => by
    unfold r3Len at q
    split at q
    · cases ia with
      | cons r t =>
        cases t
        split at q
        · rename_i ds e
          obtain ⟨a, us, rfl, h1, h2⟩ := lview_is rm r e
          exact .inl ⟨_, _, rfl, .inl ⟨_, .inl (.inl h1), rfl⟩, k _ _ _ _ _ (.refl rm) (by rw [h2.length]; exact .int _) q⟩
        · split at q
          · cases r; exact .inl ⟨_, _, rfl, ⟨q.1, rfl⟩, k _ _ _ _ _ (.refl rm) (.int _) q.2⟩
          · cases r with
            | tup h1 h2 => exact .inl ⟨_, _, rfl, .inr ⟨_, sqT_mono rm.sub h1, rfl⟩, k _ _ _ _ _ (.refl rm) (by rw [h2.length]; exact .int _) q⟩
          · cases r with
            | scr h1 => exact .inl ⟨_, _, rfl, .inl ⟨_, sqL_mono rm.sub h1, rfl⟩, k _ _ _ _ _ (.refl rm) (by rw [List.length_map]; exact .int _) q⟩
          · cases r
            split at q
            · rename_i xs e
              obtain ⟨_, us, h1, h2⟩ := rm.ok _ _ e
              exact .inr ⟨_, _, rfl, h1, k _ _ _ _ _ (.refl rm) (by rw [h2.length]; exact .int _) q⟩
            · exact q.elim
          · exact q.elim
    · exact q.elim⟩
def blsOf : List D → Option (List Bool)
  | [] => some []
  | .bl x :: r => (blsOf r).map (x :: ·)
  | _ => none
theorem blsOf_eq : ∀ {ds : List D} {ys : List Bool}, blsOf ds = some ys → ds = ys.map .bl
  | [], _, h => by cases h; rfl
  | .bl x :: r, _, h => by
    unfold blsOf at h
    obtain ⟨ys, h1, rfl⟩ := Option.map_eq_some_iff.mp h
    rw [blsOf_eq h1]; rfl
theorem blsOf_map : ∀ ys : List Bool, blsOf (ys.map .bl) = some ys
  | [] => rfl
  | y :: ys => by rw [List.map_cons]; unfold blsOf; rw [blsOf_map ys]; rfl
def intsOf : List D → Option (List Int)
  | [] => some []
  | .int x :: r => (intsOf r).map (x :: ·)
  | _ => none
theorem intsOf_eq : ∀ {ds : List D} {ys : List Int}, intsOf ds = some ys → ds = ys.map .int
  | [], _, h => by cases h; rfl
  | .int x :: r, _, h => by
    unfold intsOf at h
    obtain ⟨ys, h1, rfl⟩ := Option.map_eq_some_iff.mp h
    rw [intsOf_eq h1]; rfl
theorem intsOf_map : ∀ ys : List Int, intsOf (ys.map .int) = some ys
  | [] => rfl
  | y :: ys => by rw [List.map_cons]; unfold intsOf; rw [intsOf_map ys]; rfl
def r3AllB (g : List Bool → Bool) : RC := fun args M Q => match args with
  | [y] => (match lview M y with | some ds => (match blsOf ds with | some bs => Q (.bl (g bs)) M | none => False) | none => False)
  | _ => False
theorem bls_at {K : PySem.W.Frag} {F H : Hp} {M : Mem} {y : D} {v : V} {ds : List D} {bs : List Bool} (rm : RM K F M H) (i : Is K F y v) (e : lview M y = some ds) (b : blsOf ds = some bs) : ∃ a, v = .ref a ∧ SqL K H a (bs.map V.bl) := by
  obtain ⟨a, vs, rfl, h1, h2⟩ := lview_is rm i e
  rw [blsOf_eq b] at h2
  rw [h2.bls] at h1
  exact ⟨a, rfl, .inl (.inl h1)⟩
theorem c3_all (hc : X.calm = true) : CallR X (.builtin "all") (rAll X.K) ∧ CaL X.K (rAll X.K) (r3AllB fun bs => bs.all id) := ⟨cr_all hc, fun F M H ds vs Q3 Q rm ia q k => by
  unfold r3AllB at q
  split at q
  · split at q
    · rename_i xs e
      split at q
      · rename_i bs eb
        cases ia with
        | cons r t =>
          cases t
          obtain ⟨a, rfl, h⟩ := bls_at rm r e eb
          exact ⟨a, bs, rfl, h, k _ _ _ _ _ (.refl rm) (.bl _) q⟩
      · exact q.elim
    · exact q.elim
  · exact q.elim⟩
theorem c3_any (hc : X.calm = true) : CallR X (.builtin "any") (rAny X.K) ∧ CaL X.K (rAny X.K) (r3AllB fun bs => bs.any id) := ⟨cr_any hc, fun F M H ds vs Q3 Q rm ia q k => by
  unfold r3AllB at q
  split at q
  · split at q
    · rename_i xs e
      split at q
      · rename_i bs eb
        cases ia with
        | cons r t =>
          cases t
          obtain ⟨a, rfl, h⟩ := bls_at rm r e eb
          exact ⟨a, bs, rfl, h, k _ _ _ _ _ (.refl rm) (.bl _) q⟩
      · exact q.elim
    · exact q.elim
  · exact q.elim⟩

/-! ### tuple(x), list(x), list(range ..) -/
def r3Tuple (args : List D) (M : Mem) (Q : VK3) : Prop := match args with
  | [d] => (match lview M d with | some ds => Q (.tup ds) M | none => (match d with | .tup ds => Q (.tup ds) M | _ => False))
  | _ => False
theorem c3_tuple : CallR X (.type "tuple") (fun xs H Q => ∃ p ys, xs = [.ref p] ∧ ((SqL X.K H p ys ∧ ∀ l, H l = none → Q (.ref l) (upd H l (.tup ys))) ∨ (SqT X.K H p ys ∧ Q (.ref p) H))) ∧ CaL X.K (fun xs H Q => ∃ p ys, xs = [.ref p] ∧ ((SqL X.K H p ys ∧ ∀ l, H l = none → Q (.ref l) (upd H l (.tup ys))) ∨ (SqT X.K H p ys ∧ Q (.ref p) H))) r3Tuple := ⟨call_tuple_of, fun F M H ds vs Q3 Q rm ia q k => by
  unfold r3Tuple at q
  split at q
  · cases ia with
    | cons r t =>
      cases t
      split at q
      · rename_i xs e
        obtain ⟨a, us, rfl, h1, h2⟩ := lview_is rm r e
        exact ⟨_, _, rfl, .inl ⟨.inl (.inl h1), fun p n => newT_up rm n h2 q k⟩⟩
      · split at q
        · cases r with
          | tup h1 h2 => exact ⟨_, _, rfl, .inr ⟨sqT_mono rm.sub h1, k _ _ _ _ _ (.refl rm) (.tup h1 h2) q⟩⟩
        · exact q.elim
  · exact q.elim⟩
def r3List (args : List D) (M : Mem) (Q : VK3) : Prop := match args with
  | [d] => (match lview M d with | some ds => newL ds M Q | none => (match d with | .tup ds => newL ds M Q | _ => False))
  | _ => False
theorem c3_list : CallR X (.type "list") (fun xs H Q => ∃ p ys, xs = [.ref p] ∧ (SqL X.K H p ys ∨ SqT X.K H p ys) ∧ ∀ l, H l = none → Q (.ref l) (upd H l (.lst ys))) ∧ CaL X.K (fun xs H Q => ∃ p ys, xs = [.ref p] ∧ (SqL X.K H p ys ∨ SqT X.K H p ys) ∧ ∀ l, H l = none → Q (.ref l) (upd H l (.lst ys))) r3List := ⟨call_list_of, fun F M H ds vs Q3 Q rm ia q k => by
  unfold r3List at q
  split at q
  · cases ia with
    | cons r t =>
      cases t
      split at q
      · rename_i xs e
        obtain ⟨a, us, rfl, h1, h2⟩ := lview_is rm r e
        exact ⟨_, _, rfl, .inl (.inl (.inl h1)), fun p n => newL_up rm n h2 q k⟩
      · split at q
        · cases r with
          | tup h1 h2 => exact ⟨_, _, rfl, .inr (sqT_mono rm.sub h1), fun p n => newL_up rm n h2 q k⟩
        · exact q.elim
  · exact q.elim⟩
def rgD (a b : Int) : List D := (List.range (b - a).toNat).map fun i => D.int (a + (i : Nat))
theorem isA_rg {K : PySem.W.Frag} {F : Hp} (a b : Int) : IsA K F (rgD a b) (rgV a b) := by
  unfold rgD rgV
  generalize List.range (b - a).toNat = l
  induction l with
  | nil => exact .nil
  | cons i l ih => exact .cons (.int _) ih
def lrg1 (ta : TE3) (δ : St3) (M : Mem) (Q : VK3) : Prop := ta δ M fun d M1 => match d with | .int n => RgOk 0 n ∧ newL (rgD 0 n) M1 Q | _ => False
theorem e3_lrg1 {a : Expr} {ta : TE3} {p p2 pos pos2 : Pos} (hc : X.calm = true) (hg : Gl X "list") (hm : X.mg "list" = none) (hg2 : Gl X "range") (hm2 : X.mg "range" = none) (ha : E3 X a ta)
    (na : starEach [a] X.env = (false, eval a X.env) :: starEach [] X.env := by rfl) (nb : starEach [.Call (.Name "range" p2) [a] [] pos2] X.env = (false, eval (.Call (.Name "range" p2) [a] [] pos2) X.env) :: starEach [] X.env := by rfl) :
    E3 X (.Call (.Name "list" p) [.Call (.Name "range" p2) [a] [] pos2] [] pos) (lrg1 ta) :=
  pe_imp (pe_listRg hc hg hm (prg_1 hg2 hm2 ha na) nb) fun σ H Q ⟨F, M, δ, Q3, rm, sl, q, k⟩ => ⟨F, M, δ, _, rm, sl, q, fun F1 M1 H1 d v x1 iv q1 => by
    split at q1
    · cases iv; exact ⟨_, rfl, q1.1, fun p n => newL_up x1.rm n (isA_rg _ _) q1.2 (k.ext x1)⟩
    · exact q1.elim⟩
def lrg2 (ta tb : TE3) (δ : St3) (M : Mem) (Q : VK3) : Prop := ta δ M fun d M1 => tb δ M1 fun e M2 => match d, e with | .int m, .int n => RgOk m n ∧ newL (rgD m n) M2 Q | _, _ => False
theorem e3_lrg2 {a b : Expr} {ta tb : TE3} {p p2 pos pos2 : Pos} (hc : X.calm = true) (hg : Gl X "list") (hm : X.mg "list" = none) (hg2 : Gl X "range") (hm2 : X.mg "range" = none) (ha : E3 X a ta) (hb : E3 X b tb)
    (na : starEach [a, b] X.env = (false, eval a X.env) :: starEach [b] X.env := by rfl) (na2 : starEach [b] X.env = (false, eval b X.env) :: starEach [] X.env := by rfl) (nb : starEach [.Call (.Name "range" p2) [a, b] [] pos2] X.env = (false, eval (.Call (.Name "range" p2) [a, b] [] pos2) X.env) :: starEach [] X.env := by rfl) (hpl : (backTo pos2 (starEach [b] X.env)).any (·.1) = false := by rfl) :
    E3 X (.Call (.Name "list" p) [.Call (.Name "range" p2) [a, b] [] pos2] [] pos) (lrg2 ta tb) :=
  pe_imp (pe_listRg hc hg hm (prg_2 hg2 hm2 ha hb na na2 hpl) nb) fun σ H Q ⟨F, M, δ, Q3, rm, sl, q, k⟩ => ⟨F, M, δ, _, rm, sl, q, fun F1 M1 H1 d v x1 iv q1 => ⟨F1, M1, δ, _, x1.rm, sl.mono x1.same, q1, fun F2 M2 H2 d2 v2 x2 iv2 q2 => by
    split at q2
    · cases iv; cases iv2; exact ⟨_, _, rfl, rfl, q2.1, fun p n => newL_up x2.rm n (isA_rg _ _) q2.2 (k.ext (x1.trans x2))⟩
    · exact q2.elim⟩⟩

/-! ### numbers -/
def r3Int : RC := fun args M Q => match args with
  | [.int i] => Q (.int i) M
  | [.bl b] => Q (.int (if b then 1 else 0)) M
  | [.str s] => (match PySem.intText? s with | some n => s.length ≤ 640 ∧ Q (.int n) M | none => False)
  | _ => False
theorem c3_int : CallR X (.type "int") (fun xs H Q => ((∃ i, xs = [.int i] ∧ Q (.int i) H) ∨ ∃ k, xs = [.bl k] ∧ Q (.int (if k then 1 else 0)) H) ∨ ∃ a n, xs = [.str a] ∧ PySem.intText? a = some n ∧ a.length ≤ 640 ∧ Q (.int n) H) ∧ CaL X.K (fun xs H Q => ((∃ i, xs = [.int i] ∧ Q (.int i) H) ∨ ∃ k, xs = [.bl k] ∧ Q (.int (if k then 1 else 0)) H) ∨ ∃ a n, xs = [.str a] ∧ PySem.intText? a = some n ∧ a.length ≤ 640 ∧ Q (.int n) H) r3Int := ⟨CallR.or call_int1 call_int_str, fun F M H ds vs Q3 Q rm ia q k => by
  unfold r3Int at q
  split at q
  · cases ia with
    | cons r t => cases t; cases r; exact .inl (.inl ⟨_, rfl, k _ _ _ _ _ (.refl rm) (.int _) q⟩)
  · cases ia with
    | cons r t => cases t; cases r; exact .inl (.inr ⟨_, rfl, k _ _ _ _ _ (.refl rm) (.int _) q⟩)
  · split at q
    · rename_i n e
      cases ia with
      | cons r t => cases t; cases r; exact .inr ⟨_, n, rfl, e, q.1, k _ _ _ _ _ (.refl rm) (.int _) q.2⟩
    · exact q.elim
  · exact q.elim⟩
def r3Abs : RC := fun args M Q => match args with | [.int i] => Q (.int (if i < 0 then -i else i)) M | _ => False
theorem c3_abs : CallR X (.builtin "abs") (fun xs H Q => ∃ i, xs = [.int i] ∧ Q (.int (if i < 0 then -i else i)) H) ∧ CaL X.K (fun xs H Q => ∃ i, xs = [.int i] ∧ Q (.int (if i < 0 then -i else i)) H) r3Abs := ⟨call_abs, fun F M H ds vs Q3 Q rm ia q k => by
  unfold r3Abs at q
  split at q
  · cases ia with
    | cons r t => cases t; cases r; exact ⟨_, rfl, k _ _ _ _ _ (.refl rm) (.int _) q⟩
  · exact q.elim⟩
def r3II (g : Int → Int → Int) : RC := fun args M Q => match args with | [.int i, .int j] => Q (.int (g i j)) M | _ => False
theorem ii_lift {K : PySem.W.Frag} {g : Int → Int → Int} : CaL K (fun xs H Q => ∃ i j, xs = [.int i, .int j] ∧ Q (.int (g i j)) H) (r3II g) := fun F M H ds vs Q3 Q rm ia q k => by
  unfold r3II at q
  split at q
  · cases ia with
    | cons r t => cases t with
      | cons r' t' => cases t'; cases r; cases r'; exact ⟨_, _, rfl, k _ _ _ _ _ (.refl rm) (.int _) q⟩
  · exact q.elim
theorem c3_max (hc : X.calm = true) : CallR X (.builtin "max") (fun xs H Q => ∃ i j, xs = [.int i, .int j] ∧ Q (.int (if j > i then j else i)) H) ∧ CaL X.K (fun xs H Q => ∃ i j, xs = [.int i, .int j] ∧ Q (.int (if j > i then j else i)) H) (r3II fun i j => if j > i then j else i) := ⟨call_max2 hc, ii_lift⟩
theorem c3_min (hc : X.calm = true) : CallR X (.builtin "min") (fun xs H Q => ∃ i j, xs = [.int i, .int j] ∧ Q (.int (if j < i then j else i)) H) ∧ CaL X.K (fun xs H Q => ∃ i j, xs = [.int i, .int j] ∧ Q (.int (if j < i then j else i)) H) (r3II fun i j => if j < i then j else i) := ⟨call_min2 hc, ii_lift⟩
def r3Divmod : RC := fun args M Q => match args with | [.int i, .int j] => CDivP i j ∧ Q (.tup [.int (i / j), .int (i % j)]) M | _ => False
theorem c3_divmod : CallR X (.builtin "divmod") (fun xs H Q => ∃ i j, xs = [.int i, .int j] ∧ CDivP i j ∧ ∀ p, H p = none → Q (.ref p) (upd H p (.tup [.int (i / j), .int (i % j)]))) ∧ CaL X.K (fun xs H Q => ∃ i j, xs = [.int i, .int j] ∧ CDivP i j ∧ ∀ p, H p = none → Q (.ref p) (upd H p (.tup [.int (i / j), .int (i % j)]))) r3Divmod := ⟨call_divmodW, fun F M H ds vs Q3 Q rm ia q k => by
  unfold r3Divmod at q
  split at q
  · cases ia with
    | cons r t => cases t with
      | cons r' t' => cases t'; cases r; cases r'; exact ⟨_, _, rfl, q.1, fun p n => newT_up rm n (.cons (.int _) (.cons (.int _) .nil)) q.2 k⟩
  · exact q.elim⟩

/-! ### isinstance of plain things -/
def tyN : D → Option String
  | .non => some "NoneType"
  | .bl _ => some "bool"
  | .int _ => some "int"
  | .str _ => some "str"
  | .tup _ => some "tuple"
  | .lst _ => some "list"
  | _ => none
theorem tyN_is {K : PySem.W.Frag} {F H : Hp} {M : Mem} {d : D} {v : V} {n : String} (rm : RM K F M H) (i : Is K F d v) (e : tyN d = some n) : TyX K H v (.type n) := by
  cases i with
  | non => cases e; exact .base .non
  | bl b => cases e; exact .base (.bl b)
  | int b => cases e; exact .base (.int b)
  | str b => cases e; exact .base (.str b)
  | tup h1 h2 =>
    cases e
    rcases sqT_mono rm.sub h1 with (h | ⟨o, h⟩) | ⟨o, its, n, h, hc, _⟩
    · exact .base (.tup h)
    · exact .fTuple h
    · exact .kTuple h hc
  | lst h1 h2 => cases e; exact .base (.lst (rm.sub _ _ h1))
  | _ => cases e
def r3Isi : RC := fun args M Q => match args with
  | [d, .ty n] => (match tyN d with | some a => ∃ b, kitB a n = some b ∧ Q (.bl b) M | none => False)
  | _ => False
theorem c3_isi : CallR X (.builtin "isinstance") (rIsi X.K) ∧ CaL X.K (rIsi X.K) r3Isi := ⟨call_isi, fun F M H ds vs Q3 Q rm ia q k => by
  unfold r3Isi at q
  split at q
  · split at q
    · rename_i a e
      obtain ⟨b, hb, q⟩ := q
      cases ia with
      | cons r t => cases t with
        | cons r' t' => cases t'; cases r'; exact ⟨_, _, _, _, b, rfl, .ty _, tyN_is rm r e, kit_ty hb, k _ _ _ _ _ (.refl rm) (.bl _) q⟩
    · exact q.elim
  · exact q.elim⟩

/-! ### or, and as values -/
variable {a b : Expr} {rest : List Expr} {ta tb : TE3} {pos : Pos}
theorem e3_or (ha : E3 X a ta) (hb : E3 X (.BoolOp .Or (b :: rest) pos) tb) : E3 X (.BoolOp .Or (a :: b :: rest) pos) (orv3 ta tb) :=
  pe_imp (pe_orT ha hb) fun σ H Q ⟨F, M, δ, Q3, rm, sl, q, k⟩ => ⟨F, M, δ, _, rm, sl, q, fun F1 M1 H1 d v x1 iv q1 => by
    split at q1
    · rename_i e
      exact ⟨true, truD_is x1.rm iv e, by rw [if_pos rfl]; exact k _ _ _ _ _ x1 iv q1⟩
    · rename_i e
      exact ⟨false, truD_is x1.rm iv e, by rw [if_neg Bool.false_ne_true]; exact ⟨F1, M1, δ, _, x1.rm, sl.mono x1.same, q1, k.ext x1⟩⟩
    · exact q1.elim⟩
theorem e3_and (ha : E3 X a ta) (hb : E3 X (.BoolOp .And (b :: rest) pos) tb) : E3 X (.BoolOp .And (a :: b :: rest) pos) (andv3 ta tb) :=
  pe_imp (pe_andT ha hb) fun σ H Q ⟨F, M, δ, Q3, rm, sl, q, k⟩ => ⟨F, M, δ, _, rm, sl, q, fun F1 M1 H1 d v x1 iv q1 => by
    split at q1
    · rename_i e
      exact ⟨true, truD_is x1.rm iv e, by rw [if_pos rfl]; exact ⟨F1, M1, δ, _, x1.rm, sl.mono x1.same, q1, k.ext x1⟩⟩
    · rename_i e
      exact ⟨false, truD_is x1.rm iv e, by rw [if_neg Bool.false_ne_true]; exact k _ _ _ _ _ x1 iv q1⟩
    · exact q1.elim⟩
theorem e3_bop1 {op : BoolOp} (ha : E3 X a ta) : E3 X (.BoolOp op [a] pos) ta := pe_one ha
def notv3 (ta : TE3) (δ : St3) (M : Mem) (Q : VK3) : Prop := ta δ M fun d M1 => match truD M1 d with | some b => Q (.bl (!b)) M1 | none => False
theorem e3_not (ha : E3 X a ta) : E3 X (.UnaryOp .Not a pos) (notv3 ta) :=
  pe_imp (pe_notT ha) fun σ H Q ⟨F, M, δ, Q3, rm, sl, q, k⟩ => ⟨F, M, δ, _, rm, sl, q, fun F1 M1 H1 d v x1 iv q1 => by
    split at q1
    · rename_i c e
      exact ⟨c, truD_is x1.rm iv e, k _ _ _ _ _ x1 (.bl _) q1⟩
    · exact q1.elim⟩
end

/-! ### objects -/
def putD (f : Str) (v : D) : List (Str × D) → List (Str × D)
  | [] => [(f, v)]
  | (g, x) :: r => if g = f then (g, v) :: r else (g, x) :: putD f v r
theorem IsKV.put {K : PySem.W.Frag} {F : Hp} {f : Str} {d : D} {v : V} (i : Is K F d v) : ∀ {l : List (Str × D)} {r : List (Str × V)}, IsKV K F l r → IsKV K F (putD f d l) (putF f v r)
  | _, _, .nil => .cons ⟨rfl, i⟩ .nil
  | (g, x) :: l, (g', y) :: r, .cons h t => by
    obtain ⟨rfl, h2⟩ : g = g' ∧ Is K F x y := h
    unfold putD putF
    by_cases e : g = f
    · rw [if_pos e, if_pos e]; exact .cons ⟨rfl, i⟩ t
    · rw [if_neg e, if_neg e]; exact .cons ⟨rfl, h2⟩ (IsKV.put i t)
theorem IsKV.lookup {K : PySem.W.Frag} {F : Hp} {f : Str} : ∀ {l : List (Str × D)} {r : List (Str × V)}, IsKV K F l r → match l.lookup f with | some d => ∃ v, r.lookup f = some v ∧ Is K F d v | none => r.lookup f = none
  | _, _, .nil => rfl
  | (g, x) :: l, (g', y) :: r, .cons h t => by
    obtain ⟨rfl, h2⟩ : g = g' ∧ Is K F x y := h
    rw [List.lookup_cons, List.lookup_cons]
    cases e : f == g with
    | true => exact ⟨y, rfl, h2⟩
    | false => exact IsKV.lookup t
theorem IsKV.get {K : PySem.W.Frag} {F : Hp} {f : Str} {l : List (Str × D)} {r : List (Str × V)} {d : D} (h : IsKV K F l r) (e : l.lookup f = some d) : ∃ v, r.lookup f = some v ∧ Is K F d v := by
  have := h.lookup (f := f); rw [e] at this; exact this
theorem IsKV.getNone {K : PySem.W.Frag} {F : Hp} {f : Str} {l : List (Str × D)} {r : List (Str × V)} (h : IsKV K F l r) (e : l.lookup f = none) : r.lookup f = none := by
  have := h.lookup (f := f); rw [e] at this; exact this
theorem IsA.zipNone {K : PySem.W.Frag} {F : Hp} {f : Str} : ∀ {ns : List Str} {ds : List D} {vs : List V}, IsA K F ds vs → (ns.zip ds).lookup f = none → (ns.zip vs).lookup f = none
  | [], _, _, _, _ => rfl
  | _ :: _, _, _, .nil, _ => rfl
  | n :: ns, _, _, .cons r t, e => by
    rw [List.zip_cons_cons, List.lookup_cons] at e ⊢
    cases h : f == n with
    | true => rw [h] at e; cases e
    | false => rw [h] at e; exact IsA.zipNone t e
theorem isKV_zip {K : PySem.W.Frag} {F : Hp} : ∀ {ns : List Str} {ds : List D} {r : List (Str × V)}, ns.length = ds.length → IsKV K F (ns.zip ds) r → ∃ vs, r = ns.zip vs ∧ IsA K F ds vs
  | [], [], _, _, .nil => ⟨[], rfl, .nil⟩
  | [], _ :: _, _, h, _ => by cases h
  | _ :: _, [], _, h, _ => by cases h
  | n :: ns, d :: ds, (g, y) :: r, h, .cons a t => by
    obtain ⟨rfl, h2⟩ : n = g ∧ Is K F d y := a
    obtain ⟨vs, rfl, i⟩ := isKV_zip (by simpa using h) t
    exact ⟨y :: vs, rfl, .cons h2 i⟩
/-- an attribute of a thing of class C -/
def fldD (C : Addr) (f : Str) (M : Mem) : D → Option D
  | .obj C' ns ds => if C' = C then (ns.zip ds).lookup f else none
  | .ref p => match M p with | some (.ins C' fs) => if C' = C then fs.lookup f else none | _ => none
  | _ => none
section
variable {X : Cx} {e o value : Expr} {es : List Expr} {te ta tv : TE3} {t : TA3} {pos pos' apos p : Pos} {C f : Addr} {m x : Str} {k : Nat} {fd : FuncData} {ps : List Str} {s : Sp3}
def fld3 (C : Addr) (f : Str) (te : TE3) (δ : St3) (M : Mem) (Q : VK3) : Prop := te δ M fun d M1 => match fldD C f M1 d with | some d' => Q d' M1 | none => False
theorem e3_fld {f : Str} (cl : Cls X.K C) (na : NoAttr X.K C f) (he : E3 X e te) (hb : attributeBase e f X.env (eval e X.env) = eval e X.env := by rfl) : E3 X (.Attribute e f pos) (fld3 C f te) :=
  pe_imp (pe_fld he hb) fun σ H Q ⟨F, M, δ, Q3, rm, sl, q, k⟩ => ⟨F, M, δ, _, rm, sl, q, fun F1 M1 H1 d v x1 iv q1 => by
    split at q1
    · rename_i d' ed
      cases iv with
      | obj h1 h0 h2 =>
        unfold fldD at ed
        simp only at ed
        split at ed
        · rename_i ec
          subst ec
          obtain ⟨v', e1, i1⟩ := h2.lookupZ ed
          exact ⟨_, _, _, _, v', rfl, x1.rm.sub _ _ h1, cl, na, e1, k _ _ _ _ _ x1 i1 q1⟩
        · cases ed
      | ref a =>
        unfold fldD at ed
        simp only at ed
        split at ed
        · rename_i C' fs em
          split at ed
          · rename_i ec
            subst ec
            obtain ⟨_, dx, gs, h1, h2⟩ := x1.rm.ok _ _ em
            obtain ⟨v', e1, i1⟩ := h2.get ed
            exact ⟨_, _, _, _, v', rfl, h1, cl, na, e1, k _ _ _ _ _ x1 i1 q1⟩
          · cases ed
        · cases ed
      | _ => cases ed
    · exact q1.elim⟩
def sfld3 (C : Addr) (f : Str) (ta tv : TE3) (D : Ends3) (δ : St3) (M : Mem) : Prop := tv δ M fun d M1 => ta δ M1 fun o M2 => match o with
  | .ref p => (match M2 p with | some (.ins C' fs) => C' = C ∧ fs.length < 1000 ∧ D.nx δ (put M2 p (.ins C (putD f d fs))) | _ => False)
  | _ => False
theorem s3_fld {f : Str} (cl : Cls X.K C) (na : NoAttr X.K C f) (ha : E3 X o ta) (hv : E3 X value tv) (hs : swapsWith value (some (.Attribute o f pos')) pos.line X.env = pure false := by rfl) : S3 X (.Assign [.Attribute o f pos'] value pos) (sfld3 C f ta tv) :=
  ps_imp (ps_fld ha hv hs) fun D σ H ⟨F, M, δ, E, rm, sl, q, k⟩ => ⟨F, M, δ, _, rm, sl, q, fun F1 M1 H1 d v x1 iv q1 => ⟨F1, M1, δ, _, x1.rm, sl.mono x1.same, q1, fun F2 M2 H2 od ov x2 io q2 => by
    split at q2
    · cases io
      split at q2
      · rename_i C' fs em
        obtain ⟨rfl, hl, q2⟩ := q2
        obtain ⟨_, dx, gs, h1, h2⟩ := x2.rm.ok _ _ em
        have w := Ext.write (o' := .ins C' (putD f d fs)) (u := .ins C' dx (putF f v gs)) x2.rm em ⟨dx, _, upd_same, IsKV.put (iv.mono x2.same) h2⟩
        exact ⟨_, _, dx, gs, rfl, h1, cl, na, by rw [← h2.length]; exact hl, k.nx _ _ _ _ _ (x1.trans (x2.trans w)) (sl.mono (x1.same.trans x2.same)) q2⟩
      · exact q2.elim
    · exact q2.elim⟩⟩
/-- C(..): behind __init__ the new thing may stay as it is -/
def make3 (C : Addr) (s : Sp3) (t : TA3) (δ : St3) (M : Mem) (Q : VK3) : Prop := t δ M fun ds M1 => ∀ p, M1 p = none → s (.ref p :: ds) (put M1 p (.ins C [])) (fun v M2 => v = .non ∧ (Q (.ref p) M2 ∨ ∃ ns es, M2 p = some (.ins C (ns.zip es)) ∧ ns.length = es.length ∧ Q (.obj C ns es) (del M2 p))) no3
theorem e3_make (M : Mk X.K C f) (F : FnOk X.prog X.w X.K X.mg X.base CX0 k f fd ps (sp3 X.K s)) (hr : Room (k + 1) X.A) (hg : Gl X x) (hm : X.mg x = some (.ref C)) (hb : Binds X.K fd ps []) (ha : A3 X (e :: es) t)
    (hdb : (x == ("__debug__" : Str)) = false := by decide) (he : starEach (e :: es) X.env = (false, eval e X.env) :: starEach es X.env := by rfl) (hpl : (backTo pos (starEach es X.env)).any (·.1) = false := by rfl) :
    E3 X (.Call (.Name x p) (e :: es) [] pos) (make3 C s t) :=
  pe_imp (pe_make M F hr hg hm hb .nil pass0 ha hdb he hpl) fun σ H Q ⟨F, M, δ, Q3, rm, sl, q, k⟩ => ⟨F, M, δ, _, rm, sl, q, fun F1 M1 H1 ds vs x1 ia q1 => fun a dx na ndx ne => by
    have f1 := x1.rm.fresh na
    have y1 := Ext.new0 x1.rm ndx (.own a)
    have na2 : (upd H1 dx (.own a)) a = none := by rw [upd_ne (Ne.symm ne)]; exact na
    have y2 := Ext.newM (o := .ins C []) (u := .ins C dx []) y1.rm na2 ⟨dx, [], upd_same, .nil⟩
    have y := y1.trans y2
    show sp3 X.K s (V.ref a :: (vs ++ [])) _ _ _
    rw [List.append_nil]
    refine ⟨F1, _, .ref a :: ds, _, no3, y.rm, .cons (.ref a) ia, q1 a f1.1, fun F3 M3 H3 d v x3 iv ⟨ed, q3⟩ => ?_, X3.no⟩
    subst ed
    cases iv
    refine ⟨rfl, ?_⟩
    have z := x1.trans (y.trans x3)
    rcases q3 with q3 | ⟨ns, es, em, hl, q3⟩
    · exact k _ _ _ _ _ z (.ref a) q3
    · obtain ⟨f3, dx', gs, h1, h2⟩ := x3.rm.ok _ _ em
      obtain ⟨us, rfl, ius⟩ := isKV_zip hl h2
      have sF : Same F3 (upd F3 a (.ins C dx' (ns.zip us))) := fun b o e => by rw [upd_ne (ne_of_none e f3)]; exact e
      refine k _ (del M3 a) _ _ _ ⟨z.same.trans sF, fun b u h3 h4 => ?_, fun b o e1 => ?_, fun b o e1 => ?_⟩ (.obj upd_same hl (ius.mono sF)) q3
      · obtain ⟨n1, n2, n3⟩ := z.frm b u h3 h4
        obtain ⟨m1, m2, m3⟩ := x1.frm b u h3 h4
        have hb : b ≠ a := ne_of_none m2 na
        exact ⟨by rw [del_ne hb]; exact n1, n2, fun w => by rw [upd_ne hb]; exact n3 w⟩
      · by_cases hb : b = a
        · subst hb; rw [upd_same] at e1; cases e1; exact h1
        · rw [upd_ne hb] at e1; exact x3.rm.sub _ _ e1
      · have hb : b ≠ a := fun w => by subst w; rw [del_same] at e1; cases e1
        rw [del_ne hb] at e1
        obtain ⟨h3, h4⟩ := x3.rm.ok b o e1
        exact ⟨by rw [upd_ne hb]; exact h3, h4.mono sF rfl⟩⟩
/-- a thing of class C without an attribute m -/
def insD (C : Addr) (m : Str) (M : Mem) : D → Prop
  | .obj C' ns ds => C' = C ∧ (ns.zip ds).lookup m = none
  | .ref p => match M p with | some (.ins C' fs) => C' = C ∧ fs.lookup m = none | _ => False
  | _ => False
theorem insD_is {K : PySem.W.Frag} {F H : Hp} {M : Mem} {d : D} {v : V} (rm : RM K F M H) (i : Is K F d v) (h : insD C m M d) : ∃ a dx fs, v = .ref a ∧ H a = some (.ins C dx fs) ∧ fs.lookup m = none := by
  cases i with
  | obj h1 h0 h2 => obtain ⟨rfl, h⟩ := h; exact ⟨_, _, _, rfl, rm.sub _ _ h1, h2.zipNone h⟩
  | ref a =>
    unfold insD at h
    simp only at h
    split at h
    · rename_i C' fs em
      obtain ⟨rfl, h⟩ := h
      obtain ⟨_, dx, gs, h1, h2⟩ := rm.ok _ _ em
      exact ⟨_, _, _, rfl, h1, h2.getNone h⟩
    · exact h.elim
  | _ => exact h.elim
def meth3 (C : Addr) (m : Str) (s : Sp3) (ta : TE3) (t : TA3) (δ : St3) (M : Mem) (Q : VK3) : Prop := ta δ M fun d M1 => insD C m M1 d ∧ t δ M1 fun ds M2 => s (d :: ds) M2 Q no3
theorem e3_meth {pl : Sem Bool} (he : E3 X o ta) (c : Cls X.K C) (hm : Meth X.K C m f) (F : FnOk X.prog X.w X.K X.mg X.base CX0 k f fd ps (sp3 X.K s)) (hr : Room k X.A) (hb : Binds X.K fd ps []) (ha : A3 X (e :: es) t)
    (hst : starEach (e :: es) X.env = (false, eval e X.env) :: starEach es X.env := by rfl) (hpl : (backTo pos (starEach es X.env)).any (·.1) = false := by rfl)
    (ht : eval (.Call (.Attribute o m apos) (e :: es) [] pos) X.env = (do
      let ov ← eval o X.env
      standAt apos.atName
      let (f, first) ← holding [ov] (getMethod ov m pl)
      callWith pos f first (backTo pos (starEach (e :: es) X.env)) (backToKw pos (keywordEach [] X.env))) := by rfl) :
    E3 X (.Call (.Attribute o m apos) (e :: es) [] pos) (meth3 C m s ta t) :=
  pe_imp (pe_meth he c hm F hr hb .nil pass0 ha hst hpl ht) fun σ H Q ⟨F, M, δ, Q3, rm, sl, q, k⟩ => ⟨F, M, δ, _, rm, sl, q, fun F1 M1 H1 d v x1 iv q1 => by
    obtain ⟨a, dx, fs, rfl, h1, h2⟩ := insD_is x1.rm iv q1.1
    refine ⟨a, dx, fs, rfl, h1, h2, F1, M1, δ, _, x1.rm, sl.mono x1.same, q1.2, fun F2 M2 H2 ds vs x2 ia q2 => ?_⟩
    show sp3 X.K s (V.ref a :: (vs ++ [])) _ _ _
    rw [List.append_nil]
    exact ⟨F2, M2, _, Q3, no3, x2.rm, .cons (iv.mono x2.same) ia, q2, k.ext (x1.trans x2), X3.no⟩⟩
theorem e3_meth0 {pl : Sem Bool} (he : E3 X o ta) (c : Cls X.K C) (hm : Meth X.K C m f) (F : FnOk X.prog X.w X.K X.mg X.base CX0 k f fd ps (sp3 X.K s)) (hr : Room k X.A) (hb : Binds X.K fd ps [])
    (ht : eval (.Call (.Attribute o m apos) [] [] pos) X.env = (do
      let ov ← eval o X.env
      standAt apos.atName
      let (f, first) ← holding [ov] (getMethod ov m pl)
      callWith pos f first (backTo pos (starEach [] X.env)) (backToKw pos (keywordEach [] X.env))) := by rfl) :
    E3 X (.Call (.Attribute o m apos) [] [] pos) (meth3 C m s ta nil3) :=
  pe_imp (pe_meth0 he c hm F hr hb .nil pass0 ht) fun σ H Q ⟨F, M, δ, Q3, rm, sl, q, k⟩ => ⟨F, M, δ, _, rm, sl, q, fun F1 M1 H1 d v x1 iv q1 => by
    obtain ⟨a, dx, fs, rfl, h1, h2⟩ := insD_is x1.rm iv q1.1
    exact ⟨a, dx, fs, rfl, h1, h2, F1, M1, _, Q3, no3, x1.rm, .cons iv .nil, q1.2, k.ext x1, X3.no⟩⟩
end

/-! ### a written table with text keys -/
structure Tab (K : PySem.W.Frag) (w : World) (d : Addr) (P : Str → Option D) : Prop where
  kd : ∃ es n, KDict K w d es n
  all : ∀ z, ∃ r, PySem.W.nsIn K d z = some r ∧ match P z, r with | some dd, some u => ∃ v, RelV v u ∧ ∀ F, Is K F dd v | none, none => True | _, _ => False
section
variable {X : Cx} {a b : Expr} {ta tb : TE3} {pos : Pos} {d : Addr} {P : Str → Option D}
def r3Tab (neg : Bool) (d : Addr) (P : Str → Option D) : R3 := fun x y M Q => match x, y with | .str z, .ref p => p = d ∧ Q (.bl (if neg then !(P z).isSome else (P z).isSome)) M | _, _ => False
theorem op_intab3 (T : Tab X.K X.w d P) : ∃ r, OpR X (compareOp .In) r ∧ OpL X.K r (r3Tab false d P) := by
  obtain ⟨es, n, kd⟩ := T.kd
  refine ⟨_, op_in_kd kd, fun F M H dx dy x y Q3 Q rm ix iy q k => ?_⟩
  unfold r3Tab at q
  split at q
  · rename_i z p
    cases ix; cases iy
    obtain ⟨rfl, q⟩ := q
    obtain ⟨r, e, m⟩ := T.all z
    refine ⟨_, r, rfl, rfl, e, ?_⟩
    have er : (if false = true then !(P z).isSome else (P z).isSome) = r.isSome := by
      cases h1 : P z <;> cases r <;> rw [h1] at m <;> first | rfl | exact m.elim
    rw [er] at q
    exact k _ _ _ _ _ (.refl rm) (.bl _) q
  · exact q.elim
theorem op_notintab3 (T : Tab X.K X.w d P) : ∃ r, OpR X (compareOp .NotIn) r ∧ OpL X.K r (r3Tab true d P) := by
  obtain ⟨es, n, kd⟩ := T.kd
  refine ⟨_, op_notIn_kd kd, fun F M H dx dy x y Q3 Q rm ix iy q k => ?_⟩
  unfold r3Tab at q
  split at q
  · rename_i z p
    cases ix; cases iy
    obtain ⟨rfl, q⟩ := q
    obtain ⟨r, e, m⟩ := T.all z
    refine ⟨_, r, rfl, rfl, e, ?_⟩
    have er : (if true = true then !(P z).isSome else (P z).isSome) = !r.isSome := by
      cases h1 : P z <;> cases r <;> rw [h1] at m <;> first | rfl | exact m.elim
    rw [er] at q
    exact k _ _ _ _ _ (.refl rm) (.bl _) q
  · exact q.elim
theorem e3_cmpX {op : CmpOp} {r3 : R3} (ho : ∃ r, OpR X (compareOp op) r ∧ OpL X.K r r3) (ha : E3 X a ta) (hb : E3 X b tb) (hm : behindInMarks op b = false := by first | exact nomark _ | rfl) : E3 X (.Compare a [op] [b] pos) (op3 r3 ta tb) :=
  let ⟨_, h⟩ := ho; e3_cmp h ha hb hm
theorem t3_cmpX {op : CmpOp} {r3 : R3} (ho : ∃ r, OpR X (compareOp op) r ∧ OpL X.K r r3) (ha : E3 X a ta) (hb : E3 X b tb) (hm : behindInMarks op b = false := by first | exact nomark _ | rfl) : T3 X (.Compare a [op] [b] pos) (tst3 (op3 r3 ta tb)) :=
  let ⟨_, h⟩ := ho; t3_cmp h ha hb hm
def r3TabIx (d : Addr) (P : Str → Option D) : R3 := fun x y M Q => match x, y with | .ref p, .str z => p = d ∧ (match P z with | some dd => Q dd M | none => False) | _, _ => False
def rKdIx (K : PySem.W.Frag) (d : Addr) : R2 := fun x y H Q => ∃ (z : Str) (u0 : Value) (v0 : V), x = .ref d ∧ y = .str z ∧ PySem.W.nsIn K d z = some (some u0) ∧ RelV v0 u0 ∧ Q v0 H
theorem pe_tabix {es : Array DictEntry} {n : Nat} {ta tb : TE} (kd : KDict X.K X.w d es n) (ha : PE X a ta) (hb : PE X b tb) (hs : NoSl b) : PE X (.Subscript a b pos) (tOp (rKdIx X.K d) ta tb) := by
  refine ⟨fun pins s σ H Q I h => ?_⟩
  refine subD_of PySem.F.slot_dict_getitem.lookup hs (thn (ha.run pins s σ H _ I h) fun u s1 ⟨x, H1, I1, rx, q1⟩ => thn (hb.run pins s1 σ H1 _ I1 q1) fun iv s2 ⟨y, H2, I2, ry, q2⟩ => ?_)
  have q3 := q2
  obtain ⟨z, u0, v0, rfl, rfl, e, r, q2⟩ := q2
  have rx' := rx
  obtain rfl : u = Value.ref d := rx
  exact ⟨kd_type kd I2, op_item_kd kd pins s2 σ H2 _ _ _ _ Q I2 rx' ry q3⟩
theorem e3_tabix (T : Tab X.K X.w d P) (ha : E3 X a ta) (hb : E3 X b tb) (hs : NoSl b := by exact fun _ _ => rfl) : E3 X (.Subscript a b pos) (op3 (r3TabIx d P) ta tb) := by
  obtain ⟨es, n, kd⟩ := T.kd
  refine pe_imp (pe_tabix kd ha hb hs) fun _ _ _ h => lift2 (fun F M H dx dy x y Q3 Q rm ix iy q k => ?_) h
  unfold r3TabIx at q
  split at q
  · rename_i p z
    cases ix; cases iy
    obtain ⟨rfl, q⟩ := q
    obtain ⟨r, e, m⟩ := T.all z
    split at q
    · rename_i dd ed
      rw [ed] at m
      cases r with
      | none => exact m.elim
      | some u =>
        obtain ⟨v, rv, iv⟩ := m
        exact ⟨z, u, v, rfl, rfl, e, rv, k _ _ _ _ _ (.refl rm) (iv F) q⟩
    · exact q.elim
  · exact q.elim
end

/-! ### pot[0], digit = divmod(..) -/
section
variable {X : Cx} {o i e : Expr} {to ti te : TE3} {pos : Pos}
def dm3 (to ti : TE3) (j : Nat) (te : TE3) (D : Ends3) (δ : St3) (M : Mem) : Prop := te δ M fun d M1 => match d with
  | .tup [a, b] => to δ M1 fun o M2 => ti δ M2 fun i M3 => (match o, i with
    | .ref p, .int n => (match M3 p with | some (.lst ds) => (match ixN ds.length n with | some jx => D.nx (δ.set j (some b)) (put M3 p (.lst (ds.set jx a))) | none => False) | _ => False)
    | _, _ => False)
  | _ => False
theorem s3_dm {j : Nat} {y : Str} {pos' py pt : Pos} {kt : Nat} (hc : X.calm = true) (hN : X.N.Nodup) (hi' : X.N[j]? = some y) (hx : Loc X.env.scope y) (ho : E3 X o to) (hi : E3 X i ti) (he : E3 X e te)
    (hf : X.fn y = true ∨ X.env.scope.names.lookup y = some .local := by first | exact .inl rfl | exact .inr rfl | assumption)
    (ha : ∀ v, assign (.Subscript o i pos') X.env v = (do
      let ov ← holding [v] (eval o X.env)
      let iv ← holding [v, ov] (eval i X.env)
      standAt pos'
      holding [v, ov, iv] (setItem ov iv v)
      release [v, ov, iv] []) := by intro _; rfl)
    (h1 : (assignEach [.Subscript o i pos', .Name y py] X.env).map (·.2) = assign (.Subscript o i pos') X.env :: (assignEach [.Name y py] X.env).map (·.2) := by rfl)
    (h2 : (assignEach [.Name y py] X.env).map (·.2) = assign (.Name y py) X.env :: (assignEach [] X.env).map (·.2) := by rfl)
    (hn : (assignEach [.Subscript o i pos', .Name y py] X.env).length = 2 := by rfl) (hst : (assignEach [.Subscript o i pos', .Name y py] X.env).findIdx? (·.1) = none := by rfl)
    (hs : swapsWithSole [.Tuple [.Subscript o i pos', .Name y py] kt pt] e pos.line X.env = pure false := by rfl) (hw : swappedStores [.Tuple [.Subscript o i pos', .Name y py] kt pt] e X.env = pure none := by rfl)
    (h3 : (assignEach [.Tuple [.Subscript o i pos', .Name y py] kt pt] X.env).map (·.2) = [assign (.Tuple [.Subscript o i pos', .Name y py] kt pt) X.env] := by rfl) :
    S3 X (.Assign [.Tuple [.Subscript o i pos', .Name y py] kt pt] e pos) (dm3 to ti j te) :=
  ps_imp (ps_asg he (pg_tup hc (pgs_cons (pg_sub ho hi set_list ha) (pgs_cons (pg_name hN hi' hx hf) pgs_nil h2) h1) hn hst) hs hw h3) fun D σ H ⟨F, M, δ, E, rm, sl, q, k⟩ => ⟨F, M, δ, _, rm, sl, q, fun F1 M1 H1 d v x1 iv q1 => by
    split at q1
    · cases iv with
      | tup h1 h2 =>
        cases h2 with
        | cons ra t => cases t with
          | cons rb t' =>
            cases t'
            refine ⟨_, _, rfl, sqT_mono x1.rm.sub h1, rfl, _, _, rfl, F1, M1, δ, _, x1.rm, sl.mono x1.same, q1, fun F2 M2 H2 od ov x2 io q2 => ⟨F2, M2, δ, _, x2.rm, (sl.mono x1.same).mono x2.same, q2, fun F3 M3 H3 id' iv' x3 ii q3 => ?_⟩⟩
            split at q3
            · cases io; cases ii
              split at q3
              · rename_i ds e0
                split at q3
                · rename_i jx ej
                  obtain ⟨_, vs, h1, h2⟩ := x3.rm.ok _ _ e0
                  have w := Ext.write (o' := .lst (ds.set jx _)) (u := .lst (vs.set jx _)) x3.rm e0 ⟨_, upd_same, h2.set (ra.mono (x2.same.trans x3.same)) jx⟩
                  refine ⟨_, vs, _, jx, rfl, rfl, h1, by rw [← h2.length]; exact ej, _, _, rfl, rfl, k.nx _ _ _ _ _ (x1.trans (x2.trans (x3.trans w))) ((sl.mono (x1.same.trans (x2.same.trans x3.same))).set (rb.mono (x2.same.trans x3.same)) j) q3⟩
                · exact q3.elim
              · exact q3.elim
            · exact q3.elim
    · exact q1.elim⟩
/-- code that the proof never comes to -/
def never3 (_ : Ends3) (_ : St3) (_ : Mem) : Prop := False
theorem s3_never {st : Stmt} : S3 X st never3 := ps_imp ps_never fun D σ H ⟨F, M, δ, E, rm, sl, q, k⟩ => q
theorem b3_never {st : List Stmt} : B3 X st never3 := pss_imp pss_never fun D σ H ⟨F, M, δ, E, rm, sl, q, k⟩ => q
end
end L3

namespace L3
open PySem PySem.Spec PyProof.Rows L2

/-! ### repr -/
mutual
theorem dp_noDict {K : PySem.W.Frag} {H : Hp} : ∀ {v : V} {d : PyData}, Dp K H v d → d.hasDict = false
  | _, _, .non => rfl
  | _, _, .bl _ => rfl
  | _, _, .int _ => rfl
  | _, _, .str _ => rfl
  | _, _, .lst _ h => dpA_noDict h
  | _, _, .tup _ h => dpA_noDict h
theorem dpA_noDict {K : PySem.W.Frag} {H : Hp} : ∀ {vs : List V} {ds : List PyData}, DpAll K H vs ds → PyData.hasDictAll ds = false
  | _, _, .nil => rfl
  | _, _, .cons h t => by
    unfold PyData.hasDictAll
    rw [dp_noDict h, dpA_noDict t]; rfl
end
def showOk (d : PyData) : Prop := d.layable0 = true ∧ d.intsShort 13 = true ∧ d.showable = true
def rRepr (K : PySem.W.Frag) : List V → Hp → VK → Prop := fun xs H Q => (xs = [.non] ∧ Q (.str "None") H) ∨ ∃ a d, xs = [.ref a] ∧ Dp K H (.ref a) d ∧ showOk d ∧ Q (.str d.shown) H
def r3Repr : RC := fun args M Q => match args with
  | [.non] => Q (.str "None") M
  | [d] => ∃ x, Py M d x ∧ (match d with | .tup _ => True | .lst _ => True | .ref _ => True | _ => False) ∧ showOk x ∧ Q (.str x.shown) M
  | _ => False
section
variable {X : Cx}
theorem call_repr (hg : X.A.guards = some []) (hu : X.A.units + 80 < cLine) : CallR X (.builtin "repr") (rRepr X.K) := by
  intro pins s σ H xs us Q I r h
  rcases h with ⟨rfl, q⟩ | ⟨a, d, rfl, hd, ⟨h1, h2, h3⟩, q⟩
  · obtain ⟨u, rfl, r1⟩ := vals1 r
    cases r1
    exact PySem.P.repr_of_none ⟨.str "None", H, I.tok _, ⟨_, rfl⟩, q⟩
  · obtain ⟨u, rfl, r1⟩ := vals1 r
    obtain rfl : u = Value.ref a := r1
    obtain ⟨as, rd⟩ := Dp.reads I d (.ref a) (.ref a) hd rfl
    have hdep : d.depth ≤ 64 := SeqAt.depth_of_shaped (SeqAt.shaped_of_layable h1)
    have hsz : d.shown.length ≤ sizeLine := Nat.le_trans (shown_le13 h1 h2) (by rw [sizeLine_eq]; decide)
    exact repr_of_reads' rd h3 (PyData.noDict_hsm (dp_noDict hd)) hg (by omega) (fun b o e => e) (fun h' u tk hk => ⟨.str d.shown, H, I.kept hk, ⟨_, rfl⟩, q⟩) hsz
theorem c3_repr (hg : X.A.guards = some []) (hu : X.A.units + 80 < cLine) : CallR X (.builtin "repr") (rRepr X.K) ∧ CaL X.K (rRepr X.K) r3Repr := ⟨call_repr hg hu, fun F M H ds vs Q3 Q rm ia q k => by
  unfold r3Repr at q
  split at q
  · cases ia with
    | cons r t => cases t; cases r; exact .inl ⟨rfl, k _ _ _ _ _ (.refl rm) (.str _) q⟩
  · obtain ⟨x, py, hd, ok, q⟩ := q
    cases ia with
    | cons r t =>
      cases t
      have dp := py.dp rm r
      have q' := k _ _ _ _ _ (.refl rm) (.str x.shown) q
      cases r with
      | tup h1 h2 => exact .inr ⟨_, x, rfl, dp, ok, q'⟩
      | lst h1 h2 => exact .inr ⟨_, x, rfl, dp, ok, q'⟩
      | ref a => exact .inr ⟨_, x, rfl, dp, ok, q'⟩
      | _ => exact hd.elim
  · exact q.elim⟩
end

/-! ### defs that are called where nothing is being shown -/
structure FnG (P : Program) (w : World) (K : PySem.W.Frag) (mg : Str → Option Value) (base : Heap) (k : Nat) (f : Addr) (fd : FuncData) (ps : List Str) (s : Sp3) : Prop where
  len : ∀ ds M Q E, s ds M Q E → ds.length = ps.length
  run : ∀ (A : Around) (outer : List Env) (s0 : Shared) (H : Hp) (args : Args) (us : List Value) (vs : List V) (Q : VK) (E : XK), A.guards = some [] → Room k A → Env0 P w K mg base A outer s0 H → BindsTo s0 fd args (ps.zip us) → Vals vs us → sp3 K s vs H Q E →
    codeAny (model P w) A (.call (.ref f) args) (CR CX0 outer P w H s0 Q E) s0
section
variable {P : Program} {w : World} {K : PySem.W.Frag} {mg : Str → Option Value} {base : Heap}
theorem sp3_len {K : PySem.W.Frag} {s : Sp3} {n : Nat} (len : ∀ ds M Q E, s ds M Q E → ds.length = n) {vs : List V} {H : Hp} {Q : VK} {E : XK} (h : sp3 K s vs H Q E) : vs.length = n := by
  obtain ⟨F, M, ds, Q3, E3, rm, iv, q, _⟩ := h
  rw [← iv.length]; exact len _ _ _ _ q
theorem okG {x qual : Str} {st : Stmt} {f : Addr} {fd : FuncData} {N ps : List Str} {k : Nat} {sp : Sp3} (F : Fun K x qual st f fd) (S : FnScope N ps (defScope st)) (len : ∀ ds M Q E, sp ds M Q E → ds.length = ps.length)
    (hbody : ∀ (cdv : Value) (A : Around) (outer : List Env) (s : Shared) (H : Hp) (E : XK), Room k (A.deeper (envOfC qual (defScope st) s.heap.objs.size f cdv)) → A.guards = some [] →
      ∃ t, B3 (cxOf CX0 P w K mg base N qual (defScope st) f cdv A outer s H E).nox (defBody st) t ∧ ∀ ds M Q E', sp ds M Q E' → t { nx := fun _ M' => Q .non M', rt := Q } (start3 N ds) M) : FnG P w K mg base (k + 1) f fd ps sp := by
  obtain ⟨oc, od, kV, doc, pm, an, cdv, ct, osl, rfl, lk, hcd⟩ := F.ex
  refine ⟨len, fun A outer s H args us vs Q E hg hr e0 hb r hsp => ?_⟩
  have hl := sp3_len len hsp
  have inHeap : K.In s.heap := e0.mod.kin.keeps fun b o e => (e0.bs b o e).1
  have noLim : s.heap.NoLimit := e0.mod.nolimit.keeps fun b o e => (e0.bs b o e).1
  have kinds : ∀ y ∈ ps.zip us, (defScope st).names.lookup y.1 = some .local ∨ ((defScope st).names.lookup y.1 = some .cell ∧ ((cellsFrom (s.heap.objs.size + 1) (defScope st).names []).lookup y.1).isSome = true) := fun ⟨n, v⟩ hy =>
    (S.par n (List.of_mem_zip hy).1).elim .inl fun q => .inr ⟨q, PySem.W.cellsFrom_some _ _ _ (.inl q)⟩
  refine codeAny_call_function hr.depth (inHeap _ _ lk) rfl S.co S.gen rfl (PySem.W.codeRec_of inHeap hcd) (hb _ _ _ _ (wpAny_newFunctionEnv_cells S.kind kinds fun env he s1 x => ?_))
  subst he
  refine ⟨noLim.keeps x.toInCall.keep, codeAny_func ?_⟩
  obtain ⟨t, ht, hq⟩ := hbody cdv A outer s H E (hr.deeper _) hg
  obtain ⟨F0, M, ds, Q3, E3, rm, iv, q, k3, x3⟩ := hsp
  have I := inv_start (CX := CX0) (E := E) S hr.hd e0 hl r x
  have q0 : upS K t { nx := fun _ H' => Q .non H', rt := Q } (start N vs) H := ⟨F0, M, start3 N ds, _, rm, Sl.start iv, hq ds M Q3 E3 q, fun F' M' H' δ σ x sl q => k3 _ _ _ _ _ x .non q, k3, fun _ _ _ _ _ _ _ h => h.elim, fun _ _ _ _ _ _ _ h => h.elim⟩
  refine wpAny_mono (ht.nox.run [] s1 (start N vs) H _ I q0) (fun fl s' hs => ?_) fun e s' hs => hs
  cases fl with
  | ret u => obtain ⟨v, σ', H', J, rv, q⟩ := hs; exact ⟨v, H', J.os, J.bare, J.base, J.hok, rv, q⟩
  | next => obtain ⟨σ', H', J, q⟩ := hs; exact ⟨.non, H', J.os, J.bare, J.base, J.hok, rfl, q⟩
  | brk => obtain ⟨_, _, _, q⟩ := hs; exact q.elim
  | cont => obtain ⟨_, _, _, q⟩ := hs; exact q.elim
theorem fnG_of {k : Nat} {f : Addr} {fd : FuncData} {ps : List Str} {s : Sp3} (len : ∀ ds M Q E, s ds M Q E → ds.length = ps.length) (F : FnOk P w K mg base CX0 k f fd ps (sp3 K s)) : FnG P w K mg base k f fd ps s :=
  ⟨len, fun A outer s0 H args us vs Q E _ hr e0 hb hv hs => F.run A outer s0 H args us vs Q E hr e0 hb hv hs⟩
end
section
variable {X : Cx} {k : Nat} {f : Addr} {fd : FuncData} {ps : List Str} {s : Sp3} {x : Str} {p pos : Pos} {e : Expr} {es : List Expr} {t : TA3}
theorem e3_callG (F : FnG X.prog X.w X.K X.mg X.base k f fd ps s) (hgu : X.A.guards = some []) (hr : Room k X.A) (hg : Gl X x) (hm : X.mg x = some (.ref f)) (hk : PySem.W.keepIn X.K (.ref f) = true) (hb : Binds X.K fd ps []) (ha : A3 X (e :: es) t)
    (hdb : (x == ("__debug__" : Str)) = false := by decide) (he : starEach (e :: es) X.env = (false, eval e X.env) :: starEach es X.env := by rfl) (hpl : (backTo pos (starEach es X.env)).any (·.1) = false := by rfl) :
    E3 X (.Call (.Name x p) (e :: es) [] pos) (call3 s t) := by
  refine ⟨fun pins s0 σ H Q I h => ?_⟩
  obtain ⟨F0, M, δ, Q3, rm, sl, q, k3⟩ := h
  refine wpAny_Call_Name_kw (ld_glob I hg hm ?_ hdb)
  refine PySem.W.callWith_K (h₀ := X.base) I.ok.mod.kin hk (thn (ha.run pos pins s0 σ H (fun vs H1 => sp3 X.K s vs H1 Q E0) I ⟨F0, M, δ, _, rm, sl, q, fun F1 M1 H1 ds vs x1 iv q1 => ⟨F1, M1, ds, Q3, no3, x1.rm, iv, q1, k3.ext x1, X3.no⟩⟩) fun us s1 ⟨vs, H1, I1, r, q⟩ => ⟨I1.kIn, ?_⟩) he hpl
  have hl : us.length = ps.length := by rw [← r.length]; exact sp3_len F.len q
  have hb' := hb s1 us I1.kIn (by rw [List.append_nil]; exact hl)
  rw [List.append_nil] at hb'
  refine wpAny_call (codeAny_mono (F.run X.A X.stack s1 H1 ⟨us, []⟩ us vs Q E0 hgu hr I1.env0 hb' r q) fun r s' hq => ?_)
  cases r with
  | error e => exact False.elim hq
  | ok fl =>
    cases fl with
    | ret u => exact I1.after hq
    | next => exact False.elim hq
    | brk => exact False.elim hq
    | cont => exact False.elim hq
end

/-! ### the law's end -/
/-- the law: of a script it hands back True -/
def spLaw : Sp3 := fun ds M Q _ => ∃ ns : List Int, ds = [.scr ns] ∧ ns.length ≤ 63 ∧ (∀ a, M a = none) ∧ ∀ M', Q (.bl true) M'
theorem law_sp {K : PySem.W.Frag} {H : Hp} {a : Addr} {ns : List Int} (hl : ns.length ≤ 63) (h : SqL K H a (ns.map V.int)) {E : XK} : sp3 K spLaw [.ref a] H (fun v _ => v = .bl true) E :=
  ⟨H, fun _ => none, [.scr ns], fun d _ => d = .bl true, no3, ⟨Same.refl _, fun _ _ e => by cases e⟩, .cons (.scr h) .nil, ⟨ns, rfl, hl, fun _ => rfl, fun _ => rfl⟩, fun F' M' H' d v x iv e => by subst e; cases iv; rfl, X3.no⟩
end L3

namespace L3
open PySem PySem.Spec PyProof.Rows L2

section
variable {P : Program} {w : World} {K : PySem.W.Frag} {mg mb : Str → Option Value} {k : Nat} {fa a : Addr} {fd : FuncData} {x : Str} {s₁ : Shared} {vs : List Value} {ns : List Int}
/-- from an abstract heap that holds at most the script -/
theorem law_core (KX : K.In s₁.heap) (hns : s₁.heap.Ns mainGlobals mg) (hb : s₁.heap.Ns builtinsNs mb) (hbb : ∀ x : Str, x ≠ "__name__" → mb x = bootBuiltins x) (hlim : s₁.heap.NoLimit) (hg : s₁.gens = #[])
    (ha : s₁.heap.get? a = some { cls := .type "list", data := .seq vs.toArray }) (hl : ns.length ≤ 63) (hr : Room k callerA)
    (F : ∀ base : Heap, K.In base → base.Ns mainGlobals mg → FnG P w K mg base k fa fd [x] spLaw) (hbind : ∀ (s : Shared) (u : Value), BindsTo s fd ⟨[u], []⟩ [(x, u)])
    (H : Hp) (only : ∀ b u, H b = some u → b = a ∧ K.lookup a = none ∧ ∃ o xs, u = .frz o (.lst xs)) (hS : SqL K H a (ns.map V.int)) (hok : HOk P w H s₁.heap) :
    codeAny (model P w) callerA (.call (.ref fa) ⟨[.ref a], []⟩) (fun r s' => r = .ok (.ret (.bool true)) ∧ OldK s₁.heap s'.heap ∧ s'.os = s₁.os ∧ AllBare s'.gens) s₁ := by
  have toBase : ∀ {b : Addr} {o : Obj}, s₁.heap.get? b = some o → (H b = none) → (hidT s₁.heap H).get? b = some o := fun e n => hidT_get e n
  have nsFree : ∀ {b : Addr} {m : Str → Option Value}, s₁.heap.Ns b m → (hidT s₁.heap H).Ns b m := fun {b m} ⟨o, es, ep, e, d, r⟩ => by
    refine ⟨o, es, ep, toBase e ?_, d, r⟩
    cases q : H b with
    | none => rfl
    | some u =>
      obtain ⟨rfl, _⟩ := only b u q
      rw [ha] at e
      cases e
      exact absurd (show Data.seq vs.toArray _ = Data.dict es ep from d) (fun z => by cases z)
  have kBase : K.In (hidT s₁.heap H) := fun b o e => toBase (KX b o e) (by
    cases q : H b with
    | none => rfl
    | some u =>
      obtain ⟨rfl, hk, _⟩ := only b u q
      rw [hk] at e
      cases e)
  obtain ⟨mc, hc1, hc2⟩ := hlim
  have md : Mod K mg (hidT s₁.heap H) := ⟨kBase, nsFree hns, ⟨mb, nsFree hb, hbb⟩, ⟨mc, nsFree hc1, hc2⟩⟩
  have e0 : Env0 P w K mg (hidT s₁.heap H) callerA [] s₁ H := ⟨rfl, md, fun b o e => of_hidT e, Nat.le_of_eq (hidT_size _ _), trivial, fun b hb => absurd (show b ∈ ([] : List Addr) from hb) (by simp), hok, .of_eq hg⟩
  refine codeAny_mono ((F _ kBase (nsFree hns)).run callerA [] s₁ H ⟨[.ref a], []⟩ [.ref a] [.ref a] _ (fun _ _ _ => False) rfl hr e0 (hbind s₁ (.ref a)) (.cons rfl .nil) (law_sp hl hS)) fun r s' h => ?_
  match r, h with
  | .error e, h => exact False.elim h
  | .ok .next, h => exact False.elim h
  | .ok .brk, h => exact False.elim h
  | .ok .cont, h => exact False.elim h
  | .ok (.ret u), h =>
    obtain ⟨v, H', os, bare, un, hok', r', q⟩ := h
    obtain rfl : v = .bl true := q
    obtain rfl : u = Value.bool true := r'
    refine ⟨rfl, OldK.of_keep fun b o e => ?_, os, bare⟩
    cases q : H b with
    | none => exact un.keep b o e q (fun z => absurd (show b ∈ ([] : List Addr) from z) (by simp)) (by simp)
    | some u =>
      obtain ⟨_, _, ob, xs, rfl⟩ := only b u q
      obtain ⟨e1, _⟩ := hok b _ q
      obtain ⟨e2, _⟩ := hok' b _ (un.frzs b ob _ q)
      rw [e] at e1
      cases e1
      exact e2
theorem law_callG (KX : K.In s₁.heap) (hns : s₁.heap.Ns mainGlobals mg) (hb : s₁.heap.Ns builtinsNs mb) (hbb : ∀ x : Str, x ≠ "__name__" → mb x = bootBuiltins x) (hlim : s₁.heap.NoLimit) (hg : s₁.gens = #[])
    (ha : s₁.heap.get? a = some { cls := .type "list", data := .seq vs.toArray }) (hi : IntsAre vs ns) (hl : ns.length ≤ 63) (hr : Room k callerA)
    (F : ∀ base : Heap, K.In base → base.Ns mainGlobals mg → FnG P w K mg base k fa fd [x] spLaw) (hbind : ∀ (s : Shared) (u : Value), BindsTo s fd ⟨[u], []⟩ [(x, u)]) :
    codeAny (model P w) callerA (.call (.ref fa) ⟨[.ref a], []⟩) (fun r s' => r = .ok (.ret (.bool true)) ∧ OldK s₁.heap s'.heap ∧ s'.os = s₁.os ∧ AllBare s'.gens) s₁ := by
  have rv := L2.vals_ints hi
  have z63 : ns.length ≤ sizeLine := Nat.le_trans hl (by rw [sizeLine_eq]; decide)
  cases hk : K.lookup a with
  | some o =>
    have e := KX a o hk
    rw [ha] at e
    cases e
    exact law_core KX hns hb hbb hlim hg ha hl hr F hbind (fun _ => none) (fun b u z => by cases z) (.inr ⟨_, vs.toArray, _, hk, rfl, rfl, rfl, by rw [List.size_toArray, hi.length]; exact z63, by simpa using rv⟩) (fun b u z => by cases z)
  | none =>
    have at_ : ∀ {b : Addr} {u : HO}, (if b = a then some (HO.frz { cls := .type "list", data := .seq vs.toArray } (.lst (ns.map V.int))) else none) = some u → b = a ∧ u = .frz { cls := .type "list", data := .seq vs.toArray } (.lst (ns.map V.int)) := fun {b u} z => by
      by_cases hb : b = a
      · rw [if_pos hb] at z; exact ⟨hb, (Option.some.inj z).symm⟩
      · rw [if_neg hb] at z; cases z
    refine law_core KX hns hb hbb hlim hg ha hl hr F hbind (fun b => if b = a then some (.frz { cls := .type "list", data := .seq vs.toArray } (.lst (ns.map V.int))) else none) (fun b u z => ?_) (.inl (.inr ⟨{ cls := .type "list", data := .seq vs.toArray }, if_pos rfl⟩)) (fun b u z => ?_)
    · obtain ⟨rfl, rfl⟩ := at_ z
      exact ⟨rfl, hk, _, _, rfl⟩
    · obtain ⟨rfl, rfl⟩ := at_ z
      exact ⟨ha, by rw [List.length_map]; exact z63, vs, _, rv, ha⟩
end
/-- the goal that k_head leaves, from the law's def -/
theorem walk3 {l : PySem.W.OpenLaw} {k : Nat} {q : Program} {loose : List Str} {XP : (Str → Option Value) → Heap → Prop} {YP : World → Heap → Prop} {d : DefRec} {K : Params → PySem.W.Frag} {x : Str}
    (hn : l.most = some 63) (hdf : d.params.defaults = []) (hr : Room k callerA) (hY : ∀ (w : World) (h : Heap), YP w h → (K w.params).In h)
    (F : ∀ (w : World) (mg : Str → Option Value) (fa : Addr) (h : Heap), (K w.params).In h → h.Ns mainGlobals mg → mg d.name = some (.ref fa) →
      ∃ fd : FuncData, (∀ (s : Shared) (u : Value), BindsTo s fd ⟨[u], []⟩ [(x, u)]) ∧
        ∀ base : Heap, (K w.params).In base → base.Ns mainGlobals mg → FnG l.prog w (K w.params) mg base k fa fd [x] spLaw) :
    PySem.W.WalkO q loose XP YP l.row.toRowW d [] (fun f vs => PySem.call f vs) := by
  refine Att.attach_call hn hdf fun w s₀ s₁ mg mb fa o pm cd doc a vs ns G Y ho hd hcd hmg hobj hints hlen hg => ?_
  have KX := hY w _ Y
  obtain ⟨fd, hb, hF⟩ := F w mg fa _ KX G.T.g hmg
  exact law_callG KX G.T.g G.T.b G.T.builtins G.T.nolimit hg hobj hints hlen hr hF hb
end L3

namespace L3
open PySem PySem.Spec PyProof.Rows L2

abbrev r3Sub : R3 := r3I0 fun i j => i - j
abbrev r3Mod : R3 := r3I (fun _ j => 0 < j) fun i j => i % j
abbrev r3Fdiv : R3 := r3I CDiv fun i j => i / j
abbrev r3Pow : R3 := r3I CPow fun i j => i ^ j.toNat
abbrev r3Lt : R3 := r3B fun i j => decide (i < j)
abbrev r3Le : R3 := r3B fun i j => decide (i ≤ j)
abbrev r3Gt : R3 := r3B fun i j => decide (j < i)
abbrev r3Ge : R3 := r3B fun i j => decide (j ≤ i)
theorem units80 {k : Nat} {A : Around} (hr : Room k A) (h : 2 ≤ k) : A.units + 80 < cLine := by have := hr.un; omega
abbrev r3Max : RC := r3II fun i j => if j > i then j else i
abbrev r3Min : RC := r3II fun i j => if j < i then j else i
section
variable {X : Cx} {pos : Pos} {x : Str}
theorem e3_gint {i : Int} (hg : Gl X x) (h : ∃ t, X.mg x = some (.int i t)) (hd : (x == ("__debug__" : Str)) = false := by decide) : E3 X (.Name x pos) (c3 (.int i)) := by
  obtain ⟨t, h⟩ := h
  exact e3_glob (v := .int i) hg h ⟨t, rfl⟩ (fun _ => .int i) hd
theorem e3_gstr {i : Str} (hg : Gl X x) (h : ∃ t, X.mg x = some (.str i t)) (hd : (x == ("__debug__" : Str)) = false := by decide) : E3 X (.Name x pos) (c3 (.str i)) := by
  obtain ⟨t, h⟩ := h
  exact e3_glob (v := .str i) hg h ⟨t, rfl⟩ (fun _ => .str i) hd
/-- a module's tuple of texts -/
theorem e3_gtup {ds : List D} (hg : Gl X x) (h : ∃ a, X.mg x = some (.ref a) ∧ ∀ F, Is X.K F (.tup ds) (.ref a)) (hd : (x == ("__debug__" : Str)) = false := by decide) : E3 X (.Name x pos) (c3 (.tup ds)) := by
  obtain ⟨a, h, i⟩ := h
  exact e3_glob (v := .ref a) hg h rfl i hd
end

/-! ### tables of the top -/
theorem isTup2 {K : PySem.W.Frag} {a : Addr} {i j : Int} {t u : Tok} {od : Option Addr} {n : Nat} {sl : Array (Option Value)} (h : K.lookup a = some ⟨.type "tuple", od, .seq #[.int i t, .int j u] n, sl⟩) (F : Hp) : Is K F (.tup [.int i, .int j]) (.ref a) :=
  .tup (vs := [.int i, .int j]) (.inr ⟨_, #[.int i t, .int j u], n, h, rfl, rfl, by rw [sizeLine_eq]; exact (by decide : (2 : Nat) ≤ 16777216), .cons ⟨t, rfl⟩ (.cons ⟨u, rfl⟩ .nil)⟩) (.cons (.int i) (.cons (.int j) .nil))
theorem tab_mk {K : PySem.W.Frag} {w : World} {d : Addr} {n : Nat} (l : List (Str × Int × Tok × Value)) (P : Str → Option D) (at_ : K.lookup d = some ⟨.type "dict", none, .dict (l.map fun q => (⟨q.2.1, .str q.1 q.2.2.1, q.2.2.2⟩ : DictEntry)).toArray n, #[]⟩)
    (lit : ∀ q ∈ l, q.2.1 = PyData.keyHash w.params q.1) (low : (d == sysModules) = false) (all : ∀ z, match P z, (l.find? fun q => decide (q.1 = z)).map (·.2.2.2) with | some dd, some u => ∃ v, RelV v u ∧ ∀ F, Is K F dd v | none, none => True | _, _ => False) : Tab K w d P := by
  refine ⟨⟨_, n, at_, ?_, low⟩, fun z => ⟨(l.find? fun q => decide (q.1 = z)).map (·.2.2.2), ?_, all z⟩⟩
  · show PySem.W.KeysLit w.params (l.map fun q => (⟨q.2.1, .str q.1 q.2.2.1, q.2.2.2⟩ : DictEntry))
    clear at_ all
    induction l with
    | nil => trivial
    | cons q r ih => exact ⟨⟨_, _, rfl, lit q List.mem_cons_self⟩, ih fun q hq => lit q (List.mem_cons_of_mem _ hq)⟩
  · unfold PySem.W.nsIn
    rw [at_]
    simp only
    have key : ∀ q : Str × Int × Tok × Value, (Value.str q.1 q.2.2.1).isStr z = decide (q.1 = z) := fun q => by
      rw [PySem.W.isStr_of]
      unfold Value.isStrOf
      rw [Bool.eq_iff_iff]
      simp
    clear at_ lit all
    induction l with
    | nil => rfl
    | cons q r ih =>
      simp only [List.map_cons, List.find?_cons, key q]
      cases h : decide (q.1 = z) with
      | true => rfl
      | false =>
        simp only [List.any_cons, show (DictEntry.refKey ⟨q.2.1, .str q.1 q.2.2.1, q.2.2.2⟩) = false from rfl, Bool.false_or] at ih ⊢
        exact ih

/-! ### how many there are of unlike ones -/
theorem sub_le : ∀ {ks r : List Int}, ks.Nodup → (∀ j ∈ ks, j ∈ r) → ks.length ≤ r.length
  | [], _, _, _ => Nat.zero_le _
  | k :: ks, r, h, s => by
    obtain ⟨h1, h2⟩ := List.nodup_cons.mp h
    have hk : k ∈ r := s k List.mem_cons_self
    have := sub_le (r := r.erase k) h2 fun j hj => (List.mem_erase_of_ne (fun e => h1 (by subst e; exact hj))).mpr (s j (List.mem_cons_of_mem _ hj))
    rw [List.length_erase_of_mem hk] at this
    have h0 : 0 < r.length := List.length_pos_of_mem hk
    rw [List.length_cons]
    omega
theorem nodup_of_le : ∀ {r ks : List Int}, ks.Nodup → (∀ j ∈ ks, j ∈ r) → r.length ≤ ks.length → r.Nodup
  | [], _, _, _, _ => List.nodup_nil
  | a :: r, ks, h, s, l => by
    rw [List.length_cons] at l
    by_cases ha : a ∈ ks
    · have h' : ∀ j ∈ ks.erase a, j ∈ r := fun j hj => by
        have hj' := (h.mem_erase_iff).mp hj
        rcases List.mem_cons.mp (s j hj'.2) with e | e
        · exact absurd e hj'.1
        · exact e
      have hl : (ks.erase a).length = ks.length - 1 := List.length_erase_of_mem ha
      refine List.nodup_cons.mpr ⟨fun har => ?_, nodup_of_le (h.erase a) h' (by omega)⟩
      have := sub_le (r := r) h fun j hj => by
        rcases List.mem_cons.mp (s j hj) with e | e
        · exact e ▸ har
        · exact e
      omega
    · have := sub_le (r := r) h fun j hj => by
        rcases List.mem_cons.mp (s j hj) with e | e
        · exact absurd (e ▸ hj) ha
        · exact e
      omega
theorem count_iff {ks ns : List Int} (h : ks.Nodup) (e : ∀ j, j ∈ ns ↔ j ∈ ks) : ks.length = ns.length ↔ ns.Nodup := by
  constructor
  · exact fun l => nodup_of_le h (fun j hj => (e j).mpr hj) (by omega)
  · exact fun hn => Nat.le_antisymm (sub_le h fun j hj => (e j).mpr hj) (sub_le hn fun j hj => (e j).mp hj)
section
variable {X : Cx} {a : Expr} {p p2 q pos : Pos}
def tLenSetT (K : PySem.W.Frag) (ta : TE) : TE := fun σ H Q => ta σ H fun x H1 => ∃ (l : Addr) (ns : List Int), x = .ref l ∧ SqT K H1 l (ns.map V.int) ∧ ns.length + 1 < scanBound ∧ ∀ c : Nat, (c = ns.length ↔ ns.Nodup) → Q (.int c) H1
theorem pe_lenSetT {ta : TE} (hg : Gl X "len") (hm : X.mg "len" = none) (hg2 : Gl X "set") (hm2 : X.mg "set" = none) (ha : PE X a ta) (hc : X.calm = true := by rfl)
    (na : starEach [a] X.env = (false, eval a X.env) :: starEach [] X.env := by rfl) (nb : starEach [.Call (.Name "set" p2) [a] [] q] X.env = (false, eval (.Call (.Name "set" p2) [a] [] q) X.env) :: starEach [] X.env := by rfl) : PE X (.Call (.Name "len" p) [.Call (.Name "set" p2) [a] [] q] [] pos) (tLenSetT X.K ta) := by
  refine ⟨fun pins s σ H Q I h => Call_ (ld_blt I hg hm PySem.boot_len (PyProof.Rows.callWith_builtin1 (PyProof.Rows.args_cons (Call_ (ld_blt I hg2 hm2 boot_set (PyProof.Rows.callWith_type1 (PyProof.Rows.args_cons (thn (ha.run pins s σ H _ I h) fun v s1 ⟨x, H1, I1, r1, q1⟩ => PyProof.Rows.args_nil ?_) na) na rfl))) nb) nb rfl))⟩
  obtain ⟨l, ns, rfl, hq, hl, q1⟩ := q1
  cases r1
  obtain ⟨its, r, pl, hz⟩ := I1.tuple hq
  refine call_set_tupI ns (I1.ok.hd hc) (show s1.heap.IsTuple l its.toArray from pl) (by simpa using intsAre_of r) hl fun h' tk c hS hc' hk => PyProof.Rows.args_nil ?_
  obtain ⟨o, es, ep, t, ho, hex, hd, _, nd, mem, _, hf, hn, _⟩ := hS
  have I2 : Inv X pins σ H1 { s1 with heap := h', toks := tk } := I1.kept hk
  have hcl : c < 2 ^ 62 := by have e : (scanBound : Nat) ≤ 2 ^ 62 := by decide +kernel
                              omega
  refine call_len_set ho hex hd hf (by rw [hn]; omega) ⟨.int c, H1, I2.tok _, ⟨_, by rw [hn]⟩, q1 c ?_⟩
  have e1 : (es.toList.map keyOf).length = c := by rw [List.length_map, Array.length_toList, hn]
  rw [← e1]
  exact count_iff nd fun j => by rw [← mem j]; simp
def lenset3 (ta : TE3) (δ : St3) (M : Mem) (Q : VK3) : Prop := ta δ M fun d M1 => match d with
  | .tup ds => (match intsOf ds with | some ns => ns.length + 1 < scanBound ∧ ∀ c : Nat, (c = ns.length ↔ ns.Nodup) → Q (.int c) M1 | none => False)
  | _ => False
theorem e3_lenset {ta : TE3} (hg : Gl X "len") (hm : X.mg "len" = none) (hg2 : Gl X "set") (hm2 : X.mg "set" = none) (ha : E3 X a ta) (hc : X.calm = true := by rfl)
    (na : starEach [a] X.env = (false, eval a X.env) :: starEach [] X.env := by rfl) (nb : starEach [.Call (.Name "set" p2) [a] [] q] X.env = (false, eval (.Call (.Name "set" p2) [a] [] q) X.env) :: starEach [] X.env := by rfl) : E3 X (.Call (.Name "len" p) [.Call (.Name "set" p2) [a] [] q] [] pos) (lenset3 ta) :=
  pe_imp (pe_lenSetT hg hm hg2 hm2 ha hc na nb) fun σ H Q ⟨F, M, δ, Q3, rm, sl, q, k⟩ => ⟨F, M, δ, _, rm, sl, q, fun F1 M1 H1 d v x1 iv q1 => by
    split at q1
    · split at q1
      · rename_i ns e
        cases iv with
        | tup h1 h2 =>
          rw [intsOf_eq e] at h2
          rw [h2.ints] at h1
          exact ⟨_, ns, rfl, sqT_mono x1.rm.sub h1, q1.1, fun c hc => k _ _ _ _ _ x1 (.int c) (q1.2 c hc)⟩
      · exact q1.elim
    · exact q1.elim⟩
end

/-! ### names = a list -/
section
variable {X : Cx} {e : Expr} {es : List Expr} {te : TE3} {pos tpos : Pos}
def asgL3 (ts : List Tg) (te : TE3) (D : Ends3) (δ : St3) (M : Mem) : Prop := te δ M fun d M1 => match lview M1 d with | some ds => (match asgs ts ds δ with | some δ' => D.nx δ' M1 | none => False) | none => False
theorem asgs_len : ∀ {ts : List Tg} {ds : List D} {δ δ' : St3}, asgs ts ds δ = some δ' → ds.length = ts.length
  | [], [], _, _, _ => rfl
  | [], _ :: _, _, _, e => by cases e
  | _ :: _, [], _, _, e => by cases e
  | t :: ts, d :: ds, δ, δ', e => by
    unfold asgs at e
    split at e
    · simp [asgs_len e]
    · cases e
theorem s3_asgL {k n : Nat} {gs : List Tg} (he : E3 X e te) (hc : X.calm = true) (hg : Gs3 X es gs) (hl : gs.length = n) (hn : (assignEach es X.env).length = n := by rfl) (hst : (assignEach es X.env).findIdx? (·.1) = none := by rfl)
    (hs : swapsWithSole [.Tuple es k tpos] e pos.line X.env = pure false := by rfl) (hw : swappedStores [.Tuple es k tpos] e X.env = pure none := by rfl)
    (h1 : (assignEach [.Tuple es k tpos] X.env).map (·.2) = [assign (.Tuple es k tpos) X.env] := by rfl) : S3 X (.Assign [.Tuple es k tpos] e pos) (asgL3 gs te) :=
  ps_imp (ps_asg he (pg_unl hc hg hn hst) hs hw h1) fun D σ H ⟨F, M, δ, E, rm, sl, q, k⟩ => ⟨F, M, δ, _, rm, sl, q, fun F1 M1 H1 d v x1 iv q1 => by
    split at q1
    · rename_i ds ed
      split at q1
      · rename_i δ' e
        obtain ⟨a, vs, rfl, h2, h3⟩ := lview_is x1.rm iv ed
        exact ⟨_, _, rfl, .inl (.inl h2), by rw [← h3.length, asgs_len e, hl], F1, M1, δ, ds, δ', x1.rm, sl.mono x1.same, h3, e, fun σ' s _ => k.nx _ _ _ _ _ x1 s q1⟩
      · exact q1.elim
    · exact q1.elim⟩
end
end L3

namespace L3
open PySem PySem.Spec PyProof.Rows L2

/-! ### plain laws for readings -/
/-- a comprehension that changes nothing -/
theorem lcP {g : Tg} {tt : TT3} {te : TE3} {vs : List Nat} {δ : St3} {M : Mem} {Q : VK3} {ds : List D} {C : Mem → Prop} (b : D → Bool) (f : D → D) (hC : C M) (hz : ds.length < sizeLine)
    (step : ∀ d ∈ ds, ∀ (A : D → Mem → Prop) (B : Mem → Prop), (b d = true → A (f d) M) → (b d = false → B M) → match asg g d (wipe3 δ vs) with
      | some δ' => tt δ' M fun c M2 => if c = true then te δ' M2 A else B M2
      | none => False) (q : newL ((ds.filter b).map f) M Q) :
    ∃ Pv : Nat → List D → Mem → Prop, Pv 0 [] M ∧ (∀ i acc M, Pv i acc M → C M) ∧
      (∀ (i : Nat) (h : i < ds.length) acc M, Pv i acc M → match asg g ds[i] (wipe3 δ vs) with
        | some δ' => tt δ' M fun b M2 => if b = true then te δ' M2 fun y M3 => acc.length < sizeLine ∧ Pv (i + 1) (acc ++ [y]) M3 else Pv (i + 1) acc M2
        | none => False) ∧ ∀ acc M, Pv ds.length acc M → newL acc M Q := by
  refine ⟨fun i acc M' => M' = M ∧ acc = ((ds.take i).filter b).map f, ⟨rfl, by simp⟩, fun i acc M' h => h.1 ▸ hC, fun i h acc M' ⟨e1, e2⟩ => ?_, fun acc M' ⟨e1, e2⟩ => ?_⟩
  · subst e1 e2
    have hm := step ds[i] (List.getElem_mem h)
    have ht : ds.take (i + 1) = ds.take i ++ [ds[i]] := (List.take_append_getElem h).symm
    have hl : (((ds.take i).filter b).map f).length < sizeLine := by
      rw [List.length_map]
      exact Nat.lt_of_le_of_lt (Nat.le_trans (List.length_filter_le _ _) (by rw [List.length_take]; exact Nat.min_le_right _ _)) hz
    refine hm _ _ (fun e => ⟨hl, rfl, ?_⟩) fun e => ⟨rfl, ?_⟩
    · rw [ht, List.filter_append, List.map_append]; simp [e]
    · rw [ht, List.filter_append, List.map_append]; simp [e]
  · subst e1 e2
    rw [List.take_length]
    exact q
/-- the first number of which something holds -/
def firstK (P : Nat → Bool) (n : Nat) : Option Nat := (List.range n).find? P
theorem firstK_none {P : Nat → Bool} {n : Nat} (h : ∀ i, i < n → P i = false) : firstK P n = none := by
  unfold firstK
  rw [List.find?_eq_none]
  intro x hx
  rw [h x (List.mem_range.mp hx)]
  exact Bool.false_ne_true
theorem firstK_some {P : Nat → Bool} {n i : Nat} (hi : i < n) (h : P i = true) (l : ∀ j, j < i → P j = false) : firstK P n = some i := by
  unfold firstK
  rw [List.find?_eq_some_iff_getElem]
  refine ⟨h, i, by simpa using hi, by simp, fun j hj => ?_⟩
  simp [l j hj]
def faultD (tag : Str) : Option Nat → D
  | some k => .tup [.str tag, .int k]
  | none => .non
/-- what a loop over the numbered things asks: at a thing it goes on, or it is the first fault -/
theorem forP {g : Tg} {tb : TS3} {E : Ends3} {δ : St3} {M : Mem} {ds : List D} {C : Mem → Prop} (P : Nat → Bool) (I : St3 → Prop) (hC : C M) (h0 : I δ)
    (step : ∀ (i : Nat) (h : i < ds.length) (δ : St3), I δ → (∀ j, j < i → P j = false) → ∀ (N : St3 → Mem → Prop), (P i = false → ∀ δ', I δ' → N δ' M) → match asg g ds[i] δ with | some δ' => tb { E with nx := N, ct := N, bk := E.nx } δ' M | none => False)
    (q : (∀ j, j < ds.length → P j = false) → ∀ δ', I δ' → E.nx δ' M) :
    ∃ Pv : Nat → St3 → Mem → Prop, Pv 0 δ M ∧ (∀ i δ M, Pv i δ M → C M) ∧
      (∀ (i : Nat) (h : i < ds.length) δ M, Pv i δ M → match asg g ds[i] δ with | some δ' => tb { E with nx := Pv (i + 1), ct := Pv (i + 1), bk := E.nx } δ' M | none => False) ∧ ∀ δ M, Pv ds.length δ M → E.nx δ M := by
  refine ⟨fun i δ' M' => M' = M ∧ I δ' ∧ ∀ j, j < i → P j = false, ⟨rfl, h0, fun j h => absurd h (Nat.not_lt_zero _)⟩, fun i δ' M' h => h.1 ▸ hC, fun i h δ' M' ⟨e, h1, h2⟩ => ?_, fun δ' M' ⟨e, h1, h2⟩ => ?_⟩
  · subst e
    exact step i h δ' h1 h2 _ fun hp δ'' h3 => ⟨rfl, h3, fun j hj => by
      rcases Nat.lt_succ_iff_lt_or_eq.mp hj with hj | hj
      · exact h2 j hj
      · exact hj ▸ hp⟩
  · subst e
    exact q h2 δ' h1
theorem enumD_get {ds : List D} {i : Nat} (h : i < (enumD ds).length) : (enumD ds)[i] = .tup [.int (i : Nat), ds[i]'(by simpa [enumD] using h)] := by
  simp [enumD]
theorem enumD_len {ds : List D} : (enumD ds).length = ds.length := by simp [enumD]
theorem inD_strs {x : Str} {ws : List Str} : inD (.str x) (ws.map .str) = decide (x ∈ ws) := by
  unfold inD
  induction ws with
  | nil => rfl
  | cons w ws ih =>
    rw [List.map_cons, List.any_cons, ih]
    show ((w == x) || decide (x ∈ ws)) = decide (x ∈ w :: ws)
    rw [Bool.eq_iff_iff, Bool.or_eq_true, decide_eq_true_iff, decide_eq_true_iff, List.mem_cons, beq_iff_eq]
    exact ⟨fun h => h.imp Eq.symm id, fun h => h.imp Eq.symm id⟩
theorem flat_strs {ws : List Str} : (ws.map D.str).all flatD = true := by simp [flatD]
theorem flat_ints {ws : List Int} : (ws.map D.int).all flatD = true := by simp [flatD]
theorem cutD_toI {xs : List D} {i : Int} (h : 0 ≤ i) : cutD xs none (some i) = xs.take i.toNat := by
  have e : i = ((i.toNat : Nat) : Int) := by omega
  rw [e, cutD_to, Int.toNat_natCast]
theorem cutD_fromI {xs : List D} {i : Int} (h : 0 ≤ i) : cutD xs (some i) none = xs.drop i.toNat := by
  have e : i = ((i.toNat : Nat) : Int) := by omega
  rw [e, cutD_from, Int.toNat_natCast]

def itD (M : Mem) (d : D) : Option (List D) := match lview M d with
  | some ds => some ds
  | none => (match d with | .tup ds => some ds | .str z => some (L3.signs z) | _ => none)
theorem srcD_of {M : Mem} {d : D} {ds : List D} {R : List D → (Mem → Prop) → Mem → Prop} (hd : itD M d = some ds) (h : ∀ C : Mem → Prop, C M → R ds C M) : srcD d M R := by
  unfold itD at hd
  unfold srcD
  split at hd
  · rename_i e
    cases hd
    try rw [e]
    exact h _ e
  · rename_i e
    try rw [e]
    split at hd
    · cases hd; exact h _ trivial
    · cases hd; exact h _ trivial
    · cases hd
/-- a comprehension over a thing that stands, changing nothing -/
theorem lc_src {te0 : TE3} {g : Tg} {tt : TT3} {te : TE3} {vs : List Nat} {δ : St3} {M : Mem} {Q : VK3} (d : D) {ds : List D} (b : D → Bool) (f : D → D) (he : ∀ R : VK3, R d M → te0 δ M R) (hd : itD M d = some ds) (hz : ds.length < sizeLine)
    (step : ∀ d ∈ ds, ∀ (A : D → Mem → Prop) (B : Mem → Prop), (b d = true → A (f d) M) → (b d = false → B M) → match asg g d (wipe3 δ vs) with
      | some δ' => tt δ' M fun c M2 => if c = true then te δ' M2 A else B M2
      | none => False) (q : newL ((ds.filter b).map f) M Q) : lc3 (src3 te0) g tt te vs δ M Q :=
  he _ (srcD_of hd fun C hC => lcP b f hC hz step q)
/-- the same, of each thing one -/
theorem lc_map {te0 : TE3} {g : Tg} {te : TE3} {vs : List Nat} {δ : St3} {M : Mem} {Q : VK3} (d : D) {ds : List D} (f : D → D) (he : ∀ R : VK3, R d M → te0 δ M R) (hd : itD M d = some ds) (hz : ds.length < sizeLine)
    (step : ∀ d ∈ ds, ∀ (A : D → Mem → Prop), A (f d) M → match asg g d (wipe3 δ vs) with
      | some δ' => te δ' M A
      | none => False) (q : newL (ds.map f) M Q) : lc3 (src3 te0) g yes3 te vs δ M Q :=
  lc_src d (fun _ => true) f he hd hz (fun d hd A B hA _ => by
    have := step d hd A (hA rfl)
    split
    · rename_i δ' e
      rw [e] at this
      show (if true = true then te δ' M A else B M)
      rw [if_pos rfl]
      exact this
    · rename_i e
      rw [e] at this
      exact this) (by rw [List.filter_eq_self.mpr fun _ _ => rfl]; exact q)
theorem lc_rng {te0 : TE3} {g : Tg} {te : TE3} {vs : List Nat} {δ : St3} {M : Mem} {Q : VK3} (n : Int) (f : D → D) (he : ∀ R : VK3, R (.int n) M → te0 δ M R) (hn : n ≤ 1000000)
    (step : ∀ i : Nat, (i : Int) < n → ∀ (A : D → Mem → Prop), A (f (.int i)) M → match asg g (.int i) (wipe3 δ vs) with
      | some δ' => te δ' M A
      | none => False) (q : newL ((List.range n.toNat).map fun (i : Nat) => f (.int i)) M Q) (hn0 : -1000000 ≤ n) : lc3 (rng1 (cons3 te0 nil3)) g yes3 te vs δ M Q := by
  refine he _ ⟨by omega, by omega, ?_⟩
  refine lcP (fun _ => true) f trivial (by rw [List.length_map, List.length_range, sizeLine_eq]; omega) (fun d hd A B hA _ => ?_) ?_
  · obtain ⟨i, hi, rfl⟩ := List.mem_map.mp hd
    rw [List.mem_range] at hi
    have := step i (by omega) A (by have := hA rfl; rwa [show (0 : Int) + (i : Int) = i from by omega] at this)
    rw [show (0 : Int) + (i : Int) = i from by omega]
    split
    · rename_i δ' e
      rw [e] at this
      show (if true = true then te δ' M A else B M)
      rw [if_pos rfl]
      exact this
    · rename_i e
      rw [e] at this
      exact this
  · rw [List.filter_eq_self.mpr fun _ _ => rfl, List.map_map]
    have e : (f ∘ fun (i : Nat) => D.int (0 + i)) = fun (i : Nat) => f (.int i) := by funext i; simp
    rw [e]; exact q
theorem for_enum {te0 : TE3} {g : Tg} {tb : TS3} {E : Ends3} {δ : St3} {M : Mem} (d : D) {ds : List D} (P : Nat → Bool) (I : St3 → Prop) (he : ∀ R : VK3, R d M → te0 δ M R) (hd : lview M d = some ds) (h0 : I δ)
    (step : ∀ (i : Nat) (h : i < ds.length) (δ : St3), I δ → (∀ j, j < i → P j = false) → ∀ (N : St3 → Mem → Prop), (P i = false → ∀ δ', I δ' → N δ' M) → match asg g (.tup [.int (i : Nat), ds[i]]) δ with | some δ' => tb { E with nx := N, ct := N, bk := E.nx } δ' M | none => False)
    (q : (∀ j, j < ds.length → P j = false) → ∀ δ', I δ' → E.nx δ' M) : for3 (enum3 (cons3 te0 nil3)) g tb E δ M := by
  refine he _ ?_
  show (match lview M d with | some xs => _ | none => False)
  rw [hd]
  refine forP (ds := enumD ds) P I hd h0 (fun i h δ hI hl N hN => ?_) fun h => q (by rw [enumD_len] at h; exact h)
  rw [enumD_get h]
  exact step i (by rw [enumD_len] at h; exact h) δ hI hl N hN
theorem filt_all {ds : List D} : (ds.filter fun _ => true) = ds := List.filter_eq_self.mpr fun _ _ => rfl

/-! ### loops that change things -/
theorem lcC {g : Tg} {te : TE3} {vs : List Nat} {δ : St3} {M : Mem} {Q : VK3} {ds : List D} {C : Mem → Prop} (I : Nat → List D → Mem → Prop) (hC : ∀ i acc M, I i acc M → C M) (hz : ds.length < sizeLine) (h0 : I 0 [] M)
    (step : ∀ (i : Nat) (h : i < ds.length) acc M', acc.length = i → I i acc M' → ∀ N : VK3, (∀ y M2, I (i + 1) (acc ++ [y]) M2 → N y M2) → match asg g ds[i] (wipe3 δ vs) with | some δ' => te δ' M' N | none => False)
    (q : ∀ acc M', acc.length = ds.length → I ds.length acc M' → newL acc M' Q) :
    ∃ Pv : Nat → List D → Mem → Prop, Pv 0 [] M ∧ (∀ i acc M, Pv i acc M → C M) ∧
      (∀ (i : Nat) (h : i < ds.length) acc M, Pv i acc M → match asg g ds[i] (wipe3 δ vs) with
        | some δ' => yes3 δ' M fun b M2 => if b = true then te δ' M2 fun y M3 => acc.length < sizeLine ∧ Pv (i + 1) (acc ++ [y]) M3 else Pv (i + 1) acc M2
        | none => False) ∧ ∀ acc M, Pv ds.length acc M → newL acc M Q := by
  refine ⟨fun i acc M' => acc.length = i ∧ I i acc M', ⟨rfl, h0⟩, fun i acc M h => hC i acc M h.2, fun i h acc M' ⟨e, hI⟩ => ?_, fun acc M' ⟨e, hI⟩ => q acc M' e hI⟩
  have := step i h acc M' e hI (fun y M2 => acc.length < sizeLine ∧ (acc ++ [y]).length = i + 1 ∧ I (i + 1) (acc ++ [y]) M2) fun y M2 h2 => ⟨by omega, by rw [List.length_append, e]; rfl, h2⟩
  split
  · rename_i δ' eq
    rw [eq] at this
    simp only [yes3, if_true]
    exact this
  · rename_i eq
    rw [eq] at this
    exact this
/-- over range(n) -/
theorem lc_rng_eq {te0 : TE3} {g : Tg} {tt : TT3} {te : TE3} {vs : List Nat} {δ : St3} {M : Mem} {Q : VK3} : lc3 (rng1 (cons3 te0 nil3)) g tt te vs δ M Q = te0 δ M fun d M1 => lc3 (rng1 (cons3 (c3 d) nil3)) g tt te vs δ M1 Q := rfl
theorem for_rng_eq {te0 : TE3} {g : Tg} {tb : TS3} {E : Ends3} {δ : St3} {M : Mem} : for3 (rng1 (cons3 te0 nil3)) g tb E δ M = te0 δ M fun d M1 => for3 (rng1 (cons3 (c3 d) nil3)) g tb E δ M1 := rfl
theorem lcG {g : Tg} {te te0 : TE3} {vs : List Nat} {δ : St3} {M : Mem} {Q : VK3} (n : Int) (he : ∀ R : VK3, R (.int n) M → te0 δ M R) (I : Nat → List D → Mem → Prop) (hn0 : -1000000 ≤ n) (hn : n ≤ 1000000) (h0 : I 0 [] M)
    (step : ∀ i : Nat, (i : Int) < n → ∀ acc M', acc.length = i → I i acc M' → ∀ N : VK3, (∀ y M2, I (i + 1) (acc ++ [y]) M2 → N y M2) → match asg g (.int i) (wipe3 δ vs) with | some δ' => te δ' M' N | none => False)
    (q : ∀ acc M', acc.length = n.toNat → I n.toNat acc M' → newL acc M' Q) : lc3 (rng1 (cons3 te0 nil3)) g yes3 te vs δ M Q := by
  refine he _ ?_
  have hl : ((List.range n.toNat).map fun (i : Nat) => D.int (0 + i)).length = n.toNat := by simp
  refine ⟨by omega, by omega, lcC I (fun _ _ _ _ => trivial) (by rw [hl, sizeLine_eq]; omega) h0 (fun i h acc M' e hI N hN => ?_) fun acc M' e hI => q acc M' (by rw [← hl]; exact e) (by rw [hl] at hI; exact hI)⟩
  have eg : ((List.range n.toNat).map fun (i : Nat) => D.int (0 + i))[i] = D.int (i : Nat) := by simp
  rw [eg]
  rw [hl] at h
  exact step i (by omega) acc M' e hI N hN
/-- over a list that stands -/
theorem lcS {g : Tg} {te te0 : TE3} {vs : List Nat} {δ : St3} {M : Mem} {Q : VK3} (ds : List D) (he : ∀ R : VK3, R (.lst ds) M → te0 δ M R) (I : Nat → List D → Mem → Prop) (hz : ds.length < sizeLine) (h0 : I 0 [] M)
    (step : ∀ (i : Nat) (h : i < ds.length) acc M', acc.length = i → I i acc M' → ∀ N : VK3, (∀ y M2, I (i + 1) (acc ++ [y]) M2 → N y M2) → match asg g ds[i] (wipe3 δ vs) with | some δ' => te δ' M' N | none => False)
    (q : ∀ acc M', acc.length = ds.length → I ds.length acc M' → newL acc M' Q) : lc3 (src3 te0) g yes3 te vs δ M Q :=
  he _ (lcC (C := fun M' => lview M' (.lst ds) = some ds) I (fun _ _ _ _ => rfl) hz h0 step q)
theorem forS {g : Tg} {tb : TS3} {te0 : TE3} {E : Ends3} {δ : St3} {M : Mem} (ds : List D) (he : ∀ R : VK3, R (.lst ds) M → te0 δ M R) (I : Nat → St3 → Mem → Prop) (h0 : I 0 δ M)
    (step : ∀ (i : Nat) (h : i < ds.length) (δ : St3) (M' : Mem), I i δ M' → ∀ (N : St3 → Mem → Prop), (∀ δ' M2, I (i + 1) δ' M2 → N δ' M2) → match asg g ds[i] δ with | some δ' => tb { E with nx := N, ct := N, bk := E.nx } δ' M' | none => False)
    (q : ∀ δ' M', I ds.length δ' M' → E.nx δ' M') : for3 (src3 te0) g tb E δ M :=
  he _ ⟨I, h0, fun _ _ _ _ => rfl, fun i h δ M' hI => step i h δ M' hI _ fun _ _ h => h, q⟩
/-- over a range, as a loop -/
theorem forG {g : Tg} {tb : TS3} {te0 : TE3} {E : Ends3} {δ : St3} {M : Mem} (n : Int) (he : ∀ R : VK3, R (.int n) M → te0 δ M R) (I : Nat → St3 → Mem → Prop) (hn0 : -1000000 ≤ n) (hn : n ≤ 1000000) (h0 : I 0 δ M)
    (step : ∀ i : Nat, (i : Int) < n → ∀ (δ : St3) (M' : Mem), I i δ M' → ∀ (N : St3 → Mem → Prop), (∀ δ' M2, I (i + 1) δ' M2 → N δ' M2) → match asg g (.int i) δ with | some δ' => tb { E with nx := N, ct := N, bk := E.nx } δ' M' | none => False)
    (q : ∀ δ' M', I n.toNat δ' M' → E.nx δ' M') : for3 (rng1 (cons3 te0 nil3)) g tb E δ M := by
  refine he _ ?_
  have hl : ((List.range n.toNat).map fun (i : Nat) => D.int (0 + i)).length = n.toNat := by simp
  refine ⟨by omega, by omega, I, h0, fun _ _ _ _ => trivial, fun i h δ M' hI => ?_, fun δ M h => q δ M (by rw [hl] at h; exact h)⟩
  have eg : ((List.range n.toNat).map fun (i : Nat) => D.int (0 + i))[i] = D.int (i : Nat) := by simp
  rw [eg]
  rw [hl] at h
  exact step i (by omega) δ M' hI _ fun _ _ h => h
theorem sub_len {α : Type} [DecidableEq α] : ∀ {l m : List α}, l.Nodup → (∀ x ∈ l, x ∈ m) → l.length ≤ m.length
  | [], _, _, _ => Nat.zero_le _
  | k :: ks, r, h, s => by
    obtain ⟨h1, h2⟩ := List.nodup_cons.mp h
    have hk : k ∈ r := s k List.mem_cons_self
    have := sub_len (m := r.erase k) h2 fun j hj => (List.mem_erase_of_ne (fun e => h1 (by subst e; exact hj))).mpr (s j (List.mem_cons_of_mem _ hj))
    rw [List.length_erase_of_mem hk] at this
    have h0 : 0 < r.length := List.length_pos_of_mem hk
    rw [List.length_cons]
    omega
end L3

namespace L3
open PySem PySem.Spec PyProof.Rows L2

section
variable {X : Cx} {e e2 : Expr} {p pos : Pos} {ta : TA3}
/-! ### str -/
def r3Str : RC := fun args M Q => match args with
  | [.int i] => i.natAbs.log2 < 1920 ∧ Q (.str (toString i)) M
  | [.str a] => Q (.str a) M
  | _ => False
theorem c3_str : CallR X (.type "str") (fun xs H Q => (∃ i, xs = [.int i] ∧ i.natAbs.log2 < 1920 ∧ Q (.str (toString i)) H) ∨ ∃ a, xs = [.str a] ∧ Q (.str a) H) ∧ CaL X.K (fun xs H Q => (∃ i, xs = [.int i] ∧ i.natAbs.log2 < 1920 ∧ Q (.str (toString i)) H) ∨ ∃ a, xs = [.str a] ∧ Q (.str a) H) r3Str :=
  ⟨CallR.or call_str_int SkE.call_str_str, fun F M H ds vs Q3 Q rm ia q k => by
    unfold r3Str at q
    split at q
    · cases ia with
      | cons r t => cases t; cases r; exact .inl ⟨_, rfl, q.1, k _ _ _ _ _ (.refl rm) (.str _) q.2⟩
    · cases ia with
      | cons r t => cases t; cases r; exact .inr ⟨_, rfl, k _ _ _ _ _ (.refl rm) (.str _) q⟩
    · exact q.elim⟩
/-! ### split -/
def r3Split (x : D) (args : List D) (M : Mem) (Q : VK3) : Prop := match x, args with
  | .str a, [.str b] => (b.length == 0) = false ∧ a.length + 2 ≤ sizeLine ∧ newL ((Txt.split a b).map D.str) M Q
  | _, _ => False
theorem m3_split : MtR X "str.split" (fun x xs H Q => ∃ a b, x = .str a ∧ xs = [.str b] ∧ (b.length == 0) = false ∧ a.length + 2 ≤ sizeLine ∧ rNewStrs (Txt.split a b) H Q) ∧
    MtL X.K (fun x xs H Q => ∃ a b, x = .str a ∧ xs = [.str b] ∧ (b.length == 0) = false ∧ a.length + 2 ≤ sizeLine ∧ rNewStrs (Txt.split a b) H Q) r3Split := ⟨mt_split, fun F M H dx x ds vs Q3 Q rm ix ia q k => by
  unfold r3Split at q
  split at q
  · cases ix
    cases ia with
    | cons r t =>
      cases t; cases r
      exact ⟨_, _, rfl, rfl, q.1, q.2.1, fun p n => newL_up rm n (isA_strs _) q.2.2 k⟩
  · exact q.elim⟩
/-! ### zip of two lists -/
def zipD (xs ys : List D) : List D := (xs.zip ys).map fun p => .tup [p.1, p.2]
theorem itz_ok {K : PySem.W.Frag} {F : Hp} {a b : Addr} {xs ys : List D} {C : Mem → Prop} (hC : ∀ F1 M1 H1, Same F F1 → RM K F1 M1 H1 → C M1 → ∃ vs us, (H1 a = some (.lst vs) ∧ IsA K F1 xs vs) ∧ H1 b = some (.lst us) ∧ IsA K F1 ys us) : ItOk K F C (Itz K a b) (zipD xs ys) := by
  intro F1 M1 H1 s rm c j
  obtain ⟨vs, us, ⟨h1, i⟩, h2, i2⟩ := hC F1 M1 H1 s rm c
  have hq : SqL K H1 a vs := .inl (.inl h1)
  have hq2 : SqL K H1 b us := .inl (.inl h2)
  have hl : (zipD xs ys).length = min xs.length ys.length := by simp [zipD]
  refine ⟨fun h => ?_, fun h => ⟨vs, us, hq, hq2, by rw [← i.length, ← i2.length]; omega⟩⟩
  have hx : j < xs.length := by omega
  have hy : j < ys.length := by omega
  obtain ⟨v, g1, g2⟩ := i.get (List.getElem?_eq_getElem hx)
  obtain ⟨u, g3, g4⟩ := i2.get (List.getElem?_eq_getElem hy)
  refine ⟨⟨vs, us, v, u, hq, hq2, g1, g3⟩, fun x H' ⟨T, y, z, ex, n, eH, f, f2⟩ => ?_⟩
  subst ex eH
  have ey := f vs hq
  rw [g1] at ey
  cases ey
  have ez := f2 us hq2
  rw [g3] at ez
  cases ez
  have x1 := Ext.newF rm n (.tup [v, u])
  refine ⟨_, x1, ?_⟩
  have e3 : (zipD xs ys)[j] = .tup [xs[j], ys[j]] := by simp [zipD]
  rw [e3]
  exact .tup (.inl (.inl upd_same)) (.cons (g2.mono x1.same) (.cons (g4.mono x1.same) .nil))
def zip3 (ta : TA3) (δ : St3) (M : Mem) (Q : List D → (Mem → Prop) → Mem → Prop) : Prop := ta δ M fun ds M1 => match ds with
  | [d, d2] => (match lview M1 d, lview M1 d2 with | some xs, some ys => Q (zipD xs ys) (fun M' => lview M' d = some xs ∧ lview M' d2 = some ys) M1 | _, _ => False)
  | _ => False
theorem i3_zip {elts : List Expr} {kk : Nat} {tpos : Pos} (hg : Gl X "zip") (hm : X.mg "zip" = none) (ha : A3 X [e, e2] ta)
    (hs : starEach [e, e2] X.env = (false, eval e X.env) :: starEach [e2] X.env := by rfl) (hpl : (backTo pos (starEach [e2] X.env)).any (·.1) = false := by rfl) : I3 X (.Tuple elts kk tpos) (.Call (.Name "zip" p) [e, e2] [] pos) (zip3 ta) :=
  pi_imp (pi_zip hg hm ha hs hpl) fun σ H R ⟨F, M, δ, Q3, rm, sl, q, k⟩ => ⟨F, M, δ, _, rm, sl, q, fun F1 M1 H1 ds vs x1 iv q1 => by
    split at q1
    · split at q1
      · rename_i xs ys ex ey
        cases iv with
        | cons r t => cases t with
          | cons r2 t2 =>
            cases t2
            obtain ⟨a, vs, rfl, h1, h2⟩ := lview_is x1.rm r ex
            obtain ⟨b, us, rfl, h3, h4⟩ := lview_is x1.rm r2 ey
            refine ⟨a, b, vs, us, rfl, .inl (.inl h1), .inl (.inl h3), k _ _ _ _ _ _ x1 (itz_ok fun F2 M2 H2 s rm2 c => ?_) ⟨ex, ey⟩ q1⟩
            obtain ⟨a', vs', ea, g1, g2⟩ := lview_is rm2 (r.mono s) c.1
            obtain ⟨b', us', eb, g3, g4⟩ := lview_is rm2 (r2.mono s) c.2
            cases ea
            cases eb
            exact ⟨vs', us', ⟨g1, g2⟩, g3, g4⟩
      · exact q1.elim
    · exact q1.elim⟩
/-! ### isinstance of a class of the text -/
def r3IsiC : RC := fun args M Q => match args with
  | [.obj C ns ds, .ref C'] => C' = C ∧ Q (.bl true) M
  | _ => False
def r3IsiK (C : Addr) : RC := fun args M Q => args[1]? = some (.ref C) ∧ r3IsiC args M Q
structure ClsT (K : PySem.W.Frag) (C : Addr) : Prop where
  cl : Cls K C
  ha : PySem.W.findIn K (.ref C) "__class__" = some (some (.builtin "object.__class__"))
  hn : PySem.W.specialIn K (.builtin "object.__class__") "__get__" = some (some (.builtin "getset_descriptor.__get__"))
  htk : PySem.W.takesIn K (.builtin "object.__class__") = some true
  hm : PySem.W.mroIn K C (.type "object") = some true
theorem c3_isiC {C : Addr} (hm : ClsT X.K C) : CallR X (.builtin "isinstance") (rIsi X.K) ∧ CaL X.K (rIsi X.K) (r3IsiK C) := ⟨call_isi, fun F M H ds vs Q3 Q rm ia q k => by
  obtain ⟨h1, q⟩ := q
  unfold r3IsiC at q
  split at q
  · obtain ⟨rfl, q⟩ := q
    cases h1
    cases ia with
    | cons r t => cases t with
      | cons r2 t2 =>
        cases t2
        cases r2
        cases r with
        | obj g1 g2 g3 =>
          exact ⟨_, _, .ref C, .ref C, true, rfl, .own C, .base (.ins (rm.sub _ _ g1) hm.cl hm.ha hm.hn hm.htk hm.hm), by unfold PySem.W.kitOne; rw [if_pos (by simp)], k _ _ _ _ _ (.refl rm) (.bl _) q⟩
  · exact q.elim⟩
/-! ### try -/
theorem s3_try0 {body : List Stmt} {h₀ : ExceptHandler} {hs : List ExceptHandler} {t : TS3} (hb : B3 X.nox body t) : S3 X (.Try body (h₀ :: hs) [] [] pos) t := ps_try_thru0 hb
end

theorem forZ {g : Tg} {tb : TS3} {ta : TA3} {E : Ends3} {δ : St3} {M : Mem} (xs ys : List D) (he : ∀ R : List D → Mem → Prop, R [.lst xs, .lst ys] M → ta δ M R) (hl : xs.length = ys.length) (I : Nat → St3 → Mem → Prop) (h0 : I 0 δ M)
    (step : ∀ (i : Nat) (h1 : i < xs.length) (h2 : i < ys.length) (δ : St3) (M' : Mem), I i δ M' → ∀ (N : St3 → Mem → Prop), (∀ δ' M2, I (i + 1) δ' M2 → N δ' M2) → match asg g (.tup [xs[i], ys[i]]) δ with | some δ' => tb { E with nx := N, ct := N, bk := E.nx } δ' M' | none => False)
    (q : ∀ δ' M', I xs.length δ' M' → E.nx δ' M') : for3 (zip3 ta) g tb E δ M := by
  refine he _ ?_
  have hz : (zipD xs ys).length = xs.length := by simp [zipD, hl]
  refine ⟨I, h0, fun _ _ _ _ => ⟨rfl, rfl⟩, fun i h δ M' hI => ?_, fun δ M h => q δ M (by rw [hz] at h; exact h)⟩
  rw [hz] at h
  have e3 : (zipD xs ys)[i]'(by rw [hz]; exact h) = .tup [xs[i], ys[i]'(by omega)] := by simp [zipD]
  rw [e3]
  exact step i h (by omega) δ M' hI _ fun _ _ h => h
/-- [str(x) for x in ..] -/
def strD : D → Str
  | .str x => x
  | .int i => toString i
  | _ => Str.empty
def StrAble : D → Prop
  | .str _ => True
  | .int i => i.natAbs.log2 < 1920
  | _ => False
theorem r3Str_of {d : D} {M : Mem} {Q : VK3} (h : StrAble d) (q : Q (.str (strD d)) M) : r3Str [d] M Q := by
  cases d with
  | str x => exact q
  | int i => exact ⟨h, q⟩
  | _ => exact h.elim
theorem lc_strs {te0 : TE3} {b : Nat} {δ : St3} {M : Mem} {Q : VK3} (d : D) {ds : List D} (he : ∀ R : VK3, R d M → te0 δ M R) (hd : itD M d = some ds) (hb : b < δ.length) (hz : ds.length ≤ 100000) (hs : ∀ d ∈ ds, StrAble d) (q : newL (ds.map fun d => .str (strD d)) M Q) :
    lc3 (src3 te0) (.nm b) yes3 (cal3 r3Str (cons3 (v3 b) nil3)) [b] δ M Q :=
  lc_map d (fun d => .str (strD d)) he hd (by rw [sizeLine_eq]; omega) (fun d hd A hA => by
    simp only [asg, wipe3, cal3, cons3, nil3, v3]
    rw [List.set_set, List.getElem?_set_self (by simpa using hb)]
    exact r3Str_of (hs d hd) hA) q
end L3

namespace Z13
open PySem PySem.Spec PyProof.Rows L2 L3
local macro_rules
  | `(tactic| walk_at "rd") => `(tactic| simp only [seq3, set3, ret3, retn3, if3, next3, asg3, par3, drop3, call3, cal3, cons3, nil3, v3, c3, op3, chain3, tst3, tru3, andv3, orv3, notv3, and3, or3, not3, ife3, tup3, lst3, yes3, sl3, no_o3, some_o3, slD, asg, asgs, wipe3, start3, r3Lt, r3Le, r3Gt, r3Ge, r3B, r3Sub, r3I0, r3I, r3Mod, r3Fdiv, r3Pow, List.map_cons, List.map_nil, List.length_cons, List.length_nil, List.cons_append, List.nil_append, List.getElem?_cons_zero, List.getElem?_cons_succ, List.set_cons_zero, List.set_cons_succ, List.replicate_succ, List.replicate_zero, List.set_nil, Nat.reduceAdd, Nat.reduceSub, Option.map_some, Option.map_none])
  | `(tactic| walk_at "rd0") => `(tactic| simp only [seq3, set3, ret3, retn3, if3, next3, asg3, par3, drop3, call3, cal3, cons3, nil3, v3, c3, op3, chain3, tst3, tru3, andv3, orv3, notv3, and3, or3, not3, ife3, tup3, lst3, yes3, sl3, no_o3, some_o3, slD, wipe3, start3, r3Lt, r3Le, r3Gt, r3Ge, r3B, r3Sub, r3I0, r3I, r3Mod, r3Fdiv, r3Pow, List.map_cons, List.map_nil, List.length_cons, List.length_nil, List.cons_append, List.nil_append, List.getElem?_cons_zero, List.getElem?_cons_succ, List.set_cons_zero, List.set_cons_succ, List.replicate_succ, List.replicate_zero, List.set_nil, Nat.reduceAdd, Nat.reduceSub, Option.map_some, Option.map_none])
structure Ad where
  C_Net : Addr
  d_PARTS : Addr
def partsP (z : Str) : Option D := if z = "wire" then some (.tup [.int 0, .int 2]) else if z = "made" then some (.tup [.int 1, .int 2]) else if z = "broken" then some (.tup [.int 1, .int 2]) else if z = "swap" then some (.tup [.int 1, .int 3]) else if z = "coil" then some (.tup [.int 1, .int 2]) else if z = "lamp" then some (.tup [.int 1, .int 2]) else none
theorem size_pos {n : Nat} (h : n ≤ 1000000) : n < sizeLine := by rw [sizeLine_eq]; omega
theorem tup_pos {n : Nat} (h : n ≤ 1000000) : n ≤ sizeLine := Nat.le_of_lt (size_pos h)
abbrev letters : Str := "abcdefghijklmnopqrstuvwxyz"
/-! ### words -/
def low (c : Nat) : Bool := decide (c ∈ letters.cps.toList)
def lowS (w : Str) : Bool := w.cps.toList.all low
def isWord (w : Str) : Bool := decide (1 ≤ w.length) && (decide (w.length ≤ 8) && lowS w)
def signB : D → Bool
  | .str w => (match w.cps.toList with | [c] => low c | _ => false)
  | _ => false
theorem all_bls (l : List D) (b : D → Bool) : blsOf (l.map fun d => D.bl (b d)) = some (l.map b) := by
  have := blsOf_map (l.map b)
  rw [List.map_map] at this
  exact this
theorem all_of {M : Mem} {Q : VK3} {l : List D} (b : D → Bool) (h : Q (.bl (l.all b)) M) : r3AllB (fun bs => bs.all id) [.lst (l.map fun d => D.bl (b d))] M Q := by
  simp only [r3AllB, lview_lst, all_bls]
  rw [List.all_map]
  exact h
def sp_is_word (ad : Ad) : Sp3 := fun ds M Q _ => ∃ w : Str, ds = [.str w] ∧ w.length ≤ 1000000 ∧ Q (.bl (isWord w)) M
abbrev N_is_word : List Str := ["text", "sign"]
def t_is_word (ad : Ad) : TS3 := (ret3 (andv3 (chain3 r3Le r3Le (c3 (.int 1)) (cal3 r3Len (cons3 (v3 0) nil3)) (c3 (.int 8))) (cal3 (r3AllB fun bs => bs.all id) (cons3 (lc3 (src3 (v3 0)) (.nm 1) yes3 (op3 (r3In false) (v3 1) (c3 (.str "abcdefghijklmnopqrstuvwxyz"))) [1]) nil3))))
theorem len_is_word {ad : Ad} {ds M Q E} (h : sp_is_word ad ds M Q E) : ds.length = 1 := by obtain ⟨w, rfl, _⟩ := h; rfl
theorem r_is_word {ad : Ad} {ds M Q E} (h : sp_is_word ad ds M Q E) : t_is_word ad { nx := fun _ M' => Q .non M', rt := Q } (start3 N_is_word ds) M := by
  obtain ⟨w, rfl, hz, q⟩ := h
  unfold t_is_word N_is_word
  walk_at "rd"
  simp only [r3Len, lview_str]
  have hz' := size_pos hz
  have hl : (L3.signs w).length < sizeLine := by unfold L3.signs; rw [List.length_map, Array.length_toList]; exact hz'
  refine ⟨Nat.le_of_lt hz', ?_⟩
  unfold isWord at q
  by_cases h1 : 1 ≤ w.length
  · have h1' : (1 : Int) ≤ (w.length : Nat) := by omega
    simp only [h1, h1', decide_true, Bool.true_and] at q ⊢
    by_cases h2 : w.length ≤ 8
    · have h2' : ((w.length : Nat) : Int) ≤ 8 := by omega
      simp only [h2, h2', decide_true, Bool.true_and, truD, lview_bl] at q ⊢
      refine lc_map (.str w) (fun d => .bl (signB d)) (fun R h => h) rfl hl (fun d hd A hA => ?_) (.inl (all_of signB ?_))
      · obtain ⟨c, _, rfl⟩ := List.mem_map.mp hd
        exact ⟨c, rfl, hA⟩
      · have e : (L3.signs w).all signB = lowS w := by unfold L3.signs lowS; rw [List.all_map]; rfl
        rw [e]; exact q
    · have h2' : ¬ ((w.length : Nat) : Int) ≤ 8 := by omega
      simp only [h2, h2', decide_false, Bool.false_and, truD, lview_bl] at q ⊢
      exact q
  · have h1' : ¬ (1 : Int) ≤ (w.length : Nat) := by omega
    simp only [h1, h1', decide_false, Bool.false_and, truD, lview_bl] at q ⊢
    exact q
def isWhole : D → Bool
  | .int _ => true
  | _ => false
def sp_is_whole (ad : Ad) : Sp3 := fun ds M Q _ => ∃ d, ds = [d] ∧ flatD d = true ∧ Q (.bl (isWhole d)) M
abbrev N_is_whole : List Str := ["thing"]
def t_is_whole (ad : Ad) : TS3 := (ret3 (andv3 (cal3 r3Isi (cons3 (v3 0) (cons3 (c3 (.ty "int")) nil3))) (notv3 (cal3 r3Isi (cons3 (v3 0) (cons3 (c3 (.ty "bool")) nil3))))))
theorem len_is_whole {ad : Ad} {ds M Q E} (h : sp_is_whole ad ds M Q E) : ds.length = 1 := by obtain ⟨w, rfl, _⟩ := h; rfl
theorem kit_ii : kitB "int" "int" = some true := by decide +kernel
theorem kit_ib : kitB "int" "bool" = some false := by decide +kernel
theorem kit_bi : kitB "bool" "int" = some true := by decide +kernel
theorem kit_bb : kitB "bool" "bool" = some true := by decide +kernel
theorem kit_si : kitB "str" "int" = some false := by decide +kernel
theorem kit_ni : kitB "NoneType" "int" = some false := by decide +kernel
theorem r_is_whole {ad : Ad} {ds M Q E} (h : sp_is_whole ad ds M Q E) : t_is_whole ad { nx := fun _ M' => Q .non M', rt := Q } (start3 N_is_whole ds) M := by
  obtain ⟨d, rfl, f, q⟩ := h
  unfold t_is_whole N_is_whole
  walk_at "rd"
  cases d with
  | int i => exact ⟨true, kit_ii, false, kit_ib, q⟩
  | bl i => exact ⟨true, kit_bi, true, kit_bb, q⟩
  | str i => exact ⟨false, kit_si, q⟩
  | non => exact ⟨false, kit_ni, q⟩
  | _ => cases f
def wordBad (ws : List Str) (k : Nat) : Bool := match ws[k]? with
  | some w => !isWord w || decide (w ∈ ws.take k)
  | none => false
def sp_word_fault (ad : Ad) : Sp3 := fun ds M Q _ => ∃ d ws, ds = [d] ∧ lview M d = some (ws.map D.str) ∧ ws.length ≤ 1000000 ∧ (∀ w ∈ ws, w.length ≤ 1000000) ∧ Q (faultD "words" (firstK (wordBad ws) ws.length)) M
abbrev N_word_fault : List Str := ["words", "k", "word"]
def t_word_fault (ad : Ad) : TS3 := (seq3 (for3 (enum3 (cons3 (v3 0) nil3)) (.tp [(.nm 1), (.nm 2)]) (if3 (or3 (not3 (tru3 (call3 (sp_is_word ad) (cons3 (v3 2) nil3)))) (tst3 (op3 (r3In false) (v3 2) (sl3 (v3 0) no_o3 (some_o3 (v3 1)))))) (ret3 (tup3 (cons3 (c3 (.str "words")) (cons3 (v3 1) nil3)))) next3))
    (ret3 (c3 .non)))
theorem len_word_fault {ad : Ad} {ds M Q E} (h : sp_word_fault ad ds M Q E) : ds.length = 1 := by obtain ⟨w, _, rfl, _⟩ := h; rfl
theorem r_word_fault {ad : Ad} {ds M Q E} (h : sp_word_fault ad ds M Q E) : t_word_fault ad { nx := fun _ M' => Q .non M', rt := Q } (start3 N_word_fault ds) M := by
  obtain ⟨d, ws, rfl, hd, hz, hw, q⟩ := h
  unfold t_word_fault N_word_fault
  walk_at "rd"
  refine for_enum d (wordBad ws) (fun δ => ∃ a b, δ = [some d, a, b]) (fun R h => h) hd ⟨none, none, rfl⟩ (fun i h δ hI hl N hN => ?_) fun hl δ hI => ?_
  · obtain ⟨a, b, rfl⟩ := hI
    rw [List.length_map] at h
    have eg : (ws.map D.str)[i]'(by rw [List.length_map]; exact h) = .str ws[i] := by simp
    rw [eg]
    have eb : wordBad ws i = (!isWord ws[i] || decide (ws[i] ∈ ws.take i)) := by unfold wordBad; rw [List.getElem?_eq_getElem h]
    have out : wordBad ws i = true → Q (.tup [.str "words", .int i]) M := fun hb => by
      rw [firstK_some h hb hl] at q; exact q
    walk_at "rd"
    refine ⟨ws[i], rfl, hw _ (List.getElem_mem h), ?_⟩
    simp only [truD, lview_bl]
    cases hi : isWord ws[i] with
    | false =>
      rw [hi] at eb
      simp only [Bool.not_false, if_true]
      exact ⟨tup_pos (by decide), out eb⟩
    | true =>
      rw [hi] at eb
      simp only [Bool.not_true, Bool.false_eq_true, if_false, hd]
      rw [cutD_toI (by omega), Int.toNat_natCast, ← List.map_take]
      refine .inl ?_
      simp only [r3In, lview_lst]
      refine ⟨rfl, flat_strs, ?_⟩
      rw [inD_strs]
      simp only [Bool.false_eq_true, if_false]
      simp only [Bool.not_true, Bool.false_or] at eb
      cases hb : decide (ws[i] ∈ ws.take i) with
      | true => rw [hb] at eb; rw [if_pos rfl]; exact ⟨tup_pos (by decide), out eb⟩
      | false => rw [hb] at eb; rw [if_neg Bool.false_ne_true]; exact hN eb _ ⟨_, _, rfl⟩
  · rw [List.length_map] at hl
    rw [firstK_none hl] at q
    exact q
def manyF (a b c : Nat) : D := if 2 < a then .tup [.str "many", .int 0] else if 4 < b then .tup [.str "many", .int 1] else if 2 < c then .tup [.str "many", .int 2] else .non
def sp_many_fault (ad : Ad) : Sp3 := fun ds M Q _ => ∃ a b c as bs cs, ds = [a, b, c] ∧ lview M a = some as ∧ lview M b = some bs ∧ lview M c = some cs ∧ Q (manyF as.length bs.length cs.length) M
abbrev N_many_fault : List Str := ["keys", "relays", "lamps", "k", "some", "most"]
def t_many_fault (ad : Ad) : TS3 := (seq3 (for3 (enum3 (cons3 (lst3 (cons3 (tup3 (cons3 (v3 0) (cons3 (c3 (.int 2)) nil3))) (cons3 (tup3 (cons3 (v3 1) (cons3 (c3 (.int 4)) nil3))) (cons3 (tup3 (cons3 (v3 2) (cons3 (c3 (.int 2)) nil3))) nil3)))) nil3)) (.tp [(.nm 3), (.tp [(.nm 4), (.nm 5)])]) (if3 (tst3 (op3 r3Gt (cal3 r3Len (cons3 (v3 4) nil3)) (v3 5))) (ret3 (tup3 (cons3 (c3 (.str "many")) (cons3 (v3 3) nil3)))) next3))
    (ret3 (c3 .non)))
theorem len_many_fault {ad : Ad} {ds M Q E} (h : sp_many_fault ad ds M Q E) : ds.length = 3 := by obtain ⟨_, _, _, _, _, _, rfl, _⟩ := h; rfl
theorem r_many_fault {ad : Ad} {ds M Q E} (h : sp_many_fault ad ds M Q E) : t_many_fault ad { nx := fun _ M' => Q .non M', rt := Q } (start3 N_many_fault ds) M := by
  obtain ⟨a, b, c, as, bs, cs, rfl, ha, hb, hc, q⟩ := h
  unfold t_many_fault N_many_fault
  walk_at "rd"
  have hz : ∀ n, n ≤ 1000000 → n ≤ sizeLine := fun n h => tup_pos h
  refine for_enum (.lst [.tup [a, .int 2], .tup [b, .int 4], .tup [c, .int 2]]) (fun i => match i with | 0 => decide (2 < as.length) | 1 => decide (4 < bs.length) | 2 => decide (2 < cs.length) | _ => false) (fun δ => ∃ x y z, δ = [some a, some b, some c, x, y, z]) (fun R h => ?_) rfl ⟨none, none, none, rfl⟩ (fun i h δ hI hl N hN => ?_) fun hl δ hI => ?_
  · walk_at "rd"
    exact ⟨hz _ (by decide), hz _ (by decide), hz _ (by decide), hz _ (by decide), .inl h⟩
  · obtain ⟨x, y, z, rfl⟩ := hI
    unfold manyF at q
    have hl0 := hl 0
    have hl1 := hl 1
    match i, h with
    | 0, _ =>
      walk_at "rd"
      simp only [List.getElem_cons_zero, asg, asgs, List.set_cons_zero, List.set_cons_succ]
      walk_at "rd"
      simp only [r3Len, ha]
      by_cases g : 2 < as.length
      · have g' : (2 : Int) < (as.length : Nat) := by omega
        rw [if_pos g] at q
        simp only [g', decide_true, if_true]
        exact ⟨hz _ (by decide), q⟩
      · have g' : ¬ (2 : Int) < (as.length : Nat) := by omega
        simp only [g', decide_false, Bool.false_eq_true, if_false]
        exact hN (by simp [g]) _ ⟨_, _, _, rfl⟩
    | 1, _ =>
      have l0 : ¬ 2 < as.length := by simpa using hl0 (by omega)
      walk_at "rd"
      simp only [List.getElem_cons_zero, List.getElem_cons_succ, asg, asgs, List.set_cons_zero, List.set_cons_succ]
      walk_at "rd"
      simp only [r3Len, hb]
      rw [if_neg l0] at q
      by_cases g : 4 < bs.length
      · have g' : (4 : Int) < (bs.length : Nat) := by omega
        rw [if_pos g] at q
        simp only [g', decide_true, if_true]
        exact ⟨hz _ (by decide), q⟩
      · have g' : ¬ (4 : Int) < (bs.length : Nat) := by omega
        simp only [g', decide_false, Bool.false_eq_true, if_false]
        exact hN (by simp [g]) _ ⟨_, _, _, rfl⟩
    | 2, _ =>
      have l0 : ¬ 2 < as.length := by simpa using hl0 (by omega)
      have l1 : ¬ 4 < bs.length := by simpa using hl1 (by omega)
      walk_at "rd"
      simp only [List.getElem_cons_zero, List.getElem_cons_succ, asg, asgs, List.set_cons_zero, List.set_cons_succ]
      walk_at "rd"
      simp only [r3Len, hc]
      rw [if_neg l0, if_neg l1] at q
      by_cases g : 2 < cs.length
      · have g' : (2 : Int) < (cs.length : Nat) := by omega
        rw [if_pos g] at q
        simp only [g', decide_true, if_true]
        exact ⟨hz _ (by decide), q⟩
      · have g' : ¬ (2 : Int) < (cs.length : Nat) := by omega
        simp only [g', decide_false, Bool.false_eq_true, if_false]
        exact hN (by simp [g]) _ ⟨_, _, _, rfl⟩
    | n + 3, h => exact absurd h (by simp)
  · have l0 : ¬ 2 < as.length := by simpa using hl 0 (by simp)
    have l1 : ¬ 4 < bs.length := by simpa using hl 1 (by simp)
    have l2 : ¬ 2 < cs.length := by simpa using hl 2 (by simp)
    unfold manyF at q
    rw [if_neg l0, if_neg l1, if_neg l2] at q
    exact q
def sizeF (n : Int) (k : Nat) : D := if 2 ≤ n ∧ n ≤ 640 then (if 800 < k then .tup [.str "pieces", .int k] else .non) else .tup [.str "nodes", .int n]
def sp_size_fault (ad : Ad) : Sp3 := fun ds M Q _ => ∃ n b bs, ds = [.int n, b] ∧ lview M b = some bs ∧ Q (sizeF n bs.length) M
abbrev N_size_fault : List Str := ["nodes", "pieces"]
def t_size_fault (ad : Ad) : TS3 := (seq3 (if3 (not3 (tst3 (chain3 r3Le r3Le (c3 (.int 2)) (v3 0) (c3 (.int 640))))) (ret3 (tup3 (cons3 (c3 (.str "nodes")) (cons3 (v3 0) nil3)))) next3)
    (seq3 (if3 (tst3 (op3 r3Gt (cal3 r3Len (cons3 (v3 1) nil3)) (c3 (.int 800)))) (ret3 (tup3 (cons3 (c3 (.str "pieces")) (cons3 (cal3 r3Len (cons3 (v3 1) nil3)) nil3)))) next3)
    (ret3 (c3 .non))))
theorem len_size_fault {ad : Ad} {ds M Q E} (h : sp_size_fault ad ds M Q E) : ds.length = 2 := by obtain ⟨_, _, _, rfl, _⟩ := h; rfl
theorem r_size_fault {ad : Ad} {ds M Q E} (h : sp_size_fault ad ds M Q E) : t_size_fault ad { nx := fun _ M' => Q .non M', rt := Q } (start3 N_size_fault ds) M := by
  obtain ⟨n, b, bs, rfl, hb, q⟩ := h
  unfold t_size_fault N_size_fault
  walk_at "rd"
  unfold sizeF at q
  have z2 : (2 : Nat) ≤ sizeLine := tup_pos (by decide)
  by_cases h1 : 2 ≤ n
  · by_cases h2 : n ≤ 640
    · rw [if_pos ⟨h1, h2⟩] at q
      simp only [h1, h2, decide_true, Bool.not_true, Bool.false_eq_true, if_false, r3Len, hb]
      by_cases g : 800 < bs.length
      · have g' : (800 : Int) < (bs.length : Nat) := by omega
        rw [if_pos g] at q
        simp only [g', decide_true, if_true]
        exact ⟨z2, q⟩
      · have g' : ¬ (800 : Int) < (bs.length : Nat) := by omega
        rw [if_neg g] at q
        simp only [g', decide_false, Bool.false_eq_true, if_false]
        exact q
    · rw [if_neg (fun h => h2 h.2)] at q
      simp only [h1, h2, decide_true, decide_false, Bool.not_false, if_true]
      exact ⟨z2, q⟩
  · rw [if_neg (fun h => h1 h.1)] at q
    simp only [h1, decide_false, Bool.not_false, if_true]
    exact ⟨z2, q⟩
/-! ### pieces -/
def inN (n : Int) : D → Bool
  | .int i => decide (0 ≤ i) && decide (i < n)
  | _ => false
def nodesOk (ps : List D) (n : Int) : Bool := ps.all (inN n) && (match intsOf ps with | some ns => decide ns.Nodup | none => false)
theorem ints_of_inN {n : Int} : ∀ {ps : List D}, ps.all (inN n) = true → ∃ ns, intsOf ps = some ns
  | [], _ => ⟨[], rfl⟩
  | .int i :: ps, h => by
    rw [List.all_cons, Bool.and_eq_true] at h
    obtain ⟨ns, e⟩ := ints_of_inN h.2
    exact ⟨i :: ns, by unfold intsOf; rw [e]; rfl⟩
  | .non :: _, h | .bl _ :: _, h | .str _ :: _, h | .tup _ :: _, h | .lst _ :: _, h | .obj _ _ _ :: _, h | .ref _ :: _, h | .ty _ :: _, h | .scr _ :: _, h => by simp [inN] at h
def sp_are_nodes (ad : Ad) : Sp3 := fun ds M Q _ => ∃ ps n, ds = [.tup ps, .int n] ∧ ps.all flatD = true ∧ ps.length ≤ 1000 ∧ Q (.bl (nodesOk ps n)) M
abbrev N_are_nodes : List Str := ["parts", "nodes", "part"]
def t_are_nodes (ad : Ad) : TS3 := (seq3 (if3 (not3 (tru3 (cal3 (r3AllB fun bs => bs.all id) (cons3 (lc3 (src3 (v3 0)) (.nm 2) yes3 (andv3 (call3 (sp_is_whole ad) (cons3 (v3 2) nil3)) (chain3 r3Le r3Lt (c3 (.int 0)) (v3 2) (v3 1))) [2]) nil3)))) (ret3 (c3 (.bl false))) next3)
    (ret3 (op3 r3Eq (lenset3 (v3 0)) (cal3 r3Len (cons3 (v3 0) nil3)))))
theorem len_are_nodes {ad : Ad} {ds M Q E} (h : sp_are_nodes ad ds M Q E) : ds.length = 2 := by obtain ⟨_, _, rfl, _⟩ := h; rfl
theorem r_are_nodes {ad : Ad} {ds M Q E} (h : sp_are_nodes ad ds M Q E) : t_are_nodes ad { nx := fun _ M' => Q .non M', rt := Q } (start3 N_are_nodes ds) M := by
  obtain ⟨ps, n, rfl, hf, hz, q⟩ := h
  unfold t_are_nodes N_are_nodes
  walk_at "rd"
  refine lc_map (.tup ps) (fun d => .bl (inN n d)) (fun R h => h) rfl (size_pos (by omega)) (fun d hd A hA => ?_) (.inl (all_of (inN n) ?_))
  · have fd := List.all_eq_true.mp hf d hd
    walk_at "rd"
    refine ⟨d, rfl, fd, ?_⟩
    cases d with
    | int i =>
      simp only [isWhole, truD, lview_bl]
      simp only [inN] at hA
      by_cases h1 : 0 ≤ i
      · simp only [h1, decide_true, Bool.true_and] at hA ⊢
        exact hA
      · simp only [h1, decide_false, Bool.false_and] at hA ⊢
        exact hA
    | bl _ => exact hA
    | str _ => exact hA
    | non => exact hA
    | _ => cases fd
  · simp only [truD, lview_bl]
    unfold nodesOk at q
    cases ha : ps.all (inN n) with
    | false =>
      rw [ha] at q
      simp only [Bool.not_false, if_true]
      exact q
    | true =>
      rw [ha] at q
      obtain ⟨ns, e⟩ := ints_of_inN ha
      rw [e] at q
      simp only [Bool.not_true, Bool.false_eq_true, if_false, lenset3, v3, List.getElem?_cons_zero, e]
      have hl : ps.length = ns.length := by rw [intsOf_eq e, List.length_map]
      refine ⟨by rw [← hl]; exact Nat.lt_of_le_of_lt (Nat.succ_le_succ hz) (by decide +kernel), fun c hc => ?_⟩
      simp only [r3Len, lview_tup, r3Eq]
      rw [hl]
      have e2 : decide ((c : Int) = (ns.length : Nat)) = decide ns.Nodup := by
        rw [decide_eq_decide]
        exact ⟨fun h => hc.mp (by omega), fun h => by have := hc.mpr h; omega⟩
      rw [e2]
      exact q
def kindNames (w : Str) (k r l : List Str) : List Str := if w = "coil" then r else if w = "lamp" then l else k ++ r
/-- words in lists, as handed in -/
def Ws (M : Mem) (d : D) (ws : List Str) : Prop := lview M d = some (ws.map D.str) ∧ ws.length ≤ 1000 ∧ ∀ w ∈ ws, w.length ≤ 1000000 ∧ PyData.strOk w = true
def sp_names_of_kind (ad : Ad) : Sp3 := fun ds M Q _ => ∃ w k r l ks rs ls, ds = [.str w, k, r, l] ∧ Ws M k ks ∧ Ws M r rs ∧ Ws M l ls ∧ ∀ d, lview M d = some ((kindNames w ks rs ls).map D.str) → Q d M
abbrev N_names_of_kind : List Str := ["word", "keys", "relays", "lamps"]
def t_names_of_kind (ad : Ad) : TS3 := (seq3 (if3 (tst3 (op3 r3Eq (v3 0) (c3 (.str "coil")))) (ret3 (v3 2)) next3)
    (ret3 (ife3 (tst3 (op3 r3Eq (v3 0) (c3 (.str "lamp")))) (v3 3) (op3 r3Add (v3 1) (v3 2)))))
theorem len_names_of_kind {ad : Ad} {ds M Q E} (h : sp_names_of_kind ad ds M Q E) : ds.length = 4 := by obtain ⟨_, _, _, _, _, _, _, rfl, _⟩ := h; rfl
theorem r_names_of_kind {ad : Ad} {ds M Q E} (h : sp_names_of_kind ad ds M Q E) : t_names_of_kind ad { nx := fun _ M' => Q .non M', rt := Q } (start3 N_names_of_kind ds) M := by
  obtain ⟨w, k, r, l, ks, rs, ls, rfl, hk, hr, hl, q⟩ := h
  unfold t_names_of_kind N_names_of_kind
  walk_at "rd"
  unfold kindNames at q
  simp only [r3Eq]
  by_cases h1 : w = "coil"
  · simp only [h1, decide_true, if_true] at q ⊢
    exact q r hr.1
  · simp only [h1, decide_false, Bool.false_eq_true, if_false] at q ⊢
    by_cases h2 : w = "lamp"
    · simp only [h2, decide_true, if_true] at q ⊢
      exact q l hl.1
    · simp only [h2, decide_false, Bool.false_eq_true, if_false, r3Add, hk.1, hr.1] at q ⊢
      have := hk.2.1
      have := hr.2.1
      refine ⟨by rw [List.length_map, List.length_map]; exact tup_pos (by omega), .inl (q _ ?_)⟩
      rw [List.map_append]; rfl
/-- names and ends of a word -/
def partsN (w : Str) : Option (Nat × Nat) := if w = "wire" then some (0, 2) else if w = "made" then some (1, 2) else if w = "broken" then some (1, 2) else if w = "swap" then some (1, 3) else if w = "coil" then some (1, 2) else if w = "lamp" then some (1, 2) else none
theorem parts_is (w : Str) : partsP w = (partsN w).map fun p => .tup [.int (p.1 : Nat), .int (p.2 : Nat)] := by
  unfold partsP partsN
  repeat' split
  all_goals rfl
theorem parts_le {w : Str} {a b : Nat} (h : partsN w = some (a, b)) : a ≤ 1 := by
  unfold partsN at h
  repeat' split at h
  all_goals first | (cases h; omega) | cases h
/-- flat, and a text of signs that are -/
def flatK : D → Bool
  | .str w => PyData.strOk w
  | d => flatD d
theorem flatK_flat {d : D} (h : flatK d = true) : flatD d = true := by cases d <;> first | rfl | exact h
theorem flatK_all {ds : List D} (h : ds.all flatK = true) : ds.all flatD = true := List.all_eq_true.mpr fun d hd => flatK_flat (List.all_eq_true.mp h d hd)
theorem py_flat {M : Mem} : ∀ {ds : List D}, ds.all flatK = true → ∃ xs, PyA M ds xs ∧ pdA ds = some xs ∧ PyData.canLayAll0 xs = true ∧ PyData.depthAll xs = 0
  | [], _ => ⟨[], .nil, rfl, rfl, rfl⟩
  | d :: ds, h => by
    rw [List.all_cons, Bool.and_eq_true] at h
    obtain ⟨xs, h1, h2, h3, h4⟩ := py_flat h.2
    cases d with
    | non => exact ⟨_, .cons .non h1, by unfold pdA; rw [h2]; rfl, h3, by show max 0 (PyData.depthAll xs) = 0; omega⟩
    | bl b => exact ⟨_, .cons (.bl b) h1, by unfold pdA; rw [h2]; rfl, h3, by show max 0 (PyData.depthAll xs) = 0; omega⟩
    | int b => exact ⟨_, .cons (.int b) h1, by unfold pdA; rw [h2]; rfl, h3, by show max 0 (PyData.depthAll xs) = 0; omega⟩
    | str b => exact ⟨_, .cons (.str b) h1, by unfold pdA; rw [h2]; rfl, by show (PyData.strOk b && PyData.canLayAll0 xs) = true; rw [h3, Bool.and_true]; exact h.1, by show max 0 (PyData.depthAll xs) = 0; omega⟩
    | _ => cases h.1
theorem py_tup {M : Mem} {ds : List D} (h : ds.all flatK = true) : ∃ xs, Py M (.tup ds) (.tuple xs) ∧ pdA ds = some xs ∧ SeqAt.shaped (.tuple xs) = true := by
  obtain ⟨xs, h1, h2, h3, h4⟩ := py_flat (M := M) h
  refine ⟨xs, .tup h1, h2, ?_⟩
  show (PyData.canLayAll0 xs && decide (PyData.depthAll xs + 1 ≤ 64)) = true
  rw [h3, h4]; rfl
/-- a piece's data: none, or a text and flat things -/
def PieceD (p : List D) : Prop := p.all flatK = true ∧ p.length ≤ 900 ∧ (p = [] ∨ ∃ w r, p = .str w :: r)
def pieceOk (p : List D) (k r l : List Str) (n : Int) : Bool := match p with
  | .str w :: t => (match partsN w with
    | none => false
    | some (a, b) => if t.length = a + b then (if a = 1 then (match t with | x :: _ => inD x ((kindNames w k r l).map D.str) | [] => false) else true) && nodesOk (t.drop a) n else false)
  | _ => false
def sp_is_piece (ad : Ad) : Sp3 := fun ds M Q _ => ∃ p k r l ks rs ls n, ds = [.tup p, k, r, l, .int n] ∧ PieceD p ∧ Ws M k ks ∧ Ws M r rs ∧ Ws M l ls ∧ Q (.bl (pieceOk p ks rs ls n)) M
abbrev N_is_piece : List Str := ["piece", "keys", "relays", "lamps", "nodes", "many", "ends"]
def t_is_piece (ad : Ad) : TS3 := (seq3 (if3 (or3 (tst3 (op3 r3Eq (v3 0) (tup3 nil3))) (tst3 (op3 (r3Tab true ad.d_PARTS partsP) (op3 r3Ix (v3 0) (c3 (.int 0))) (c3 (.ref ad.d_PARTS))))) (ret3 (c3 (.bl false))) next3)
    (seq3 (asg3 (.tp [(.nm 5), (.nm 6)]) (op3 (r3TabIx ad.d_PARTS partsP) (c3 (.ref ad.d_PARTS)) (op3 r3Ix (v3 0) (c3 (.int 0)))))
    (seq3 (if3 (tst3 (op3 r3Ne (cal3 r3Len (cons3 (v3 0) nil3)) (op3 r3Add (op3 r3Add (c3 (.int 1)) (v3 5)) (v3 6)))) (ret3 (c3 (.bl false))) next3)
    (seq3 (if3 (and3 (tst3 (op3 r3Eq (v3 5) (c3 (.int 1)))) (tst3 (op3 (r3In true) (op3 r3Ix (v3 0) (c3 (.int 1))) (call3 (sp_names_of_kind ad) (cons3 (op3 r3Ix (v3 0) (c3 (.int 0))) (cons3 (v3 1) (cons3 (v3 2) (cons3 (v3 3) nil3)))))))) (ret3 (c3 (.bl false))) next3)
    (ret3 (call3 (sp_are_nodes ad) (cons3 (sl3 (v3 0) (some_o3 (op3 r3Add (c3 (.int 1)) (v3 5))) no_o3) (cons3 (v3 4) nil3))))))))
theorem len_is_piece {ad : Ad} {ds M Q E} (h : sp_is_piece ad ds M Q E) : ds.length = 5 := by obtain ⟨_, _, _, _, _, _, _, _, rfl, _⟩ := h; rfl
theorem atI0 {α : Type} {x : α} {xs : List α} : atI (x :: xs) 0 = some x := by rw [atI_nn (Int.le_refl 0)]; rfl
theorem atI1 {α : Type} {x y : α} {xs : List α} : atI (x :: y :: xs) 1 = some y := by rw [atI_nn (by decide)]; rfl
theorem r_is_piece {ad : Ad} {ds M Q E} (h : sp_is_piece ad ds M Q E) : t_is_piece ad { nx := fun _ M' => Q .non M', rt := Q } (start3 N_is_piece ds) M := by
  obtain ⟨p, k, r, l, ks, rs, ls, n, rfl, ⟨hf, hz, hp⟩, hk, hr, hl, q⟩ := h
  unfold t_is_piece N_is_piece
  walk_at "rd0"
  obtain ⟨xs, p1, p2, p3⟩ := py_tup (M := M) hf
  refine ⟨tup_pos (by decide), .tuple xs, .tuple [], p1, .tup .nil, p3, by decide +kernel, ?_⟩
  rcases hp with rfl | ⟨w, t, rfl⟩
  · cases p2
    exact q
  · have e0 : PyData.eqv (.tuple xs) (.tuple []) = false := by
      unfold pdA at p2
      split at p2
      · cases p2; rfl
      · cases p2
    simp only [e0, Bool.false_eq_true, if_false, r3Ix, lview_tup, atI0, r3Tab, if_true, true_and]
    rw [parts_is]
    simp only [pieceOk] at q
    cases hw : partsN w with
    | none =>
      rw [hw] at q
      simp only [Option.map_none, Option.isSome_none, Bool.not_false, if_true]
      exact q
    | some ab =>
      obtain ⟨a, b⟩ := ab
      rw [hw] at q
      simp only at q
      have ha := parts_le hw
      simp only [Option.map_some, Option.isSome_some, Bool.not_true, Bool.false_eq_true, if_false, r3TabIx, true_and]
      rw [parts_is, hw]
      simp only [Option.map_some, asg, asgs, List.set_cons_zero, List.set_cons_succ, r3Len, lview_tup, List.length_cons]
      walk_at "rd"
      simp only [r3Add, lview_int, r3Ne]
      by_cases g : t.length = a + b
      · have g' : ((t.length + 1 : Nat) : Int) = 1 + (a : Nat) + (b : Nat) := by omega
        rw [if_pos g] at q
        simp only [List.length_cons, g', decide_true, Bool.not_true, Bool.false_eq_true, if_false, r3Eq]
        have end_ : ∀ (t' : List D), t'.all flatK = true → t'.length ≤ 900 → Q (.bl (nodesOk t' n)) M → sp_are_nodes ad [.tup t', .int n] M Q no3 := fun t' h1 h2 h3 => ⟨t', n, rfl, flatK_all h1, by omega, h3⟩
        have hft : t.all flatK = true := by rw [List.all_cons, Bool.and_eq_true] at hf; exact hf.2
        have hlt : t.length ≤ 900 := by rw [List.length_cons] at hz; omega
        have hd : ∀ j, cutD (.str w :: t) (some (1 + (j : Nat))) none = t.drop j := fun j => by
          rw [cutD_fromI (by omega), show ((1 : Int) + (j : Nat)).toNat = j + 1 from by omega, List.drop_succ_cons]
        have hfd : (t.drop a).all flatK = true := List.all_eq_true.mpr fun d h => List.all_eq_true.mp hft d (List.mem_of_mem_drop h)
        have hld : (t.drop a).length ≤ 900 := by rw [List.length_drop]; omega
        match a, ha with
        | 0, _ =>
          have e01 : decide (((0 : Nat) : Int) = 1) = false := by decide
          have e02 : ¬ (0 : Nat) = 1 := by decide
          simp only [e01, Bool.false_eq_true, if_false, lview_tup]
          rw [hd 0]
          rw [if_neg e02, Bool.true_and] at q
          exact end_ _ hfd hld q
        | 1, _ =>
          cases t with
          | nil => simp at g; omega
          | cons x t =>
            have e11 : decide (((1 : Nat) : Int) = 1) = true := by decide
            simp only [e11, if_true, atI1, atI0, lview_tup]
            simp only [if_true] at q
            refine ⟨w, k, r, l, ks, rs, ls, rfl, hk, hr, hl, fun d hd2 => ?_⟩
            rw [List.all_cons, Bool.and_eq_true] at hft
            simp only [r3In, hd2]
            refine ⟨flatK_flat hft.1, flat_strs, ?_⟩
            simp only [if_true]
            cases hi : inD x ((kindNames w ks rs ls).map D.str) with
            | false => rw [hi] at q; exact q
            | true =>
              rw [hi] at q
              simp only [Bool.not_true, Bool.false_eq_true, if_false]
              rw [hd 1]
              simp only [Bool.true_and] at q
              exact end_ _ hfd hld q
      · have g' : ¬ ((t.length + 1 : Nat) : Int) = 1 + (a : Nat) + (b : Nat) := by omega
        rw [if_neg g] at q
        simp only [List.length_cons, g', decide_false, Bool.not_false, if_true]
        exact q
/-! ### faults -/
def headIs (w x : Str) : List D → Bool
  | .str w' :: .str x' :: _ => w' == w && x' == x
  | _ => false
theorem eqv_head {w x : Str} : ∀ {p : List D} {xs : List PyData}, p.all flatK = true → pdA (p.take 2) = some xs → PyData.eqv (.tuple xs) (.tuple [.str w, .str x]) = headIs w x p
  | [], _, _, h => by cases h; rfl
  | [d], _, f, h => by
    rw [List.all_cons, Bool.and_eq_true] at f
    cases d <;> first | (cases h; first | rfl | (show (_ && false) = false; rw [Bool.and_false])) | (cases f.1)
  | d :: e :: r, _, f, h => by
    rw [List.all_cons, Bool.and_eq_true, List.all_cons, Bool.and_eq_true] at f
    cases d <;> first | (cases f.1; done) | (cases e <;> first | (cases f.2.1; done) | (cases h; first | rfl | (simp only [PyData.eqv, PyData.eqvAll, headIs, Bool.and_true]; done) | (show (_ && (false && true)) = false; simp)))
/-- pieces, as handed in -/
def Ps (M : Mem) (d : D) (ps : List (List D)) : Prop := lview M d = some (ps.map D.tup) ∧ ps.length ≤ 100000 ∧ ∀ p ∈ ps, PieceD p
def onlyBad (w : Str) (ns : List Str) (ps : List (List D)) (k : Nat) : Bool := match ns[k]? with
  | some x => decide ((ps.filter (headIs w x)).length ≠ 1)
  | none => false
def tupHead (w x : Str) : D → Bool
  | .tup p => headIs w x p
  | _ => false
theorem filt_tup {w x : Str} {ps : List (List D)} : (((ps.map D.tup).filter (tupHead w x)).map (id : D → D)).length = (ps.filter (headIs w x)).length := by
  rw [List.map_id, List.filter_map, List.length_map]; rfl
def sp_only_fault (ad : Ad) : Sp3 := fun ds M Q _ => ∃ w nd pd ns ps, ds = [.str w, nd, pd] ∧ PyData.strOk w = true ∧ Ws M nd ns ∧ Ps M pd ps ∧ Q (faultD w (firstK (onlyBad w ns ps) ns.length)) M
abbrev N_only_fault : List Str := ["word", "names", "pieces", "k", "name", "piece"]
def t_only_fault (ad : Ad) : TS3 := (seq3 (for3 (enum3 (cons3 (v3 1) nil3)) (.tp [(.nm 3), (.nm 4)]) (if3 (tst3 (op3 r3Ne (cal3 r3Len (cons3 (lc3 (src3 (v3 2)) (.nm 5) (tst3 (op3 r3Eq (sl3 (v3 5) no_o3 (some_o3 (c3 (.int 2)))) (tup3 (cons3 (v3 0) (cons3 (v3 4) nil3))))) (v3 5) [5]) nil3)) (c3 (.int 1)))) (ret3 (tup3 (cons3 (v3 0) (cons3 (v3 3) nil3)))) next3))
    (ret3 (c3 .non)))
theorem len_only_fault {ad : Ad} {ds M Q E} (h : sp_only_fault ad ds M Q E) : ds.length = 3 := by obtain ⟨_, _, _, _, _, rfl, _⟩ := h; rfl
theorem r_only_fault {ad : Ad} {ds M Q E} (h : sp_only_fault ad ds M Q E) : t_only_fault ad { nx := fun _ M' => Q .non M', rt := Q } (start3 N_only_fault ds) M := by
  obtain ⟨w, nd, pd, ns, ps, rfl, hw, hn, hp, q⟩ := h
  unfold t_only_fault N_only_fault
  walk_at "rd0"
  refine for_enum nd (onlyBad w ns ps) (fun δ => ∃ a b, δ = [some (.str w), some nd, some pd, a, b, none]) (fun R h => h) hn.1 ⟨none, none, rfl⟩ (fun i h δ hI hl N hN => ?_) fun hl δ hI => ?_
  · obtain ⟨a, b, rfl⟩ := hI
    rw [List.length_map] at h
    have eg : (ns.map D.str)[i]'(by rw [List.length_map]; exact h) = .str ns[i] := by simp
    rw [eg]
    have eb : onlyBad w ns ps i = decide ((ps.filter (headIs w ns[i])).length ≠ 1) := by unfold onlyBad; rw [List.getElem?_eq_getElem h]
    walk_at "rd"
    refine lc_src pd (tupHead w ns[i]) id (fun R h => h) (by unfold itD; rw [hp.1]) (by rw [List.length_map]; have := hp.2.1; exact size_pos (by omega)) (fun d hd A B hA hB => ?_) (.inl ?_)
    · obtain ⟨p, hpm, rfl⟩ := List.mem_map.mp hd
      walk_at "rd"
      simp only [lview_tup]
      rw [cutD_toI (by decide), show (2 : Int).toNat = 2 from rfl]
      have hf : (p.take 2).all flatK = true := List.all_eq_true.mpr fun d h => List.all_eq_true.mp (hp.2.2 p hpm).1 d (List.mem_of_mem_take h)
      obtain ⟨xs, y1, y2, y3⟩ := py_tup (M := M) hf
      have hs : SeqAt.shaped (.tuple [.str w, .str ns[i]]) = true := by
        have h2 := (hn.2.2 _ (List.getElem_mem h)).2
        show ((PyData.strOk w && (PyData.strOk ns[i] && true)) && decide (1 ≤ 64)) = true
        rw [hw, h2]; rfl
      refine ⟨tup_pos (by decide), .tuple xs, .tuple [.str w, .str ns[i]], y1, .tup (.cons (.str _) (.cons (.str _) .nil)), y3, hs, ?_⟩
      rw [eqv_head (hp.2.2 p hpm).1 y2]
      simp only [tupHead] at hA hB
      cases hh : headIs w ns[i] p with
      | true => simp only [if_true]; exact hA hh
      | false => simp only [Bool.false_eq_true, if_false]; exact hB hh
    · simp only [r3Len, lview_lst, r3Ne, filt_tup]
      have out : onlyBad w ns ps i = true → Q (.tup [.str w, .int i]) M := fun hb => by
        rw [firstK_some h hb hl] at q; exact q
      by_cases g : (ps.filter (headIs w ns[i])).length = 1
      · have g' : (((ps.filter (headIs w ns[i])).length : Nat) : Int) = 1 := by omega
        simp only [g', decide_true, Bool.not_true, Bool.false_eq_true, if_false]
        exact hN (by rw [eb]; simpa using g) _ ⟨_, _, rfl⟩
      · have g' : ¬ (((ps.filter (headIs w ns[i])).length : Nat) : Int) = 1 := by omega
        simp only [g', decide_false, Bool.not_false, if_true]
        exact ⟨tup_pos (by decide), out (by rw [eb]; simpa using g)⟩
  · rw [List.length_map] at hl
    rw [firstK_none hl] at q
    exact q
def orD (a b : D) : D := match a with | .non => b | _ => a
def IsF (d : D) : Prop := d = .non ∨ ∃ a b, d = .tup [a, b]
theorem faultD_isF {w : Str} {k : Option Nat} : IsF (faultD w k) := by cases k with | none => exact .inl rfl | some k => exact .inr ⟨_, _, rfl⟩
theorem orD_isF {a b : D} (ha : IsF a) (hb : IsF b) : IsF (orD a b) := by
  rcases ha with rfl | ⟨x, y, rfl⟩
  · exact hb
  · exact .inr ⟨x, y, rfl⟩
theorem or_f {d e : D} {M : Mem} {Q : VK3} {N : Prop} (f : IsF d) (q : Q (orD d e) M) (h : Q e M → N) : match truD M d with | some true => Q d M | some false => N | none => False := by
  rcases f with rfl | ⟨x, y, rfl⟩
  · exact h q
  · exact q
def pieceBad (ks rs ls : List Str) (n : Int) (ps : List (List D)) (k : Nat) : Bool := match ps[k]? with
  | some p => !pieceOk p ks rs ls n
  | none => false
def pieceF (ks rs ls : List Str) (n : Int) (ps : List (List D)) : D :=
  orD (faultD "piece" (firstK (pieceBad ks rs ls n ps) ps.length)) (orD (faultD "coil" (firstK (onlyBad "coil" rs ps) rs.length)) (faultD "lamp" (firstK (onlyBad "lamp" ls ps) ls.length)))
def sp_piece_fault (ad : Ad) : Sp3 := fun ds M Q _ => ∃ k r l n p ks rs ls ps, ds = [k, r, l, .int n, p] ∧ Ws M k ks ∧ Ws M r rs ∧ Ws M l ls ∧ Ps M p ps ∧ Q (pieceF ks rs ls n ps) M
abbrev N_piece_fault : List Str := ["keys", "relays", "lamps", "nodes", "pieces", "k", "piece"]
def t_piece_fault (ad : Ad) : TS3 := (seq3 (for3 (enum3 (cons3 (v3 4) nil3)) (.tp [(.nm 5), (.nm 6)]) (if3 (not3 (tru3 (call3 (sp_is_piece ad) (cons3 (v3 6) (cons3 (v3 0) (cons3 (v3 1) (cons3 (v3 2) (cons3 (v3 3) nil3)))))))) (ret3 (tup3 (cons3 (c3 (.str "piece")) (cons3 (v3 5) nil3)))) next3))
    (ret3 (orv3 (call3 (sp_only_fault ad) (cons3 (c3 (.str "coil")) (cons3 (v3 1) (cons3 (v3 4) nil3)))) (call3 (sp_only_fault ad) (cons3 (c3 (.str "lamp")) (cons3 (v3 2) (cons3 (v3 4) nil3)))))))
theorem len_piece_fault {ad : Ad} {ds M Q E} (h : sp_piece_fault ad ds M Q E) : ds.length = 5 := by obtain ⟨_, _, _, _, _, _, _, _, _, rfl, _⟩ := h; rfl
theorem ok_coil : PyData.strOk "coil" = true := by decide +kernel
theorem ok_lamp : PyData.strOk "lamp" = true := by decide +kernel
theorem r_piece_fault {ad : Ad} {ds M Q E} (h : sp_piece_fault ad ds M Q E) : t_piece_fault ad { nx := fun _ M' => Q .non M', rt := Q } (start3 N_piece_fault ds) M := by
  obtain ⟨k, r, l, n, p, ks, rs, ls, ps, rfl, hk, hr, hl0, hp, q⟩ := h
  unfold t_piece_fault N_piece_fault
  walk_at "rd0"
  unfold pieceF at q
  refine for_enum p (pieceBad ks rs ls n ps) (fun δ => ∃ a b, δ = [some k, some r, some l, some (.int n), some p, a, b]) (fun R h => h) hp.1 ⟨none, none, rfl⟩ (fun i h δ hI hl N hN => ?_) fun hl δ hI => ?_
  · obtain ⟨a, b, rfl⟩ := hI
    rw [List.length_map] at h
    have eg : (ps.map D.tup)[i]'(by rw [List.length_map]; exact h) = .tup ps[i] := by simp
    rw [eg]
    have eb : pieceBad ks rs ls n ps i = !pieceOk ps[i] ks rs ls n := by unfold pieceBad; rw [List.getElem?_eq_getElem h]
    walk_at "rd"
    refine ⟨ps[i], k, r, l, ks, rs, ls, n, rfl, hp.2.2 _ (List.getElem_mem h), hk, hr, hl0, ?_⟩
    simp only [truD, lview_bl]
    cases hh : pieceOk ps[i] ks rs ls n with
    | true =>
      rw [hh] at eb
      simp only [Bool.not_true, Bool.false_eq_true, if_false]
      exact hN eb _ ⟨_, _, rfl⟩
    | false =>
      rw [hh] at eb
      simp only [Bool.not_false, if_true]
      rw [firstK_some h eb hl] at q
      exact ⟨tup_pos (by decide), q⟩
  · rw [List.length_map] at hl
    rw [firstK_none hl] at q
    obtain ⟨a, b, rfl⟩ := hI
    walk_at "rd"
    refine ⟨_, _, _, _, _, rfl, ok_coil, hr, hp, or_f faultD_isF q fun q => ⟨_, _, _, _, _, rfl, ok_lamp, hl0, hp, q⟩⟩
/-! ### times -/
def inT (d : D) : Bool := match d with | .int i => decide (1 ≤ i) && decide (i ≤ 4) | _ => false
def timesOk (t : List Int) : Bool := match t with
  | [a, b, c, d] => (t.map D.int).all inT && (decide (a ≤ b) && decide (c ≤ d))
  | _ => false
def sp_are_times (ad : Ad) : Sp3 := fun ds M Q _ => ∃ t, ds = [.tup (t.map D.int)] ∧ t.length ≤ 1000 ∧ Q (.bl (timesOk t)) M
abbrev N_are_times : List Str := ["times", "time"]
def t_are_times (ad : Ad) : TS3 := (seq3 (if3 (or3 (tst3 (op3 r3Ne (cal3 r3Len (cons3 (v3 0) nil3)) (c3 (.int 4)))) (not3 (tru3 (cal3 (r3AllB fun bs => bs.all id) (cons3 (lc3 (src3 (v3 0)) (.nm 1) yes3 (chain3 r3Le r3Le (c3 (.int 1)) (v3 1) (c3 (.int 4))) [1]) nil3))))) (ret3 (c3 (.bl false))) next3)
    (ret3 (andv3 (op3 r3Le (op3 r3Ix (v3 0) (c3 (.int 0))) (op3 r3Ix (v3 0) (c3 (.int 1)))) (op3 r3Le (op3 r3Ix (v3 0) (c3 (.int 2))) (op3 r3Ix (v3 0) (c3 (.int 3)))))))
theorem len_are_times {ad : Ad} {ds M Q E} (h : sp_are_times ad ds M Q E) : ds.length = 1 := by obtain ⟨_, rfl, _⟩ := h; rfl
theorem r_are_times {ad : Ad} {ds M Q E} (h : sp_are_times ad ds M Q E) : t_are_times ad { nx := fun _ M' => Q .non M', rt := Q } (start3 N_are_times ds) M := by
  obtain ⟨t, rfl, hz, q⟩ := h
  unfold t_are_times N_are_times
  walk_at "rd"
  simp only [r3Len, lview_tup, r3Ne, List.length_map]
  by_cases g : t.length = 4
  · have g' : ((t.length : Nat) : Int) = 4 := by omega
    simp only [g', decide_true, Bool.not_true, Bool.false_eq_true, if_false]
    refine lc_map (.tup (t.map D.int)) (fun d => .bl (inT d)) (fun R h => h) rfl (by rw [List.length_map]; exact size_pos (by omega)) (fun d hd A hA => ?_) (.inl (all_of inT ?_))
    · obtain ⟨i, _, rfl⟩ := List.mem_map.mp hd
      walk_at "rd"
      simp only [inT] at hA
      by_cases h1 : 1 ≤ i
      · simp only [h1, decide_true, Bool.true_and] at hA ⊢
        exact hA
      · simp only [h1, decide_false, Bool.false_and] at hA ⊢
        exact hA
    · match t, g with
      | [a, b, c, d], _ =>
        simp only [truD, lview_bl]
        unfold timesOk at q
        cases ha : ([a, b, c, d].map D.int).all inT with
        | false =>
          rw [ha] at q
          simp only [Bool.not_false, if_true]
          exact q
        | true =>
          rw [ha] at q
          simp only [Bool.not_true, Bool.false_eq_true, if_false]
          have e0 : atI [D.int a, D.int b, D.int c, D.int d] 0 = some (.int a) := atI0
          have e1 : atI [D.int a, D.int b, D.int c, D.int d] 1 = some (.int b) := atI1
          have e2 : atI [D.int a, D.int b, D.int c, D.int d] 2 = some (.int c) := by rw [atI_nn (by decide)]; rfl
          have e3 : atI [D.int a, D.int b, D.int c, D.int d] 3 = some (.int d) := by rw [atI_nn (by decide)]; rfl
          simp only [r3Ix, lview_tup, e0, e1, e2, e3, List.map_cons, List.map_nil, truD, lview_bl]
          by_cases h1 : a ≤ b
          · simp only [h1, decide_true, Bool.true_and] at q ⊢
            exact q
          · simp only [h1, decide_false, Bool.false_and, Bool.true_and] at q ⊢
            exact q
  · have g' : ¬ ((t.length : Nat) : Int) = 4 := by omega
    simp only [g', decide_false, Bool.not_false, if_true]
    have e : timesOk t = false := by
      unfold timesOk
      split
      · exact absurd rfl g
      · rfl
    rw [e] at q
    exact q
def tD (t : List Int) : D := .tup (t.map D.int)
def Ts (M : Mem) (d : D) (ts : List (List Int)) : Prop := lview M d = some (ts.map tD) ∧ ts.length ≤ 100000 ∧ ∀ t ∈ ts, t.length ≤ 1000
def timeBad (ts : List (List Int)) (k : Nat) : Bool := match ts[k]? with | some t => !timesOk t | none => false
def timeF (n : Nat) (ts : List (List Int)) : D := match firstK (timeBad ts) (min n ts.length) with
  | some k => .tup [.str "times", .int k]
  | none => if ts.length = n then .non else .tup [.str "times", .int ts.length]
def sp_time_fault (ad : Ad) : Sp3 := fun ds M Q _ => ∃ r t rs ts, ds = [r, t] ∧ Ws M r rs ∧ Ts M t ts ∧ Q (timeF rs.length ts) M
abbrev N_time_fault : List Str := ["relays", "times", "k", "own"]
def t_time_fault (ad : Ad) : TS3 := (seq3 (for3 (enum3 (cons3 (sl3 (v3 1) no_o3 (some_o3 (cal3 r3Len (cons3 (v3 0) nil3)))) nil3)) (.tp [(.nm 2), (.nm 3)]) (if3 (not3 (tru3 (call3 (sp_are_times ad) (cons3 (v3 3) nil3)))) (ret3 (tup3 (cons3 (c3 (.str "times")) (cons3 (v3 2) nil3)))) next3))
    (ret3 (ife3 (tst3 (op3 r3Ne (cal3 r3Len (cons3 (v3 1) nil3)) (cal3 r3Len (cons3 (v3 0) nil3)))) (tup3 (cons3 (c3 (.str "times")) (cons3 (cal3 r3Len (cons3 (v3 1) nil3)) nil3))) (c3 .non))))
theorem len_time_fault {ad : Ad} {ds M Q E} (h : sp_time_fault ad ds M Q E) : ds.length = 2 := by obtain ⟨_, _, _, _, rfl, _⟩ := h; rfl
theorem r_time_fault {ad : Ad} {ds M Q E} (h : sp_time_fault ad ds M Q E) : t_time_fault ad { nx := fun _ M' => Q .non M', rt := Q } (start3 N_time_fault ds) M := by
  obtain ⟨r, t, rs, ts, rfl, hr, ht, q⟩ := h
  unfold t_time_fault N_time_fault
  walk_at "rd0"
  unfold timeF at q
  refine for_enum (.lst ((ts.map tD).take rs.length)) (timeBad ts) (fun δ => ∃ a b, δ = [some r, some t, a, b]) (fun R h => ?_) rfl ⟨none, none, rfl⟩ (fun i h δ hI hl N hN => ?_) fun hl δ hI => ?_
  · walk_at "rd"
    simp only [r3Len, hr.1, ht.1]
    refine .inl ?_
    rw [cutD_toI (by omega), Int.toNat_natCast, List.length_map]
    exact h
  · obtain ⟨a, b, rfl⟩ := hI
    rw [List.length_take, List.length_map] at h
    have h' : i < ts.length := by omega
    have eg : ((ts.map tD).take rs.length)[i]'(by rw [List.length_take, List.length_map]; exact h) = .tup (ts[i].map D.int) := by simp [tD]
    rw [eg]
    have eb : timeBad ts i = !timesOk ts[i] := by unfold timeBad; rw [List.getElem?_eq_getElem h']
    walk_at "rd"
    refine ⟨ts[i], rfl, ht.2.2 _ (List.getElem_mem h'), ?_⟩
    simp only [truD, lview_bl]
    cases hh : timesOk ts[i] with
    | true =>
      rw [hh] at eb
      simp only [Bool.not_true, Bool.false_eq_true, if_false]
      exact hN eb _ ⟨_, _, rfl⟩
    | false =>
      rw [hh] at eb
      simp only [Bool.not_false, if_true]
      rw [firstK_some h eb hl] at q
      exact ⟨tup_pos (by decide), q⟩
  · rw [List.length_take, List.length_map] at hl
    rw [firstK_none hl] at q
    obtain ⟨a, b, rfl⟩ := hI
    walk_at "rd"
    simp only [r3Len, hr.1, ht.1, r3Ne, List.length_map]
    simp only at q
    by_cases g : ts.length = rs.length
    · have g' : ((ts.length : Nat) : Int) = (rs.length : Nat) := by omega
      rw [if_pos g] at q
      simp only [g', decide_true, Bool.not_true, Bool.false_eq_true, if_false]
      exact q
    · have g' : ¬ ((ts.length : Nat) : Int) = (rs.length : Nat) := by omega
      rw [if_neg g] at q
      simp only [g', decide_false, Bool.not_false, if_true]
      exact ⟨tup_pos (by decide), q⟩
/-! ### a net's faults -/
theorem manyF_isF {a b c : Nat} : IsF (manyF a b c) := by unfold manyF; (repeat' split); all_goals first | exact .inl rfl | exact .inr ⟨_, _, rfl⟩
theorem sizeF_isF {a : Int} {c : Nat} : IsF (sizeF a c) := by unfold sizeF; (repeat' split); all_goals first | exact .inl rfl | exact .inr ⟨_, _, rfl⟩
def netF (ks rs ls : List Str) (n : Int) (ps : List (List D)) (ts : List (List Int)) : D :=
  orD (orD (faultD "words" (firstK (wordBad (ks ++ rs ++ ls)) (ks ++ rs ++ ls).length)) (orD (manyF ks.length rs.length ls.length) (sizeF n ps.length))) (orD (pieceF ks rs ls n ps) (timeF rs.length ts))
def sp_net_fault (ad : Ad) : Sp3 := fun ds M Q _ => ∃ k r l n p t ks rs ls ps ts, ds = [k, r, l, .int n, p, t] ∧ Ws M k ks ∧ Ws M r rs ∧ Ws M l ls ∧ Ps M p ps ∧ Ts M t ts ∧ Q (netF ks rs ls n ps ts) M
abbrev N_net_fault : List Str := ["keys", "relays", "lamps", "nodes", "pieces", "times", "found"]
def t_net_fault (ad : Ad) : TS3 := (seq3 (set3 6 (orv3 (call3 (sp_word_fault ad) (cons3 (op3 r3Add (op3 r3Add (v3 0) (v3 1)) (v3 2)) nil3)) (orv3 (call3 (sp_many_fault ad) (cons3 (v3 0) (cons3 (v3 1) (cons3 (v3 2) nil3)))) (call3 (sp_size_fault ad) (cons3 (v3 3) (cons3 (v3 4) nil3))))))
    (ret3 (orv3 (v3 6) (orv3 (call3 (sp_piece_fault ad) (cons3 (v3 0) (cons3 (v3 1) (cons3 (v3 2) (cons3 (v3 3) (cons3 (v3 4) nil3)))))) (call3 (sp_time_fault ad) (cons3 (v3 1) (cons3 (v3 5) nil3)))))))
theorem len_net_fault {ad : Ad} {ds M Q E} (h : sp_net_fault ad ds M Q E) : ds.length = 6 := by obtain ⟨_, _, _, _, _, _, _, _, _, _, _, rfl, _⟩ := h; rfl
theorem r_net_fault {ad : Ad} {ds M Q E} (h : sp_net_fault ad ds M Q E) : t_net_fault ad { nx := fun _ M' => Q .non M', rt := Q } (start3 N_net_fault ds) M := by
  obtain ⟨k, r, l, n, p, t, ks, rs, ls, ps, ts, rfl, hk, hr, hl, hp, ht, q⟩ := h
  unfold t_net_fault N_net_fault
  walk_at "rd0"
  simp only [r3Add, hk.1, hr.1, hl.1]
  have := hk.2.1
  have := hr.2.1
  have := hl.2.1
  refine ⟨by rw [List.length_map, List.length_map]; exact tup_pos (by omega), .inl ?_⟩
  simp only [lview_lst, hl.1]
  refine ⟨by rw [List.length_append, List.length_map, List.length_map, List.length_map]; exact tup_pos (by omega), .inl ?_⟩
  unfold netF at q
  have fin : ∀ d, IsF d → Q (orD d (orD (pieceF ks rs ls n ps) (timeF rs.length ts))) M → match truD M d with | some true => Q d M | some false => (sp_piece_fault ad [k, r, l, .int n, p] M (fun d M1 => match truD M1 d with | some true => Q d M1 | some false => sp_time_fault ad [r, t] M1 Q no3 | none => False) no3) | none => False := fun d f q =>
    or_f f q fun q => ⟨_, _, _, _, _, ks, rs, ls, ps, rfl, hk, hr, hl, hp, or_f (orD_isF faultD_isF (orD_isF faultD_isF faultD_isF)) q fun q => ⟨_, _, _, _, rfl, hr, ht, q⟩⟩
  refine ⟨_, ks ++ rs ++ ls, rfl, by rw [List.map_append, List.map_append]; rfl, by simp only [List.length_append]; omega, fun w hw => ?_, ?_⟩
  · rcases List.mem_append.mp hw with hw | hw
    · rcases List.mem_append.mp hw with hw | hw
      · exact (hk.2.2 w hw).1
      · exact (hr.2.2 w hw).1
    · exact (hl.2.2 w hw).1
  · have f1 : IsF (faultD "words" (firstK (wordBad (ks ++ rs ++ ls)) (ks ++ rs ++ ls).length)) := faultD_isF
    refine or_f (Q := (fun d M1 => match truD M1 d with | some true => Q d M1 | some false => (sp_piece_fault ad [k, r, l, .int n, p] M1 (fun d M1 => match truD M1 d with | some true => Q d M1 | some false => sp_time_fault ad [r, t] M1 Q no3 | none => False) no3) | none => False)) (e := orD (manyF ks.length rs.length ls.length) (sizeF n ps.length)) f1 ?_ fun q1 => ⟨_, _, _, _, _, _, rfl, hk.1, hr.1, hl.1, ?_⟩
    · exact fin _ (orD_isF f1 (orD_isF manyF_isF sizeF_isF)) q
    · rw [List.length_map, List.length_map, List.length_map]
      refine or_f (Q := (fun d M1 => match truD M1 d with | some true => Q d M1 | some false => (sp_piece_fault ad [k, r, l, .int n, p] M1 (fun d M1 => match truD M1 d with | some true => Q d M1 | some false => sp_time_fault ad [r, t] M1 Q no3 | none => False) no3) | none => False)) (e := sizeF n ps.length) manyF_isF q1 fun q2 => ⟨_, _, _, rfl, hp.1, ?_⟩
      rw [List.length_map]
      exact q2
/-! ### the object -/
theorem lview_new {M : Mem} {d : D} {ds : List D} {p : Addr} {o : MO} (n : M p = none) (h : lview M d = some ds) : lview (put M p o) d = some ds := by
  cases d with
  | ref a =>
    have e := ref_lview h
    exact lview_ref (by rw [put_ne (mne e n)]; exact e)
  | lst xs => exact h
  | _ => cases h
theorem Ws.new {M : Mem} {d : D} {ws : List Str} {p : Addr} {o : MO} (n : M p = none) (h : Ws M d ws) : Ws (put M p o) d ws := ⟨lview_new n h.1, h.2⟩
theorem Ps.new {M : Mem} {d : D} {ws : List (List D)} {p : Addr} {o : MO} (n : M p = none) (h : Ps M d ws) : Ps (put M p o) d ws := ⟨lview_new n h.1, h.2⟩
theorem Ts.new {M : Mem} {d : D} {ws : List (List Int)} {p : Addr} {o : MO} (n : M p = none) (h : Ts M d ws) : Ts (put M p o) d ws := ⟨lview_new n h.1, h.2⟩
abbrev netNs : List Str := ["own_keys", "own_relays", "own_lamps", "node_count", "piece_rows", "time_rows"]
def netEs (ks rs ls : List Str) (n : Int) (ps : List (List D)) (ts : List (List Int)) : List D := [.lst (ks.map D.str), .lst (rs.map D.str), .lst (ls.map D.str), .int n, .lst (ps.map D.tup), .lst (ts.map tD)]
def netO (C : Addr) (ks rs ls : List Str) (n : Int) (ps : List (List D)) (ts : List (List Int)) : D := .obj C netNs (netEs ks rs ls n ps ts)
def sp_Net___init__ (ad : Ad) : Sp3 := fun ds M Q _ => ∃ a k r l n p t ks rs ls ps ts, ds = [.ref a, k, r, l, .int n, p, t] ∧ M a = some (.ins ad.C_Net []) ∧ Ws M k ks ∧ Ws M r rs ∧ Ws M l ls ∧ Ps M p ps ∧ Ts M t ts ∧ netF ks rs ls n ps ts = .non ∧ Q .non (put M a (.ins ad.C_Net (netNs.zip (netEs ks rs ls n ps ts))))
theorem pd1 {a : D} : putD "own_keys" a [] = [(("own_keys" : Str), a)] := rfl
theorem pd2 {a b : D} : putD "own_relays" b [(("own_keys" : Str), a)] = [(("own_keys" : Str), a), ("own_relays", b)] := by unfold putD; rw [if_neg (by decide +kernel)]; rfl
theorem pd3 {a b c : D} : putD "own_lamps" c [(("own_keys" : Str), a), ("own_relays", b)] = [(("own_keys" : Str), a), ("own_relays", b), ("own_lamps", c)] := by
  unfold putD; rw [if_neg (by decide +kernel)]; unfold putD; rw [if_neg (by decide +kernel)]; rfl
theorem pd4 {a b c d : D} : putD "node_count" d [(("own_keys" : Str), a), ("own_relays", b), ("own_lamps", c)] = [(("own_keys" : Str), a), ("own_relays", b), ("own_lamps", c), ("node_count", d)] := by
  unfold putD; rw [if_neg (by decide +kernel)]; unfold putD; rw [if_neg (by decide +kernel)]; unfold putD; rw [if_neg (by decide +kernel)]; rfl
theorem pd5 {a b c d e : D} : putD "piece_rows" e [(("own_keys" : Str), a), ("own_relays", b), ("own_lamps", c), ("node_count", d)] = [(("own_keys" : Str), a), ("own_relays", b), ("own_lamps", c), ("node_count", d), ("piece_rows", e)] := by
  unfold putD; rw [if_neg (by decide +kernel)]; unfold putD; rw [if_neg (by decide +kernel)]; unfold putD; rw [if_neg (by decide +kernel)]; unfold putD; rw [if_neg (by decide +kernel)]; rfl
theorem pd6 {a b c d e f : D} : putD "time_rows" f [(("own_keys" : Str), a), ("own_relays", b), ("own_lamps", c), ("node_count", d), ("piece_rows", e)] = [(("own_keys" : Str), a), ("own_relays", b), ("own_lamps", c), ("node_count", d), ("piece_rows", e), ("time_rows", f)] := by
  unfold putD; rw [if_neg (by decide +kernel)]; unfold putD; rw [if_neg (by decide +kernel)]; unfold putD; rw [if_neg (by decide +kernel)]; unfold putD; rw [if_neg (by decide +kernel)]; unfold putD; rw [if_neg (by decide +kernel)]; rfl
abbrev N_Net___init__ : List Str := ["self", "keys", "relays", "lamps", "nodes", "pieces", "times", "fault"]
def t_Net___init__ (ad : Ad) : TS3 := (seq3 (set3 7 (call3 (sp_net_fault ad) (cons3 (v3 1) (cons3 (v3 2) (cons3 (v3 3) (cons3 (v3 4) (cons3 (v3 5) (cons3 (v3 6) nil3))))))))
    (seq3 (if3 (tst3 (op3 (r3Is true) (v3 7) (c3 .non))) never3 next3)
    (seq3 (sfld3 ad.C_Net "own_keys" (v3 0) (cal3 r3List (cons3 (v3 1) nil3)))
    (seq3 (sfld3 ad.C_Net "own_relays" (v3 0) (cal3 r3List (cons3 (v3 2) nil3)))
    (seq3 (sfld3 ad.C_Net "own_lamps" (v3 0) (cal3 r3List (cons3 (v3 3) nil3)))
    (seq3 (sfld3 ad.C_Net "node_count" (v3 0) (v3 4))
    (seq3 (sfld3 ad.C_Net "piece_rows" (v3 0) (cal3 r3List (cons3 (v3 5) nil3)))
    (sfld3 ad.C_Net "time_rows" (v3 0) (cal3 r3List (cons3 (v3 6) nil3))))))))))
theorem len_Net___init__ {ad : Ad} {ds M Q E} (h : sp_Net___init__ ad ds M Q E) : ds.length = 7 := by obtain ⟨_, _, _, _, _, _, _, _, _, _, _, _, rfl, _⟩ := h; rfl
theorem lview_keep {M : Mem} {d : D} {ds : List D} {a : Addr} {C : Addr} {fs fs' : List (Str × D)} (ha : M a = some (.ins C fs)) (h : lview M d = some ds) : lview (put M a (.ins C fs')) d = some ds := by
  cases d with
  | ref b =>
    have e := ref_lview h
    exact lview_ref (by rw [put_ne (fun z => by subst z; rw [ha] at e; cases e)]; exact e)
  | lst xs => exact h
  | _ => cases h
theorem r_Net___init__ {ad : Ad} {ds M Q E} (h : sp_Net___init__ ad ds M Q E) : t_Net___init__ ad { nx := fun _ M' => Q .non M', rt := Q } (start3 N_Net___init__ ds) M := by
  obtain ⟨a, k, r, l, n, p, t, ks, rs, ls, ps, ts, rfl, ha, hk, hr, hl, hp, ht, hn, q⟩ := h
  unfold t_Net___init__ N_Net___init__
  walk_at "rd"
  refine ⟨k, r, l, n, p, t, ks, rs, ls, ps, ts, rfl, hk, hr, hl, hp, ht, ?_⟩
  rw [hn]
  simp only [r3Is, L3.isNon, if_true, Bool.not_true, Bool.false_eq_true, if_false]
  unfold sfld3
  walk_at "rd"
  simp only [r3List, hk.1]
  refine .inl ?_
  simp only [ha, pd1]
  refine ⟨trivial, by simp, ?_⟩
  rw [lview_keep ha hr.1]
  refine .inl ?_
  simp only [put_same, pd2, put_put]
  refine ⟨trivial, by simp, ?_⟩
  rw [lview_keep ha hl.1]
  refine .inl ?_
  simp only [put_same, pd3, put_put]
  refine ⟨trivial, by simp, ?_⟩
  simp only [put_same, pd4, put_put]
  refine ⟨trivial, by simp, ?_⟩
  rw [lview_keep ha hp.1]
  refine .inl ?_
  simp only [put_same, pd5, put_put]
  refine ⟨trivial, by simp, ?_⟩
  rw [lview_keep ha ht.1]
  refine .inl ?_
  simp only [put_same, pd6, put_put]
  exact ⟨trivial, by simp, q⟩
/-- what a net's own methods tell -/
def getSp (ad : Ad) (g : List Str → List Str → List Str → Int → List (List D) → List (List Int) → Mem → VK3 → Prop) : Sp3 := fun ds M Q _ => ∃ ks rs ls n ps ts, ds = [netO ad.C_Net ks rs ls n ps ts] ∧ g ks rs ls n ps ts M Q
theorem len_get {ad : Ad} {g ds M Q E} (h : getSp ad g ds M Q E) : ds.length = 1 := by obtain ⟨_, _, _, _, _, _, rfl, _⟩ := h; rfl
def sp_Net_key_words (ad : Ad) : Sp3 := getSp ad fun ks rs ls n ps ts M Q => newL (ks.map D.str) M Q
abbrev N_Net_key_words : List Str := ["self"]
def t_Net_key_words (ad : Ad) : TS3 := (ret3 (cal3 r3List (cons3 (fld3 ad.C_Net "own_keys" (v3 0)) nil3)))
theorem len_Net_key_words {ad : Ad} {ds M Q E} (h : sp_Net_key_words ad ds M Q E) : ds.length = 1 := len_get h
theorem fo_key_words {C : Addr} {ks rs ls n ps ts} {M : Mem} : fldD C "own_keys" M (netO C ks rs ls n ps ts) = some (.lst (ks.map D.str)) := by
  unfold netO
  simp only [fldD, if_true]
  rfl
theorem r_Net_key_words {ad : Ad} {ds M Q E} (h : sp_Net_key_words ad ds M Q E) : t_Net_key_words ad { nx := fun _ M' => Q .non M', rt := Q } (start3 N_Net_key_words ds) M := by
  obtain ⟨ks, rs, ls, n, ps, ts, rfl, q⟩ := h
  unfold t_Net_key_words N_Net_key_words
  walk_at "rd"
  simp only [fld3, v3, List.getElem?_cons_zero, fo_key_words, r3List, lview_lst]
  exact q
def sp_Net_relays (ad : Ad) : Sp3 := getSp ad fun ks rs ls n ps ts M Q => newL (rs.map D.str) M Q
abbrev N_Net_relays : List Str := ["self"]
def t_Net_relays (ad : Ad) : TS3 := (ret3 (cal3 r3List (cons3 (fld3 ad.C_Net "own_relays" (v3 0)) nil3)))
theorem len_Net_relays {ad : Ad} {ds M Q E} (h : sp_Net_relays ad ds M Q E) : ds.length = 1 := len_get h
theorem fo_relays {C : Addr} {ks rs ls n ps ts} {M : Mem} : fldD C "own_relays" M (netO C ks rs ls n ps ts) = some (.lst (rs.map D.str)) := by
  unfold netO
  simp only [fldD, if_true]
  rfl
theorem r_Net_relays {ad : Ad} {ds M Q E} (h : sp_Net_relays ad ds M Q E) : t_Net_relays ad { nx := fun _ M' => Q .non M', rt := Q } (start3 N_Net_relays ds) M := by
  obtain ⟨ks, rs, ls, n, ps, ts, rfl, q⟩ := h
  unfold t_Net_relays N_Net_relays
  walk_at "rd"
  simp only [fld3, v3, List.getElem?_cons_zero, fo_relays, r3List, lview_lst]
  exact q
def sp_Net_lamps (ad : Ad) : Sp3 := getSp ad fun ks rs ls n ps ts M Q => newL (ls.map D.str) M Q
abbrev N_Net_lamps : List Str := ["self"]
def t_Net_lamps (ad : Ad) : TS3 := (ret3 (cal3 r3List (cons3 (fld3 ad.C_Net "own_lamps" (v3 0)) nil3)))
theorem len_Net_lamps {ad : Ad} {ds M Q E} (h : sp_Net_lamps ad ds M Q E) : ds.length = 1 := len_get h
theorem fo_lamps {C : Addr} {ks rs ls n ps ts} {M : Mem} : fldD C "own_lamps" M (netO C ks rs ls n ps ts) = some (.lst (ls.map D.str)) := by
  unfold netO
  simp only [fldD, if_true]
  rfl
theorem r_Net_lamps {ad : Ad} {ds M Q E} (h : sp_Net_lamps ad ds M Q E) : t_Net_lamps ad { nx := fun _ M' => Q .non M', rt := Q } (start3 N_Net_lamps ds) M := by
  obtain ⟨ks, rs, ls, n, ps, ts, rfl, q⟩ := h
  unfold t_Net_lamps N_Net_lamps
  walk_at "rd"
  simp only [fld3, v3, List.getElem?_cons_zero, fo_lamps, r3List, lview_lst]
  exact q
def sp_Net_nodes (ad : Ad) : Sp3 := getSp ad fun ks rs ls n ps ts M Q => Q (.int n) M
abbrev N_Net_nodes : List Str := ["self"]
def t_Net_nodes (ad : Ad) : TS3 := (ret3 (fld3 ad.C_Net "node_count" (v3 0)))
theorem len_Net_nodes {ad : Ad} {ds M Q E} (h : sp_Net_nodes ad ds M Q E) : ds.length = 1 := len_get h
theorem fo_nodes {C : Addr} {ks rs ls n ps ts} {M : Mem} : fldD C "node_count" M (netO C ks rs ls n ps ts) = some (.int n) := by
  unfold netO
  simp only [fldD, if_true]
  rfl
theorem r_Net_nodes {ad : Ad} {ds M Q E} (h : sp_Net_nodes ad ds M Q E) : t_Net_nodes ad { nx := fun _ M' => Q .non M', rt := Q } (start3 N_Net_nodes ds) M := by
  obtain ⟨ks, rs, ls, n, ps, ts, rfl, q⟩ := h
  unfold t_Net_nodes N_Net_nodes
  walk_at "rd"
  simp only [fld3, v3, List.getElem?_cons_zero, fo_nodes]
  exact q
def sp_Net_pieces (ad : Ad) : Sp3 := getSp ad fun ks rs ls n ps ts M Q => newL (ps.map D.tup) M Q
abbrev N_Net_pieces : List Str := ["self"]
def t_Net_pieces (ad : Ad) : TS3 := (ret3 (cal3 r3List (cons3 (fld3 ad.C_Net "piece_rows" (v3 0)) nil3)))
theorem len_Net_pieces {ad : Ad} {ds M Q E} (h : sp_Net_pieces ad ds M Q E) : ds.length = 1 := len_get h
theorem fo_pieces {C : Addr} {ks rs ls n ps ts} {M : Mem} : fldD C "piece_rows" M (netO C ks rs ls n ps ts) = some (.lst (ps.map D.tup)) := by
  unfold netO
  simp only [fldD, if_true]
  rfl
theorem r_Net_pieces {ad : Ad} {ds M Q E} (h : sp_Net_pieces ad ds M Q E) : t_Net_pieces ad { nx := fun _ M' => Q .non M', rt := Q } (start3 N_Net_pieces ds) M := by
  obtain ⟨ks, rs, ls, n, ps, ts, rfl, q⟩ := h
  unfold t_Net_pieces N_Net_pieces
  walk_at "rd"
  simp only [fld3, v3, List.getElem?_cons_zero, fo_pieces, r3List, lview_lst]
  exact q
def sp_Net_times (ad : Ad) : Sp3 := getSp ad fun ks rs ls n ps ts M Q => newL (ts.map tD) M Q
abbrev N_Net_times : List Str := ["self"]
def t_Net_times (ad : Ad) : TS3 := (ret3 (cal3 r3List (cons3 (fld3 ad.C_Net "time_rows" (v3 0)) nil3)))
theorem len_Net_times {ad : Ad} {ds M Q E} (h : sp_Net_times ad ds M Q E) : ds.length = 1 := len_get h
theorem fo_times {C : Addr} {ks rs ls n ps ts} {M : Mem} : fldD C "time_rows" M (netO C ks rs ls n ps ts) = some (.lst (ts.map tD)) := by
  unfold netO
  simp only [fldD, if_true]
  rfl
theorem r_Net_times {ad : Ad} {ds M Q E} (h : sp_Net_times ad ds M Q E) : t_Net_times ad { nx := fun _ M' => Q .non M', rt := Q } (start3 N_Net_times ds) M := by
  obtain ⟨ks, rs, ls, n, ps, ts, rfl, q⟩ := h
  unfold t_Net_times N_Net_times
  walk_at "rd"
  simp only [fld3, v3, List.getElem?_cons_zero, fo_times, r3List, lview_lst]
  exact q
/-! ### the pot of digits -/
def PotAt (M : Mem) (p : Addr) : Prop := ∃ x y : Int, 0 ≤ x ∧ 0 ≤ y ∧ y < 2147483648 ∧ M p = some (.lst [.int x, .int y])
/-- the pot goes on, all else stays -/
structure Ev (p : Addr) (M M' : Mem) : Prop where
  pot : PotAt M' p
  kp : ∀ a, a ≠ p → ∀ o, M a = some o → M' a = some o
theorem Ev.refl {p : Addr} {M : Mem} (h : PotAt M p) : Ev p M M := ⟨h, fun _ _ _ e => e⟩
theorem Ev.trans {p : Addr} {M M1 M2 : Mem} (h : Ev p M M1) (k : Ev p M1 M2) : Ev p M M2 := ⟨k.pot, fun a n o e => k.kp a n o (h.kp a n o e)⟩
theorem PotAt.ne {M : Mem} {p a : Addr} (h : PotAt M p) (n : M a = none) : a ≠ p := fun e => by
  obtain ⟨x, y, _, _, _, e2⟩ := h
  rw [e, e2] at n; cases n
theorem Ev.lview {p : Addr} {M M' : Mem} {d : D} {ds : List D} (h : Ev p M M') (hd : d ≠ .ref p) (e : lview M d = some ds) : lview M' d = some ds := by
  cases d with
  | ref b => exact lview_ref (h.kp b (fun z => hd (by rw [z])) _ (ref_lview e))
  | lst xs => exact e
  | _ => cases e
def sp__law_pot (ad : Ad) : Sp3 := fun ds M Q _ => ∃ ns k, ds = [.scr ns, .int k] ∧ 0 ≤ k ∧ k < 1000 ∧ ∀ p M', M p = none → PotAt M' p → (∀ a o, M a = some o → M' a = some o) → Q (.ref p) M'
abbrev N__law_pot : List Str := ["_law_script", "_law_k", "_law_cell"]
def t__law_pot (ad : Ad) : TS3 := (seq3 (set3 2 (c3 (.int 0)))
    (seq3 (if3 (tst3 (op3 r3Lt (v3 1) (cal3 r3Len (cons3 (v3 0) nil3)))) (set3 2 (op3 r3Ix (v3 0) (v3 1))) next3)
    (ret3 (lst3 (cons3 (cal3 r3Max (cons3 (c3 (.int 0)) (cons3 (op3 r3Sub (v3 2) (op3 r3Pow (c3 (.int 10)) (c3 (.int 18)))) nil3))) (cons3 (op3 r3Add (op3 r3Mod (op3 r3Add (op3 r3Add (cal3 r3Abs (cons3 (v3 2) nil3)) (op3 r3Mul (c3 (.int 7919)) (v3 1))) (c3 (.int 31))) (c3 (.int 2147483646))) (c3 (.int 1))) nil3))))))
theorem len__law_pot {ad : Ad} {ds M Q E} (h : sp__law_pot ad ds M Q E) : ds.length = 2 := by obtain ⟨_, _, rfl, _⟩ := h; rfl
theorem r__law_pot {ad : Ad} {ds M Q E} (h : sp__law_pot ad ds M Q E) : t__law_pot ad { nx := fun _ M' => Q .non M', rt := Q } (start3 N__law_pot ds) M := by
  obtain ⟨ns, k, rfl, h0, h1, q⟩ := h
  have key : ∀ c : Int, ret3 (lst3 (cons3 (cal3 r3Max (cons3 (c3 (.int 0)) (cons3 (op3 r3Sub (v3 2) (op3 r3Pow (c3 (.int 10)) (c3 (.int 18)))) nil3))) (cons3 (op3 r3Add (op3 r3Mod (op3 r3Add (op3 r3Add (cal3 r3Abs (cons3 (v3 2) nil3)) (op3 r3Mul (c3 (.int 7919)) (v3 1))) (c3 (.int 31))) (c3 (.int 2147483646))) (c3 (.int 1))) nil3))) { nx := fun _ M' => Q .non M', rt := Q } [some (.scr ns), some (.int k), some (.int c)] M := fun c => by
    walk_at "rd"
    simp only [r3II, r3Abs, r3Mul, r3Add, lview_int]
    refine ⟨⟨by decide, by decide, by decide⟩, ⟨.inl ⟨by decide, by decide⟩, ⟨by decide, tup_pos (by decide), .inr fun p hp => q p _ hp ⟨_, _, ?_, ?_, ?_, put_same⟩ fun a o e => by rw [put_ne (mne e hp)]; exact e⟩⟩⟩
    · split <;> omega
    · have := Int.emod_nonneg ((if c < 0 then -c else c) + 7919 * k + 31) (show (2147483646 : Int) ≠ 0 by decide)
      omega
    · have := Int.emod_lt_of_pos ((if c < 0 then -c else c) + 7919 * k + 31) (show (0 : Int) < 2147483646 by decide)
      omega
  unfold t__law_pot N__law_pot
  simp only [seq3, set3, if3, tst3, op3, cal3, cons3, nil3, c3, start3, v3, next3, List.map_cons, List.map_nil, List.length_cons, List.length_nil, List.cons_append, List.nil_append, List.getElem?_cons_zero, List.getElem?_cons_succ, List.set_cons_zero, List.set_cons_succ, List.replicate_succ, List.replicate_zero, Nat.reduceAdd, Nat.reduceSub, r3Len, lview_scr, r3Lt, r3B]
  by_cases g : k < (ns.length : Nat)
  · simp only [g, decide_true, if_true, r3Ix, lview_scr]
    rw [List.getElem?_eq_getElem (show k.toNat < ns.length by omega)]
    exact ⟨h0, key _⟩
  · simp only [g, decide_false, Bool.false_eq_true, if_false]
    exact key 0
def sp__law_take (ad : Ad) : Sp3 := fun ds M Q _ => ∃ p m, ds = [.ref p, .int m] ∧ 0 < m ∧ m < 1000000000 ∧ PotAt M p ∧ ∀ d M', 0 ≤ d → d < m → Ev p M M' → Q (.int d) M'
abbrev N__law_take : List Str := ["_law_pot_here", "_law_many", "_law_digit"]
def t__law_take (ad : Ad) : TS3 := (seq3 (if3 (tst3 (op3 r3Gt (op3 r3Ix (v3 0) (c3 (.int 0))) (c3 (.int 0)))) (seq3 (dm3 (v3 0) (c3 (.int 0)) 2 (cal3 r3Divmod (cons3 (op3 r3Ix (v3 0) (c3 (.int 0))) (cons3 (v3 1) nil3))))
    (ret3 (v3 2))) next3)
    (seq3 (setix3 (v3 0) (c3 (.int 1)) (op3 r3Mod (op3 r3Mul (op3 r3Ix (v3 0) (c3 (.int 1))) (c3 (.int 48271))) (c3 (.int 2147483647))))
    (ret3 (op3 r3Mod (op3 r3Fdiv (op3 r3Mod (op3 r3Mul (op3 r3Ix (v3 0) (c3 (.int 1))) (op3 r3Ix (v3 0) (c3 (.int 1)))) (c3 (.int 2147483629))) (c3 (.int 7))) (v3 1)))))
theorem len__law_take {ad : Ad} {ds M Q E} (h : sp__law_take ad ds M Q E) : ds.length = 2 := by obtain ⟨_, _, rfl, _⟩ := h; rfl
theorem small_log2 {y : Int} (h0 : 0 < y) (h : y < 1000000000) : y.natAbs.log2 < 9000 := by
  have h1 : y.natAbs < 2 ^ 30 := by omega
  have := (Nat.log2_lt (show y.natAbs ≠ 0 by omega)).mpr h1
  omega
theorem ix2a {a b : D} : ixN [a, b].length 0 = some 0 := rfl
theorem ix2b {a b : D} : ixN [a, b].length 1 = some 1 := rfl
theorem r__law_take {ad : Ad} {ds M Q E} (h : sp__law_take ad ds M Q E) : t__law_take ad { nx := fun _ M' => Q .non M', rt := Q } (start3 N__law_take ds) M := by
  obtain ⟨p, m, rfl, h0, h1, ⟨x, y, hx, hy, hy2, e⟩, q⟩ := h
  have ev : ∀ x' y' : Int, 0 ≤ x' → 0 ≤ y' → y' < 2147483648 → Ev p M (put M p (.lst [.int x', .int y'])) := fun x' y' a b c => ⟨⟨x', y', a, b, c, put_same⟩, fun a n o e => by rw [put_ne n]; exact e⟩
  unfold t__law_take N__law_take
  walk_at "rd"
  simp only [r3Ix, lview_ref e, atI0]
  by_cases g : 0 < x
  · simp only [g, decide_true, if_true, dm3, cal3, cons3, nil3, op3, v3, c3, List.getElem?_cons_zero, List.getElem?_cons_succ, r3Ix, lview_ref e, atI0, r3Divmod]
    refine ⟨⟨h0, PyProof.noPylong_of_log2 (small_log2 h0 h1)⟩, ?_⟩
    simp only [e, ix2a, List.set_cons_zero, List.set_cons_succ, v3, List.getElem?_cons_zero, List.getElem?_cons_succ]
    exact q _ _ (Int.emod_nonneg _ (by omega)) (Int.emod_lt_of_pos _ h0) (ev _ _ (Int.ediv_nonneg hx (by omega)) hy hy2)
  · simp only [g, decide_false, Bool.false_eq_true, if_false, setix3, op3, v3, c3, List.getElem?_cons_zero, List.getElem?_cons_succ, r3Ix, lview_ref e, atI1, r3Mul, r3Mod, r3I]
    refine ⟨.inl ⟨by omega, by omega⟩, by decide, ?_⟩
    simp only [e, ix2b, List.set_cons_zero, List.set_cons_succ, v3, List.getElem?_cons_zero, List.getElem?_cons_succ]
    have e' : put M p (.lst [.int x, .int (y * 48271 % 2147483647)]) p = some (.lst [.int x, .int (y * 48271 % 2147483647)]) := put_same
    have b1 := Int.emod_nonneg (y * 48271) (show (2147483647 : Int) ≠ 0 by decide)
    have b2 := Int.emod_lt_of_pos (y * 48271) (show (0 : Int) < 2147483647 by decide)
    walk_at "rd"
    simp only [r3Ix, r3Mul, lview_ref e', atI1]
    refine ⟨.inl ⟨by omega, by omega⟩, by decide, ⟨by decide, by decide⟩, h0, ?_⟩
    exact q _ _ (Int.emod_nonneg _ (by omega)) (Int.emod_lt_of_pos _ h0) (ev _ _ hx b1 (by omega))
/-! ### words are made -/
def Txt' (c : Nat) : Str := ⟨#[c]⟩
theorem low_lt {c : Nat} (h : low c = true) : c < 0x110000 := by
  have h1 : ∀ c ∈ letters.cps.toList, c < 0x110000 := by decide +kernel
  exact h1 c (of_decide_eq_true h)
theorem isWord_of {w : Str} (h1 : 1 ≤ w.cps.toList.length) (h2 : w.cps.toList.length ≤ 8) (h3 : ∀ c ∈ w.cps.toList, low c = true) : isWord w = true := by
  unfold isWord lowS
  rw [Array.length_toList] at h1 h2
  rw [decide_eq_true (show 1 ≤ w.length from h1), decide_eq_true (show w.length ≤ 8 from h2), List.all_eq_true.mpr h3]; rfl
theorem of_isWord {w : Str} (h : isWord w = true) : 1 ≤ w.length ∧ w.length ≤ 8 ∧ ∀ c ∈ w.cps.toList, low c = true := by
  unfold isWord lowS at h
  rw [Bool.and_eq_true, Bool.and_eq_true] at h
  exact ⟨of_decide_eq_true h.1, of_decide_eq_true h.2.1, List.all_eq_true.mp h.2.2⟩
theorem isWord_ok {w : Str} (h : isWord w = true) : w.length ≤ 1000000 ∧ PyData.strOk w = true := by
  obtain ⟨h1, h2, h3⟩ := of_isWord h
  refine ⟨by omega, ?_⟩
  unfold PyData.strOk
  rw [Array.all_eq_true_iff_forall_mem]
  exact fun c hc => decide_eq_true (low_lt (h3 c (Array.mem_toList_iff.mpr hc)))
def candS (w : Str) (c : Nat) : Str := cutS w none (some 7) ++ ⟨#[c]⟩
theorem cand_cps {w : Str} {c : Nat} : (candS w c).cps.toList = w.cps.toList.take 7 ++ [c] := by
  unfold candS cutS
  rw [Str.cps_append]
  have e : HT.sIx w.length w.length (some (7 : Int)) = min 7 w.length := HT.sIx_nat _ _ 7
  rw [e, HT.sIx_none]
  simp only [Array.toList_append, List.drop_zero, Nat.sub_zero]
  congr 1
  by_cases h : 7 ≤ w.length
  · rw [Nat.min_eq_left h]
  · rw [Nat.min_eq_right (by omega), List.take_of_length_le (by rw [Array.length_toList]; exact Nat.le_refl _), List.take_of_length_le (by rw [Array.length_toList]; exact (show w.length ≤ 7 by omega))]
theorem cand_word {w : Str} {c : Nat} (h : isWord w = true) (hc : low c = true) : isWord (candS w c) = true := by
  obtain ⟨h1, h2, h3⟩ := of_isWord h
  refine isWord_of ?_ ?_ fun x hx => ?_
  · rw [cand_cps, List.length_append]; simp
  · rw [cand_cps, List.length_append, List.length_take]; simp; omega
  · rw [cand_cps] at hx
    rcases List.mem_append.mp hx with hx | hx
    · exact h3 x (List.mem_of_mem_take hx)
    · rw [List.mem_singleton] at hx; exact hx ▸ hc
def candD (w : Str) : D → D
  | .str c => .str (cutS w none (some 7) ++ c)
  | d => d
theorem cand_free {w : Str} {ws : List Str} (hl : ws.length ≤ 20) : ∃ c, low c = true ∧ candS w c ∉ ws := by
  apply Classical.byContradiction
  intro hn
  have hall : ∀ c ∈ letters.cps.toList, candS w c ∈ ws := fun c hc => Classical.byContradiction fun h => hn ⟨c, decide_eq_true hc, h⟩
  have sub : ∀ c ∈ letters.cps.toList, c ∈ ws.map fun s => s.cps.toList.getLast?.getD 0 := fun c hc => by
    refine List.mem_map.mpr ⟨candS w c, hall c hc, ?_⟩
    rw [cand_cps]; simp
  have := sub_len (show letters.cps.toList.Nodup by decide +kernel) sub
  rw [List.length_map] at this
  have e : letters.cps.toList.length = 26 := by decide +kernel
  omega
def wTail : TS3 := (seq3 (if3 (tst3 (op3 (r3In false) (v3 4) (v3 1))) (set3 4 (op3 r3Ix (lc3 (src3 (v3 2)) (.nm 7) (tst3 (op3 (r3In true) (op3 r3Add (sl3 (v3 4) no_o3 (some_o3 (c3 (.int 7)))) (v3 7)) (v3 1))) (op3 r3Add (sl3 (v3 4) no_o3 (some_o3 (c3 (.int 7)))) (v3 7)) [7]) (c3 (.int 0)))) next3)
    (seq3 (drop3 (bm3 chkL r3Append (v3 1) (cons3 (v3 4) nil3)))
    (ret3 (v3 4))))
theorem wTail_ok {w : Str} {ws : List Str} {pot tk : Addr} {M : Mem} {Q : VK3} {a b : Option D} (hw : isWord w = true) (ht : M tk = some (.lst (ws.map D.str))) (hl : ws.length ≤ 20)
    (q : ∀ w', isWord w' = true → w' ∉ ws → Q (.str w') (put M tk (.lst ((ws ++ [w']).map D.str)))) : wTail { nx := fun _ M' => Q .non M', rt := Q } [some (.ref pot), some (.ref tk), some (.str letters), a, some (.str w), b, none, none] M := by
  obtain ⟨w1, w2, w3⟩ := of_isWord hw
  have zl : ∀ n, n ≤ 1000 → n < sizeLine := fun n h => size_pos (by omega)
  have fin : ∀ w', isWord w' = true → w' ∉ ws → (seq3 (drop3 (bm3 chkL r3Append (v3 1) (cons3 (v3 4) nil3))) (ret3 (v3 4))) { nx := fun _ M' => Q .non M', rt := Q } [some (.ref pot), some (.ref tk), some (.str letters), a, some (.str w'), b, none, none] M := fun w' h1 h2 => by
    walk_at "rd"
    simp only [bm3, chkL, v3, cons3, nil3, List.getElem?_cons_zero, List.getElem?_cons_succ, lview_ref ht, Option.isSome_some, r3Append, onL, ht, List.length_map]
    have := q w' h1 h2
    rw [List.map_append] at this
    exact ⟨trivial, zl _ (by omega), this⟩
  unfold wTail
  simp only [seq3, if3, tst3, op3, v3, next3, List.getElem?_cons_zero, List.getElem?_cons_succ, r3In, lview_ref ht]
  refine ⟨rfl, flat_strs, ?_⟩
  rw [inD_strs]
  simp only [Bool.false_eq_true, if_false]
  by_cases g : w ∈ ws
  · simp only [g, decide_true, if_true, set3, op3]
    refine lc_src (.str letters) (fun d => !inD (candD w d) (ws.map D.str)) (candD w) (fun R h => h) rfl (by decide +kernel) (fun d hd A B hA hB => ?_) (.inl ?_)
    · obtain ⟨c, _, rfl⟩ := List.mem_map.mp hd
      walk_at "rd"
      simp only [lview_str]
      refine ⟨tup_pos (by omega), ?_⟩
      have hcut : (cutS w none (some 7)).length ≤ 8 := by
        have := @cand_cps w c
        unfold candS at this
        rw [Str.cps_append, Array.toList_append] at this
        have h2 := congrArg List.length this
        rw [List.length_append, List.length_append, List.length_take, Array.length_toList, Array.length_toList] at h2
        show (cutS w none (some 7)).cps.size ≤ 8
        simp at h2
        omega
      have hz : (cutS w none (some 7)).length + (⟨#[c]⟩ : Str).length ≤ sizeLine := Nat.le_of_lt (zl _ (by show _ + 1 ≤ _; omega))
      simp only [r3Add, lview_str, r3In, lview_ref ht]
      refine ⟨hz, rfl, flat_strs, ?_⟩
      simp only [if_true]
      cases hb : inD (D.str (cutS w none (some 7) ++ ⟨#[c]⟩)) (ws.map D.str) with
      | true => simp only [Bool.not_true, Bool.false_eq_true, if_false]; exact hB (by simp only [candD]; rw [hb]; rfl)
      | false => simp only [Bool.not_false, if_true]; exact ⟨tup_pos (by omega), hz, hA (by simp only [candD]; rw [hb]; rfl)⟩
    · obtain ⟨c, h1, h2⟩ := cand_free (w := w) hl
      have hm : D.str ⟨#[c]⟩ ∈ (L3.signs letters).filter fun d => !inD (candD w d) (ws.map D.str) := by
        refine List.mem_filter.mpr ⟨List.mem_map.mpr ⟨c, of_decide_eq_true h1, rfl⟩, ?_⟩
        simp only [candD, inD_strs]
        have h2' : ¬ (cutS w none (some 7) ++ ⟨#[c]⟩) ∈ ws := h2
        rw [decide_eq_false h2']; rfl
      cases hf : (L3.signs letters).filter fun d => !inD (candD w d) (ws.map D.str) with
      | nil => rw [hf] at hm; cases hm
      | cons y r =>
        have hy : y ∈ (L3.signs letters).filter fun d => !inD (candD w d) (ws.map D.str) := by rw [hf]; exact List.mem_cons_self
        obtain ⟨y1, y2⟩ := List.mem_filter.mp hy
        obtain ⟨c', hc', rfl⟩ := List.mem_map.mp y1
        simp only [candD, inD_strs] at y2
        have y3 : candS w c' ∉ ws := fun h => by
          have h' : (cutS w none (some 7) ++ ⟨#[c']⟩ : Str) ∈ ws := h
          rw [decide_eq_true h'] at y2
          cases y2
        simp only [c3, r3Ix, lview_lst, List.map_cons, candD, atI0]
        exact fin (candS w c') (cand_word hw (decide_eq_true hc')) y3
  · simp only [g, decide_false, Bool.false_eq_true, if_false]
    exact fin w hw g
/-- words that stand -/
def sp__law_word (ad : Ad) : Sp3 := fun ds M Q _ => ∃ p tk ws, ds = [.ref p, .ref tk] ∧ p ≠ tk ∧ PotAt M p ∧ M tk = some (.lst (ws.map D.str)) ∧ ws.length ≤ 20 ∧
  ∀ w M', isWord w = true → w ∉ ws → PotAt M' p → M' tk = some (.lst ((ws ++ [w]).map D.str)) → (∀ a, a ≠ p → a ≠ tk → ∀ o, M a = some o → M' a = some o) → Q (.str w) M'
abbrev N__law_word : List Str := ["_law_pot_here", "_law_taken", "_law_letters", "_law_choice", "_law_word_here", "_law_many", "_law_k", "_law_letter"]
def t__law_word (ad : Ad) : TS3 := (seq3 (set3 2 (c3 (.str "abcdefghijklmnopqrstuvwxyz")))
    (seq3 (set3 3 (call3 (sp__law_take ad) (cons3 (v3 0) (cons3 (c3 (.int 8)) nil3))))
    (seq3 (if3 (tst3 (op3 r3Eq (v3 3) (c3 (.int 7)))) (set3 4 (op3 r3Ix (lst3 (cons3 (c3 (.str "keys")) (cons3 (c3 (.str "relay")) (cons3 (c3 (.str "lamps")) (cons3 (c3 (.str "nodes")) (cons3 (c3 (.str "wire")) (cons3 (c3 (.str "made")) (cons3 (c3 (.str "broken")) (cons3 (c3 (.str "swap")) (cons3 (c3 (.str "coil")) (cons3 (c3 (.str "lamp")) nil3))))))))))) (call3 (sp__law_take ad) (cons3 (v3 0) (cons3 (c3 (.int 10)) nil3))))) (seq3 (set3 5 (op3 r3Add (c3 (.int 1)) (op3 r3Mul (op3 r3Mod (v3 3) (c3 (.int 2))) (call3 (sp__law_take ad) (cons3 (v3 0) (cons3 (c3 (.int 8)) nil3))))))
    (set3 4 (bm3 chkS r3Join (c3 (.str "")) (cons3 (lc3 (rng1 (cons3 (v3 5) nil3)) (.nm 6) yes3 (op3 r3Ix (v3 2) (call3 (sp__law_take ad) (cons3 (v3 0) (cons3 (c3 (.int 26)) nil3)))) [6]) nil3)))))
    (seq3 (if3 (tst3 (op3 (r3In false) (v3 4) (v3 1))) (set3 4 (op3 r3Ix (lc3 (src3 (v3 2)) (.nm 7) (tst3 (op3 (r3In true) (op3 r3Add (sl3 (v3 4) no_o3 (some_o3 (c3 (.int 7)))) (v3 7)) (v3 1))) (op3 r3Add (sl3 (v3 4) no_o3 (some_o3 (c3 (.int 7)))) (v3 7)) [7]) (c3 (.int 0)))) next3)
    (seq3 (drop3 (bm3 chkL r3Append (v3 1) (cons3 (v3 4) nil3)))
    (ret3 (v3 4)))))))
theorem len__law_word {ad : Ad} {ds M Q E} (h : sp__law_word ad ds M Q E) : ds.length = 2 := by obtain ⟨_, _, _, rfl, _⟩ := h; rfl
abbrev rowWs : List Str := ["keys", "relay", "lamps", "nodes", "wire", "made", "broken", "swap", "coil", "lamp"]
theorem row_word {n : Nat} (h : n < 10) : ∃ w, (rowWs.map D.str)[n]? = some (.str w) ∧ isWord w = true := by
  have h1 : ∀ w ∈ rowWs, isWord w = true := by decide +kernel
  have h2 : n < rowWs.length := h
  exact ⟨rowWs[n], by rw [List.getElem?_map, List.getElem?_eq_getElem h2]; rfl, h1 _ (List.getElem_mem h2)⟩
theorem join_cps : ∀ ys : List Str, (Txt.join "" ys).cps.toList = ys.flatMap fun y => y.cps.toList := by
  intro ys
  show (Builtin.Str.glued "" ys).cps.toList = _
  rw [StrLaws.glued_eq_join]
  have e0 : ("" : Str).cps.toList = [] := by decide +kernel
  induction ys with
  | nil => rfl
  | cons x r ih =>
    cases r with
    | nil => simp [Str.join]
    | cons y r =>
      show (x ++ "" ++ Str.join "" (y :: r)).cps.toList = _
      rw [Str.cps_append, Str.cps_append, Array.toList_append, Array.toList_append, ih, e0, List.append_nil]
      rfl
theorem r__law_word {ad : Ad} {ds M Q E} (h : sp__law_word ad ds M Q E) : t__law_word ad { nx := fun _ M' => Q .non M', rt := Q } (start3 N__law_word ds) M := by
  obtain ⟨p, tk, ws, rfl, hne, hp, ht, hl, q⟩ := h
  have fin : ∀ w M1 a b, isWord w = true → Ev p M M1 → wTail { nx := fun _ M' => Q .non M', rt := Q } [some (.ref p), some (.ref tk), some (.str letters), a, some (.str w), b, none, none] M1 := fun w M1 a b hw ev =>
    wTail_ok hw (ev.kp tk (Ne.symm hne) _ ht) hl fun w' h1 h2 => q w' _ h1 h2 (by
      obtain ⟨x, y, a1, a2, a3, a4⟩ := ev.pot
      exact ⟨x, y, a1, a2, a3, by rw [put_ne hne]; exact a4⟩) put_same fun a n1 n2 o e => by rw [put_ne n2]; exact ev.kp a n1 o e
  unfold t__law_word N__law_word
  simp only [seq3, set3, call3, cons3, nil3, c3, start3, v3, List.map_cons, List.map_nil, List.length_cons, List.length_nil, List.cons_append, List.nil_append, List.getElem?_cons_zero, List.getElem?_cons_succ, List.set_cons_zero, List.set_cons_succ, List.replicate_succ, List.replicate_zero, Nat.reduceAdd, Nat.reduceSub]
  refine ⟨p, 8, rfl, by decide, by decide, hp, fun c M1 c0 c1 e1 => ?_⟩
  simp only [if3, tst3, op3, v3, c3, List.getElem?_cons_zero, List.getElem?_cons_succ, r3Eq]
  by_cases g : c = 7
  · simp only [g, decide_true, if_true, lst3, cons3, nil3, call3, set3, op3, v3, c3, List.getElem?_cons_zero, List.getElem?_cons_succ]
    refine ⟨tup_pos (by decide), .inl ⟨p, 10, rfl, by decide, by decide, e1.pot, fun d M2 d0 d1 e2 => ?_⟩⟩
    obtain ⟨w, h1, h2⟩ := row_word (n := d.toNat) (by omega)
    simp only [r3Ix, lview_lst, atI_nn d0]
    rw [show ([D.str "keys", .str "relay", .str "lamps", .str "nodes", .str "wire", .str "made", .str "broken", .str "swap", .str "coil", .str "lamp"] : List D) = rowWs.map D.str from rfl, h1]
    exact fin w M2 _ _ h2 (e1.trans e2)
  · simp only [g, decide_false, Bool.false_eq_true, if_false, seq3, set3, op3, cons3, nil3, call3, v3, c3, List.getElem?_cons_zero, List.getElem?_cons_succ, r3Mod, r3I]
    refine ⟨by decide, p, 8, rfl, by decide, by decide, e1.pot, fun d M2 d0 d1 e2 => ?_⟩
    have m0 := Int.emod_nonneg c (show (2 : Int) ≠ 0 by decide)
    have m1 := Int.emod_lt_of_pos c (show (0 : Int) < 2 by decide)
    simp only [r3Mul]
    refine ⟨.inl ⟨by omega, by omega⟩, ?_⟩
    simp only [r3Add, lview_int]
    have many : 1 ≤ 1 + c % 2 * d ∧ 1 + c % 2 * d ≤ 8 := by
      rcases (show c % 2 = 0 ∨ c % 2 = 1 by omega) with e | e <;> rw [e] <;> omega
    generalize 1 + c % 2 * d = n at many
    simp only [bm3, chkS, c3, cons3, nil3, List.set_cons_zero, List.set_cons_succ]
    refine ⟨trivial, ?_⟩
    refine lcG n (fun R h => h) (fun i acc M' => Ev p M M' ∧ ∃ cs : List Nat, acc = cs.map (fun c => D.str ⟨#[c]⟩) ∧ ∀ c ∈ cs, low c = true) (by omega) (by omega) ⟨e1.trans e2, [], rfl, fun _ h => by cases h⟩ (fun i hi acc M' hlen hI N hN => ?_) fun acc M' hlen hI => .inl ?_
    · obtain ⟨ev, cs, rfl, hcs⟩ := hI
      simp only [asg, wipe3, List.set_cons_zero, List.set_cons_succ, op3, v3, call3, cons3, nil3, c3, List.getElem?_cons_zero, List.getElem?_cons_succ]
      refine ⟨p, 26, rfl, by decide, by decide, ev.pot, fun x M3 x0 x1 e3 => ?_⟩
      have h26 : letters.cps.toList.length = 26 := by decide +kernel
      have hx : x.toNat < letters.cps.toList.length := by omega
      simp only [r3Ix, lview_str, atI_nn x0]
      rw [List.getElem?_eq_getElem hx]
      refine ⟨by decide +kernel, hN _ _ ⟨ev.trans e3, cs ++ [letters.cps.toList[x.toNat]], by rw [List.map_append]; rfl, fun c hc => ?_⟩⟩
      rcases List.mem_append.mp hc with hc | hc
      · exact hcs c hc
      · rw [List.mem_singleton] at hc; subst hc; exact decide_eq_true (List.getElem_mem hx)
    · obtain ⟨ev, cs, rfl, hcs⟩ := hI
      rw [List.length_map] at hlen
      simp only [r3Join, lview_lst, joinQ]
      rw [show (cs.map fun c => D.str ⟨#[c]⟩) = (cs.map fun c => (⟨#[c]⟩ : Str)).map D.str from by rw [List.map_map]; rfl, strsOf_map]
      have hs : ((cs.map fun c => (⟨#[c]⟩ : Str)).map fun y => y.length).sum = cs.length := by
        rw [List.map_map]
        clear hlen hcs
        induction cs with
        | nil => rfl
        | cons c r ih => rw [List.map_cons, List.sum_cons, ih, List.length_cons]; show 1 + r.length = _; omega
      have e0 : ("" : Str).length = 0 := by decide +kernel
      have hj : (Txt.join "" (cs.map fun c => (⟨#[c]⟩ : Str))).cps.toList = cs := by
        rw [join_cps, List.flatMap_map]
        clear hlen hcs hs
        induction cs with
        | nil => rfl
        | cons c r ih => rw [List.flatMap_cons, ih]; rfl
      refine ⟨by rw [hs, e0]; omega, ?_⟩
      exact fin _ M' _ _ (isWord_of (by rw [hj]; omega) (by rw [hj]; omega) (by rw [hj]; exact hcs)) ev
/-! ### unlike nodes -/
def NodesIn (ns : List Int) (n : Int) : Prop := ns.Nodup ∧ ∀ x ∈ ns, 0 ≤ x ∧ x < n
def sp__law_unlike (ad : Ad) : Sp3 := fun ds M Q _ => ∃ p n m, ds = [.ref p, .int n, .int m] ∧ 0 ≤ m ∧ m ≤ n ∧ n ≤ 1000 ∧ PotAt M p ∧ ∀ ns M', ns.length = m.toNat → NodesIn ns n → Ev p M M' → Q (.tup (ns.map D.int)) M'
abbrev N__law_unlike : List Str := ["_law_pot_here", "_law_nodes", "_law_many", "_law_rest", "_law_k"]
def t__law_unlike (ad : Ad) : TS3 := (seq3 (set3 3 (lrg1 (v3 1)))
    (ret3 (cal3 r3Tuple (cons3 (lc3 (rng1 (cons3 (v3 2) nil3)) (.nm 4) yes3 (bm3 chkL r3Pop (v3 3) (cons3 (call3 (sp__law_take ad) (cons3 (v3 0) (cons3 (cal3 r3Len (cons3 (v3 3) nil3)) nil3))) nil3)) [4]) nil3))))
theorem len__law_unlike {ad : Ad} {ds M Q E} (h : sp__law_unlike ad ds M Q E) : ds.length = 3 := by obtain ⟨_, _, _, rfl, _⟩ := h; rfl
theorem nodup_range (n : Nat) : ((List.range n).map fun (i : Nat) => (i : Int)).Nodup := by
  refine List.Pairwise.map _ (fun a b h e => h ?_) (List.nodup_range (n := n))
  omega
theorem rg_ints (n : Int) : rgD 0 n = ((List.range n.toNat).map fun (i : Nat) => (i : Int)).map D.int := by
  unfold rgD
  rw [List.map_map, Int.sub_zero]
  refine List.map_congr_left fun i _ => ?_
  simp
theorem map_erase {α β : Type} (f : α → β) : ∀ (l : List α) (k : Nat), (l.map f).eraseIdx k = (l.eraseIdx k).map f
  | [], _ => rfl
  | _ :: _, 0 => rfl
  | x :: l, k + 1 => by rw [List.map_cons, List.eraseIdx_cons_succ, List.eraseIdx_cons_succ, List.map_cons, map_erase f l k]
theorem perm_erase {got rest : List Int} {k : Nat} (h : k < rest.length) : (got ++ rest).Perm (got ++ [rest[k]] ++ rest.eraseIdx k) := by
  rw [List.append_assoc]
  refine List.Perm.append_left got ?_
  rw [List.eraseIdx_eq_take_drop_succ]
  have e : rest = rest.take k ++ rest[k] :: rest.drop (k + 1) := by rw [← List.drop_eq_getElem_cons h, List.take_append_drop]
  have := List.perm_middle (l₁ := rest.take k) (l₂ := rest.drop (k + 1)) (a := rest[k])
  rw [← e] at this
  exact this
theorem r__law_unlike {ad : Ad} {ds M Q E} (h : sp__law_unlike ad ds M Q E) : t__law_unlike ad { nx := fun _ M' => Q .non M', rt := Q } (start3 N__law_unlike ds) M := by
  obtain ⟨p, n, m, rfl, h0, h1, h2, hp, q⟩ := h
  unfold t__law_unlike N__law_unlike
  simp only [seq3, set3, lrg1, start3, v3, List.map_cons, List.map_nil, List.length_cons, List.length_nil, List.cons_append, List.nil_append, List.getElem?_cons_zero, List.getElem?_cons_succ, List.replicate_succ, List.replicate_zero, Nat.reduceAdd, Nat.reduceSub]
  refine ⟨⟨by decide, by decide, by omega, by omega, by omega⟩, .inr fun r hr => ?_⟩
  have hrp := hp.ne hr
  simp only [ret3, cal3, cons3, nil3, List.set_cons_zero, List.set_cons_succ]
  have hpot : PotAt (put M r (.lst (rgD 0 n))) p := by
    obtain ⟨x, y, a1, a2, a3, a4⟩ := hp
    exact ⟨x, y, a1, a2, a3, by rw [put_ne (Ne.symm hrp)]; exact a4⟩
  refine lcG m (fun R h => h) (fun i acc M' => PotAt M' p ∧ (∀ a, a ≠ p → a ≠ r → ∀ o, M a = some o → M' a = some o) ∧ ∃ got rest : List Int, acc = got.map D.int ∧ M' r = some (.lst (rest.map D.int)) ∧ got.length = i ∧ rest.length + i = n.toNat ∧ NodesIn (got ++ rest) n) (by omega) (by omega)
    ⟨hpot, fun a n1 n2 o e => by rw [put_ne n2]; exact e, [], _, rfl, by rw [put_same, rg_ints], rfl, by simp, nodup_range _, fun x hx => ?_⟩ (fun i hi acc M' hlen hI N hN => ?_) fun acc M' hlen hI => .inl ?_
  · obtain ⟨j, hj, rfl⟩ := List.mem_map.mp hx
    rw [List.mem_range] at hj
    omega
  · obtain ⟨pot, kp, got, rest, rfl, hm, hg, hrl, hnd, hin⟩ := hI
    simp only [asg, wipe3, List.set_cons_zero, List.set_cons_succ, bm3, chkL, cal3, v3, call3, cons3, nil3, List.getElem?_cons_zero, List.getElem?_cons_succ, lview_ref hm, Option.isSome_some, r3Len, List.length_map]
    have hrl2 : (rest.length : Int) = n - i := by omega
    refine ⟨trivial, p, (rest.length : Nat), rfl, by omega, by omega, pot, fun x M3 x0 x1 e3 => ?_⟩
    have hm3 := e3.kp r hrp _ hm
    simp only [r3Pop, onL, hm3, List.length_map]
    have hx : x.toNat < rest.length := by omega
    have hsi : seqIndex? x rest.length = some x.toNat := seqIndex_of x0 x1
    rw [hsi]
    refine ⟨by omega, by omega, ?_⟩
    simp only
    rw [List.getElem?_map, List.getElem?_eq_getElem hx]
    simp only [Option.map_some]
    refine hN _ _ ⟨?_, fun a n1 n2 o e => ?_, got ++ [rest[x.toNat]], rest.eraseIdx x.toNat, by rw [List.map_append]; rfl, ?_, by rw [List.length_append, hg]; rfl, ?_, ?_, fun y hy => ?_⟩
    · obtain ⟨x', y', a1, a2, a3, a4⟩ := e3.pot
      exact ⟨x', y', a1, a2, a3, by rw [put_ne (Ne.symm hrp)]; exact a4⟩
    · rw [put_ne n2]; exact e3.kp a n1 o (kp a n1 n2 o e)
    · rw [put_same, map_erase]
    · rw [List.length_eraseIdx_of_lt hx]; omega
    · exact (perm_erase hx).nodup_iff.mp hnd
    · exact hin y ((perm_erase hx).mem_iff.mpr hy)
  · obtain ⟨pot, kp, got, rest, rfl, hm, hg, hrl, hnd, hin⟩ := hI
    simp only [r3Tuple, lview_lst]
    exact q got M' (by omega) ⟨(List.nodup_append.mp hnd).1, fun x hx => hin x (List.mem_append_left _ hx)⟩ ⟨pot, fun a n1 o e => kp a n1 (fun z => by subst z; rw [hr] at e; cases e) o e⟩
/-! ### pieces are made -/
def Pc (w : Str) (xs : List Str) (ns : List Int) : List D := .str w :: (xs.map D.str ++ ns.map D.int)
/-- a piece as the law makes it: its word among some, its names among some, its nodes unlike -/
def Made (kw names : List Str) (n : Int) (pc : List D) : Prop := ∃ w xs ns, pc = Pc w xs ns ∧ w ∈ kw ∧ (∀ x ∈ xs, x ∈ names) ∧ NodesIn ns n ∧ partsN w = some (xs.length, ns.length)
abbrev ctWs : List Str := ["wire", "made", "broken", "swap"]
theorem intsOf_mapI (ns : List Int) : intsOf (ns.map D.int) = some ns := intsOf_map ns
theorem nodesOk_of {ns : List Int} {n : Int} (h : NodesIn ns n) : nodesOk (ns.map D.int) n = true := by
  unfold nodesOk
  rw [intsOf_map]
  simp only [decide_eq_true h.1, Bool.and_true, List.all_map, List.all_eq_true]
  intro x hx
  have := h.2 x hx
  simp [inN, this.1, this.2]
theorem parts_some {w : Str} {a b : Nat} (h : partsN w = some (a, b)) : a ≤ 1 ∧ b ≤ 3 := by
  unfold partsN at h
  repeat' split at h
  all_goals first | (cases h; exact ⟨by decide, by decide⟩) | cases h
theorem Made.ok {kw names ks rs ls : List Str} {n : Int} {pc : List D} (h : Made kw names n pc) (hk : ∀ w ∈ kw, ∀ x ∈ names, x ∈ kindNames w ks rs ls) : pieceOk pc ks rs ls n = true := by
  obtain ⟨w, xs, ns, rfl, hw, hx, hn, hp⟩ := h
  have ha := parts_some hp
  simp only [Pc, pieceOk, hp, List.length_append, List.length_map, if_true]
  match xs, hx, ha with
  | [], _, _ =>
    simp only [List.length_nil, List.map_nil, List.nil_append, List.drop_zero]
    rw [nodesOk_of hn]
    rfl
  | [x], hx, _ =>
    have h1 := hk w hw x (hx x List.mem_cons_self)
    simp only [List.length_cons, List.length_nil, List.map_cons, List.map_nil, List.cons_append, List.nil_append, List.drop_succ_cons, List.drop_zero, Nat.zero_add, if_true]
    rw [nodesOk_of hn, inD_strs, decide_eq_true h1]; rfl
  | _ :: _ :: _, _, ha => simp at ha
/-- the shape of a piece -/
def Sh (pc : List D) : Prop := ∃ w xs ns, pc = Pc w xs ns ∧ (isWord w = true) ∧ (∀ x ∈ xs, isWord x = true) ∧ xs.length ≤ 1 ∧ ns.length ≤ 3 ∧ ∀ y ∈ ns, 0 ≤ y ∧ y < 1000
theorem parts_word {w : Str} {a b : Nat} (h : partsN w = some (a, b)) : isWord w = true := by
  unfold partsN at h
  repeat' split at h
  all_goals first | (subst w; decide +kernel) | cases h
theorem Made.sh {kw names : List Str} {n : Int} {pc : List D} (h : Made kw names n pc) (hw : ∀ x ∈ names, isWord x = true) (hn : n ≤ 1000) : Sh pc := by
  obtain ⟨w, xs, ns, rfl, h1, h2, h3, h4⟩ := h
  have ha := parts_some h4
  exact ⟨w, xs, ns, rfl, parts_word h4, fun x hx => hw x (h2 x hx), ha.1, ha.2, fun y hy => ⟨(h3.2 y hy).1, by have := (h3.2 y hy).2; omega⟩⟩
theorem Sh.pieceD {pc : List D} (h : Sh pc) : PieceD pc := by
  obtain ⟨w, xs, ns, rfl, h1, h2, h3, h4, h5⟩ := h
  refine ⟨?_, ?_, .inr ⟨w, _, rfl⟩⟩
  · refine List.all_eq_true.mpr fun d hd => ?_
    rcases List.mem_cons.mp hd with rfl | hd
    · exact (isWord_ok h1).2
    · rcases List.mem_append.mp hd with hd | hd
      · obtain ⟨x, hx, rfl⟩ := List.mem_map.mp hd
        exact (isWord_ok (h2 x hx)).2
      · obtain ⟨x, hx, rfl⟩ := List.mem_map.mp hd
        rfl
  · simp only [Pc, List.length_cons, List.length_append, List.length_map]; omega
theorem py_lst {M : Mem} {ds : List D} (h : ds.all flatK = true) : ∃ xs, Py M (.lst ds) (.list xs) ∧ pdA ds = some xs ∧ SeqAt.shaped (.list xs) = true := by
  obtain ⟨xs, h1, h2, h3, h4⟩ := py_flat (M := M) h
  refine ⟨xs, .lst h1, h2, ?_⟩
  show (PyData.canLayAll0 xs && decide (PyData.depthAll xs + 1 ≤ 64)) = true
  rw [h3, h4]; rfl
def sp__law_piece (ad : Ad) : Sp3 := fun ds M Q _ => ∃ p names n, ds = [.ref p, .lst (names.map D.str), .int n] ∧ names.length ≤ 100 ∧ (∀ w ∈ names, isWord w = true) ∧ 2 ≤ n ∧ n ≤ 1000 ∧ PotAt M p ∧ ∀ pc M', Made ctWs names n pc → Ev p M M' → Q (.tup pc) M'
abbrev N__law_piece : List Str := ["_law_pot_here", "_law_names", "_law_nodes", "_law_choice", "_law_name"]
def t__law_piece (ad : Ad) : TS3 := (seq3 (set3 3 (call3 (sp__law_take ad) (cons3 (v3 0) (cons3 (c3 (.int 4)) nil3))))
    (seq3 (if3 (or3 (tst3 (op3 r3Eq (v3 3) (c3 (.int 0)))) (tst3 (op3 r3Eq (v3 1) (lst3 nil3)))) (ret3 (op3 r3Add (tup3 (cons3 (c3 (.str "wire")) nil3)) (call3 (sp__law_unlike ad) (cons3 (v3 0) (cons3 (v3 2) (cons3 (c3 (.int 2)) nil3)))))) next3)
    (seq3 (set3 4 (op3 r3Ix (v3 1) (call3 (sp__law_take ad) (cons3 (v3 0) (cons3 (cal3 r3Len (cons3 (v3 1) nil3)) nil3)))))
    (seq3 (if3 (and3 (tst3 (op3 r3Eq (v3 3) (c3 (.int 3)))) (tst3 (op3 r3Gt (v3 2) (c3 (.int 2))))) (ret3 (op3 r3Add (tup3 (cons3 (c3 (.str "swap")) (cons3 (v3 4) nil3))) (call3 (sp__law_unlike ad) (cons3 (v3 0) (cons3 (v3 2) (cons3 (c3 (.int 3)) nil3)))))) next3)
    (ret3 (op3 r3Add (tup3 (cons3 (op3 r3Ix (lst3 (cons3 (c3 (.str "made")) (cons3 (c3 (.str "broken")) nil3))) (op3 r3Mod (v3 3) (c3 (.int 2)))) (cons3 (v3 4) nil3))) (call3 (sp__law_unlike ad) (cons3 (v3 0) (cons3 (v3 2) (cons3 (c3 (.int 2)) nil3))))))))))
theorem len__law_piece {ad : Ad} {ds M Q E} (h : sp__law_piece ad ds M Q E) : ds.length = 3 := by obtain ⟨_, _, _, rfl, _⟩ := h; rfl
theorem r__law_piece {ad : Ad} {ds M Q E} (h : sp__law_piece ad ds M Q E) : t__law_piece ad { nx := fun _ M' => Q .non M', rt := Q } (start3 N__law_piece ds) M := by
  obtain ⟨p, names, n, rfl, hl, hw, n2, n1, hp, q⟩ := h
  have hz : ∀ k : Nat, k ≤ 1000 → k ≤ sizeLine := fun k h => tup_pos (by omega)
  unfold t__law_piece N__law_piece
  simp only [seq3, set3, call3, cons3, nil3, c3, start3, v3, List.map_cons, List.map_nil, List.length_cons, List.length_nil, List.cons_append, List.nil_append, List.getElem?_cons_zero, List.getElem?_cons_succ, List.set_cons_zero, List.set_cons_succ, List.replicate_succ, List.replicate_zero, Nat.reduceAdd, Nat.reduceSub]
  refine ⟨p, 4, rfl, by decide, by decide, hp, fun c M1 c0 c1 e1 => ?_⟩
  -- an ending
  have wire : ret3 (op3 r3Add (tup3 (cons3 (c3 (.str "wire")) nil3)) (call3 (sp__law_unlike ad) (cons3 (v3 0) (cons3 (v3 2) (cons3 (c3 (.int 2)) nil3))))) { nx := fun _ M' => Q .non M', rt := Q } [some (.ref p), some (.lst (names.map D.str)), some (.int n), some (.int c), none] M1 := by
    walk_at "rd"
    refine ⟨hz _ (by decide), p, n, 2, rfl, by decide, by omega, n1, e1.pot, fun ns M2 hns hin e2 => ?_⟩
    simp only [r3Add, lview_tup, List.length_cons, List.length_nil, List.length_map]
    have e2' : ns.length = 2 := hns
    exact ⟨hz _ (by omega), q _ M2 ⟨"wire", [], ns, rfl, by decide +kernel, (fun _ h => by cases h), hin, by rw [e2']; rfl⟩ (e1.trans e2)⟩
  have hall : (names.map D.str).all flatK = true := List.all_eq_true.mpr fun d hd => by
    obtain ⟨x, hx, rfl⟩ := List.mem_map.mp hd
    exact (isWord_ok (hw x hx)).2
  simp only [if3, or3, tst3, op3, v3, c3, lst3, nil3, List.getElem?_cons_zero, List.getElem?_cons_succ, r3Eq]
  by_cases g : c = 0
  · simp only [g, decide_true, if_true]
    rw [g] at wire
    exact wire
  · simp only [g, decide_false, Bool.false_eq_true, if_false]
    obtain ⟨xs, y1, y2, y3⟩ := py_lst (M := M1) hall
    refine ⟨hz _ (by decide), .inl ⟨.list xs, .list [], y1, .lst .nil, y3, by decide +kernel, ?_⟩⟩
    cases hn : names with
    | nil =>
      subst hn
      cases y2
      exact wire
    | cons x0 nr =>
      have e0 : PyData.eqv (.list xs) (.list []) = false := by
        rw [hn] at y2
        unfold pdA at y2
        rw [List.map_cons] at y2
        simp only at y2
        split at y2
        · cases y2; rfl
        · cases y2
      rw [← hn]
      simp only [e0, Bool.false_eq_true, if_false, next3, seq3, set3, call3, cal3, cons3, nil3, c3, op3, v3, List.getElem?_cons_zero, List.getElem?_cons_succ, r3Len, lview_lst, List.length_map]
      have hpos : 0 < names.length := by rw [hn, List.length_cons]; omega
      refine ⟨p, _, rfl, by omega, by omega, e1.pot, fun d M2 d0 d1 e2 => ?_⟩
      have hd : d.toNat < names.length := by omega
      simp only [r3Ix, lview_lst, atI_nn d0, List.getElem?_map, List.getElem?_eq_getElem hd, Option.map_some, List.set_cons_zero, List.set_cons_succ]
      have e12 := e1.trans e2
      have hmem : names[d.toNat] ∈ names := List.getElem_mem hd
      simp only [if3, and3, tst3, op3, v3, c3, List.getElem?_cons_zero, List.getElem?_cons_succ, r3Eq, r3Gt, r3B]
      have ct : ret3 (op3 r3Add (tup3 (cons3 (op3 r3Ix (lst3 (cons3 (c3 (.str "made")) (cons3 (c3 (.str "broken")) nil3))) (op3 r3Mod (v3 3) (c3 (.int 2)))) (cons3 (v3 4) nil3))) (call3 (sp__law_unlike ad) (cons3 (v3 0) (cons3 (v3 2) (cons3 (c3 (.int 2)) nil3))))) { nx := fun _ M' => Q .non M', rt := Q } [some (.ref p), some (.lst (names.map D.str)), some (.int n), some (.int c), some (.str names[d.toNat])] M2 := by
        walk_at "rd"
        refine ⟨hz _ (by decide), .inl ⟨by decide, ?_⟩⟩
        have m0 := Int.emod_nonneg c (show (2 : Int) ≠ 0 by decide)
        have m1 := Int.emod_lt_of_pos c (show (0 : Int) < 2 by decide)
        simp only [r3Ix, lview_lst]
        have fin : ∀ w : Str, w ∈ ctWs → partsN w = some (1, 2) → (2 ≤ sizeLine ∧ sp__law_unlike ad [.ref p, .int n, .int 2] M2 (fun y M3 => r3Add (.tup [.str w, .str names[d.toNat]]) y M3 Q) no3) := fun w h1 h2 => ⟨hz _ (by decide), p, n, 2, rfl, by decide, by omega, n1, e12.pot, fun ns M3 hns hin e3 => by
          have e2' : ns.length = 2 := hns
          simp only [r3Add, lview_tup, List.length_cons, List.length_nil, List.length_map]
          exact ⟨hz _ (by omega), q _ M3 ⟨w, [names[d.toNat]], ns, rfl, h1, fun y hy => by rw [List.mem_singleton] at hy; exact hy ▸ hmem, hin, by rw [e2']; exact h2⟩ (e12.trans e3)⟩⟩
        rcases (show c % 2 = 0 ∨ c % 2 = 1 by omega) with e | e
        · rw [e, atI0]; exact fin "made" (by decide +kernel) (by decide +kernel)
        · rw [e, atI1]; exact fin "broken" (by decide +kernel) (by decide +kernel)
      by_cases g3 : c = 3
      · simp only [g3, decide_true, if_true]
        rw [g3] at ct
        by_cases gn : 2 < n
        · simp only [gn, decide_true, if_true]
          try walk_at "rd"
          refine ⟨hz _ (by decide), p, n, 3, rfl, by decide, by omega, n1, e12.pot, fun ns M3 hns hin e3 => ?_⟩
          have e2' : ns.length = 3 := hns
          simp only [r3Add, lview_tup, List.length_cons, List.length_nil, List.length_map]
          exact ⟨hz _ (by omega), q _ M3 ⟨"swap", [names[d.toNat]], ns, rfl, by decide +kernel, fun y hy => by rw [List.mem_singleton] at hy; exact hy ▸ hmem, hin, by rw [e2']; exact (by decide +kernel : partsN "swap" = some (1, 3))⟩ (e12.trans e3)⟩
        · simp only [gn, decide_false, Bool.false_eq_true, if_false]
          exact ct
      · simp only [g3, decide_false, Bool.false_eq_true, if_false]
        exact ct
def sp__law_times (ad : Ad) : Sp3 := fun ds M Q _ => ∃ p, ds = [.ref p] ∧ PotAt M p ∧ ∀ t M', timesOk t = true → Ev p M M' → Q (tD t) M'
abbrev N__law_times : List Str := ["_law_pot_here", "_law_p", "_law_f"]
def t__law_times (ad : Ad) : TS3 := (seq3 (par3 1 2 (op3 r3Add (c3 (.int 1)) (call3 (sp__law_take ad) (cons3 (v3 0) (cons3 (c3 (.int 4)) nil3)))) (op3 r3Add (c3 (.int 1)) (call3 (sp__law_take ad) (cons3 (v3 0) (cons3 (c3 (.int 4)) nil3)))))
    (ret3 (tup3 (cons3 (v3 1) (cons3 (op3 r3Add (v3 1) (call3 (sp__law_take ad) (cons3 (v3 0) (cons3 (op3 r3Sub (c3 (.int 5)) (v3 1)) nil3)))) (cons3 (v3 2) (cons3 (op3 r3Add (v3 2) (call3 (sp__law_take ad) (cons3 (v3 0) (cons3 (op3 r3Sub (c3 (.int 5)) (v3 2)) nil3)))) nil3)))))))
theorem len__law_times {ad : Ad} {ds M Q E} (h : sp__law_times ad ds M Q E) : ds.length = 1 := by obtain ⟨_, rfl, _⟩ := h; rfl
theorem timesOk_of {a b c d : Int} (h1 : 1 ≤ a) (h2 : a ≤ b) (h3 : b ≤ 4) (h4 : 1 ≤ c) (h5 : c ≤ d) (h6 : d ≤ 4) : timesOk [a, b, c, d] = true := by
  simp only [timesOk, List.map_cons, List.map_nil, List.all_cons, List.all_nil, inT]
  simp only [h1, h2, h3, h4, h5, h6, show a ≤ 4 by omega, show 1 ≤ b by omega, show c ≤ 4 by omega, show 1 ≤ d by omega, decide_true, Bool.and_true]
theorem r__law_times {ad : Ad} {ds M Q E} (h : sp__law_times ad ds M Q E) : t__law_times ad { nx := fun _ M' => Q .non M', rt := Q } (start3 N__law_times ds) M := by
  obtain ⟨p, rfl, hp, q⟩ := h
  unfold t__law_times N__law_times
  walk_at "rd"
  refine ⟨p, 4, rfl, by decide, by decide, hp, fun a M1 a0 a1 e1 => ?_⟩
  simp only [r3Add, lview_int]
  refine ⟨p, 4, rfl, by decide, by decide, e1.pot, fun b M2 b0 b1 e2 => ?_⟩
  simp only [r3Add, lview_int]
  try walk_at "rd"
  refine ⟨p, 5 - (1 + a), rfl, by omega, by omega, e2.pot, fun c M3 c0 c1 e3 => ?_⟩
  simp only [r3Add, lview_int]
  refine ⟨p, 5 - (1 + b), rfl, by omega, by omega, e3.pot, fun d M4 d0 d1 e4 => ?_⟩
  simp only [r3Add, lview_int]
  exact ⟨tup_pos (by decide), q [1 + a, 1 + a + c, 1 + b, 1 + b + d] M4 (timesOk_of (by omega) (by omega) (by omega) (by omega) (by omega) (by omega)) (e1.trans (e2.trans (e3.trans e4)))⟩
/-! ### a net is made -/
def cnt (w x : Str) (ps : List (List D)) : Nat := (ps.filter (headIs w x)).length
theorem cnt_ins {w x : Str} {ps : List (List D)} {pc : List D} (k : Nat) : cnt w x (ps.take k ++ [pc] ++ ps.drop k) = cnt w x ps + (if headIs w x pc = true then 1 else 0) := by
  unfold cnt
  have e : (ps.filter (headIs w x)).length = ((ps.take k).filter (headIs w x)).length + ((ps.drop k).filter (headIs w x)).length := by
    rw [← List.length_append, ← List.filter_append, List.take_append_drop]
  rw [e, List.filter_append, List.filter_append, List.length_append, List.length_append, List.filter_cons]
  split
  · simp; omega
  · simp
theorem headIs_pc {w x w' : Str} {xs : List Str} {ns : List Int} : headIs w x (Pc w' xs ns) = true ↔ w' = w ∧ ∃ r, xs = x :: r := by
  cases xs with
  | nil =>
    cases ns with
    | nil => simp [Pc, headIs]
    | cons n ns => simp [Pc, headIs]
  | cons y r =>
    simp only [Pc, List.map_cons, List.cons_append, headIs, Bool.and_eq_true, beq_iff_eq, List.cons.injEq]
    exact ⟨fun h => ⟨h.1, r, h.2, rfl⟩, fun ⟨h1, r', h2, _⟩ => ⟨h1, h2⟩⟩
theorem cnt_zero {w x : Str} {ps : List (List D)} (h : ∀ pc ∈ ps, headIs w x pc = false) : cnt w x ps = 0 := by
  unfold cnt
  rw [List.filter_eq_nil_iff.mpr fun pc hpc => by rw [h pc hpc]; exact Bool.false_ne_true]; rfl
/-- a net without a fault, of the law's bounds -/
structure NetOk (ks rs ls : List Str) (n : Int) (ps : List (List D)) (ts : List (List Int)) : Prop where
  kl : ks.length ≤ 2
  rl : rs.length ≤ 4
  ll : ls.length ≤ 2
  ws : ∀ w ∈ ks ++ rs ++ ls, isWord w = true
  nd : (ks ++ rs ++ ls).Nodup
  n2 : 2 ≤ n
  nm : n ≤ 640
  pl : ps.length ≤ 800
  pk : ∀ pc ∈ ps, pieceOk pc ks rs ls n = true
  sh : ∀ pc ∈ ps, Sh pc
  co : ∀ r ∈ rs, cnt "coil" r ps = 1
  la : ∀ l ∈ ls, cnt "lamp" l ps = 1
  tl : ts.length = rs.length
  tk : ∀ t ∈ ts, timesOk t = true
theorem nodup_take {α : Type} [DecidableEq α] {l : List α} {i : Nat} (h : i < l.length) (n : l.Nodup) : l[i] ∉ l.take i := by
  have e : l = l.take i ++ l[i] :: l.drop (i + 1) := by rw [← List.drop_eq_getElem_cons h, List.take_append_drop]
  rw [e] at n
  obtain ⟨_, _, h3⟩ := List.nodup_append.mp n
  exact fun hm => h3 _ hm _ List.mem_cons_self rfl
theorem timesOk_len {t : List Int} (h : timesOk t = true) : t.length = 4 := by
  unfold timesOk at h
  split at h
  · rfl
  · cases h
theorem NetOk.none {ks rs ls : List Str} {n : Int} {ps : List (List D)} {ts : List (List Int)} (h : NetOk ks rs ls n ps ts) : netF ks rs ls n ps ts = .non := by
  have f1 : firstK (wordBad (ks ++ rs ++ ls)) (ks ++ rs ++ ls).length = Option.none := firstK_none fun i hi => by
    unfold wordBad
    rw [List.getElem?_eq_getElem hi]
    simp only
    rw [h.ws _ (List.getElem_mem hi), decide_eq_false (nodup_take hi h.nd)]; rfl
  have f2 : manyF ks.length rs.length ls.length = .non := by
    unfold manyF
    rw [if_neg (by have := h.kl; omega), if_neg (by have := h.rl; omega), if_neg (by have := h.ll; omega)]
  have f3 : sizeF n ps.length = .non := by
    unfold sizeF
    rw [if_pos ⟨h.n2, h.nm⟩, if_neg (by have := h.pl; omega)]
  have f4 : firstK (pieceBad ks rs ls n ps) ps.length = Option.none := firstK_none fun i hi => by
    unfold pieceBad
    rw [List.getElem?_eq_getElem hi]
    simp only
    rw [h.pk _ (List.getElem_mem hi)]; rfl
  have f5 : ∀ (w : Str) (xs : List Str), (∀ r ∈ xs, cnt w r ps = 1) → firstK (onlyBad w xs ps) xs.length = Option.none := fun w xs hx => firstK_none fun i hi => by
    unfold onlyBad
    rw [List.getElem?_eq_getElem hi]
    have := hx _ (List.getElem_mem hi)
    unfold cnt at this
    simp only [this]
    decide
  have f6 : firstK (timeBad ts) (min rs.length ts.length) = Option.none := firstK_none fun i hi => by
    have hi' : i < ts.length := by omega
    unfold timeBad
    rw [List.getElem?_eq_getElem hi']
    simp only
    rw [h.tk _ (List.getElem_mem hi')]; rfl
  unfold netF pieceF timeF
  rw [f1, f2, f3, f4, f5 _ _ h.co, f5 _ _ h.la, f6]
  simp only [h.tl, if_true]
  rfl
/-- the pot and the words taken go on, all else stays -/
structure Ev2 (p tk : Addr) (M M' : Mem) (ws : List Str) : Prop where
  pot : PotAt M' p
  wd : M' tk = some (.lst (ws.map D.str))
  kp : ∀ a, a ≠ p → a ≠ tk → ∀ o, M a = some o → M' a = some o
theorem words_lc {ad : Ad} {p tk : Addr} {m : Int} {ws : List Str} {M0 M : Mem} {Q : VK3} {x1 x3 x4 x5 x6 x7 x8 x9 : Option D} (hne : p ≠ tk) (hm : 0 < m) (hm2 : m ≤ 5) (hev : Ev2 p tk M0 M ws) (hw : ∀ w ∈ ws, isWord w = true) (hnd : ws.Nodup) (hl : ws.length ≤ 10)
    (q : ∀ (got : List Str) M', (got.length : Int) < m → Ev2 p tk M0 M' (ws ++ got) → (∀ w ∈ ws ++ got, isWord w = true) → (ws ++ got).Nodup → Q (.lst (got.map D.str)) M') :
    lc3 (rng1 (cons3 (call3 (sp__law_take ad) (cons3 (v3 0) (cons3 (c3 (.int m)) nil3))) nil3)) (.nm 9) yes3 (call3 (sp__law_word ad) (cons3 (v3 0) (cons3 (v3 2) nil3))) [9] [some (.ref p), x1, some (.ref tk), x3, x4, x5, x6, x7, x8, x9] M Q := by
  rw [lc_rng_eq]
  refine ⟨p, m, rfl, hm, by omega, hev.pot, fun d M1 d0 d1 e1 => ?_⟩
  refine lcG d (fun R h => h) (fun i acc M' => ∃ got : List Str, acc = got.map D.str ∧ got.length = i ∧ Ev2 p tk M0 M' (ws ++ got) ∧ (∀ w ∈ ws ++ got, isWord w = true) ∧ (ws ++ got).Nodup) (by omega) (by omega)
    ⟨[], rfl, rfl, ⟨e1.pot, by rw [List.append_nil]; exact e1.kp tk (Ne.symm hne) _ hev.wd, fun a n1 n2 o e => e1.kp a n1 o (hev.kp a n1 n2 o e)⟩, by rw [List.append_nil]; exact hw, by rw [List.append_nil]; exact hnd⟩ (fun i hi acc M' hlen hI N hN => ?_) fun acc M' hlen hI => .inl ?_
  · obtain ⟨got, rfl, hg, ev, hw', hnd'⟩ := hI
    walk_at "rd"
    refine ⟨p, tk, ws ++ got, rfl, hne, ev.pot, ev.wd, by rw [List.length_append]; omega, fun w M2 w1 w2 p2 t2 k2 => hN _ _ ⟨got ++ [w], by rw [List.map_append]; rfl, by rw [List.length_append, hg]; rfl, ⟨p2, by rw [← List.append_assoc]; exact t2, fun a n1 n2 o e => k2 a n1 n2 o (ev.kp a n1 n2 o e)⟩, fun x hx => ?_, ?_⟩⟩
    · rw [← List.append_assoc] at hx
      rcases List.mem_append.mp hx with hx | hx
      · exact hw' x hx
      · rw [List.mem_singleton] at hx; exact hx ▸ w1
    · rw [← List.append_assoc]
      refine List.nodup_append.mpr ⟨hnd', by simp, fun a ha b hb e => ?_⟩
      rw [List.mem_singleton] at hb
      subst hb e
      exact w2 ha
  · obtain ⟨got, rfl, hg, ev, hw', hnd'⟩ := hI
    exact q got M' (by omega) ev hw' hnd'
/-- what stands of the pieces while coils and lamps are put in -/
structure PInv (ks rs ls : List Str) (n : Int) (ps : List (List D)) (cs las : List Str) (b : Nat) : Prop where
  pk : ∀ pc ∈ ps, pieceOk pc ks rs ls n = true
  sh : ∀ pc ∈ ps, Sh pc
  co : ∀ x, cnt "coil" x ps = if x ∈ cs then 1 else 0
  la : ∀ x, cnt "lamp" x ps = if x ∈ las then 1 else 0
  len : ps.length ≤ b
theorem mem_ins {α : Type} {ps : List α} {pc x : α} {k : Nat} (h : x ∈ ps.take k ++ [pc] ++ ps.drop k) : x ∈ ps ∨ x = pc := by
  rcases List.mem_append.mp h with h | h
  · rcases List.mem_append.mp h with h | h
    · exact .inl (List.mem_of_mem_take h)
    · rw [List.mem_singleton] at h; exact .inr h
  · exact .inl (List.mem_of_mem_drop h)
theorem ins_len {α : Type} {ps : List α} {pc : α} {k : Nat} : (ps.take k ++ [pc] ++ ps.drop k).length = ps.length + 1 := by
  simp only [List.length_append, List.length_take, List.length_drop, List.length_cons, List.length_nil]
  omega
theorem PInv.coil {ks rs ls : List Str} {n : Int} {ps : List (List D)} {cs las : List Str} {b : Nat} (h : PInv ks rs ls n ps cs las b) {r : Str} {ns : List Int} (hr : r ∈ rs) (hc : r ∉ cs) (hw : isWord r = true) (hn : NodesIn ns n) (h2 : ns.length = 2) (hn2 : n ≤ 1000) (k : Nat) :
    PInv ks rs ls n (ps.take k ++ [Pc "coil" [r] ns] ++ ps.drop k) (cs ++ [r]) las (b + 1) := by
  have mk : Made ["coil"] rs n (Pc "coil" [r] ns) := ⟨"coil", [r], ns, rfl, List.mem_cons_self, fun x hx => by rw [List.mem_singleton] at hx; exact hx ▸ hr, hn, by rw [h2]; exact (by decide +kernel : partsN "coil" = some (1, 2))⟩
  have lc : ¬ ("coil" : Str) = "lamp" := by decide +kernel
  refine ⟨fun pc hp => ?_, fun pc hp => ?_, fun x => ?_, fun x => ?_, by rw [ins_len]; exact Nat.succ_le_succ h.len⟩
  · rcases mem_ins hp with hp | rfl
    · exact h.pk pc hp
    · exact mk.ok fun w hw x hx => by rw [List.mem_singleton] at hw; subst hw; unfold kindNames; rw [if_pos rfl]; exact hx
  · rcases mem_ins hp with hp | rfl
    · exact h.sh pc hp
    · exact ⟨"coil", [r], ns, rfl, by decide +kernel, fun x hx => by rw [List.mem_singleton] at hx; exact hx ▸ hw, by simp, by omega, fun y hy => ⟨(hn.2 y hy).1, by have := (hn.2 y hy).2; omega⟩⟩
  · rw [cnt_ins, h.co x]
    by_cases e : x = r
    · subst e
      rw [if_neg hc, if_pos (headIs_pc.mpr ⟨rfl, [], rfl⟩), if_pos (by simp)]
    · have e1 : ¬ headIs "coil" x (Pc "coil" [r] ns) = true := fun hh => by
        obtain ⟨_, r', h'⟩ := headIs_pc.mp hh
        cases h'
        exact e rfl
      rw [if_neg e1, Nat.add_zero]
      simp only [List.mem_append, List.mem_singleton, e, or_false]
  · rw [cnt_ins, h.la x]
    have e1 : ¬ headIs "lamp" x (Pc "coil" [r] ns) = true := fun hh => lc (headIs_pc.mp hh).1
    rw [if_neg e1, Nat.add_zero]
theorem PInv.lamp {ks rs ls : List Str} {n : Int} {ps : List (List D)} {cs las : List Str} {b : Nat} (h : PInv ks rs ls n ps cs las b) {r : Str} {ns : List Int} (hr : r ∈ ls) (hc : r ∉ las) (hw : isWord r = true) (hn : NodesIn ns n) (h2 : ns.length = 2) (hn2 : n ≤ 1000) (k : Nat) :
    PInv ks rs ls n (ps.take k ++ [Pc "lamp" [r] ns] ++ ps.drop k) cs (las ++ [r]) (b + 1) := by
  have mk : Made ["lamp"] ls n (Pc "lamp" [r] ns) := ⟨"lamp", [r], ns, rfl, List.mem_cons_self, fun x hx => by rw [List.mem_singleton] at hx; exact hx ▸ hr, hn, by rw [h2]; exact (by decide +kernel : partsN "lamp" = some (1, 2))⟩
  have lc : ¬ ("lamp" : Str) = "coil" := by decide +kernel
  refine ⟨fun pc hp => ?_, fun pc hp => ?_, fun x => ?_, fun x => ?_, by rw [ins_len]; exact Nat.succ_le_succ h.len⟩
  · rcases mem_ins hp with hp | rfl
    · exact h.pk pc hp
    · exact mk.ok fun w hw x hx => by rw [List.mem_singleton] at hw; subst hw; unfold kindNames; rw [if_neg lc, if_pos rfl]; exact hx
  · rcases mem_ins hp with hp | rfl
    · exact h.sh pc hp
    · exact ⟨"lamp", [r], ns, rfl, by decide +kernel, fun x hx => by rw [List.mem_singleton] at hx; exact hx ▸ hw, by simp, by omega, fun y hy => ⟨(hn.2 y hy).1, by have := (hn.2 y hy).2; omega⟩⟩
  · rw [cnt_ins, h.co x]
    have e1 : ¬ headIs "coil" x (Pc "lamp" [r] ns) = true := fun hh => lc (headIs_pc.mp hh).1
    rw [if_neg e1, Nat.add_zero]
  · rw [cnt_ins, h.la x]
    by_cases e : x = r
    · subst e
      rw [if_neg hc, if_pos (headIs_pc.mpr ⟨rfl, [], rfl⟩), if_pos (by simp)]
    · have e1 : ¬ headIs "lamp" x (Pc "lamp" [r] ns) = true := fun hh => by
        obtain ⟨_, r', h'⟩ := headIs_pc.mp hh
        cases h'
        exact e rfl
      rw [if_neg e1, Nat.add_zero]
      simp only [List.mem_append, List.mem_singleton, e, or_false]
theorem PInv.start {ks rs ls : List Str} {n : Int} {ps : List (List D)} {b : Nat} (h : ∀ pc ∈ ps, Made ctWs (ks ++ rs) n pc) (hw : ∀ w ∈ ks ++ rs, isWord w = true) (hn : n ≤ 1000) (hb : ps.length ≤ b) : PInv ks rs ls n ps [] [] b := by
  have n1 : ∀ w ∈ ctWs, ¬ w = "coil" ∧ ¬ w = "lamp" := by decide +kernel
  refine ⟨fun pc hp => (h pc hp).ok fun w hw x hx => ?_, fun pc hp => (h pc hp).sh hw hn, fun x => ?_, fun x => ?_, hb⟩
  · obtain ⟨a, b⟩ := n1 w hw
    unfold kindNames
    rw [if_neg a, if_neg b]; exact hx
  · rw [if_neg (List.not_mem_nil)]
    refine cnt_zero fun pc hp => ?_
    obtain ⟨w, xs, ns, rfl, h1, _⟩ := h pc hp
    rw [← Bool.not_eq_true]
    exact fun hh => (n1 w h1).1 (headIs_pc.mp hh).1
  · rw [if_neg (List.not_mem_nil)]
    refine cnt_zero fun pc hp => ?_
    obtain ⟨w, xs, ns, rfl, h1, _⟩ := h pc hp
    rw [← Bool.not_eq_true]
    exact fun hh => (n1 w h1).2 (headIs_pc.mp hh).1
/-- a net's things, as the law hands them on -/
def netL (ks rs ls : List Str) (n : Int) (q : Addr) (ts : List (List Int)) : D := .lst [.lst (ks.map D.str), .lst (rs.map D.str), .lst (ls.map D.str), .int n, .ref q, .lst (ts.map tD)]
def sp__law_net (ad : Ad) : Sp3 := fun ds M Q _ => ∃ p most, ds = [.ref p, .int most] ∧ 0 ≤ most ∧ most ≤ 600 ∧ PotAt M p ∧
  ∀ ks rs ls n ps ts q M', NetOk ks rs ls n ps ts → n ≤ 12 → (ps.length : Int) ≤ most + 6 → M q = none → M' q = some (.lst (ps.map D.tup)) → Ev p M M' → Q (netL ks rs ls n q ts) M'
abbrev N__law_net : List Str := ["_law_pot_here", "_law_most", "_law_taken", "_law_keys", "_law_relays", "_law_lamps", "_law_nodes", "_law_pieces", "_law_name", "_law_k"]
def t__law_net (ad : Ad) : TS3 := (seq3 (set3 2 (lst3 nil3))
    (seq3 (set3 3 (lc3 (rng1 (cons3 (call3 (sp__law_take ad) (cons3 (v3 0) (cons3 (c3 (.int 3)) nil3))) nil3)) (.nm 9) yes3 (call3 (sp__law_word ad) (cons3 (v3 0) (cons3 (v3 2) nil3))) [9]))
    (seq3 (set3 4 (lc3 (rng1 (cons3 (call3 (sp__law_take ad) (cons3 (v3 0) (cons3 (c3 (.int 5)) nil3))) nil3)) (.nm 9) yes3 (call3 (sp__law_word ad) (cons3 (v3 0) (cons3 (v3 2) nil3))) [9]))
    (seq3 (set3 5 (lc3 (rng1 (cons3 (call3 (sp__law_take ad) (cons3 (v3 0) (cons3 (c3 (.int 3)) nil3))) nil3)) (.nm 9) yes3 (call3 (sp__law_word ad) (cons3 (v3 0) (cons3 (v3 2) nil3))) [9]))
    (seq3 (set3 6 (op3 r3Add (c3 (.int 2)) (call3 (sp__law_take ad) (cons3 (v3 0) (cons3 (c3 (.int 11)) nil3)))))
    (seq3 (set3 7 (lc3 (rng1 (cons3 (call3 (sp__law_take ad) (cons3 (v3 0) (cons3 (op3 r3Add (v3 1) (c3 (.int 1))) nil3))) nil3)) (.nm 9) yes3 (call3 (sp__law_piece ad) (cons3 (v3 0) (cons3 (op3 r3Add (v3 3) (v3 4)) (cons3 (v3 6) nil3)))) [9]))
    (seq3 (for3 (src3 (v3 4)) (.nm 8) (drop3 (bm3 chkL r3Insert (v3 7) (cons3 (call3 (sp__law_take ad) (cons3 (v3 0) (cons3 (op3 r3Add (cal3 r3Len (cons3 (v3 7) nil3)) (c3 (.int 1))) nil3))) (cons3 (op3 r3Add (tup3 (cons3 (c3 (.str "coil")) (cons3 (v3 8) nil3))) (call3 (sp__law_unlike ad) (cons3 (v3 0) (cons3 (v3 6) (cons3 (c3 (.int 2)) nil3))))) nil3)))))
    (seq3 (for3 (src3 (v3 5)) (.nm 8) (drop3 (bm3 chkL r3Insert (v3 7) (cons3 (call3 (sp__law_take ad) (cons3 (v3 0) (cons3 (op3 r3Add (cal3 r3Len (cons3 (v3 7) nil3)) (c3 (.int 1))) nil3))) (cons3 (op3 r3Add (tup3 (cons3 (c3 (.str "lamp")) (cons3 (v3 8) nil3))) (call3 (sp__law_unlike ad) (cons3 (v3 0) (cons3 (v3 6) (cons3 (c3 (.int 2)) nil3))))) nil3)))))
    (ret3 (lst3 (cons3 (v3 3) (cons3 (v3 4) (cons3 (v3 5) (cons3 (v3 6) (cons3 (v3 7) (cons3 (lc3 (src3 (v3 4)) (.nm 8) yes3 (call3 (sp__law_times ad) (cons3 (v3 0) nil3)) [8]) nil3))))))))))))))))
theorem len__law_net {ad : Ad} {ds M Q E} (h : sp__law_net ad ds M Q E) : ds.length = 2 := by obtain ⟨_, _, rfl, _⟩ := h; rfl
theorem r__law_net {ad : Ad} {ds M Q E} (h : sp__law_net ad ds M Q E) : t__law_net ad { nx := fun _ M' => Q .non M', rt := Q } (start3 N__law_net ds) M := by
  obtain ⟨p, most, rfl, m0, m1, hp, q⟩ := h
  have hz : ∀ k : Nat, k ≤ 1000 → k ≤ sizeLine := fun k h => tup_pos (by omega)
  unfold t__law_net N__law_net
  simp only [seq3, set3, start3, lst3, nil3, List.map_cons, List.map_nil, List.length_cons, List.length_nil, List.cons_append, List.nil_append, List.set_cons_zero, List.set_cons_succ, List.replicate_succ, List.replicate_zero, Nat.reduceAdd, Nat.reduceSub]
  refine ⟨hz _ (by decide), .inr fun tk htk => ?_⟩
  have hne : p ≠ tk := Ne.symm (hp.ne htk)
  have hp0 : PotAt (put M tk (.lst [])) p := by
    obtain ⟨x, y, a1, a2, a3, a4⟩ := hp
    exact ⟨x, y, a1, a2, a3, by rw [put_ne hne]; exact a4⟩
  refine words_lc (M0 := M) (m := 3) (ws := []) hne (by decide) (by decide) ⟨hp0, put_same, fun a n1 n2 o e => by rw [put_ne n2]; exact e⟩ (fun _ h => by cases h) List.nodup_nil (by decide) fun ks M1 lk v1 w1 d1 => ?_
  rw [List.nil_append] at v1 w1 d1
  refine words_lc (M0 := M) (m := 5) hne (by decide) (by decide) v1 w1 d1 (by omega) fun rs M2 lr v2 w2 d2 => ?_
  refine words_lc (M0 := M) (m := 3) hne (by decide) (by decide) v2 w2 d2 (by rw [List.length_append]; omega) fun ls M3 ll v3' w3 d3 => ?_
  simp only [op3, c3, call3, cons3, nil3, v3, List.getElem?_cons_zero, List.getElem?_cons_succ]
  refine ⟨p, 11, rfl, by decide, by decide, v3'.pot, fun nd M4 x0 x1 e4 => ?_⟩
  have v4 : ∀ a, a ≠ p → a ≠ tk → ∀ o, M a = some o → M4 a = some o := fun a n1 n2 o e => e4.kp a n1 o (v3'.kp a n1 n2 o e)
  have v4t : M4 tk ≠ none := by rw [e4.kp tk (Ne.symm hne) _ v3'.wd]; exact fun h => by cases h
  clear v1 v2
  simp only [r3Add, lview_int]
  have hn : 2 ≤ 2 + nd ∧ 2 + nd ≤ 12 := by omega
  generalize 2 + nd = n at hn
  rw [lc_rng_eq]
  simp only [call3, op3, cons3, nil3, v3, c3, List.getElem?_cons_zero, List.getElem?_cons_succ, r3Add, lview_int, List.set_cons_zero, List.set_cons_succ]
  refine ⟨p, most + 1, rfl, by omega, by omega, e4.pot, fun many M5 y0 y1 e5 => ?_⟩
  have wk : ∀ w ∈ ks ++ rs, isWord w = true := w2
  have zkr : (ks.map D.str).length + (rs.map D.str).length ≤ sizeLine := by rw [List.length_map, List.length_map]; exact hz _ (by omega)
  refine lcG many (fun R h => h) (fun i acc M' => ∃ pcs : List (List D), acc = pcs.map D.tup ∧ (∀ pc ∈ pcs, Made ctWs (ks ++ rs) n pc) ∧ Ev p M4 M') (by omega) (by omega) ⟨[], rfl, (fun _ h => by cases h), e5⟩ (fun i hi acc M' hlen hI N hN => ?_) fun acc M6 hlen hI => .inr fun r hr => ?_
  · obtain ⟨pcs, rfl, hpc, ev⟩ := hI
    walk_at "rd"
    simp only [r3Add, lview_lst]
    refine ⟨zkr, .inl ⟨p, ks ++ rs, n, by rw [List.map_append], by rw [List.length_append]; omega, wk, hn.1, by omega, ev.pot, fun pc M7 mk e7 => hN _ _ ⟨pcs ++ [pc], by rw [List.map_append]; rfl, fun x hx => ?_, ev.trans e7⟩⟩⟩
    rcases List.mem_append.mp hx with hx | hx
    · exact hpc x hx
    · rw [List.mem_singleton] at hx; exact hx ▸ mk
  · obtain ⟨pcs, rfl, hpc, e6⟩ := hI
    rw [List.length_map] at hlen
    have hrp : r ≠ p := e6.pot.ne hr
    have hr4 : M4 r = none := by
      cases h : M4 r with
      | none => rfl
      | some o => have := e6.kp r hrp o h; rw [hr] at this; cases this
    have hrt : r ≠ tk := fun e => v4t (e ▸ hr4)
    have hr0 : M r = none := by
      cases h : M r with
      | none => rfl
      | some o => have := v4 r hrp hrt o h; rw [hr4] at this; cases this
    have inv0 : PInv ks rs ls n pcs [] [] (many.toNat) := PInv.start hpc wk (by omega) (by omega)
    have hpot6 : PotAt (put M6 r (.lst (pcs.map D.tup))) p := by
      obtain ⟨x, y, a1, a2, a3, a4⟩ := e6.pot
      exact ⟨x, y, a1, a2, a3, by rw [put_ne (Ne.symm hrp)]; exact a4⟩
    have kp6 : ∀ a, a ≠ p → a ≠ tk → a ≠ r → ∀ o, M a = some o → put M6 r (.lst (pcs.map D.tup)) a = some o := fun a n1 n2 n3 o e => by rw [put_ne n3]; exact e6.kp a n1 o (v4 a n1 n2 o e)
    have body : ∀ (w : Str) (δ9 : Option D) (name : Str) (ps : List (List D)) (M' : Mem) (Rt : VK3) (Bk : St3 → Mem → Prop) (N : St3 → Mem → Prop), ps.length ≤ 900 → PotAt M' p → M' r = some (.lst (ps.map D.tup)) →
        (∀ (ns : List Int) (k : Nat) (M'' : Mem), NodesIn ns n → ns.length = 2 → PotAt M'' p → M'' r = some (.lst ((ps.take k ++ [Pc w [name] ns] ++ ps.drop k).map D.tup)) → (∀ a, a ≠ p → a ≠ r → ∀ o, M' a = some o → M'' a = some o) → N [some (.ref p), some (.int most), some (.ref tk), some (.lst (ks.map D.str)), some (.lst (rs.map D.str)), some (.lst (ls.map D.str)), some (.int n), some (.ref r), some (.str name), δ9] M'') →
        drop3 (bm3 chkL r3Insert (v3 7) (cons3 (call3 (sp__law_take ad) (cons3 (v3 0) (cons3 (op3 r3Add (cal3 r3Len (cons3 (v3 7) nil3)) (c3 (.int 1))) nil3))) (cons3 (op3 r3Add (tup3 (cons3 (c3 (.str w)) (cons3 (v3 8) nil3))) (call3 (sp__law_unlike ad) (cons3 (v3 0) (cons3 (v3 6) (cons3 (c3 (.int 2)) nil3))))) nil3))) { nx := N, rt := Rt, bk := Bk, ct := N } [some (.ref p), some (.int most), some (.ref tk), some (.lst (ks.map D.str)), some (.lst (rs.map D.str)), some (.lst (ls.map D.str)), some (.int n), some (.ref r), some (.str name), δ9] M' := fun w δ9 name ps M' Rt Bk N hl9 pot' hm' hN => by
      simp only [drop3, bm3, chkL, v3, cons3, nil3, call3, op3, cal3, c3, tup3, List.getElem?_cons_zero, List.getElem?_cons_succ, lview_ref hm', Option.isSome_some, r3Len, r3Add, lview_int, List.length_map]
      refine ⟨trivial, p, _, rfl, by omega, by omega, pot', fun x M7 z0 z1 e7 => ?_⟩
      refine ⟨hz 2 (by decide), p, n, 2, rfl, by decide, by omega, by omega, e7.pot, fun ns M8 hns hin e8 => ?_⟩
      simp only [lview_tup]
      have hns2 : ns.length = 2 := hns
      have hm8 := e8.kp r hrp _ (e7.kp r hrp _ hm')
      refine ⟨hz _ (by rw [List.length_map]; simp only [List.length_cons, List.length_nil]; omega), ?_⟩
      simp only [r3Insert, onL, hm8, List.length_map]
      refine ⟨size_pos (by omega), by omega, by omega, ?_⟩
      refine hN ns x.toNat _ hin hns2 ?_ ?_ fun a n1 n2 o e => by rw [put_ne n2]; exact e8.kp a n1 o (e7.kp a n1 o e)
      · obtain ⟨x', y', a1, a2, a3, a4⟩ := e8.pot
        exact ⟨x', y', a1, a2, a3, by rw [put_ne (Ne.symm hrp)]; exact a4⟩
      · rw [put_same, List.map_append, List.map_append, List.map_take, List.map_drop]; rfl
    have rsl : rs.length ≤ 4 := by omega
    have lsl : ls.length ≤ 2 := by omega
    have mn : many.toNat ≤ 600 := by omega
    have ndr : rs.Nodup := (List.nodup_append.mp (List.nodup_append.mp d3).1).2.1
    have ndl : ls.Nodup := (List.nodup_append.mp d3).2.1
    refine forS (rs.map D.str) (fun R h => h) (fun i δ M' => ∃ ps nm, δ = [some (.ref p), some (.int most), some (.ref tk), some (.lst (ks.map D.str)), some (.lst (rs.map D.str)), some (.lst (ls.map D.str)), some (.int n), some (.ref r), nm, none] ∧ M' r = some (.lst (ps.map D.tup)) ∧ PInv ks rs ls n ps (rs.take i) [] (many.toNat + i) ∧ PotAt M' p ∧ (∀ a, a ≠ p → a ≠ tk → a ≠ r → ∀ o, M a = some o → M' a = some o))
      ⟨pcs, none, rfl, put_same, inv0, hpot6, kp6⟩ (fun i h δ M' hI N hN => ?_) fun δ M7 hI => ?_
    · obtain ⟨ps, nm, rfl, hm', inv, pot', kp'⟩ := hI
      rw [List.length_map] at h
      have eg : (rs.map D.str)[i]'(by rw [List.length_map]; exact h) = .str rs[i] := by simp
      rw [eg]
      simp only [asg, List.set_cons_zero, List.set_cons_succ]
      refine body "coil" none rs[i] ps M' _ _ N (by have := inv.len; omega) pot' hm' fun ns k M'' hin h2 pot'' hm'' kp'' => hN _ _ ⟨_, _, rfl, hm'', ?_, pot'', fun a n1 n2 n3 o e => kp'' a n1 n3 o (kp' a n1 n2 n3 o e)⟩
      have := inv.coil (r := rs[i]) (List.getElem_mem h) (nodup_take h ndr) (wk _ (List.mem_append_right _ (List.getElem_mem h))) hin h2 (by omega) k
      rw [List.take_append_getElem h] at this
      exact this
    · obtain ⟨ps1, nm1, rfl, hm1, inv1, pot1, kp1⟩ := hI
      rw [List.length_map, List.take_length] at inv1
      simp only [seq3]
      refine forS (ls.map D.str) (fun R h => h) (fun i δ M' => ∃ ps nm, δ = [some (.ref p), some (.int most), some (.ref tk), some (.lst (ks.map D.str)), some (.lst (rs.map D.str)), some (.lst (ls.map D.str)), some (.int n), some (.ref r), nm, none] ∧ M' r = some (.lst (ps.map D.tup)) ∧ PInv ks rs ls n ps rs (ls.take i) (many.toNat + rs.length + i) ∧ PotAt M' p ∧ (∀ a, a ≠ p → a ≠ tk → a ≠ r → ∀ o, M a = some o → M' a = some o))
        ⟨ps1, nm1, rfl, hm1, inv1, pot1, kp1⟩ (fun i h δ M' hI N hN => ?_) fun δ M8 hI => ?_
      · obtain ⟨ps, nm, rfl, hm', inv, pot', kp'⟩ := hI
        rw [List.length_map] at h
        have eg : (ls.map D.str)[i]'(by rw [List.length_map]; exact h) = .str ls[i] := by simp
        rw [eg]
        simp only [asg, List.set_cons_zero, List.set_cons_succ]
        refine body "lamp" none ls[i] ps M' _ _ N (by have := inv.len; omega) pot' hm' fun ns k M'' hin h2 pot'' hm'' kp'' => hN _ _ ⟨_, _, rfl, hm'', ?_, pot'', fun a n1 n2 n3 o e => kp'' a n1 n3 o (kp' a n1 n2 n3 o e)⟩
        have := inv.lamp (r := ls[i]) (List.getElem_mem h) (nodup_take h ndl) (w3 _ (List.mem_append_right _ (List.getElem_mem h))) hin h2 (by omega) k
        rw [List.take_append_getElem h] at this
        exact this
      · obtain ⟨ps2, nm2, rfl, hm2, inv2, pot2, kp2⟩ := hI
        rw [List.length_map, List.take_length] at inv2
        simp only [ret3, lst3, cons3, nil3, v3, List.getElem?_cons_zero, List.getElem?_cons_succ]
        refine lcS (rs.map D.str) (fun R h => h) (fun i acc M' => ∃ ts : List (List Int), acc = ts.map tD ∧ (∀ t ∈ ts, timesOk t = true) ∧ Ev p M8 M') (by rw [List.length_map]; exact size_pos (by omega)) ⟨[], rfl, (fun _ h => by cases h), Ev.refl pot2⟩ (fun i h acc M' hlen hI N hN => ?_) fun acc M9 hlen hI => .inl ?_
        · obtain ⟨ts, rfl, ht, ev⟩ := hI
          simp only [asg, wipe3, List.set_cons_zero, List.set_cons_succ]
          refine ⟨p, rfl, ev.pot, fun t M10 t1 e10 => hN _ _ ⟨ts ++ [t], by rw [List.map_append]; rfl, fun x hx => ?_, ev.trans e10⟩⟩
          rcases List.mem_append.mp hx with hx | hx
          · exact ht x hx
          · rw [List.mem_singleton] at hx; exact hx ▸ t1
        · obtain ⟨ts, rfl, ht, ev⟩ := hI
          rw [List.length_map, List.length_map] at hlen
          have l2 := inv2.len
          refine ⟨hz 6 (by decide), .inl (q ks rs ls n ps2 ts r M9 ⟨by omega, rsl, lsl, w3, d3, hn.1, by omega, by omega, inv2.pk, inv2.sh, fun x hx => by rw [inv2.co, if_pos hx], fun x hx => by rw [inv2.la, if_pos hx], hlen, ht⟩ hn.2 (by omega) hr0 (ev.kp r hrp _ hm2) ⟨ev.pot, fun a n1 o e => ?_⟩)⟩
          have na : a ≠ tk := fun z => by subst z; rw [htk] at e; cases e
          have nr : a ≠ r := fun z => by subst z; rw [hr0] at e; cases e
          exact ev.kp a n1 o (kp2 a n1 na nr o e)
/-! ### copies, what is told -/
def Kept (M M' : Mem) : Prop := ∀ a o, M a = some o → M' a = some o
theorem put_none {M : Mem} {a b : Addr} {o : MO} (h : put M a o b = none) : b ≠ a ∧ M b = none := by
  unfold put at h
  split at h
  · cases h
  · rename_i e; exact ⟨e, h⟩
theorem kept_put {M : Mem} {a : Addr} {o : MO} (h : M a = none) : Kept M (put M a o) := fun b u e => by rw [put_ne (mne e h)]; exact e
theorem Kept.trans {M M1 M2 : Mem} (h : Kept M M1) (k : Kept M1 M2) : Kept M M2 := fun a o e => k a o (h a o e)
theorem Kept.lview {M M' : Mem} (h : Kept M M') {d : D} {ds : List D} (e : lview M d = some ds) : lview M' d = some ds := by
  cases d with
  | ref b => exact lview_ref (h b _ (ref_lview e))
  | lst xs => exact e
  | _ => cases e
/-- a net's things -/
def Th (M : Mem) (d : D) (ks rs ls : List Str) (n : Int) (ps : List (List D)) (ts : List (List Int)) : Prop := ∃ k r l p t, lview M d = some [k, r, l, .int n, p, t] ∧ lview M k = some (ks.map D.str) ∧ lview M r = some (rs.map D.str) ∧ lview M l = some (ls.map D.str) ∧ lview M p = some (ps.map D.tup) ∧ lview M t = some (ts.map tD)
theorem Th.keep {M M' : Mem} {d : D} {ks rs ls n ps ts} (k : Kept M M') (h : Th M d ks rs ls n ps ts) : Th M' d ks rs ls n ps ts := by
  obtain ⟨a, b, c, e, f, h0, h1, h2, h3, h4, h5⟩ := h
  exact ⟨a, b, c, e, f, k.lview h0, k.lview h1, k.lview h2, k.lview h3, k.lview h4, k.lview h5⟩
/-- new lists with a net's things -/
def six (n : Int) (a b c e f : Addr) : D := .lst [.ref a, .ref b, .ref c, .int n, .ref e, .ref f]
def R6 (M : Mem) (ks rs ls : List Str) (n : Int) (ps : List (List D)) (ts : List (List Int)) (Q : VK3) : Prop := ∀ a b c e f M', M a = none → M b = none → M c = none → M e = none → M f = none → Kept M M' →
  M' a = some (.lst (ks.map D.str)) → M' b = some (.lst (rs.map D.str)) → M' c = some (.lst (ls.map D.str)) → M' e = some (.lst (ps.map D.tup)) → M' f = some (.lst (ts.map tD)) → Q (six n a b c e f) M'
theorem r6_of {M : Mem} {ks rs ls : List Str} {n : Int} {ps : List (List D)} {ts : List (List Int)} {Q : VK3} {a b c e f : Addr} (h : R6 M ks rs ls n ps ts Q) (ha : M a = none) (hb : put M a (.lst (ks.map D.str)) b = none) (hc : put (put M a (.lst (ks.map D.str))) b (.lst (rs.map D.str)) c = none)
    (he : put (put (put M a (.lst (ks.map D.str))) b (.lst (rs.map D.str))) c (.lst (ls.map D.str)) e = none) (hf : put (put (put (put M a (.lst (ks.map D.str))) b (.lst (rs.map D.str))) c (.lst (ls.map D.str))) e (.lst (ps.map D.tup)) f = none) :
    6 ≤ sizeLine ∧ newL [.ref a, .ref b, .ref c, .int n, .ref e, .ref f] (put (put (put (put (put M a (.lst (ks.map D.str))) b (.lst (rs.map D.str))) c (.lst (ls.map D.str))) e (.lst (ps.map D.tup))) f (.lst (ts.map tD))) Q := by
  have k1 := kept_put (o := .lst (ks.map D.str)) ha
  have k2 := kept_put (o := .lst (rs.map D.str)) hb
  have k3 := kept_put (o := .lst (ls.map D.str)) hc
  have k4 := kept_put (o := .lst (ps.map D.tup)) he
  have k5 := kept_put (o := .lst (ts.map tD)) hf
  have b1 := put_none hb
  have c1 := put_none hc
  have c2 := put_none c1.2
  have e1 := put_none he
  have e2 := put_none e1.2
  have e3 := put_none e2.2
  have f1 := put_none hf
  have f2 := put_none f1.2
  have f3 := put_none f2.2
  have f4 := put_none f3.2
  exact ⟨tup_pos (by decide), .inl (h a b c e f _ ha b1.2 c2.2 e3.2 f4.2 (k1.trans (k2.trans (k3.trans (k4.trans k5)))) (k5 _ _ (k4 _ _ (k3 _ _ (k2 _ _ put_same)))) (k5 _ _ (k4 _ _ (k3 _ _ put_same))) (k5 _ _ (k4 _ _ put_same)) (k5 _ _ put_same) put_same)⟩
def sp__law_copy (ad : Ad) : Sp3 := fun ds M Q _ => ∃ d ks rs ls n ps ts, ds = [d] ∧ Th M d ks rs ls n ps ts ∧ R6 M ks rs ls n ps ts Q
abbrev N__law_copy : List Str := ["_law_things", "_law_keys", "_law_relays", "_law_lamps", "_law_nodes", "_law_pieces", "_law_times_here"]
def t__law_copy (ad : Ad) : TS3 := (seq3 (asgL3 [(.nm 1), (.nm 2), (.nm 3), (.nm 4), (.nm 5), (.nm 6)] (v3 0))
    (ret3 (lst3 (cons3 (cal3 r3List (cons3 (v3 1) nil3)) (cons3 (cal3 r3List (cons3 (v3 2) nil3)) (cons3 (cal3 r3List (cons3 (v3 3) nil3)) (cons3 (v3 4) (cons3 (cal3 r3List (cons3 (v3 5) nil3)) (cons3 (cal3 r3List (cons3 (v3 6) nil3)) nil3)))))))))
theorem len__law_copy {ad : Ad} {ds M Q E} (h : sp__law_copy ad ds M Q E) : ds.length = 1 := by obtain ⟨_, _, _, _, _, _, _, rfl, _⟩ := h; rfl
theorem r__law_copy {ad : Ad} {ds M Q E} (h : sp__law_copy ad ds M Q E) : t__law_copy ad { nx := fun _ M' => Q .non M', rt := Q } (start3 N__law_copy ds) M := by
  obtain ⟨d, ks, rs, ls, n, ps, ts, rfl, ⟨k, r, l, p, t, h0, h1, h2, h3, h4, h5⟩, q⟩ := h
  unfold t__law_copy N__law_copy
  simp only [seq3, asgL3, start3, v3, List.map_cons, List.map_nil, List.length_cons, List.length_nil, List.cons_append, List.nil_append, List.getElem?_cons_zero, h0, asgs, asg, List.set_cons_zero, List.set_cons_succ, List.replicate_succ, List.replicate_zero, Nat.reduceAdd, Nat.reduceSub]
  simp only [ret3, lst3, cal3, cons3, nil3, v3, List.getElem?_cons_zero, List.getElem?_cons_succ, r3List, h1]
  refine .inr fun a ha => ?_
  have k1 := kept_put (o := .lst (ks.map D.str)) ha
  simp only [k1.lview h2]
  refine .inr fun b hb => ?_
  have k2 := k1.trans (kept_put (o := .lst (rs.map D.str)) hb)
  simp only [k2.lview h3]
  refine .inr fun c hc => ?_
  have k3 := k2.trans (kept_put (o := .lst (ls.map D.str)) hc)
  simp only [k3.lview h4]
  refine .inr fun e he => ?_
  have k4 := k3.trans (kept_put (o := .lst (ps.map D.tup)) he)
  simp only [k4.lview h5]
  exact .inr fun f hf => r6_of q ha hb hc he hf
def sp__law_told (ad : Ad) : Sp3 := getSp ad fun ks rs ls n ps ts M Q => R6 M ks rs ls n ps ts Q
theorem NetOk.wsk {ks rs ls : List Str} {n : Int} {ps : List (List D)} {ts : List (List Int)} {M : Mem} {d : D} (h : NetOk ks rs ls n ps ts) {ws : List Str} (hs : ∀ w ∈ ws, w ∈ ks ++ rs ++ ls) (hl : ws.length ≤ 1000) (e : lview M d = some (ws.map D.str)) : Ws M d ws := ⟨e, hl, fun w hw => isWord_ok (h.ws w (hs w hw))⟩
def sp__law_made (ad : Ad) : Sp3 := fun ds M Q _ => ∃ d ks rs ls n ps ts, ds = [d] ∧ Th M d ks rs ls n ps ts ∧ NetOk ks rs ls n ps ts ∧ Q (netO ad.C_Net ks rs ls n ps ts) M
abbrev N__law_made : List Str := ["_law_things"]
def t__law_made (ad : Ad) : TS3 := (ret3 (make3 ad.C_Net (sp_Net___init__ ad) (cons3 (op3 r3Ix (v3 0) (c3 (.int 0))) (cons3 (op3 r3Ix (v3 0) (c3 (.int 1))) (cons3 (op3 r3Ix (v3 0) (c3 (.int 2))) (cons3 (op3 r3Ix (v3 0) (c3 (.int 3))) (cons3 (op3 r3Ix (v3 0) (c3 (.int 4))) (cons3 (op3 r3Ix (v3 0) (c3 (.int 5))) nil3))))))))
theorem len__law_made {ad : Ad} {ds M Q E} (h : sp__law_made ad ds M Q E) : ds.length = 1 := by obtain ⟨_, _, _, _, _, _, _, rfl, _⟩ := h; rfl
theorem r__law_made {ad : Ad} {ds M Q E} (h : sp__law_made ad ds M Q E) : t__law_made ad { nx := fun _ M' => Q .non M', rt := Q } (start3 N__law_made ds) M := by
  obtain ⟨d, ks, rs, ls, n, ps, ts, rfl, ⟨k, r, l, p, t, h0, h1, h2, h3, h4, h5⟩, ok, q⟩ := h
  unfold t__law_made N__law_made
  have i2 : atI [k, r, l, D.int n, p, t] 2 = some l := by rw [atI_nn (by decide)]; rfl
  have i3 : atI [k, r, l, D.int n, p, t] 3 = some (.int n) := by rw [atI_nn (by decide)]; rfl
  have i4 : atI [k, r, l, D.int n, p, t] 4 = some p := by rw [atI_nn (by decide)]; rfl
  have i5 : atI [k, r, l, D.int n, p, t] 5 = some t := by rw [atI_nn (by decide)]; rfl
  simp only [ret3, make3, cons3, nil3, op3, v3, c3, start3, List.map_cons, List.map_nil, List.length_cons, List.length_nil, List.cons_append, List.nil_append, List.getElem?_cons_zero, r3Ix, h0, atI0, atI1, i2, i3, i4, i5]
  intro a ha
  have wk := ok.wsk (fun w hw => List.mem_append_left _ (List.mem_append_left _ hw)) (by have := ok.kl; omega) h1
  have wr := ok.wsk (fun w hw => List.mem_append_left _ (List.mem_append_right _ hw)) (by have := ok.rl; omega) h2
  have wl := ok.wsk (fun w hw => List.mem_append_right _ hw) (by have := ok.ll; omega) h3
  have hps : Ps M p ps := ⟨h4, by have := ok.pl; omega, fun pc hp => (ok.sh pc hp).pieceD⟩
  have hts : Ts M t ts := ⟨h5, by have := ok.tl; have := ok.rl; omega, fun x hx => by have := timesOk_len (ok.tk x hx); omega⟩
  refine ⟨a, k, r, l, n, p, t, ks, rs, ls, ps, ts, rfl, put_same, wk.new ha, wr.new ha, wl.new ha, hps.new ha, hts.new ha, ok.none, rfl, .inr ⟨netNs, netEs ks rs ls n ps ts, ?_, rfl, ?_⟩⟩
  · rw [put_put, put_same]
  · rw [put_put, del_put ha]; exact q
abbrev N__law_told : List Str := ["_law_net_here"]
def t__law_told (ad : Ad) : TS3 := (ret3 (lst3 (cons3 (meth3 ad.C_Net "key_words" (sp_Net_key_words ad) (v3 0) nil3) (cons3 (meth3 ad.C_Net "relays" (sp_Net_relays ad) (v3 0) nil3) (cons3 (meth3 ad.C_Net "lamps" (sp_Net_lamps ad) (v3 0) nil3) (cons3 (meth3 ad.C_Net "nodes" (sp_Net_nodes ad) (v3 0) nil3) (cons3 (meth3 ad.C_Net "pieces" (sp_Net_pieces ad) (v3 0) nil3) (cons3 (meth3 ad.C_Net "times" (sp_Net_times ad) (v3 0) nil3) nil3))))))))
theorem len__law_told {ad : Ad} {ds M Q E} (h : sp__law_told ad ds M Q E) : ds.length = 1 := len_get h
theorem insD_net {C : Addr} {m : Str} {M : Mem} {ks rs ls n ps ts} (h : (netNs.zip (netEs ks rs ls n ps ts)).lookup m = Option.none) : insD C m M (netO C ks rs ls n ps ts) := ⟨rfl, h⟩
theorem r__law_told {ad : Ad} {ds M Q E} (h : sp__law_told ad ds M Q E) : t__law_told ad { nx := fun _ M' => Q .non M', rt := Q } (start3 N__law_told ds) M := by
  obtain ⟨ks, rs, ls, n, ps, ts, rfl, q⟩ := h
  unfold t__law_told N__law_told
  simp only [ret3, lst3, meth3, cons3, nil3, v3, start3, List.map_cons, List.map_nil, List.length_cons, List.length_nil, List.cons_append, List.nil_append, List.getElem?_cons_zero]
  refine ⟨insD_net rfl, ks, rs, ls, n, ps, ts, rfl, .inr fun a ha => ?_⟩
  refine ⟨insD_net rfl, ks, rs, ls, n, ps, ts, rfl, .inr fun b hb => ?_⟩
  refine ⟨insD_net rfl, ks, rs, ls, n, ps, ts, rfl, .inr fun c hc => ?_⟩
  refine ⟨insD_net rfl, ks, rs, ls, n, ps, ts, rfl, ?_⟩
  refine ⟨insD_net rfl, ks, rs, ls, n, ps, ts, rfl, .inr fun e he => ?_⟩
  refine ⟨insD_net rfl, ks, rs, ls, n, ps, ts, rfl, .inr fun f hf => ?_⟩
  exact r6_of q ha hb hc he hf
/-! ### what is shown -/
structure OkP (dp B : Nat) (x : PyData) : Prop where
  lay : x.canLay0 = true
  dep : x.depth ≤ dp
  wt : x.weight ≤ B
  sh : x.intsShort 13 = true
  sw : x.showable = true
theorem okAll {dp B : Nat} : ∀ {xs : List PyData}, (∀ x ∈ xs, OkP dp B x) → PyData.canLayAll0 xs = true ∧ PyData.depthAll xs ≤ dp ∧ PyData.weightAll xs ≤ xs.length * (B + 1) ∧ PyData.intsShortAll 13 xs = true ∧ PyData.showableAll xs = true
  | [], _ => ⟨rfl, Nat.zero_le _, Nat.zero_le _, rfl, rfl⟩
  | x :: xs, h => by
    obtain ⟨h1, h2, h3, h4, h5⟩ := okAll (xs := xs) fun y hy => h y (List.mem_cons_of_mem _ hy)
    have hx := h x List.mem_cons_self
    refine ⟨?_, ?_, ?_, ?_, ?_⟩
    · show (x.canLay0 && PyData.canLayAll0 xs) = true; rw [hx.lay, h1]; rfl
    · show max x.depth (PyData.depthAll xs) ≤ dp; have := hx.dep; omega
    · show x.weight + 1 + PyData.weightAll xs ≤ _; have := hx.wt; rw [List.length_cons, Nat.succ_mul]; omega
    · show (x.intsShort 13 && PyData.intsShortAll 13 xs) = true; rw [hx.sh, h4]; rfl
    · show (x.showable && PyData.showableAll xs) = true; rw [hx.sw, h5]; rfl
theorem OkP.list {dp B n : Nat} {xs : List PyData} (h : ∀ x ∈ xs, OkP dp B x) (hl : xs.length ≤ n) : OkP (dp + 1) (n * (B + 1)) (.list xs) := by
  obtain ⟨h1, h2, h3, h4, h5⟩ := okAll h
  exact ⟨h1, Nat.succ_le_succ h2, Nat.le_trans h3 (Nat.mul_le_mul_right _ hl), h4, h5⟩
theorem OkP.tuple {dp B n : Nat} {xs : List PyData} (h : ∀ x ∈ xs, OkP dp B x) (hl : xs.length ≤ n) : OkP (dp + 1) (n * (B + 1)) (.tuple xs) := by
  obtain ⟨h1, h2, h3, h4, h5⟩ := okAll h
  exact ⟨h1, Nat.succ_le_succ h2, Nat.le_trans h3 (Nat.mul_le_mul_right _ hl), h4, h5⟩
theorem OkP.mono {dp B dp' B' : Nat} {x : PyData} (h : OkP dp B x) (h1 : dp ≤ dp') (h2 : B ≤ B') : OkP dp' B' x := ⟨h.lay, Nat.le_trans h.dep h1, Nat.le_trans h.wt h2, h.sh, h.sw⟩
theorem OkP.int {i : Int} (h0 : 0 ≤ i) (h1 : i < 1024) : OkP 0 10 (.int i) := by
  have hn : i.natAbs < 2 ^ 10 := by omega
  have hl : i ≠ 0 → i.natAbs.log2 < 10 := fun hi => (Nat.log2_lt (show i.natAbs ≠ 0 by omega)).mpr hn
  refine ⟨rfl, Nat.le_refl _, ?_, decide_eq_true (PyData.shown_int_le (by omega)), decide_eq_true ?_⟩
  · show (if i == 0 then 0 else i.natAbs.log2 + 1) ≤ 10
    split
    · omega
    · rename_i hh
      have : i ≠ 0 := fun e => hh (by rw [e]; rfl)
      have := hl this
      omega
  · by_cases e : i = 0
    · subst e; decide
    · have := hl e; omega
theorem OkP.word {w : Str} (h : isWord w = true) : OkP 0 10 (.str w) := by
  obtain ⟨h1, h2, h3⟩ := of_isWord h
  exact ⟨(isWord_ok h).2, Nat.le_refl _, by show w.cps.size ≤ 10; have : w.cps.size ≤ 8 := h2; omega, rfl, rfl⟩
theorem OkP.show {dp B : Nat} {x : PyData} (h : OkP dp B x) (h1 : dp ≤ 64) (h2 : B ≤ 2 ^ 20) : showOk x := by
  refine ⟨?_, h.sh, h.sw⟩
  show (x.canLay0 && decide (x.depth ≤ 64) && decide (x.weight ≤ 2 ^ 20)) = true
  rw [h.lay, decide_eq_true (Nat.le_trans h.dep h1), decide_eq_true (Nat.le_trans h.wt h2)]; rfl
def pkP : D → PyData
  | .str x => .str x
  | .int i => .int i
  | .bl b => .bool b
  | _ => .none
theorem pya_flat {M : Mem} : ∀ {ds : List D}, ds.all flatD = true → PyA M ds (ds.map pkP)
  | [], _ => .nil
  | d :: ds, h => by
    rw [List.all_cons, Bool.and_eq_true] at h
    have t := pya_flat (M := M) h.2
    cases d with
    | non => exact .cons .non t
    | bl b => exact .cons (.bl b) t
    | int b => exact .cons (.int b) t
    | str b => exact .cons (.str b) t
    | _ => cases h.1
theorem pya_map {α : Type} {M : Mem} {f : α → D} {g : α → PyData} : ∀ {l : List α}, (∀ x ∈ l, Py M (f x) (g x)) → PyA M (l.map f) (l.map g)
  | [], _ => .nil
  | x :: l, h => .cons (h x List.mem_cons_self) (pya_map fun y hy => h y (List.mem_cons_of_mem _ hy))
theorem py_view {M : Mem} {d : D} {ds : List D} {xs : List PyData} (e : lview M d = some ds) (h : PyA M ds xs) : Py M d (.list xs) := by
  cases d with
  | ref b => exact .ref (ref_lview e) h
  | lst ys => cases e; exact .lst h
  | _ => cases e
def netPy (ks rs ls : List Str) (n : Int) (ps : List (List D)) (ts : List (List Int)) : PyData :=
  .list [.list (ks.map .str), .list (rs.map .str), .list (ls.map .str), .int n, .list (ps.map fun p => .tuple (p.map pkP)), .list (ts.map fun t => .tuple (t.map .int))]
theorem py_th {M : Mem} {d : D} {ks rs ls : List Str} {n : Int} {ps : List (List D)} {ts : List (List Int)} (h : Th M d ks rs ls n ps ts) (hs : ∀ p ∈ ps, Sh p) : Py M d (netPy ks rs ls n ps ts) := by
  obtain ⟨k, r, l, p, t, h0, h1, h2, h3, h4, h5⟩ := h
  have st : ∀ ws : List Str, PyA M (ws.map D.str) (ws.map .str) := fun ws => pya_map fun x _ => .str x
  refine py_view h0 (.cons (py_view h1 (st ks)) (.cons (py_view h2 (st rs)) (.cons (py_view h3 (st ls)) (.cons (.int n) (.cons (py_view h4 (pya_map fun x hx => .tup (pya_flat (flatK_all ((hs x hx).pieceD).1)))) (.cons (py_view h5 (pya_map fun x hx => .tup (pya_map fun y _ => .int y))) .nil))))))
theorem net_ok {ks rs ls : List Str} {n : Int} {ps : List (List D)} {ts : List (List Int)} (h : NetOk ks rs ls n ps ts) : OkP 3 500000 (netPy ks rs ls n ps ts) := by
  have wd : ∀ ws : List Str, (∀ w ∈ ws, w ∈ ks ++ rs ++ ls) → ws.length ≤ 4 → OkP 2 50000 (.list (ws.map .str)) := fun ws hs hl => by
    have := OkP.list (dp := 0) (B := 10) (n := 4) (xs := ws.map .str) (fun x hx => by
      obtain ⟨w, hw, rfl⟩ := List.mem_map.mp hx
      exact OkP.word (h.ws w (hs w hw))) (by rw [List.length_map]; exact hl)
    exact this.mono (by omega) (by omega)
  have hk := wd ks (fun w hw => List.mem_append_left _ (List.mem_append_left _ hw)) (by have := h.kl; omega)
  have hr := wd rs (fun w hw => List.mem_append_left _ (List.mem_append_right _ hw)) h.rl
  have hl := wd ls (fun w hw => List.mem_append_right _ hw) (by have := h.ll; omega)
  have hn : OkP 2 50000 (.int n) := (OkP.int (by have := h.n2; omega) (by have := h.nm; omega)).mono (by omega) (by omega)
  have hp : OkP 2 50000 (.list (ps.map fun p => .tuple (p.map pkP))) := by
    have := OkP.list (dp := 1) (B := 55) (n := 800) (xs := ps.map fun p => .tuple (p.map pkP)) (fun x hx => by
      obtain ⟨pc, hpc, rfl⟩ := List.mem_map.mp hx
      obtain ⟨w, xs, ns, rfl, g1, g2, g3, g4, g5⟩ := h.sh pc hpc
      refine (OkP.tuple (dp := 0) (B := 10) (n := 5) (fun y hy => ?_) ?_)
      · obtain ⟨d, hd, rfl⟩ := List.mem_map.mp hy
        rcases List.mem_cons.mp hd with rfl | hd
        · exact OkP.word g1
        · rcases List.mem_append.mp hd with hd | hd
          · obtain ⟨z, hz, rfl⟩ := List.mem_map.mp hd
            exact OkP.word (g2 z hz)
          · obtain ⟨z, hz, rfl⟩ := List.mem_map.mp hd
            exact OkP.int (g5 z hz).1 (by have := (g5 z hz).2; omega)
      · simp only [Pc, List.length_map, List.length_cons, List.length_append]; omega) (by rw [List.length_map]; exact h.pl)
    exact this.mono (by omega) (by omega)
  have ht : OkP 2 50000 (.list (ts.map fun t => .tuple (t.map .int))) := by
    have := OkP.list (dp := 1) (B := 44) (n := 4) (xs := ts.map fun t => .tuple (t.map .int)) (fun x hx => by
      obtain ⟨t, htm, rfl⟩ := List.mem_map.mp hx
      have tk := h.tk t htm
      refine (OkP.tuple (dp := 0) (B := 10) (n := 4) (fun y hy => ?_) ?_)
      · obtain ⟨z, hz, rfl⟩ := List.mem_map.mp hy
        have hin : ∀ z ∈ t, 1 ≤ z ∧ z ≤ 4 := by
          unfold timesOk at tk
          split at tk
          · rw [Bool.and_eq_true] at tk
            intro z hz
            have := List.all_eq_true.mp tk.1 (.int z) (List.mem_map.mpr ⟨z, hz, rfl⟩)
            simp only [inT, Bool.and_eq_true, decide_eq_true_eq] at this
            exact this
          · cases tk
        have := hin z hz
        exact OkP.int (by omega) (by omega)
      · rw [List.length_map, timesOk_len tk]; exact Nat.le_refl _) (by rw [List.length_map, h.tl]; exact h.rl)
    exact this.mono (by omega) (by omega)
  have := OkP.list (dp := 2) (B := 50000) (n := 6) (xs := [.list (ks.map .str), .list (rs.map .str), .list (ls.map .str), .int n, .list (ps.map fun p => .tuple (p.map pkP)), .list (ts.map fun t => .tuple (t.map .int))]) (fun x hx => by
    simp only [List.mem_cons, List.not_mem_nil, or_false] at hx
    rcases hx with rfl | rfl | rfl | rfl | rfl | rfl
    · exact hk
    · exact hr
    · exact hl
    · exact hn
    · exact hp
    · exact ht) (Nat.le_refl _)
  exact this.mono (by omega) (by omega)
/-! ### lists that are told -/
/-- live lists at all of some places -/
def Live (M : Mem) (A : List Addr) : Prop := ∀ a ∈ A, ∃ ds, M a = some (.lst ds)
theorem Live.put {M : Mem} {A : List Addr} {b : Addr} {ds : List D} (h : Live M A) : Live (put M b (.lst ds)) A := fun a ha => by
  by_cases e : a = b
  · subst e; exact ⟨ds, put_same⟩
  · obtain ⟨xs, hx⟩ := h a ha
    exact ⟨xs, by rw [put_ne e]; exact hx⟩
theorem six_cut {a b c e f : Addr} {n : Int} : cutD [D.ref a, .ref b, .ref c, .int n, .ref e, .ref f] none (some 3) = [D.ref a, .ref b, .ref c] ∧ cutD [D.ref a, .ref b, .ref c, .int n, .ref e, .ref f] (some 4) none = [D.ref e, .ref f] := by
  constructor
  · rw [cutD_toI (by decide)]; rfl
  · rw [cutD_fromI (by decide)]; rfl
theorem repr_view {M : Mem} {d : D} {ds : List D} {x : PyData} {Q : VK3} (e : lview M d = some ds) (h : Py M d x) (s : showOk x) (q : Q (.str x.shown) M) : r3Repr [d] M Q := by
  cases d with
  | ref b => exact ⟨x, h, trivial, s, q⟩
  | lst ys => exact ⟨x, h, trivial, s, q⟩
  | _ => cases e
abbrev five (a b c e f : Addr) : List Addr := [a, b, c, e, f]
theorem five_get (a b c e f : Addr) (i : Nat) (h : i < [D.ref a, .ref b, .ref c, .ref e, .ref f].length) : ∃ x ∈ five a b c e f, [D.ref a, .ref b, .ref c, .ref e, .ref f][i] = .ref x := by
  match i, h with
  | 0, _ => exact ⟨a, by simp, rfl⟩
  | 1, _ => exact ⟨b, by simp, rfl⟩
  | 2, _ => exact ⟨c, by simp, rfl⟩
  | 3, _ => exact ⟨e, by simp, rfl⟩
  | 4, _ => exact ⟨f, by simp, rfl⟩
  | n + 5, h => exact absurd h (by simp)
theorem netL_th {M : Mem} {ks rs ls n ps ts} {q : Addr} (h : M q = some (.lst (ps.map D.tup))) : Th M (netL ks rs ls n q ts) ks rs ls n ps ts := ⟨_, _, _, _, _, rfl, rfl, rfl, rfl, lview_ref h, rfl⟩
theorem Ev.kept {p : Addr} {M M' : Mem} (h : Ev p M M') (hp : M p = none) : Kept M M' := fun a o e => h.kp a (fun z => by subst z; rw [hp] at e; cases e) o e
def Six (M0 M : Mem) (d : D) (ks rs ls : List Str) (n : Int) (ps : List (List D)) (ts : List (List Int)) : Prop := ∃ a b c e f, d = six n a b c e f ∧ (∀ z ∈ five a b c e f, M0 z = none) ∧
  M a = some (.lst (ks.map D.str)) ∧ M b = some (.lst (rs.map D.str)) ∧ M c = some (.lst (ls.map D.str)) ∧ M e = some (.lst (ps.map D.tup)) ∧ M f = some (.lst (ts.map tD))
theorem Six.keep {M0 M M' : Mem} {d ks rs ls n ps ts} (h : Six M0 M d ks rs ls n ps ts) (k : Kept M M') : Six M0 M' d ks rs ls n ps ts := by
  obtain ⟨a, b, c, e, f, h0, h1, h2, h3, h4, h5, h6⟩ := h
  exact ⟨a, b, c, e, f, h0, h1, k _ _ h2, k _ _ h3, k _ _ h4, k _ _ h5, k _ _ h6⟩
theorem Six.th {M0 M : Mem} {d ks rs ls n ps ts} (h : Six M0 M d ks rs ls n ps ts) : Th M d ks rs ls n ps ts := by
  obtain ⟨a, b, c, e, f, rfl, h1, h2, h3, h4, h5, h6⟩ := h
  exact ⟨_, _, _, _, _, rfl, lview_ref h2, lview_ref h3, lview_ref h4, lview_ref h5, lview_ref h6⟩
/-! ### texts -/
def numS (i : Int) : Str := toString i
def lineOf (row : List Str) : Str := Txt.join " " row
def textOf (rows : List (List Str)) : Str := Txt.join "" (rows.map fun r => lineOf r ++ "\n")
def rowsD (rows : List (List Str)) : List D := rows.map fun r => .lst (r.map D.str)
def relRow (p : Str × List Int) : List Str := ("relay" : Str) :: p.1 :: p.2.map numS
def rowsOf (ks rs ls : List Str) (n : Int) (ps : List (List D)) (ts : List (List Int)) : List (List Str) :=
  (("keys" : Str) :: ks) :: ((rs.zip ts).map relRow ++ (((("lamps" : Str) :: ls) : List Str) :: [("nodes" : Str), numS n] :: ps.map fun p => p.map strD))
/-- a word of a row: short, neither blank nor line feed in it -/
def WdOk (w : Str) : Prop := w.length ≤ 20 ∧ 32 ∉ w.cps.toList ∧ 10 ∉ w.cps.toList
def RowOk (row : List Str) : Prop := row ≠ [] ∧ row.length ≤ 10 ∧ ∀ w ∈ row, WdOk w
theorem sum_le {α : Type} {f : α → Nat} {B : Nat} : ∀ {l : List α}, (∀ x ∈ l, f x ≤ B) → (l.map f).sum ≤ l.length * B
  | [], _ => Nat.zero_le _
  | x :: l, h => by
    have := sum_le (l := l) fun y hy => h y (List.mem_cons_of_mem _ hy)
    have := h x List.mem_cons_self
    rw [List.map_cons, List.sum_cons, List.length_cons, Nat.succ_mul]
    omega
theorem join_len {y : Str} {l : List Str} {B : Nat} (h : ∀ x ∈ l, x.length ≤ B) : (Txt.join y l).length ≤ l.length * (B + y.length) := by
  rw [TL.join_eq]
  refine Nat.le_trans (StrLaws.join_length_le y l) ?_
  have := sum_le (f := fun x : Str => x.length) (B := B) h
  rw [Nat.mul_add]
  omega
theorem blank_len : (" " : Str).length = 1 := by decide +kernel
theorem nl_len : ("\n" : Str).length = 1 := by decide +kernel
theorem emp_len : ("" : Str).length = 0 := by decide +kernel
theorem line_len {row : List Str} (h : RowOk row) : (lineOf row).length ≤ 210 := by
  have := join_len (y := " ") (l := row) (B := 20) fun x hx => (h.2.2 x hx).1
  rw [blank_len] at this
  have h2 := h.2.1
  have : row.length * (20 + 1) ≤ 10 * 21 := Nat.mul_le_mul_right _ h2
  show (Txt.join " " row).length ≤ 210
  omega
theorem line_fit {row : List Str} (h : RowOk row) : (row.map (·.length)).sum + row.length * (" " : Str).length ≤ 16777216 := by
  have h1 := sum_le (f := fun x : Str => x.length) (B := 20) fun x hx => (h.2.2 x hx).1
  rw [blank_len]
  have h2 := h.2.1
  have : row.length * 20 ≤ 10 * 20 := Nat.mul_le_mul_right _ h2
  have h1' : (row.map (·.length)).sum ≤ row.length * 20 := h1
  omega
theorem linenl_len {row : List Str} (h : RowOk row) : (lineOf row ++ "\n").length ≤ 211 := by
  rw [Str.length_append, nl_len]; have := line_len h; omega
theorem text_fit {rows : List (List Str)} (h : ∀ r ∈ rows, RowOk r) (hl : rows.length ≤ 2000) : ((rows.map fun r => lineOf r ++ "\n").map (·.length)).sum + (rows.map fun r => lineOf r ++ "\n").length * ("" : Str).length ≤ 16777216 := by
  have h1 := sum_le (f := fun x : Str => x.length) (B := 211) (l := rows.map fun r => lineOf r ++ "\n") fun x hx => by
    obtain ⟨r, hr, rfl⟩ := List.mem_map.mp hx
    exact linenl_len (h r hr)
  rw [emp_len]
  rw [List.length_map] at h1 ⊢
  have : rows.length * 211 ≤ 2000 * 211 := Nat.mul_le_mul_right _ hl
  have h1' : ((rows.map fun r => lineOf r ++ "\n").map (·.length)).sum ≤ rows.length * 211 := h1
  omega
theorem text_len {rows : List (List Str)} (h : ∀ r ∈ rows, RowOk r) (hl : rows.length ≤ 2000) : (textOf rows).length ≤ 500000 := by
  have := join_len (y := "") (l := rows.map fun r => lineOf r ++ "\n") (B := 211) fun x hx => by
    obtain ⟨r, hr, rfl⟩ := List.mem_map.mp hx
    exact linenl_len (h r hr)
  rw [emp_len, List.length_map] at this
  have : rows.length * (211 + 0) ≤ 2000 * 211 := Nat.mul_le_mul_right _ hl
  show (Txt.join "" _).length ≤ 500000
  omega
theorem str_ext {a b : Str} (h : a.cps.toList = b.cps.toList) : a = b := by
  obtain ⟨x⟩ := a
  obtain ⟨y⟩ := b
  have : x = y := Array.ext' h
  rw [this]
theorem nl_cps : ("\n" : Str).cps.toList = [10] := by decide +kernel
theorem bl_cps : (" " : Str).cps.toList = [32] := by decide +kernel
theorem em_cps : ("" : Str).cps.toList = [] := by decide +kernel
/-- joined by a text: its signs -/
theorem joinI_cps (y : Str) : ∀ l : List Str, (Txt.join y (l ++ [("" : Str)])).cps.toList = l.flatMap fun x => x.cps.toList ++ y.cps.toList := by
  intro l
  rw [TL.join_eq]
  induction l with
  | nil => exact em_cps
  | cons x l ih =>
    have e : ∃ z r, l ++ [("" : Str)] = z :: r := by cases l with | nil => exact ⟨("" : Str), [], rfl⟩ | cons a b => exact ⟨a, b ++ [("" : Str)], rfl⟩
    obtain ⟨z, r, e⟩ := e
    rw [List.cons_append, e]
    show (x ++ y ++ Str.join y (z :: r)).cps.toList = _
    rw [← e, Str.cps_append, Str.cps_append, Array.toList_append, Array.toList_append, ih, List.flatMap_cons]
theorem text_join (rows : List (List Str)) : textOf rows = Txt.join "\n" (rows.map lineOf ++ [("" : Str)]) := by
  refine str_ext ?_
  unfold textOf
  rw [join_cps, joinI_cps, List.flatMap_map, List.flatMap_map]
  refine congrArg (fun f => rows.flatMap f) (funext fun r => ?_)
  rw [Str.cps_append, Array.toList_append]
theorem mem_join {y : Str} {c : Nat} : ∀ {l : List Str}, c ∈ (Str.join y l).cps.toList → c ∈ y.cps.toList ∨ ∃ x ∈ l, c ∈ x.cps.toList
  | [], h => by simp [Str.join, Str.empty] at h
  | [x], h => .inr ⟨x, List.mem_cons_self, h⟩
  | x :: z :: r, h => by
    have h' : c ∈ (x ++ y ++ Str.join y (z :: r)).cps.toList := h
    rw [Str.cps_append, Str.cps_append, Array.toList_append, Array.toList_append, List.mem_append, List.mem_append] at h'
    rcases h' with (h' | h') | h'
    · exact .inr ⟨x, List.mem_cons_self, h'⟩
    · exact .inl h'
    · rcases mem_join h' with h' | ⟨u, hu, h'⟩
      · exact .inl h'
      · exact .inr ⟨u, List.mem_cons_of_mem _ hu, h'⟩
theorem line_nl {row : List Str} (h : RowOk row) : 10 ∉ (lineOf row).cps.toList := fun hc => by
  unfold lineOf at hc
  rw [TL.join_eq] at hc
  rcases mem_join hc with hc | ⟨x, hx, hc⟩
  · rw [bl_cps] at hc; simp at hc
  · exact (h.2.2 x hx).2.2 hc
theorem split_line {row : List Str} (h : RowOk row) : Txt.split (lineOf row) " " = row :=
  TL.split_join (s := 32) (S := []) bl_cps (by decide +kernel) h.1 fun w hw => (h.2.2 w hw).2.1
theorem split_text {rows : List (List Str)} (h : ∀ r ∈ rows, RowOk r) : Txt.split (textOf rows) "\n" = rows.map lineOf ++ [("" : Str)] := by
  rw [text_join]
  refine TL.split_join (s := 10) (S := []) nl_cps (by decide +kernel) (by simp) fun p hp => ?_
  rcases List.mem_append.mp hp with hp | hp
  · obtain ⟨r, hr, rfl⟩ := List.mem_map.mp hp
    exact line_nl (h r hr)
  · rw [List.mem_singleton] at hp; subst hp; show 10 ∉ ("" : Str).cps.toList; rw [em_cps]; simp
/-! ### numbers in texts -/
theorem num_cps {i : Int} (h : 0 ≤ i) : (numS i).cps.toList = TL.numL i.toNat := by
  have := TL.tl_num i.toNat
  rw [Int.toNat_of_nonneg h] at this
  exact this
theorem num_digit {i : Int} (h : 0 ≤ i) : ∀ c ∈ (numS i).cps.toList, 48 ≤ c ∧ c ≤ 57 := fun c hc => by
  rw [num_cps h] at hc
  exact TL.numL_digits _ c hc
theorem num_ok {i : Int} (h : 0 ≤ i) (h1 : i < 100000) : WdOk (numS i) := by
  refine ⟨?_, fun hc => ?_, fun hc => ?_⟩
  · have := TL.numL_len (n := i.toNat) (k := 5) (by decide) (by omega)
    rw [← num_cps h, Array.length_toList] at this
    show (numS i).cps.size ≤ 20
    omega
  · have := num_digit h _ hc; omega
  · have := num_digit h _ hc; omega
theorem word_wd {w : Str} (h : isWord w = true) : WdOk w := by
  obtain ⟨h1, h2, h3⟩ := of_isWord h
  have hl : ∀ c ∈ letters.cps.toList, 97 ≤ c := by decide +kernel
  exact ⟨by omega, fun hc => by have := hl _ (of_decide_eq_true (h3 _ hc)); omega, fun hc => by have := hl _ (of_decide_eq_true (h3 _ hc)); omega⟩
/-! ### the rows of a net -/
theorem rows_ok {ks rs ls : List Str} {n : Int} {ps : List (List D)} {ts : List (List Int)} (h : NetOk ks rs ls n ps ts) : ∀ r ∈ rowsOf ks rs ls n ps ts, RowOk r := by
  have wd : ∀ w ∈ (["keys", "relay", "lamps", "nodes"] : List Str), WdOk w := fun w hw => by
    have : ∀ w ∈ (["keys", "relay", "lamps", "nodes"] : List Str), isWord w = true := by decide +kernel
    exact word_wd (this w hw)
  have cons : ∀ (w : Str) (xs : List Str), WdOk w → xs.length ≤ 9 → (∀ x ∈ xs, WdOk x) → RowOk (w :: xs) := fun w xs h1 h2 h3 => ⟨by simp, by rw [List.length_cons]; omega, fun x hx => by
    rcases List.mem_cons.mp hx with rfl | hx
    · exact h1
    · exact h3 x hx⟩
  intro r hr
  unfold rowsOf at hr
  rcases List.mem_cons.mp hr with rfl | hr
  · exact cons _ _ (wd _ (by simp)) (by have := h.kl; omega) fun x hx => word_wd (h.ws x (List.mem_append_left _ (List.mem_append_left _ hx)))
  rcases List.mem_append.mp hr with hr | hr
  · obtain ⟨⟨a, t⟩, hp, rfl⟩ := List.mem_map.mp hr
    have ha := (List.of_mem_zip hp).1
    have ht := h.tk t (List.of_mem_zip hp).2
    refine cons _ _ (wd _ (by simp)) (by rw [List.length_cons, List.length_map, timesOk_len ht]; decide) fun x hx => ?_
    rcases List.mem_cons.mp hx with rfl | hx
    · exact word_wd (h.ws _ (List.mem_append_left _ (List.mem_append_right _ ha)))
    · obtain ⟨i, hi, rfl⟩ := List.mem_map.mp hx
      have hin : 1 ≤ i ∧ i ≤ 4 := by
        unfold timesOk at ht
        split at ht
        · rw [Bool.and_eq_true] at ht
          have := List.all_eq_true.mp ht.1 (.int i) (List.mem_map.mpr ⟨i, hi, rfl⟩)
          simp only [inT, Bool.and_eq_true, decide_eq_true_eq] at this
          exact this
        · cases ht
      exact num_ok (by omega) (by omega)
  rcases List.mem_cons.mp hr with rfl | hr
  · exact cons _ _ (wd _ (by simp)) (by have := h.ll; omega) fun x hx => word_wd (h.ws x (List.mem_append_right _ hx))
  rcases List.mem_cons.mp hr with rfl | hr
  · exact cons _ _ (wd _ (by simp)) (by simp) fun x hx => by rw [List.mem_singleton] at hx; subst hx; exact num_ok (by have := h.n2; omega) (by have := h.nm; omega)
  · obtain ⟨pc, hpc, rfl⟩ := List.mem_map.mp hr
    obtain ⟨w, xs, ns, rfl, g1, g2, g3, g4, g5⟩ := h.sh pc hpc
    refine cons _ _ (word_wd g1) (by rw [List.length_map, List.length_append, List.length_map, List.length_map]; omega) fun x hx => ?_
    obtain ⟨d, hd, rfl⟩ := List.mem_map.mp hx
    rcases List.mem_append.mp hd with hd | hd
    · obtain ⟨y, hy, rfl⟩ := List.mem_map.mp hd
      exact word_wd (g2 y hy)
    · obtain ⟨y, hy, rfl⟩ := List.mem_map.mp hd
      exact num_ok (g5 y hy).1 (by have := (g5 y hy).2; omega)
theorem rows_len {ks rs ls : List Str} {n : Int} {ps : List (List D)} {ts : List (List Int)} (h : NetOk ks rs ls n ps ts) : (rowsOf ks rs ls n ps ts).length = rs.length + 3 + ps.length := by
  unfold rowsOf
  rw [List.length_cons, List.length_append, List.length_cons, List.length_cons, List.length_map, List.length_map, List.length_zip, h.tl]
  omega
/-! ### a net's text is written -/
theorem numAble {i : Int} (h : 0 ≤ i) (h1 : i < 100000) : StrAble (.int i) := by
  have h2 : i.natAbs < 2 ^ 17 := by omega
  by_cases e : i = 0
  · subst e; show (0 : Int).natAbs.log2 < 1920; decide
  · have := (Nat.log2_lt (show i.natAbs ≠ 0 by omega)).mpr h2
    show i.natAbs.log2 < 1920
    omega
theorem times_in {t : List Int} (h : timesOk t = true) : ∀ i ∈ t, 1 ≤ i ∧ i ≤ 4 := by
  unfold timesOk at h
  split at h
  · rw [Bool.and_eq_true] at h
    intro z hz
    have := List.all_eq_true.mp h.1 (.int z) (List.mem_map.mpr ⟨z, hz, rfl⟩)
    simp only [inT, Bool.and_eq_true, decide_eq_true_eq] at this
    exact this
  · cases h
theorem strs_ints (t : List Int) : (t.map D.int).map (fun d => D.str (strD d)) = (t.map numS).map D.str := by
  rw [List.map_map, List.map_map]; rfl
theorem strs_pc (p : List D) : p.map (fun d => D.str (strD d)) = (p.map strD).map D.str := by
  rw [List.map_map]; rfl
theorem sh_able {p : List D} (h : Sh p) : p.length ≤ 10 ∧ ∀ d ∈ p, StrAble d := by
  obtain ⟨w, xs, ns, rfl, g1, g2, g3, g4, g5⟩ := h
  refine ⟨by simp only [Pc, List.length_cons, List.length_append, List.length_map]; omega, fun d hd => ?_⟩
  rcases List.mem_cons.mp hd with rfl | hd
  · trivial
  · rcases List.mem_append.mp hd with hd | hd
    · obtain ⟨y, hy, rfl⟩ := List.mem_map.mp hd; trivial
    · obtain ⟨y, hy, rfl⟩ := List.mem_map.mp hd
      exact numAble (g5 y hy).1 (by have := (g5 y hy).2; omega)
theorem rowsD_app (a b : List (List Str)) : rowsD (a ++ b) = rowsD a ++ rowsD b := by unfold rowsD; rw [List.map_append]
/-- "".join([" ".join(row) + "\n" for row in rows]) -/
theorem join_rows {te0 : TE3} {b : Nat} {δ : St3} {M : Mem} {Q : VK3} (d : D) {rows : List (List Str)} (he : ∀ R : VK3, R d M → te0 δ M R) (hd : itD M d = some (rowsD rows)) (hb : b < δ.length) (hr : ∀ r ∈ rows, RowOk r) (hl : rows.length ≤ 2000) (q : Q (.str (textOf rows)) M) :
    bm3 chkS r3Join (c3 (.str "")) (cons3 (lc3 (src3 te0) (.nm b) yes3 (op3 r3Add (bm3 chkS r3Join (c3 (.str " ")) (cons3 (v3 b) nil3)) (c3 (.str "\n"))) [b]) nil3) δ M Q := by
  refine ⟨trivial, ?_⟩
  refine lc_map d (fun d => match d with | .lst ds => (match strsOf ds with | some ws => .str (lineOf ws ++ "\n") | none => .non) | _ => .non) he hd (by unfold rowsD; rw [List.length_map]; exact size_pos (by omega)) (fun x hx A hA => ?_) (.inl ?_)
  · obtain ⟨r, hr', rfl⟩ := List.mem_map.mp hx
    have ok := hr r hr'
    simp only [asg, wipe3, op3, bm3, c3, cons3, nil3, v3]
    rw [List.set_set, List.getElem?_set_self (by simpa using hb)]
    refine ⟨trivial, ?_⟩
    simp only [r3Join, lview_lst, joinQ, strsOf_map]
    refine ⟨line_fit ok, ?_⟩
    simp only [r3Add, lview_str]
    simp only [strsOf_map] at hA
    refine ⟨?_, hA⟩
    have := line_len ok
    rw [nl_len]
    exact tup_pos (by show (lineOf r).length + 1 ≤ _; omega)
  · have e : (rowsD rows).map (fun d => match d with | .lst ds => (match strsOf ds with | some ws => D.str (lineOf ws ++ "\n") | none => .non) | _ => .non) = (rows.map fun r => lineOf r ++ "\n").map D.str := by
      unfold rowsD
      rw [List.map_map, List.map_map]
      refine List.map_congr_left fun r _ => ?_
      simp only [Function.comp, strsOf_map]
    rw [e]
    simp only [nil3, r3Join, lview_lst, joinQ, strsOf_map]
    exact ⟨text_fit hr hl, q⟩
def sp_show_net (ad : Ad) : Sp3 := fun ds M Q _ => ∃ ks rs ls n ps ts, ds = [netO ad.C_Net ks rs ls n ps ts] ∧ NetOk ks rs ls n ps ts ∧ ∀ M', Kept M M' → Q (.str (textOf (rowsOf ks rs ls n ps ts))) M'
abbrev N_show_net : List Str := ["net", "rows", "relay", "times", "piece", "row", "part", "time"]
def t_show_net (ad : Ad) : TS3 := (seq3 (set3 1 (lst3 (cons3 (op3 r3Add (lst3 (cons3 (c3 (.str "keys")) nil3)) (meth3 ad.C_Net "key_words" (sp_Net_key_words ad) (v3 0) nil3)) nil3)))
    (seq3 (for3 (zip3 (cons3 (meth3 ad.C_Net "relays" (sp_Net_relays ad) (v3 0) nil3) (cons3 (meth3 ad.C_Net "times" (sp_Net_times ad) (v3 0) nil3) nil3))) (.tp [(.nm 2), (.nm 3)]) (drop3 (bm3 chkL r3Append (v3 1) (cons3 (op3 r3Add (lst3 (cons3 (c3 (.str "relay")) (cons3 (v3 2) nil3))) (lc3 (src3 (v3 3)) (.nm 7) yes3 (cal3 r3Str (cons3 (v3 7) nil3)) [7])) nil3))))
    (seq3 (drop3 (bm3 chkL r3Append (v3 1) (cons3 (op3 r3Add (lst3 (cons3 (c3 (.str "lamps")) nil3)) (meth3 ad.C_Net "lamps" (sp_Net_lamps ad) (v3 0) nil3)) nil3)))
    (seq3 (drop3 (bm3 chkL r3Append (v3 1) (cons3 (lst3 (cons3 (c3 (.str "nodes")) (cons3 (cal3 r3Str (cons3 (meth3 ad.C_Net "nodes" (sp_Net_nodes ad) (v3 0) nil3) nil3)) nil3))) nil3)))
    (seq3 (for3 (src3 (meth3 ad.C_Net "pieces" (sp_Net_pieces ad) (v3 0) nil3)) (.nm 4) (drop3 (bm3 chkL r3Append (v3 1) (cons3 (lc3 (src3 (v3 4)) (.nm 6) yes3 (cal3 r3Str (cons3 (v3 6) nil3)) [6]) nil3))))
    (ret3 (bm3 chkS r3Join (c3 (.str "")) (cons3 (lc3 (src3 (v3 1)) (.nm 5) yes3 (op3 r3Add (bm3 chkS r3Join (c3 (.str " ")) (cons3 (v3 5) nil3)) (c3 (.str "\n"))) [5]) nil3))))))))
theorem len_show_net {ad : Ad} {ds M Q E} (h : sp_show_net ad ds M Q E) : ds.length = 1 := by obtain ⟨_, _, _, _, _, _, rfl, _⟩ := h; rfl
theorem Kept.put {M M' : Mem} {p : Addr} {o : MO} (h : Kept M M') (hp : M p = none) : Kept M (put M' p o) := fun a u e => by rw [put_ne (mne e hp)]; exact h a u e
theorem r_show_net {ad : Ad} {ds M Q E} (h : sp_show_net ad ds M Q E) : t_show_net ad { nx := fun _ M' => Q .non M', rt := Q } (start3 N_show_net ds) M := by
  obtain ⟨ks, rs, ls, n, ps, ts, rfl, ok, q⟩ := h
  have hz : ∀ k : Nat, k ≤ 1000 → k ≤ sizeLine := fun k h => tup_pos (by omega)
  have b1 := ok.kl
  have b2 := ok.rl
  have b3 := ok.ll
  have b4 := ok.pl
  have b5 := ok.tl
  unfold t_show_net N_show_net
  simp only [seq3, set3, start3, lst3, cons3, nil3, c3, op3, meth3, v3, List.map_cons, List.map_nil, List.length_cons, List.length_nil, List.cons_append, List.nil_append, List.getElem?_cons_zero, List.set_cons_zero, List.set_cons_succ, List.replicate_succ, List.replicate_zero, Nat.reduceAdd, Nat.reduceSub]
  refine ⟨hz _ (by decide), .inl ⟨insD_net rfl, ks, rs, ls, n, ps, ts, rfl, .inl ?_⟩⟩
  simp only [r3Add, lview_lst]
  refine ⟨by rw [List.length_map]; exact hz _ (by simp; omega), .inl ⟨hz 1 (by decide), .inr fun p hp => ?_⟩⟩
  have m0 : put M p (.lst [D.lst ([D.str "keys"] ++ ks.map D.str)]) p = some (.lst (rowsD [("keys" : Str) :: ks])) := put_same
  have kp0 : Kept M (put M p (.lst [D.lst ([D.str "keys"] ++ ks.map D.str)])) := kept_put hp
  generalize put M p (.lst [D.lst ([D.str "keys"] ++ ks.map D.str)]) = M0 at m0 kp0
  have app : ∀ (M1 : Mem) (rows : List (List Str)) (r : List Str) (R : Mem → Prop), rows.length ≤ 2000 → M1 p = some (.lst (rowsD rows)) → R (put M1 p (.lst (rowsD (rows ++ [r])))) → r3Append (.ref p) [.lst (r.map D.str)] M1 fun _ M2 => R M2 := fun M1 rows r R hl hm hR => by
    simp only [r3Append, onL, hm]
    rw [rowsD_app] at hR
    exact ⟨by unfold rowsD; rw [List.length_map]; exact size_pos (by omega), hR⟩
  refine forZ (rs.map D.str) (ts.map tD) (fun R h => ⟨insD_net rfl, ks, rs, ls, n, ps, ts, rfl, .inl ⟨insD_net rfl, ks, rs, ls, n, ps, ts, rfl, .inl h⟩⟩) (by rw [List.length_map, List.length_map, b5])
    (fun i δ M' => ∃ x2 x3, δ = [some (netO ad.C_Net ks rs ls n ps ts), some (.ref p), x2, x3, none, none, none, none] ∧ M' p = some (.lst (rowsD ((("keys" : Str) :: ks) :: ((rs.zip ts).take i).map relRow))) ∧ Kept M M') ⟨none, none, rfl, m0, kp0⟩ (fun i h1 h2 δ M' hI N hN => ?_) fun δ M1 hI => ?_
  · obtain ⟨x2, x3, rfl, hm, kp⟩ := hI
    rw [List.length_map] at h1 h2
    have e1 : (rs.map D.str)[i]'(by rw [List.length_map]; exact h1) = .str rs[i] := by simp
    have e2 : (ts.map tD)[i]'(by rw [List.length_map]; exact h2) = tD ts[i] := by simp
    rw [e1, e2]
    simp only [asg, asgs, List.set_cons_zero, List.set_cons_succ, drop3, bm3, chkL, v3, cons3, nil3, op3, lst3, c3, List.getElem?_cons_zero, List.getElem?_cons_succ, lview_ref hm, Option.isSome_some]
    have ht := ok.tk _ (List.getElem_mem h2)
    refine ⟨trivial, hz 2 (by decide), .inl ?_⟩
    refine lc_strs (tD ts[i]) (fun R h => h) (show itD M' (tD ts[i]) = some (ts[i].map D.int) from rfl) (by simp) (by rw [List.length_map, timesOk_len ht]; omega) (fun d hd => ?_) (.inl ?_)
    · obtain ⟨x, hx, rfl⟩ := List.mem_map.mp hd
      have := times_in ht x hx
      exact numAble (by omega) (by omega)
    · rw [strs_ints]
      simp only [r3Add, lview_lst]
      refine ⟨by rw [List.length_map, List.length_map, timesOk_len ht]; exact hz 6 (by decide), .inl ?_⟩
      refine app M' _ (relRow (rs[i], ts[i])) _ (by rw [List.length_cons, List.length_map, List.length_take]; omega) hm (hN _ _ ⟨_, _, rfl, ?_, kp.put hp⟩)
      rw [put_same]
      have hzl : i < (rs.zip ts).length := by rw [List.length_zip]; omega
      have e3 : (rs.zip ts).take (i + 1) = (rs.zip ts).take i ++ [(rs[i], ts[i])] := by
        rw [← List.take_append_getElem hzl]; simp
      rw [e3, List.map_append]
      rfl
  · obtain ⟨x2, x3, rfl, hm, kp⟩ := hI
    rw [List.length_map, List.take_of_length_le (by rw [List.length_zip]; omega)] at hm
    have hzl : (rs.zip ts).length = rs.length := by rw [List.length_zip]; omega
    simp only [seq3, drop3, bm3, chkL, v3, cons3, nil3, op3, lst3, c3, meth3, List.getElem?_cons_zero, List.getElem?_cons_succ, lview_ref hm, Option.isSome_some]
    refine ⟨trivial, hz 1 (by decide), .inl ⟨insD_net rfl, ks, rs, ls, n, ps, ts, rfl, .inl ?_⟩⟩
    simp only [r3Add, lview_lst]
    refine ⟨by rw [List.length_map]; exact hz _ (by simp; omega), .inl ?_⟩
    refine app M1 _ (("lamps" : Str) :: ls) _ (by rw [List.length_cons, List.length_map, hzl]; omega) hm ?_
    have hm2 : put M1 p (.lst (rowsD (((("keys" : Str) :: ks) :: (rs.zip ts).map relRow) ++ [("lamps" : Str) :: ls]))) p = some (.lst (rowsD (((("keys" : Str) :: ks) :: (rs.zip ts).map relRow) ++ [("lamps" : Str) :: ls]))) := put_same
    have kp2 := kp.put (o := .lst (rowsD (((("keys" : Str) :: ks) :: (rs.zip ts).map relRow) ++ [("lamps" : Str) :: ls]))) hp
    generalize put M1 p (.lst (rowsD (((("keys" : Str) :: ks) :: (rs.zip ts).map relRow) ++ [("lamps" : Str) :: ls]))) = M2 at hm2 kp2
    simp only [cal3, cons3, nil3, lview_ref hm2, Option.isSome_some]
    refine ⟨trivial, insD_net rfl, ks, rs, ls, n, ps, ts, rfl, ?_⟩
    refine r3Str_of (numAble (by have := ok.n2; omega) (by have := ok.nm; omega)) ⟨hz 2 (by decide), .inl ?_⟩
    refine app M2 _ [("nodes" : Str), numS n] _ (by rw [List.length_append, List.length_cons, List.length_map, hzl]; simp; omega) hm2 ?_
    have hm3 : put M2 p (.lst (rowsD ((((("keys" : Str) :: ks) :: (rs.zip ts).map relRow) ++ [("lamps" : Str) :: ls]) ++ [[("nodes" : Str), numS n]]))) p = some (.lst (rowsD ((((("keys" : Str) :: ks) :: (rs.zip ts).map relRow) ++ [("lamps" : Str) :: ls]) ++ [[("nodes" : Str), numS n]]))) := put_same
    have kp3 := kp2.put (o := .lst (rowsD ((((("keys" : Str) :: ks) :: (rs.zip ts).map relRow) ++ [("lamps" : Str) :: ls]) ++ [[("nodes" : Str), numS n]]))) hp
    generalize put M2 p (.lst (rowsD ((((("keys" : Str) :: ks) :: (rs.zip ts).map relRow) ++ [("lamps" : Str) :: ls]) ++ [[("nodes" : Str), numS n]]))) = M3 at hm3 kp3
    refine forS (ps.map D.tup) (fun R h => ⟨insD_net rfl, ks, rs, ls, n, ps, ts, rfl, .inl h⟩) (fun i δ M' => ∃ x4, δ = [some (netO ad.C_Net ks rs ls n ps ts), some (.ref p), x2, x3, x4, none, none, none] ∧ M' p = some (.lst (rowsD (((((("keys" : Str) :: ks) :: (rs.zip ts).map relRow) ++ [("lamps" : Str) :: ls]) ++ [[("nodes" : Str), numS n]]) ++ (ps.take i).map fun p => p.map strD))) ∧ Kept M M')
      ⟨none, rfl, by rw [List.take_zero, List.map_nil, List.append_nil]; exact hm3, kp3⟩ (fun i h δ M' hI N hN => ?_) fun δ M4 hI => ?_
    · obtain ⟨x4, rfl, hm', kp'⟩ := hI
      rw [List.length_map] at h
      have e1 : (ps.map D.tup)[i]'(by rw [List.length_map]; exact h) = .tup ps[i] := by simp
      rw [e1]
      simp only [asg, List.set_cons_zero, List.set_cons_succ, drop3, bm3, chkL, v3, cons3, nil3, List.getElem?_cons_zero, List.getElem?_cons_succ, lview_ref hm', Option.isSome_some]
      obtain ⟨s1, s2⟩ := sh_able (ok.sh _ (List.getElem_mem h))
      refine ⟨trivial, lc_strs (.tup ps[i]) (fun R h => h) (show itD M' (.tup ps[i]) = some ps[i] from rfl) (by simp) (by omega) s2 (.inl ?_)⟩
      rw [strs_pc]
      refine app M' _ (ps[i].map strD) _ (by simp only [List.length_append, List.length_cons, List.length_map, hzl, List.length_take, List.length_nil]; omega) hm' (hN _ _ ⟨_, rfl, ?_, kp'.put hp⟩)
      rw [put_same, List.append_assoc, ← List.take_append_getElem h, List.map_append]
      rfl
    · obtain ⟨x4, rfl, hm', kp'⟩ := hI
      rw [List.length_map, List.take_length] at hm'
      have er : ((((("keys" : Str) :: ks) :: (rs.zip ts).map relRow) ++ [("lamps" : Str) :: ls]) ++ [[("nodes" : Str), numS n]]) ++ (ps.map fun p => p.map strD) = rowsOf ks rs ls n ps ts := by
        unfold rowsOf
        simp only [List.cons_append, List.append_assoc, List.nil_append]
      rw [er] at hm'
      simp only [ret3]
      exact join_rows (.ref p) (fun R h => h) (by unfold itD; rw [lview_ref hm']) (by simp) (rows_ok ok) (by rw [rows_len ok]; omega) (q M4 kp')
/-! ### a net's text is read -/
def sp_want (ad : Ad) : Sp3 := fun ds M Q _ => ∃ d, ds = [d] ∧ truD M d = some true ∧ Q .non M
abbrev N_want : List Str := ["truth"]
def t_want (ad : Ad) : TS3 := (if3 (not3 (tru3 (v3 0))) never3 next3)
theorem len_want {ad : Ad} {ds M Q E} (h : sp_want ad ds M Q E) : ds.length = 1 := by obtain ⟨_, rfl, _⟩ := h; rfl
theorem r_want {ad : Ad} {ds M Q E} (h : sp_want ad ds M Q E) : t_want ad { nx := fun _ M' => Q .non M', rt := Q } (start3 N_want ds) M := by
  obtain ⟨d, rfl, ht, q⟩ := h
  unfold t_want N_want
  walk_at "rd"
  rw [ht]
  exact q
theorem want_of {ad : Ad} {M : Mem} {Q : VK3} (q : Q .non M) : sp_want ad [.bl true] M Q no3 := ⟨_, rfl, rfl, q⟩
theorem want_of' {ad : Ad} {M : Mem} {Q : VK3} {b : Bool} (e : b = true) (q : Q .non M) : sp_want ad [.bl b] M Q no3 := by subst e; exact want_of q
abbrev figs : Str := "0123456789"
def figB : D → Bool
  | .str w => (match w.cps.toList with | [c] => decide (c ∈ figs.cps.toList) | _ => false)
  | _ => false
theorem num_figs {i : Int} (h : 0 ≤ i) : (L3.signs (numS i)).all figB = true := by
  refine List.all_eq_true.mpr fun d hd => ?_
  obtain ⟨c, hc, rfl⟩ := List.mem_map.mp hd
  have h1 := num_digit h c hc
  have h2 : ∀ c, c < 58 → 48 ≤ c → c ∈ figs.cps.toList := by decide +kernel
  exact decide_eq_true (h2 c (by omega) h1.1)
theorem num_head {n : Nat} : TL.numL n = [48] ∨ ∃ c r, TL.numL n = c :: r ∧ c ≠ 48 := by
  induction n using Nat.strongRecOn with
  | _ n ih =>
    by_cases h : n < 10
    · rw [TL.numL_lt h]
      by_cases h0 : n = 0
      · subst h0; exact .inl rfl
      · exact .inr ⟨_, _, rfl, by omega⟩
    · rw [TL.numL_step (by omega)]
      rcases ih (n / 10) (by omega) with e | ⟨c, r, e, hc⟩
      · exfalso
        have h1 := TL.numL_val (n / 10)
        rw [e] at h1
        have h2 : NumText.digitsVal [48] = 0 := by decide
        omega
      · exact .inr ⟨c, _, by rw [e]; rfl, hc⟩
def sp_number_of (ad : Ad) : Sp3 := fun ds M Q _ => ∃ i : Int, ds = [.str (numS i)] ∧ 0 ≤ i ∧ i < 100000 ∧ Q (.int i) M
abbrev N_number_of : List Str := ["word", "sign"]
def t_number_of (ad : Ad) : TS3 := (seq3 (drop3 (call3 (sp_want ad) (cons3 (andv3 (op3 r3Ne (v3 0) (c3 (.str ""))) (cal3 (r3AllB fun bs => bs.all id) (cons3 (lc3 (src3 (v3 0)) (.nm 1) yes3 (op3 (r3In false) (v3 1) (c3 (.str "0123456789"))) [1]) nil3))) nil3)))
    (seq3 (drop3 (call3 (sp_want ad) (cons3 (orv3 (op3 r3Eq (v3 0) (c3 (.str "0"))) (op3 r3Ne (op3 r3Ix (v3 0) (c3 (.int 0))) (c3 (.str "0")))) nil3)))
    (ret3 (cal3 r3Int (cons3 (v3 0) nil3)))))
theorem len_number_of {ad : Ad} {ds M Q E} (h : sp_number_of ad ds M Q E) : ds.length = 1 := by obtain ⟨_, rfl, _⟩ := h; rfl
theorem num_int {i : Int} (h : 0 ≤ i) (h1 : i < 100000) : PySem.intText? (numS i) = some i := PySem.W.KIN.num_reads h (by omega)
theorem r_number_of {ad : Ad} {ds M Q E} (h : sp_number_of ad ds M Q E) : t_number_of ad { nx := fun _ M' => Q .non M', rt := Q } (start3 N_number_of ds) M := by
  obtain ⟨i, rfl, h0, h1, q⟩ := h
  have wd := num_ok h0 h1
  have cps := num_cps h0
  have hd := num_head (n := i.toNat)
  unfold t_number_of N_number_of
  simp only [seq3, drop3, call3, cons3, nil3, andv3, op3, v3, c3, start3, List.map_cons, List.map_nil, List.length_cons, List.length_nil, List.cons_append, List.nil_append, List.getElem?_cons_zero, List.replicate_succ, List.replicate_zero, Nat.reduceAdd, Nat.reduceSub, r3Ne]
  have ne : ¬ numS i = "" := fun e => by
    rw [e, em_cps] at cps
    exact TL.numL_ne _ cps.symm
  simp only [ne, decide_false, Bool.not_false, truD, lview_bl, cal3, cons3, nil3]
  refine lc_map (.str (numS i)) (fun d => .bl (figB d)) (fun R h => h) rfl (by unfold L3.signs; rw [List.length_map, Array.length_toList]; exact size_pos (by have : (numS i).cps.size ≤ 20 := wd.1; omega)) (fun d hd A hA => ?_) (.inl (all_of figB ?_))
  · obtain ⟨c, _, rfl⟩ := List.mem_map.mp hd
    exact ⟨c, rfl, hA⟩
  · rw [num_figs h0]
    refine want_of ?_
    simp only [orv3, op3, v3, c3, List.getElem?_cons_zero, r3Eq, truD, lview_bl]
    have fin : sp_want ad [.bl true] M (fun _ M1 => ret3 (cal3 r3Int (cons3 (v3 0) nil3)) { nx := fun _ M' => Q .non M', rt := Q } [some (.str (numS i)), none] M1) no3 := want_of (by
      simp only [ret3, cal3, cons3, nil3, v3, List.getElem?_cons_zero, r3Int, num_int h0 h1]
      exact ⟨Nat.le_trans wd.1 (by decide), q⟩)
    by_cases e : numS i = "0"
    · simp only [e, decide_true]
      rw [e] at fin
      exact fin
    · simp only [e, decide_false, r3Ix, lview_str]
      rcases hd with z | ⟨c, r, z, hc⟩
      · exact absurd (str_ext (by rw [cps, z]; decide +kernel)) e
      · rw [← cps] at z
        rw [z, atI0]
        simp only [r3Ne]
        have nz : ¬ (⟨#[c]⟩ : Str) = "0" := fun h => by
          have h2 := congrArg (fun s : Str => s.cps.toList) h
          have h3 : ("0" : Str).cps.toList = [48] := by decide +kernel
          rw [h3] at h2
          exact hc (by simpa using h2)
        simp only [nz, decide_false, Bool.not_false]
        exact ⟨tup_pos (by have := wd.1; omega), fin⟩
def sp_rows_of (ad : Ad) : Sp3 := fun ds M Q _ => ∃ rows, ds = [.str (textOf rows)] ∧ (∀ r ∈ rows, RowOk r) ∧ rows.length ≤ 2000 ∧ Q (.lst (rowsD rows)) M
abbrev N_rows_of : List Str := ["text", "rows", "row"]
def t_rows_of (ad : Ad) : TS3 := (seq3 (drop3 (call3 (sp_want ad) (cons3 (cal3 r3Isi (cons3 (v3 0) (cons3 (c3 (.ty "str")) nil3))) nil3)))
    (seq3 (set3 1 (bm3 chkS r3Split (v3 0) (cons3 (c3 (.str "\n")) nil3)))
    (seq3 (drop3 (call3 (sp_want ad) (cons3 (op3 r3Eq (op3 r3Ix (v3 1) (un3 (fun i => -i) (c3 (.int 1)))) (c3 (.str ""))) nil3)))
    (ret3 (lc3 (src3 (sl3 (v3 1) no_o3 (some_o3 (un3 (fun i => -i) (c3 (.int 1)))))) (.nm 2) yes3 (bm3 chkS r3Split (v3 2) (cons3 (c3 (.str " ")) nil3)) [2])))))
theorem len_rows_of {ad : Ad} {ds M Q E} (h : sp_rows_of ad ds M Q E) : ds.length = 1 := by obtain ⟨_, rfl, _⟩ := h; rfl
theorem kit_ss : kitB "str" "str" = some true := by decide +kernel
theorem atI_last {α : Type} {xs : List α} {y : α} : atI (xs ++ [y]) (-1) = some y := by
  unfold atI ixN
  rw [if_neg (by decide), List.length_append, List.length_cons, List.length_nil]
  rw [if_pos (by omega)]
  have : ((-1 : Int) + ((xs.length + (0 + 1) : Nat) : Int)).toNat = xs.length := by omega
  simp only [Option.bind_some, this]
  simp
theorem cut_last {xs : List D} {y : D} : cutD (xs ++ [y]) none (some (-1)) = xs := by
  unfold L3.cutD
  have e : HT.sIx (xs ++ [y]).length (xs ++ [y]).length (some (-1)) = xs.length := by
    show (if (-1 : Int) < 0 then ((-1 : Int) + ((xs ++ [y]).length : Int)).toNat else min (-1 : Int).toNat (xs ++ [y]).length) = _
    rw [if_pos (by decide), List.length_append, List.length_cons, List.length_nil]
    omega
  rw [e, HT.sIx_none]
  simp
theorem r_rows_of {ad : Ad} {ds M Q E} (h : sp_rows_of ad ds M Q E) : t_rows_of ad { nx := fun _ M' => Q .non M', rt := Q } (start3 N_rows_of ds) M := by
  obtain ⟨rows, rfl, hr, hl, q⟩ := h
  unfold t_rows_of N_rows_of
  simp only [seq3, set3, drop3, call3, cal3, cons3, nil3, op3, v3, c3, start3, List.map_cons, List.map_nil, List.length_cons, List.length_nil, List.cons_append, List.nil_append, List.getElem?_cons_zero, List.replicate_succ, List.replicate_zero, Nat.reduceAdd, Nat.reduceSub]
  refine ⟨true, kit_ss, want_of ?_⟩
  simp only [bm3, chkS, cons3, nil3, v3, c3, List.getElem?_cons_zero, r3Split]
  refine ⟨trivial, by decide +kernel, by have := text_len hr hl; rw [sizeLine_eq]; omega, .inl ?_⟩
  have e : (Txt.split (textOf rows) "\n").map D.str = (rows.map lineOf).map D.str ++ [D.str ""] := by rw [split_text hr, List.map_append]; rfl
  rw [e]
  simp only [List.set_cons_zero, List.set_cons_succ, un3, v3, c3, List.getElem?_cons_zero, List.getElem?_cons_succ]
  simp only [r3Ix, lview_lst]
  rw [show (-1 : Int) = -1 from rfl, atI_last]
  simp only [r3Eq, decide_true]
  refine want_of ?_
  simp only [ret3]
  refine lc_map (.lst ((rows.map lineOf).map D.str)) (fun d => match d with | .str z => .lst ((Txt.split z " ").map D.str) | d => d) (fun R h => ?_) rfl (by rw [List.length_map, List.length_map]; exact size_pos (by omega)) (fun d hd A hA => ?_) (.inl ?_)
  · simp only [sl3, no_o3, some_o3, un3, v3, c3, List.getElem?_cons_zero, List.getElem?_cons_succ, slD, lview_lst]
    rw [cut_last]
    exact .inl h
  · obtain ⟨z, hz, rfl⟩ := List.mem_map.mp hd
    obtain ⟨r, hr', rfl⟩ := List.mem_map.mp hz
    simp only [asg, wipe3, List.set_cons_zero, List.set_cons_succ, bm3, chkS, cons3, nil3, v3, c3, List.getElem?_cons_zero, List.getElem?_cons_succ, r3Split]
    exact ⟨trivial, by decide +kernel, by have := line_len (hr r hr'); rw [sizeLine_eq]; omega, .inl hA⟩
  · have e2 : ((rows.map lineOf).map D.str).map (fun d => match d with | D.str z => D.lst ((Txt.split z " ").map D.str) | d => d) = rowsD rows := by
      unfold rowsD
      rw [List.map_map, List.map_map]
      refine List.map_congr_left fun r hr' => ?_
      show D.lst ((Txt.split (lineOf r) " ").map D.str) = _
      rw [split_line (hr r hr')]
    rw [e2]
    exact q
/-- a piece that can be read back -/
def PcOk (pc : List D) : Prop := ∃ w xs ns, pc = Pc w xs ns ∧ partsN w = some (xs.length, ns.length) ∧ ∀ y ∈ ns, 0 ≤ y ∧ y < 100000
def sp_piece_of (ad : Ad) : Sp3 := fun ds M Q _ => ∃ pc, ds = [.lst ((pc.map strD).map D.str)] ∧ PcOk pc ∧ Q (.tup pc) M
abbrev N_piece_of : List Str := ["row", "many", "ends", "word"]
def t_piece_of (ad : Ad) : TS3 := (seq3 (drop3 (call3 (sp_want ad) (cons3 (op3 (r3Tab false ad.d_PARTS partsP) (op3 r3Ix (v3 0) (c3 (.int 0))) (c3 (.ref ad.d_PARTS))) nil3)))
    (seq3 (asg3 (.tp [(.nm 1), (.nm 2)]) (op3 (r3TabIx ad.d_PARTS partsP) (c3 (.ref ad.d_PARTS)) (op3 r3Ix (v3 0) (c3 (.int 0)))))
    (seq3 (drop3 (call3 (sp_want ad) (cons3 (op3 r3Eq (cal3 r3Len (cons3 (v3 0) nil3)) (op3 r3Add (op3 r3Add (c3 (.int 1)) (v3 1)) (v3 2))) nil3)))
    (ret3 (cal3 r3Tuple (cons3 (op3 r3Add (sl3 (v3 0) no_o3 (some_o3 (op3 r3Add (c3 (.int 1)) (v3 1)))) (lc3 (src3 (sl3 (v3 0) (some_o3 (op3 r3Add (c3 (.int 1)) (v3 1))) no_o3)) (.nm 3) yes3 (call3 (sp_number_of ad) (cons3 (v3 3) nil3)) [3])) nil3))))))
theorem len_piece_of {ad : Ad} {ds M Q E} (h : sp_piece_of ad ds M Q E) : ds.length = 1 := by obtain ⟨_, rfl, _⟩ := h; rfl
theorem nums_back {ad : Ad} {te0 : TE3} {b : Nat} {δ : St3} {M : Mem} {Q : VK3} (ns : List Int) (he : ∀ R : VK3, R (.lst ((ns.map numS).map D.str)) M → te0 δ M R) (hb : b < δ.length) (hl : ns.length ≤ 1000) (hn : ∀ y ∈ ns, 0 ≤ y ∧ y < 100000) (q : Q (.lst (ns.map D.int)) M) :
    lc3 (src3 te0) (.nm b) yes3 (call3 (sp_number_of ad) (cons3 (v3 b) nil3)) [b] δ M Q := by
  refine lc_map (.lst ((ns.map numS).map D.str)) (fun d => match d with | .str z => (match PySem.intText? z with | some i => .int i | none => .non) | d => d) he rfl (by rw [List.length_map, List.length_map]; exact size_pos (by omega)) (fun d hd A hA => ?_) (.inl ?_)
  · obtain ⟨z, hz, rfl⟩ := List.mem_map.mp hd
    obtain ⟨y, hy, rfl⟩ := List.mem_map.mp hz
    obtain ⟨h0, h1⟩ := hn y hy
    simp only [asg, wipe3, call3, cons3, nil3, v3]
    rw [List.set_set, List.getElem?_set_self (by simpa using hb)]
    simp only [num_int h0 h1] at hA
    exact ⟨y, rfl, h0, h1, hA⟩
  · have e : ((ns.map numS).map D.str).map (fun d => match d with | D.str z => (match PySem.intText? z with | some i => D.int i | none => .non) | d => d) = ns.map D.int := by
      rw [List.map_map, List.map_map]
      refine List.map_congr_left fun y hy => ?_
      obtain ⟨h0, h1⟩ := hn y hy
      simp only [Function.comp, num_int h0 h1]
    rw [e]
    exact q
theorem r_piece_of {ad : Ad} {ds M Q E} (h : sp_piece_of ad ds M Q E) : t_piece_of ad { nx := fun _ M' => Q .non M', rt := Q } (start3 N_piece_of ds) M := by
  obtain ⟨pc, rfl, ⟨w, xs, ns, rfl, hp, hn⟩, q⟩ := h
  obtain ⟨a1, b3⟩ := parts_some hp
  have row : (Pc w xs ns).map strD = w :: (xs ++ ns.map numS) := by
    unfold Pc
    rw [List.map_cons, List.map_append, List.map_map, List.map_map]
    have e1 : xs.map (strD ∘ D.str) = xs := by
      have : (strD ∘ D.str) = id := rfl
      rw [this, List.map_id]
    rw [e1]; rfl
  have hlen : ((w :: (xs ++ ns.map numS)).map D.str).length = 1 + xs.length + ns.length := by
    simp only [List.length_map, List.length_cons, List.length_append]; omega
  unfold t_piece_of N_piece_of
  rw [row]
  simp only [seq3, drop3, call3, cons3, nil3, op3, v3, c3, start3, List.map_cons, List.map_nil, List.length_cons, List.length_nil, List.cons_append, List.nil_append, List.getElem?_cons_zero, List.replicate_succ, List.replicate_zero, Nat.reduceAdd, Nat.reduceSub]
  simp only [r3Ix, lview_lst, atI0, r3Tab, Bool.false_eq_true, if_false, true_and]
  rw [parts_is, hp]
  refine want_of ?_
  simp only [asg3, op3, v3, c3, List.getElem?_cons_zero, r3Ix, lview_lst, atI0, r3TabIx, true_and]
  rw [parts_is, hp]
  simp only [Option.map_some, asg, asgs, List.set_cons_zero, List.set_cons_succ, seq3, drop3, call3, cal3, cons3, nil3, op3, v3, c3, List.getElem?_cons_zero, List.getElem?_cons_succ, r3Len, lview_lst, r3Add, lview_int, r3Eq]
  rw [← List.map_cons, hlen]
  have e1 : decide (((1 + xs.length + ns.length : Nat) : Int) = 1 + ((xs.length : Nat) : Int) + ((ns.length : Nat) : Int)) = true := decide_eq_true (by omega)
  rw [e1]
  refine want_of ?_
  simp only [ret3, cal3, cons3, nil3, op3, sl3, no_o3, some_o3, v3, c3, List.getElem?_cons_zero, List.getElem?_cons_succ, r3Add, lview_int, slD, lview_lst]
  have hmany : (1 : Int) + ((xs.length : Nat) : Int) = ((1 + xs.length : Nat) : Int) := by omega
  rw [hmany, cutD_to]
  have t1 : ((w :: (xs ++ ns.map numS)).map D.str).take (1 + xs.length) = D.str w :: xs.map D.str := by
    rw [Nat.add_comm, List.map_cons, List.take_succ_cons, List.map_append, List.take_left' (by rw [List.length_map])]
  have t2 : ((w :: (xs ++ ns.map numS)).map D.str).drop (1 + xs.length) = (ns.map numS).map D.str := by
    rw [Nat.add_comm, List.map_cons, List.drop_succ_cons, List.map_append, List.drop_left' (by rw [List.length_map])]
  rw [t1]
  refine .inl ?_
  refine nums_back ns (fun R h => ?_) (by simp) (by omega) hn ?_
  · simp only [sl3, no_o3, some_o3, op3, v3, c3, List.getElem?_cons_zero, List.getElem?_cons_succ, r3Add, lview_int, slD, lview_lst]
    rw [hmany, cutD_from, t2]
    exact .inl h
  · simp only [lview_lst]
    refine ⟨by simp only [List.length_cons, List.length_map]; exact tup_pos (by omega), .inl ?_⟩
    simp only [r3Tuple, lview_lst]
    exact q
def sp_relay_of (ad : Ad) : Sp3 := fun ds M Q _ => ∃ p : Str × List Int, ds = [.lst ((relRow p).map D.str)] ∧ timesOk p.2 = true ∧ Q (.tup [.str p.1, tD p.2]) M
abbrev N_relay_of : List Str := ["row", "word"]
def t_relay_of (ad : Ad) : TS3 := (seq3 (drop3 (call3 (sp_want ad) (cons3 (op3 r3Eq (cal3 r3Len (cons3 (v3 0) nil3)) (c3 (.int 6))) nil3)))
    (ret3 (tup3 (cons3 (op3 r3Ix (v3 0) (c3 (.int 1))) (cons3 (cal3 r3Tuple (cons3 (lc3 (src3 (sl3 (v3 0) (some_o3 (c3 (.int 2))) no_o3)) (.nm 1) yes3 (call3 (sp_number_of ad) (cons3 (v3 1) nil3)) [1]) nil3)) nil3)))))
theorem len_relay_of {ad : Ad} {ds M Q E} (h : sp_relay_of ad ds M Q E) : ds.length = 1 := by obtain ⟨_, rfl, _⟩ := h; rfl
theorem r_relay_of {ad : Ad} {ds M Q E} (h : sp_relay_of ad ds M Q E) : t_relay_of ad { nx := fun _ M' => Q .non M', rt := Q } (start3 N_relay_of ds) M := by
  obtain ⟨⟨r, t⟩, rfl, ht, q⟩ := h
  have hl : t.length = 4 := timesOk_len ht
  unfold t_relay_of N_relay_of
  simp only [seq3, drop3, call3, cal3, cons3, nil3, op3, v3, c3, start3, relRow, List.map_cons, List.map_nil, List.length_cons, List.length_nil, List.cons_append, List.nil_append, List.getElem?_cons_zero, List.replicate_succ, List.replicate_zero, Nat.reduceAdd, Nat.reduceSub, r3Len, lview_lst, r3Eq]
  have e6 : decide ((((t.map numS).map D.str).length + 1 + 1 : Nat) = (6 : Int)) = true := decide_eq_true (by rw [List.length_map, List.length_map]; show ((t.length + 1 + 1 : Nat) : Int) = 6; omega)
  refine want_of' e6 ?_
  simp only [ret3, tup3, cons3, nil3, op3, cal3, v3, c3, List.getElem?_cons_zero, r3Ix, lview_lst, atI1]
  refine nums_back t (fun R h => ?_) (by simp) (by omega) (fun y hy => by have := times_in ht y hy; omega) ?_
  · simp only [sl3, no_o3, some_o3, v3, c3, List.getElem?_cons_zero, slD, lview_lst]
    rw [cutD_fromI (by decide)]
    exact .inl h
  · simp only [r3Tuple, lview_lst]
    exact ⟨tup_pos (by simp), q⟩
/-! ### read_net -/
theorem ix_row {R : List (List Str)} {j : Int} {row : List Str} (h0 : 0 ≤ j) (h : R[j.toNat]? = some row) : atI (rowsD R) j = some (.lst (row.map D.str)) := by
  rw [atI_nn h0]
  unfold rowsD
  rw [List.getElem?_map, h]; rfl
theorem pc_ok {ks rs ls : List Str} {n : Int} {pc : List D} (h : pieceOk pc ks rs ls n = true) (s : Sh pc) : PcOk pc := by
  obtain ⟨w, xs, ns, rfl, g1, g2, g3, g4, g5⟩ := s
  refine ⟨w, xs, ns, rfl, ?_, fun y hy => ⟨(g5 y hy).1, by have := (g5 y hy).2; omega⟩⟩
  unfold Pc pieceOk at h
  simp only at h
  cases hp : partsN w with
  | none => rw [hp] at h; cases h
  | some ab =>
    obtain ⟨a, b⟩ := ab
    rw [hp] at h
    simp only [List.length_append, List.length_map] at h
    have ha := parts_le hp
    by_cases hl : xs.length + ns.length = a + b
    · rw [if_pos hl, Bool.and_eq_true] at h
      have key : xs.length = a := by
        match xs, g3 with
        | [], _ =>
          match a, ha with
          | 0, _ => rfl
          | 1, _ =>
            exfalso
            have h1 := h.1
            rw [if_pos rfl] at h1
            cases ns with
            | nil => simp at h1
            | cons y r =>
              simp only [List.map_nil, List.nil_append, List.map_cons] at h1
              unfold inD at h1
              rw [List.any_eq_true] at h1
              obtain ⟨z, hz, he⟩ := h1
              obtain ⟨u, _, rfl⟩ := List.mem_map.mp hz
              cases he
        | [x], _ =>
          match a, ha with
          | 0, _ =>
            exfalso
            have h2 := h.2
            unfold nodesOk at h2
            rw [Bool.and_eq_true] at h2
            simp [inN] at h2
          | 1, _ => rfl
        | _ :: _ :: _, g => simp at g
      have : ns.length = b := by omega
      rw [key, this]
    · rw [if_neg hl] at h; cases h
theorem make_net {ad : Ad} {M : Mem} {Q : VK3} {k r l p t : D} {ks rs ls : List Str} {n : Int} {ps : List (List D)} {ts : List (List Int)} (h1 : lview M k = some (ks.map D.str)) (h2 : lview M r = some (rs.map D.str)) (h3 : lview M l = some (ls.map D.str)) (h4 : lview M p = some (ps.map D.tup)) (h5 : lview M t = some (ts.map tD)) (ok : NetOk ks rs ls n ps ts) (q : Q (netO ad.C_Net ks rs ls n ps ts) M) :
    ∀ a, M a = none → sp_Net___init__ ad (.ref a :: [k, r, l, .int n, p, t]) (put M a (.ins ad.C_Net [])) (fun v M2 => v = .non ∧ (Q (.ref a) M2 ∨ ∃ ns es, M2 a = some (.ins ad.C_Net (ns.zip es)) ∧ ns.length = es.length ∧ Q (.obj ad.C_Net ns es) (del M2 a))) no3 := by
  intro a ha
  have wk := ok.wsk (fun w hw => List.mem_append_left _ (List.mem_append_left _ hw)) (by have := ok.kl; omega) h1
  have wr := ok.wsk (fun w hw => List.mem_append_left _ (List.mem_append_right _ hw)) (by have := ok.rl; omega) h2
  have wl := ok.wsk (fun w hw => List.mem_append_right _ hw) (by have := ok.ll; omega) h3
  have hps : Ps M p ps := ⟨h4, by have := ok.pl; omega, fun pc hp => (ok.sh pc hp).pieceD⟩
  have hts : Ts M t ts := ⟨h5, by have := ok.tl; have := ok.rl; omega, fun x hx => by have := timesOk_len (ok.tk x hx); omega⟩
  refine ⟨a, k, r, l, n, p, t, ks, rs, ls, ps, ts, rfl, put_same, wk.new ha, wr.new ha, wl.new ha, hps.new ha, hts.new ha, ok.none, rfl, .inr ⟨netNs, netEs ks rs ls n ps ts, ?_, rfl, ?_⟩⟩
  · rw [put_put, put_same]
  · rw [put_put, del_put ha]; exact q
def sp_read_net (ad : Ad) : Sp3 := fun ds M Q _ => ∃ ks rs ls n ps ts, ds = [.str (textOf (rowsOf ks rs ls n ps ts))] ∧ NetOk ks rs ls n ps ts ∧ Q (netO ad.C_Net ks rs ls n ps ts) M
abbrev N_read_net : List Str := ["text", "rows", "many", "relays", "pieces", "nodes", "words", "row", "relay", "times"]
def t_read_net (ad : Ad) : TS3 := (seq3 (set3 1 (call3 (sp_rows_of ad) (cons3 (v3 0) nil3)))
    (seq3 (set3 2 (c3 (.int 0)))
    (seq3 (while3 (and3 (tst3 (op3 r3Lt (op3 r3Add (c3 (.int 1)) (v3 2)) (cal3 r3Len (cons3 (v3 1) nil3)))) (tst3 (op3 r3Eq (op3 r3Ix (op3 r3Ix (v3 1) (op3 r3Add (c3 (.int 1)) (v3 2))) (c3 (.int 0))) (c3 (.str "relay"))))) (set3 2 (op3 r3Add (v3 2) (c3 (.int 1)))))
    (seq3 (drop3 (call3 (sp_want ad) (cons3 (andv3 (op3 r3Ge (cal3 r3Len (cons3 (v3 1) nil3)) (op3 r3Add (c3 (.int 3)) (v3 2))) (andv3 (op3 r3Eq (op3 r3Ix (op3 r3Ix (v3 1) (c3 (.int 0))) (c3 (.int 0))) (c3 (.str "keys"))) (op3 r3Eq (op3 r3Ix (op3 r3Ix (v3 1) (op3 r3Add (c3 (.int 1)) (v3 2))) (c3 (.int 0))) (c3 (.str "lamps"))))) nil3)))
    (seq3 (drop3 (call3 (sp_want ad) (cons3 (andv3 (op3 r3Eq (op3 r3Ix (op3 r3Ix (v3 1) (op3 r3Add (c3 (.int 2)) (v3 2))) (c3 (.int 0))) (c3 (.str "nodes"))) (op3 r3Eq (cal3 r3Len (cons3 (op3 r3Ix (v3 1) (op3 r3Add (c3 (.int 2)) (v3 2))) nil3)) (c3 (.int 2)))) nil3)))
    (seq3 (set3 3 (lc3 (src3 (sl3 (v3 1) (some_o3 (c3 (.int 1))) (some_o3 (op3 r3Add (c3 (.int 1)) (v3 2))))) (.nm 7) yes3 (call3 (sp_relay_of ad) (cons3 (v3 7) nil3)) [7]))
    (seq3 (set3 4 (lc3 (src3 (sl3 (v3 1) (some_o3 (op3 r3Add (c3 (.int 3)) (v3 2))) no_o3)) (.nm 7) yes3 (call3 (sp_piece_of ad) (cons3 (v3 7) nil3)) [7]))
    (seq3 (set3 5 (call3 (sp_number_of ad) (cons3 (op3 r3Ix (op3 r3Ix (v3 1) (op3 r3Add (c3 (.int 2)) (v3 2))) (c3 (.int 1))) nil3)))
    (seq3 (set3 6 (lc3 (src3 (v3 3)) (.tp [(.nm 8), (.nm 9)]) yes3 (v3 8) [8, 9]))
    (ret3 (make3 ad.C_Net (sp_Net___init__ ad) (cons3 (sl3 (op3 r3Ix (v3 1) (c3 (.int 0))) (some_o3 (c3 (.int 1))) no_o3) (cons3 (v3 6) (cons3 (sl3 (op3 r3Ix (v3 1) (op3 r3Add (c3 (.int 1)) (v3 2))) (some_o3 (c3 (.int 1))) no_o3) (cons3 (v3 5) (cons3 (v3 4) (cons3 (lc3 (src3 (v3 3)) (.tp [(.nm 8), (.nm 9)]) yes3 (v3 9) [8, 9]) nil3)))))))))))))))))
theorem len_read_net {ad : Ad} {ds M Q E} (h : sp_read_net ad ds M Q E) : ds.length = 1 := by obtain ⟨_, _, _, _, _, _, rfl, _⟩ := h; rfl
theorem r_read_net {ad : Ad} {ds M Q E} (h : sp_read_net ad ds M Q E) : t_read_net ad { nx := fun _ M' => Q .non M', rt := Q } (start3 N_read_net ds) M := by
  obtain ⟨ks, rs, ls, n, ps, ts, rfl, ok, q⟩ := h
  have b1 := ok.kl
  have b2 := ok.rl
  have b3 := ok.ll
  have b4 := ok.pl
  have b5 := ok.tl
  have hlen := rows_len ok
  have hok := rows_ok ok
  have hzl : (rs.zip ts).length = rs.length := by rw [List.length_zip]; omega
  -- the rows by their places
  have f0 : (rowsOf ks rs ls n ps ts)[0]? = some (("keys" : Str) :: ks) := rfl
  have fR : ∀ (i : Nat) (h : i < rs.length), (rowsOf ks rs ls n ps ts)[1 + i]? = some (relRow (rs[i], ts[i]'(by omega))) := fun i h => by
    unfold rowsOf
    rw [Nat.add_comm, List.getElem?_cons_succ, List.getElem?_append_left (by rw [List.length_map, hzl]; exact h), List.getElem?_map, List.getElem?_eq_getElem (by rw [hzl]; exact h)]
    simp
  have fL : (rowsOf ks rs ls n ps ts)[1 + rs.length]? = some (("lamps" : Str) :: ls) := by
    unfold rowsOf
    rw [Nat.add_comm, List.getElem?_cons_succ, List.getElem?_append_right (by rw [List.length_map, hzl]; exact Nat.le_refl _), List.length_map, hzl, Nat.sub_self]; rfl
  have fN : (rowsOf ks rs ls n ps ts)[2 + rs.length]? = some [("nodes" : Str), numS n] := by
    unfold rowsOf
    rw [show 2 + rs.length = (rs.length + 1) + 1 by omega, List.getElem?_cons_succ, List.getElem?_append_right (by rw [List.length_map, hzl]; omega), List.length_map, hzl, show rs.length + 1 - rs.length = 1 by omega]; rfl
  have dR : ((rowsOf ks rs ls n ps ts).take (1 + rs.length)).drop 1 = (rs.zip ts).map relRow := by
    unfold rowsOf
    rw [Nat.add_comm, List.take_succ_cons, List.drop_succ_cons, List.drop_zero, List.take_left' (by rw [List.length_map, hzl])]
  have dP : (rowsOf ks rs ls n ps ts).drop (3 + rs.length) = ps.map fun p => p.map strD := by
    unfold rowsOf
    rw [show 3 + rs.length = (rs.length + 2) + 1 by omega, List.drop_succ_cons, List.drop_append, List.length_map, hzl, List.drop_of_length_le (by rw [List.length_map, hzl]; omega), show rs.length + 2 - rs.length = 2 by omega]; rfl
  generalize hR : rowsOf ks rs ls n ps ts = R at hlen hok f0 fR fL fN dR dP
  have hD : (rowsD R).length = rs.length + 3 + ps.length := by unfold rowsD; rw [List.length_map]; exact hlen
  unfold t_read_net N_read_net
  try rw [hR]
  simp only [seq3, set3, call3, cons3, nil3, c3, v3, start3, List.map_cons, List.map_nil, List.length_cons, List.length_nil, List.cons_append, List.nil_append, List.getElem?_cons_zero, List.set_cons_zero, List.set_cons_succ, List.replicate_succ, List.replicate_zero, Nat.reduceAdd, Nat.reduceSub]
  refine ⟨R, rfl, hok, by omega, ?_⟩
  refine ⟨fun δ M' => M' = M ∧ ∃ i : Nat, i ≤ rs.length ∧ δ = [some (.str (textOf R)), some (.lst (rowsD R)), some (.int (i : Nat)), none, none, none, none, none, none, none], fun δ _ => match δ with | [_, _, some (.int i), _, _, _, _, _, _, _] => rs.length - i.toNat | _ => 0, ⟨rfl, 0, Nat.zero_le _, rfl⟩, fun δ M' hI => ?_⟩
  obtain ⟨rfl, i, hi, rfl⟩ := hI
  simp only [and3, tst3, op3, cal3, cons3, nil3, v3, c3, List.getElem?_cons_zero, List.getElem?_cons_succ, r3Add, lview_int, r3Len, lview_lst, r3Lt, r3B]
  rw [hD]
  have c1 : decide ((1 : Int) + (i : Nat) < ((rs.length + 3 + ps.length : Nat) : Int)) = true := decide_eq_true (by omega)
  simp only [c1, if_true, r3Ix, lview_lst]
  by_cases hlt : i < rs.length
  · rw [ix_row (j := 1 + (i : Nat)) (by omega) (by rw [show ((1 : Int) + (i : Nat)).toNat = 1 + i by omega]; exact fR i hlt)]
    simp only [relRow, List.map_cons, lview_lst, atI0, r3Eq, decide_true, if_true, set3, op3, v3, c3, List.getElem?_cons_zero, List.getElem?_cons_succ, r3Add, lview_int, List.set_cons_zero, List.set_cons_succ]
    refine ⟨⟨trivial, i + 1, by omega, by rw [show ((i : Nat) : Int) + 1 = ((i + 1 : Nat) : Int) by omega]⟩, ?_⟩
    omega
  · have hi' : i = rs.length := by omega
    subst hi'
    rw [ix_row (j := 1 + (rs.length : Nat)) (by omega) (by rw [show ((1 : Int) + (rs.length : Nat)).toNat = 1 + rs.length by omega]; exact fL)]
    have nk : ¬ ("lamps" : Str) = "relay" := by decide +kernel
    simp only [List.map_cons, lview_lst, atI0, r3Eq, nk, decide_false, Bool.false_eq_true, if_false]
    -- behind the loop
    have gL := ix_row (R := R) (j := 1 + (rs.length : Nat)) (by omega) (by rw [show ((1 : Int) + (rs.length : Nat)).toNat = 1 + rs.length by omega]; exact fL)
    have gN := ix_row (R := R) (j := 2 + (rs.length : Nat)) (by omega) (by rw [show ((2 : Int) + (rs.length : Nat)).toNat = 2 + rs.length by omega]; exact fN)
    have g0 := ix_row (R := R) (j := 0) (by omega) f0
    simp only [seq3, drop3, call3, cal3, andv3, op3, cons3, nil3, v3, c3, List.getElem?_cons_zero, List.getElem?_cons_succ, r3Len, lview_lst, r3Add, lview_int, r3Ge, r3B, hD]
    have c2 : decide ((3 : Int) + (rs.length : Nat) ≤ ((rs.length + 3 + ps.length : Nat) : Int)) = true := decide_eq_true (by omega)
    simp only [c2, truD, lview_bl, r3Ix, lview_lst, g0, gL, List.map_cons, atI0, r3Eq, decide_true]
    refine want_of ?_
    simp only [gN, List.map_cons, List.map_nil, lview_lst, atI0, r3Eq, decide_true, truD, lview_bl, List.length_cons, List.length_nil]
    refine want_of' (decide_eq_true (by rfl)) ?_
    simp only [set3]
    -- the relays
    refine lcS (rowsD ((rs.zip ts).map relRow)) (fun R' h => ?_) (fun i acc M'' => M'' = M' ∧ acc = ((rs.zip ts).take i).map fun p => .tup [.str p.1, tD p.2]) (by unfold rowsD; rw [List.length_map, List.length_map, hzl]; exact size_pos (by omega)) ⟨rfl, rfl⟩ (fun i hi acc M'' hlen' hI N hN => ?_) fun acc M'' hlen' hI => .inl ?_
    · simp only [sl3, no_o3, some_o3, op3, v3, c3, List.getElem?_cons_zero, List.getElem?_cons_succ, r3Add, lview_int, slD, lview_lst]
      rw [show ((1 : Int) + (rs.length : Nat)) = ((1 + rs.length : Nat) : Int) by omega, show (1 : Int) = ((1 : Nat) : Int) from rfl, cutD_both]
      unfold rowsD
      rw [← List.map_take, ← List.map_drop, dR]
      exact .inl h
    · obtain ⟨rfl, rfl⟩ := hI
      have hi2 : i < (rs.zip ts).length := by unfold rowsD at hi; rw [List.length_map, List.length_map] at hi; exact hi
      have eg : (rowsD ((rs.zip ts).map relRow))[i] = .lst ((relRow (rs.zip ts)[i]).map D.str) := by simp [rowsD]
      rw [eg]
      have ht := ok.tk _ (List.of_mem_zip (List.getElem_mem hi2)).2
      simp only [asg, wipe3, List.set_cons_zero, List.set_cons_succ, call3, cons3, nil3, v3, List.getElem?_cons_zero, List.getElem?_cons_succ]
      refine ⟨(rs.zip ts)[i], rfl, ht, hN _ _ ⟨rfl, ?_⟩⟩
      rw [← List.take_append_getElem hi2, List.map_append]; rfl
    · obtain ⟨rfl, rfl⟩ := hI
      have e1 : (rowsD ((rs.zip ts).map relRow)).length = (rs.zip ts).length := by unfold rowsD; rw [List.length_map, List.length_map]
      rw [e1, List.take_length]
      simp only [seq3, set3, List.set_cons_zero, List.set_cons_succ]
      -- the pieces
      refine lcS (rowsD (ps.map fun p => p.map strD)) (fun R' h => ?_) (fun i acc M2 => M2 = M'' ∧ acc = (ps.take i).map D.tup) (by unfold rowsD; rw [List.length_map, List.length_map]; exact size_pos (by omega)) ⟨rfl, rfl⟩ (fun i hi acc M2 hlen' hI N hN => ?_) fun acc M2 hlen' hI => .inl ?_
      · simp only [sl3, no_o3, some_o3, op3, v3, c3, List.getElem?_cons_zero, List.getElem?_cons_succ, r3Add, lview_int, slD, lview_lst]
        rw [show ((3 : Int) + (rs.length : Nat)) = ((3 + rs.length : Nat) : Int) by omega, cutD_from]
        unfold rowsD
        rw [← List.map_drop, dP]
        exact .inl h
      · obtain ⟨rfl, rfl⟩ := hI
        have hi2 : i < ps.length := by unfold rowsD at hi; rw [List.length_map, List.length_map] at hi; exact hi
        have eg : (rowsD (ps.map fun p => p.map strD))[i] = .lst ((ps[i].map strD).map D.str) := by simp [rowsD]
        rw [eg]
        simp only [asg, wipe3, List.set_cons_zero, List.set_cons_succ, call3, cons3, nil3, v3, List.getElem?_cons_zero, List.getElem?_cons_succ]
        refine ⟨ps[i], rfl, pc_ok (ok.pk _ (List.getElem_mem hi2)) (ok.sh _ (List.getElem_mem hi2)), hN _ _ ⟨rfl, ?_⟩⟩
        rw [← List.take_append_getElem hi2, List.map_append]; rfl
      · obtain ⟨rfl, rfl⟩ := hI
        have e2 : (rowsD (ps.map fun p => p.map strD)).length = ps.length := by unfold rowsD; rw [List.length_map, List.length_map]
        rw [e2, List.take_length]
        simp only [call3, cons3, nil3, op3, v3, c3, List.getElem?_cons_zero, List.getElem?_cons_succ, r3Ix, r3Add, lview_int, lview_lst, gN, List.set_cons_zero, List.set_cons_succ, List.map_cons, List.map_nil, atI1]
        refine ⟨n, rfl, by have := ok.n2; omega, by have := ok.nm; omega, ?_⟩
        -- the relays' words
        have pairs : ∀ (g : Str × List Int → D) (te : TE3) (Q' : VK3) (δ0 : St3) (vs : List Nat), itD M2 (.lst ((rs.zip ts).map fun p => .tup [.str p.1, tD p.2])) = some ((rs.zip ts).map fun p => .tup [.str p.1, tD p.2]) := fun _ _ _ _ _ => rfl
        clear pairs
        refine lc_map (.lst ((rs.zip ts).map fun p => .tup [.str p.1, tD p.2])) (fun d => match d with | .tup [a, _] => a | d => d) (fun R h => h) rfl (by rw [List.length_map, hzl]; exact size_pos (by omega)) (fun d hd A hA => ?_) (.inl ?_)
        · obtain ⟨p, hp, rfl⟩ := List.mem_map.mp hd
          simp only [asg, asgs, wipe3, List.set_cons_zero, List.set_cons_succ, v3, List.getElem?_cons_zero, List.getElem?_cons_succ]
          exact hA
        · have e3 : ((rs.zip ts).map fun p => D.tup [.str p.1, tD p.2]).map (fun d => match d with | .tup [a, _] => a | d => d) = rs.map D.str := by
            rw [List.map_map]
            have : rs.map D.str = ((rs.zip ts).map Prod.fst).map D.str := by rw [List.map_fst_zip (by omega)]
            rw [this, List.map_map]
            exact List.map_congr_left fun p _ => rfl
          rw [e3]
          simp only [ret3, make3, cons3, nil3, op3, v3, c3, List.getElem?_cons_zero, List.getElem?_cons_succ, r3Ix, lview_lst, g0, List.map_cons, List.set_cons_zero, List.set_cons_succ]
          simp only [sl3, no_o3, some_o3, op3, v3, c3, List.getElem?_cons_zero, List.getElem?_cons_succ, r3Ix, r3Add, lview_int, slD, lview_lst, g0, gL, List.map_cons]
          rw [show (1 : Int) = ((1 : Nat) : Int) from rfl, cutD_from, cutD_from, List.drop_succ_cons, List.drop_zero, List.drop_succ_cons, List.drop_zero]
          refine .inl (.inl ?_)
          refine lc_map (.lst ((rs.zip ts).map fun p => .tup [.str p.1, tD p.2])) (fun d => match d with | .tup [_, a] => a | d => d) (fun R h => h) rfl (by rw [List.length_map, hzl]; exact size_pos (by omega)) (fun d hd A hA => ?_) (.inl ?_)
          · obtain ⟨p, hp, rfl⟩ := List.mem_map.mp hd
            simp only [asg, asgs, wipe3, List.set_cons_zero, List.set_cons_succ, v3, List.getElem?_cons_zero, List.getElem?_cons_succ]
            exact hA
          · have e4 : ((rs.zip ts).map fun p => D.tup [.str p.1, tD p.2]).map (fun d => match d with | .tup [_, a] => a | d => d) = ts.map tD := by
              rw [List.map_map]
              have : ts.map tD = ((rs.zip ts).map Prod.snd).map tD := by rw [List.map_snd_zip (by omega)]
              rw [this, List.map_map]
              exact List.map_congr_left fun p _ => rfl
            rw [e4]
            exact make_net rfl rfl rfl rfl rfl ok q
/-! ### the law's own text -/
def sp__law_text (ad : Ad) : Sp3 := fun ds M Q _ => ∃ d ks rs ls n ps ts, ds = [d] ∧ Th M d ks rs ls n ps ts ∧ NetOk ks rs ls n ps ts ∧ ∀ M', Kept M M' → Q (.str (textOf (rowsOf ks rs ls n ps ts))) M'
abbrev N__law_text : List Str := ["_law_things", "_law_keys", "_law_relays", "_law_lamps", "_law_nodes", "_law_pieces", "_law_times_here", "_law_rows", "_law_k", "_law_piece_here", "_law_row", "_law_part", "_law_time"]
def t__law_text (ad : Ad) : TS3 := (seq3 (asgL3 [(.nm 1), (.nm 2), (.nm 3), (.nm 4), (.nm 5), (.nm 6)] (v3 0))
    (seq3 (set3 7 (lst3 (cons3 (bm3 chkS r3Join (c3 (.str " ")) (cons3 (op3 r3Add (lst3 (cons3 (c3 (.str "keys")) nil3)) (v3 1)) nil3)) nil3)))
    (seq3 (for3 (rng1 (cons3 (cal3 r3Len (cons3 (v3 2) nil3)) nil3)) (.nm 8) (drop3 (bm3 chkL r3Append (v3 7) (cons3 (bm3 chkS r3Join (c3 (.str " ")) (cons3 (op3 r3Add (lst3 (cons3 (c3 (.str "relay")) (cons3 (op3 r3Ix (v3 2) (v3 8)) nil3))) (lc3 (src3 (op3 r3Ix (v3 6) (v3 8))) (.nm 12) yes3 (cal3 r3Str (cons3 (v3 12) nil3)) [12])) nil3)) nil3))))
    (seq3 (drop3 (bm3 chkL r3Append (v3 7) (cons3 (bm3 chkS r3Join (c3 (.str " ")) (cons3 (op3 r3Add (lst3 (cons3 (c3 (.str "lamps")) nil3)) (v3 3)) nil3)) nil3)))
    (seq3 (drop3 (bm3 chkL r3Append (v3 7) (cons3 (op3 r3Add (c3 (.str "nodes ")) (cal3 r3Str (cons3 (v3 4) nil3))) nil3)))
    (seq3 (set3 7 (op3 r3Add (v3 7) (lc3 (src3 (v3 5)) (.nm 9) yes3 (bm3 chkS r3Join (c3 (.str " ")) (cons3 (lc3 (src3 (v3 9)) (.nm 11) yes3 (cal3 r3Str (cons3 (v3 11) nil3)) [11]) nil3)) [9])))
    (ret3 (bm3 chkS r3Join (c3 (.str "")) (cons3 (lc3 (src3 (v3 7)) (.nm 10) yes3 (op3 r3Add (v3 10) (c3 (.str "\n"))) [10]) nil3)))))))))
theorem len__law_text {ad : Ad} {ds M Q E} (h : sp__law_text ad ds M Q E) : ds.length = 1 := by obtain ⟨_, _, _, _, _, _, _, rfl, _⟩ := h; rfl
theorem nodes_line (n : Int) : ("nodes " : Str) ++ numS n = lineOf [("nodes" : Str), numS n] := by
  refine str_ext ?_
  unfold lineOf
  rw [TL.join_eq]
  show _ = (("nodes" : Str) ++ " " ++ numS n).cps.toList
  rw [Str.cps_append, Str.cps_append, Str.cps_append, Array.toList_append, Array.toList_append, Array.toList_append]
  have e : ("nodes " : Str).cps.toList = ("nodes" : Str).cps.toList ++ (" " : Str).cps.toList := by decide +kernel
  rw [e]
def linesD (rows : List (List Str)) : List D := rows.map fun r => .str (lineOf r)
theorem linesD_app (a b : List (List Str)) : linesD (a ++ b) = linesD a ++ linesD b := by unfold linesD; rw [List.map_append]
theorem join_line {M : Mem} {Q : VK3} {d : D} {row : List Str} (e : lview M d = some (row.map D.str)) (h : RowOk row) (q : Q (.str (lineOf row)) M) : r3Join (.str " ") [d] M Q := by
  simp only [r3Join, e, joinQ, strsOf_map]
  exact ⟨line_fit h, q⟩
theorem r__law_text {ad : Ad} {ds M Q E} (h : sp__law_text ad ds M Q E) : t__law_text ad { nx := fun _ M' => Q .non M', rt := Q } (start3 N__law_text ds) M := by
  obtain ⟨d, ks, rs, ls, n, ps, ts, rfl, ⟨k, r, l, pd, t, h0, h1, h2, h3, h4, h5⟩, ok, q⟩ := h
  have hz : ∀ k : Nat, k ≤ 1000 → k ≤ sizeLine := fun k h => tup_pos (by omega)
  have b1 := ok.kl
  have b2 := ok.rl
  have b3 := ok.ll
  have b4 := ok.pl
  have b5 := ok.tl
  have hok := rows_ok ok
  have hzl : (rs.zip ts).length = rs.length := by rw [List.length_zip]; omega
  have okK : RowOk (("keys" : Str) :: ks) := hok _ (by unfold rowsOf; exact List.mem_cons_self)
  have okR : ∀ p ∈ rs.zip ts, RowOk (relRow p) := fun p hp => hok _ (by unfold rowsOf; exact List.mem_cons_of_mem _ (List.mem_append_left _ (List.mem_map.mpr ⟨p, hp, rfl⟩)))
  have okL : RowOk (("lamps" : Str) :: ls) := hok _ (by unfold rowsOf; exact List.mem_cons_of_mem _ (List.mem_append_right _ List.mem_cons_self))
  have okP : ∀ p ∈ ps, RowOk (p.map strD) := fun p hp => hok _ (by unfold rowsOf; exact List.mem_cons_of_mem _ (List.mem_append_right _ (List.mem_cons_of_mem _ (List.mem_cons_of_mem _ (List.mem_map.mpr ⟨p, hp, rfl⟩)))))
  unfold t__law_text N__law_text
  simp only [seq3, asgL3, start3, v3, List.map_cons, List.map_nil, List.length_cons, List.length_nil, List.cons_append, List.nil_append, List.getElem?_cons_zero, h0, asgs, asg, List.set_cons_zero, List.set_cons_succ, List.replicate_succ, List.replicate_zero, Nat.reduceAdd, Nat.reduceSub]
  simp only [set3, lst3, bm3, chkS, cons3, nil3, op3, c3, v3, List.getElem?_cons_zero, List.getElem?_cons_succ]
  refine ⟨trivial, hz 1 (by decide), .inl ?_⟩
  simp only [r3Add, lview_lst, h1]
  refine ⟨by rw [List.length_map]; exact hz _ (by simp; omega), .inl ?_⟩
  refine join_line (row := ("keys" : Str) :: ks) rfl okK ⟨hz 1 (by decide), .inr fun p hp => ?_⟩
  have m0 : put M p (.lst [D.str (lineOf (("keys" : Str) :: ks))]) p = some (.lst (linesD [("keys" : Str) :: ks])) := put_same
  have kp0 : Kept M (put M p (.lst [D.str (lineOf (("keys" : Str) :: ks))])) := kept_put hp
  generalize put M p (.lst [D.str (lineOf (("keys" : Str) :: ks))]) = M0 at m0 kp0
  have app : ∀ (M1 : Mem) (rows : List (List Str)) (r : List Str) (R : Mem → Prop), rows.length ≤ 2000 → M1 p = some (.lst (linesD rows)) → R (put M1 p (.lst (linesD (rows ++ [r])))) → r3Append (.ref p) [.str (lineOf r)] M1 fun _ M2 => R M2 := fun M1 rows r R hl hm hR => by
    simp only [r3Append, onL, hm]
    rw [linesD_app] at hR
    exact ⟨by unfold linesD; rw [List.length_map]; exact size_pos (by omega), hR⟩
  simp only [List.set_cons_zero, List.set_cons_succ]
  refine forG (rs.length : Nat) (fun R h => ?_) (fun i δ M' => ∃ x8, δ = [some d, some k, some r, some l, some (.int n), some pd, some t, some (.ref p), x8, none, none, none, none] ∧ M' p = some (.lst (linesD ((("keys" : Str) :: ks) :: ((rs.zip ts).take i).map relRow))) ∧ Kept M M') (by omega) (by omega) ⟨none, rfl, m0, kp0⟩ (fun i hi δ M' hI N hN => ?_) fun δ M1 hI => ?_
  · simp only [cal3, cons3, nil3, v3, List.getElem?_cons_zero, List.getElem?_cons_succ, r3Len, kp0.lview h2, List.length_map]
    exact h
  · obtain ⟨x8, rfl, hm, kp⟩ := hI
    have hi1 : i < rs.length := by omega
    have hi2 : i < ts.length := by omega
    have ht := ok.tk _ (List.getElem_mem hi2)
    simp only [asg, List.set_cons_zero, List.set_cons_succ, drop3, bm3, chkL, chkS, v3, cons3, nil3, op3, lst3, c3, List.getElem?_cons_zero, List.getElem?_cons_succ, lview_ref hm, Option.isSome_some]
    refine ⟨trivial, trivial, ?_⟩
    simp only [r3Ix, kp.lview h2, kp.lview h5, atI_nn (show (0 : Int) ≤ (i : Nat) by omega), Int.toNat_natCast, List.getElem?_map, List.getElem?_eq_getElem hi1, List.getElem?_eq_getElem hi2, Option.map_some]
    refine ⟨hz 2 (by decide), .inl ?_⟩
    refine lc_strs (tD ts[i]) (fun R h => ?_) (show itD M' (tD ts[i]) = some (ts[i].map D.int) from rfl) (by simp) (by rw [List.length_map, timesOk_len ht]; omega) (fun d hd => ?_) (.inl ?_)
    · simp only [op3, v3, List.getElem?_cons_zero, List.getElem?_cons_succ, r3Ix, kp.lview h5, atI_nn (show (0 : Int) ≤ (i : Nat) by omega), Int.toNat_natCast, List.getElem?_map, List.getElem?_eq_getElem hi2, Option.map_some]
      exact h
    · obtain ⟨x, hx, rfl⟩ := List.mem_map.mp hd
      have := times_in ht x hx
      exact numAble (by omega) (by omega)
    · rw [strs_ints]
      simp only [lview_lst]
      refine ⟨by rw [List.length_map, List.length_map, timesOk_len ht]; exact hz 6 (by decide), .inl ?_⟩
      have hzi : i < (rs.zip ts).length := by omega
      have e3 : (rs.zip ts).take (i + 1) = (rs.zip ts).take i ++ [(rs[i], ts[i])] := by
        rw [← List.take_append_getElem hzi]; simp
      have hmem : (rs[i], ts[i]) ∈ rs.zip ts := by
        have := List.getElem_mem hzi
        rwa [List.getElem_zip] at this
      refine join_line (row := relRow (rs[i], ts[i])) rfl (okR _ hmem) ?_
      refine app M' _ (relRow (rs[i], ts[i])) _ (by rw [List.length_cons, List.length_map, List.length_take]; omega) hm (hN _ _ ⟨_, rfl, ?_, kp.put hp⟩)
      rw [put_same, e3, List.map_append]
      rfl
  · obtain ⟨x8, rfl, hm, kp⟩ := hI
    rw [Int.toNat_natCast, List.take_of_length_le (by omega)] at hm
    simp only [seq3, drop3, bm3, chkL, chkS, v3, cons3, nil3, op3, lst3, c3, List.getElem?_cons_zero, List.getElem?_cons_succ, lview_ref hm, Option.isSome_some]
    refine ⟨trivial, trivial, hz 1 (by decide), .inl ?_⟩
    simp only [r3Add, lview_lst, kp.lview h3]
    refine ⟨by rw [List.length_map]; exact hz _ (by simp; omega), .inl ?_⟩
    refine join_line (row := ("lamps" : Str) :: ls) rfl okL ?_
    refine app M1 _ (("lamps" : Str) :: ls) _ (by rw [List.length_cons, List.length_map, hzl]; omega) hm ?_
    have hm2 : put M1 p (.lst (linesD (((("keys" : Str) :: ks) :: (rs.zip ts).map relRow) ++ [("lamps" : Str) :: ls]))) p = some (.lst (linesD (((("keys" : Str) :: ks) :: (rs.zip ts).map relRow) ++ [("lamps" : Str) :: ls]))) := put_same
    have kp2 := kp.put (o := .lst (linesD (((("keys" : Str) :: ks) :: (rs.zip ts).map relRow) ++ [("lamps" : Str) :: ls]))) hp
    generalize put M1 p (.lst (linesD (((("keys" : Str) :: ks) :: (rs.zip ts).map relRow) ++ [("lamps" : Str) :: ls]))) = M2 at hm2 kp2
    simp only [cal3, cons3, nil3, v3, List.getElem?_cons_zero, List.getElem?_cons_succ, lview_ref hm2, Option.isSome_some]
    refine ⟨trivial, r3Str_of (numAble (by have := ok.n2; omega) (by have := ok.nm; omega)) ?_⟩
    have hno := num_ok (i := n) (by have := ok.n2; omega) (by have := ok.nm; omega)
    simp only [r3Add, lview_str]
    refine ⟨?_, ?_⟩
    · have e6 : ("nodes " : Str).length = 6 := by decide +kernel
      rw [e6]
      exact hz _ (by have := hno.1; show 6 + (numS n).length ≤ 1000; omega)
    rw [show ("nodes " : Str) ++ strD (.int n) = lineOf [("nodes" : Str), numS n] from nodes_line n]
    refine app M2 _ [("nodes" : Str), numS n] _ (by rw [List.length_append, List.length_cons, List.length_map, hzl]; simp; omega) hm2 ?_
    have hm3 : put M2 p (.lst (linesD ((((("keys" : Str) :: ks) :: (rs.zip ts).map relRow) ++ [("lamps" : Str) :: ls]) ++ [[("nodes" : Str), numS n]]))) p = some (.lst (linesD ((((("keys" : Str) :: ks) :: (rs.zip ts).map relRow) ++ [("lamps" : Str) :: ls]) ++ [[("nodes" : Str), numS n]]))) := put_same
    have kp3 := kp2.put (o := .lst (linesD ((((("keys" : Str) :: ks) :: (rs.zip ts).map relRow) ++ [("lamps" : Str) :: ls]) ++ [[("nodes" : Str), numS n]]))) hp
    generalize put M2 p (.lst (linesD ((((("keys" : Str) :: ks) :: (rs.zip ts).map relRow) ++ [("lamps" : Str) :: ls]) ++ [[("nodes" : Str), numS n]]))) = M3 at hm3 kp3
    simp only [set3, op3, v3, List.getElem?_cons_zero, List.getElem?_cons_succ]
    refine lc_map pd (ds := ps.map D.tup) (fun d => match d with | .tup p => .str (lineOf (p.map strD)) | d => d) (fun R h => h) (by unfold itD; rw [kp3.lview h4]) (by rw [List.length_map]; exact size_pos (by omega)) (fun d hd A hA => ?_) (.inl ?_)
    · obtain ⟨pc, hpc, rfl⟩ := List.mem_map.mp hd
      obtain ⟨s1, s2⟩ := sh_able (ok.sh _ hpc)
      simp only [asg, wipe3, List.set_cons_zero, List.set_cons_succ, bm3, chkS, cons3, nil3, c3]
      refine ⟨trivial, lc_strs (.tup pc) (fun R h => h) (show itD M3 (.tup pc) = some pc from rfl) (by simp) (by omega) s2 (.inl ?_)⟩
      rw [strs_pc]
      exact join_line (row := pc.map strD) rfl (okP pc hpc) hA
    · have e5 : (ps.map D.tup).map (fun d => match d with | .tup p => D.str (lineOf (p.map strD)) | d => d) = linesD (ps.map fun p => p.map strD) := by
        unfold linesD
        rw [List.map_map, List.map_map]; rfl
      rw [e5]
      simp only [r3Add, lview_ref hm3, lview_lst]
      rw [← linesD_app]
      have er : ((((("keys" : Str) :: ks) :: (rs.zip ts).map relRow) ++ [("lamps" : Str) :: ls]) ++ [[("nodes" : Str), numS n]]) ++ (ps.map fun p => p.map strD) = rowsOf ks rs ls n ps ts := by
        unfold rowsOf
        simp only [List.cons_append, List.append_assoc, List.nil_append]
      rw [er]
      refine ⟨by unfold linesD; simp only [List.length_map, List.length_append, List.length_cons, List.length_nil, hzl]; exact tup_pos (by omega), .inl ?_⟩
      simp only [List.set_cons_zero, List.set_cons_succ, ret3, bm3, chkS, c3, cons3, nil3]
      refine ⟨trivial, lc_map (.lst (linesD (rowsOf ks rs ls n ps ts))) (fun d => match d with | .str z => .str (z ++ "\n") | d => d) (fun R h => h) rfl (by unfold linesD; rw [List.length_map, rows_len ok]; exact size_pos (by omega)) (fun d hd A hA => ?_) (.inl ?_)⟩
      · obtain ⟨row, hrow, rfl⟩ := List.mem_map.mp hd
        simp only [asg, wipe3, List.set_cons_zero, List.set_cons_succ, op3, v3, c3, List.getElem?_cons_zero, List.getElem?_cons_succ, r3Add, lview_str]
        refine ⟨?_, hA⟩
        have := line_len (hok _ hrow)
        rw [nl_len]
        exact hz _ (by omega)
      · have e7 : (linesD (rowsOf ks rs ls n ps ts)).map (fun d => match d with | D.str z => D.str (z ++ "\n") | d => d) = ((rowsOf ks rs ls n ps ts).map fun r => lineOf r ++ "\n").map D.str := by
          unfold linesD
          rw [List.map_map, List.map_map]; rfl
        rw [e7]
        simp only [r3Join, lview_lst, joinQ, strsOf_map]
        exact ⟨text_fit hok (by rw [rows_len ok]; omega), q M3 kp3⟩
/-! ### the law -/
abbrev N_law : List Str := ["_law_script", "_law_k", "_law_things", "_law_due", "_law_handed", "_law_net_here", "_law_text_here", "_law_part", "_law_again"]
def t_law (ad : Ad) : TS3 := (seq3 (for3 (rng1 (cons3 (cal3 r3Max (cons3 (c3 (.int 1)) (cons3 (cal3 r3Min (cons3 (cal3 r3Len (cons3 (v3 0) nil3)) (cons3 (c3 (.int 8)) nil3))) nil3))) nil3)) (.nm 1) (seq3 (set3 2 (call3 (sp__law_net ad) (cons3 (call3 (sp__law_pot ad) (cons3 (v3 0) (cons3 (v3 1) nil3))) (cons3 (c3 (.int 18)) nil3))))
    (seq3 (set3 3 (call3 (sp__law_text ad) (cons3 (v3 2) nil3)))
    (seq3 (set3 4 (call3 (sp__law_copy ad) (cons3 (v3 2) nil3)))
    (seq3 (set3 5 (call3 (sp__law_made ad) (cons3 (v3 4) nil3)))
    (seq3 (set3 6 (call3 (sp_show_net ad) (cons3 (v3 5) nil3)))
    (seq3 (for3 (src3 (op3 r3Add (sl3 (v3 4) no_o3 (some_o3 (c3 (.int 3)))) (sl3 (v3 4) (some_o3 (c3 (.int 4))) no_o3))) (.nm 7) (drop3 (bm3 chkL r3Clear (v3 7) nil3)))
    (seq3 (if3 (or3 (not3 (tru3 (cal3 r3Isi (cons3 (v3 6) (cons3 (c3 (.ty "str")) nil3))))) (tst3 (op3 r3Ne (v3 6) (v3 3)))) (ret3 (c3 (.bl false))) next3)
    (seq3 (set3 8 (call3 (sp_read_net ad) (cons3 (v3 6) nil3)))
    (seq3 (if3 (or3 (not3 (tru3 (cal3 (r3IsiK ad.C_Net) (cons3 (v3 8) (cons3 (c3 (.ref ad.C_Net)) nil3))))) (or3 (tst3 (op3 r3Ne (cal3 r3Repr (cons3 (call3 (sp__law_told ad) (cons3 (v3 8) nil3)) nil3)) (cal3 r3Repr (cons3 (v3 2) nil3)))) (tst3 (op3 r3Ne (call3 (sp_show_net ad) (cons3 (v3 8) nil3)) (v3 3))))) (ret3 (c3 (.bl false))) next3)
    (seq3 (for3 (src3 (op3 r3Add (sl3 (call3 (sp__law_told ad) (cons3 (v3 5) nil3)) (some_o3 (c3 (.int 4))) no_o3) (sl3 (call3 (sp__law_told ad) (cons3 (v3 8) nil3)) (some_o3 (c3 (.int 4))) no_o3))) (.nm 7) (drop3 (bm3 chkL r3Clear (v3 7) nil3)))
    (if3 (or3 (tst3 (op3 r3Ne (call3 (sp_show_net ad) (cons3 (v3 5) nil3)) (v3 3))) (or3 (tst3 (op3 r3Ne (call3 (sp_show_net ad) (cons3 (v3 8) nil3)) (v3 3))) (tst3 (op3 r3Ne (cal3 r3Repr (cons3 (call3 (sp__law_told ad) (cons3 (call3 (sp_read_net ad) (cons3 (v3 3) nil3)) nil3)) nil3)) (cal3 r3Repr (cons3 (v3 2) nil3)))))) (ret3 (c3 (.bl false))) next3))))))))))))
    (ret3 (c3 (.bl true))))
theorem len_law {ds M Q E} (h : spLaw ds M Q E) : ds.length = 1 := by obtain ⟨_, rfl, _⟩ := h; rfl
/-- emptying what stands at some places -/
theorem clear_loop {te0 : TE3} {E : Ends3} {b : Nat} {δ : St3} {M0 M : Mem} (as : List Addr) (he : ∀ R : VK3, R (.lst (as.map D.ref)) M → te0 δ M R) (hb : b < δ.length) (fr : ∀ z ∈ as, M0 z = none) (lv : Live M as) (kp : Kept M0 M)
    (q : ∀ x M', Kept M0 M' → E.nx (δ.set b x) M') : for3 (src3 te0) (.nm b) (drop3 (bm3 chkL r3Clear (v3 b) nil3)) E δ M := by
  refine forS (as.map D.ref) he (fun i δ' M' => (∃ x, δ' = δ.set b x) ∧ Live M' as ∧ Kept M0 M') ⟨?_, lv, kp⟩ (fun i hi δ' M' hI N hN => ?_) fun δ' M' hI => ?_
  · exact ⟨δ[b], by simp⟩
  · obtain ⟨⟨x, rfl⟩, lv, kp⟩ := hI
    rw [List.length_map] at hi
    have eg : (as.map D.ref)[i]'(by rw [List.length_map]; exact hi) = .ref as[i] := by simp
    rw [eg]
    obtain ⟨xs, hxs⟩ := lv as[i] (List.getElem_mem hi)
    simp only [asg, drop3, bm3, v3, nil3]
    rw [List.set_set, List.getElem?_set_self (by simpa using hb)]
    simp only [chkL, lview_ref hxs, Option.isSome_some, r3Clear, onL, hxs]
    refine ⟨trivial, hN _ _ ⟨⟨_, rfl⟩, lv.put, fun y o ey => ?_⟩⟩
    rw [put_ne (mne ey (fr _ (List.getElem_mem hi)))]; exact kp y o ey
  · obtain ⟨⟨x, rfl⟩, _, kp⟩ := hI
    exact q x M' kp
theorem for_src_eq {te0 : TE3} {g : Tg} {tb : TS3} {E : Ends3} {δ : St3} {M : Mem} : for3 (src3 te0) g tb E δ M = te0 δ M fun d M1 => for3 (src3 (c3 d)) g tb E δ M1 := rfl
theorem six_th {M : Mem} {ks rs ls : List Str} {n : Int} {ps : List (List D)} {ts : List (List Int)} {a b c e f : Addr} (h1 : M a = some (.lst (ks.map D.str))) (h2 : M b = some (.lst (rs.map D.str))) (h3 : M c = some (.lst (ls.map D.str))) (h4 : M e = some (.lst (ps.map D.tup))) (h5 : M f = some (.lst (ts.map tD))) : Th M (six n a b c e f) ks rs ls n ps ts :=
  ⟨_, _, _, _, _, rfl, lview_ref h1, lview_ref h2, lview_ref h3, lview_ref h4, lview_ref h5⟩
theorem r_law {ad : Ad} {ds M Q E} (h : spLaw ds M Q E) : t_law ad { nx := fun _ M' => Q .non M', rt := Q } (start3 N_law ds) M := by
  obtain ⟨ns, rfl, hns, hM, q⟩ := h
  have hz : ∀ k : Nat, k ≤ 1000 → k ≤ sizeLine := fun k h => tup_pos (by omega)
  unfold t_law N_law
  simp only [seq3, start3, List.map_cons, List.map_nil, List.length_cons, List.length_nil, List.cons_append, List.nil_append, List.replicate_succ, List.replicate_zero, Nat.reduceAdd, Nat.reduceSub]
  obtain ⟨kk, hkk, ek⟩ : ∃ kk : Int, kk ≤ 8 ∧ kk = (if (if (8 : Int) < ((ns.length : Nat) : Int) then 8 else ((ns.length : Nat) : Int)) > 1 then (if (8 : Int) < ((ns.length : Nat) : Int) then 8 else ((ns.length : Nat) : Int)) else 1) := ⟨_, by split <;> (try split) <;> omega, rfl⟩
  have ek1 : 1 ≤ kk := by rw [ek]; split <;> (try split) <;> omega
  refine forG kk (fun R h => ?_) (fun i δ M' => ∃ x1 x2 x3 x4 x5 x6 x7 x8, δ = [some (.scr ns), x1, x2, x3, x4, x5, x6, x7, x8]) (by omega) (by omega) ⟨none, none, none, none, none, none, none, none, rfl⟩ (fun i hi δ M0 hI N hN => ?_) fun δ M' hI => ?_
  · simp only [cal3, cons3, nil3, c3, v3, List.getElem?_cons_zero, r3Len, lview_scr, r3II]
    rw [← ek]; exact h
  · obtain ⟨x1, x2, x3, x4, x5, x6, x7, x8, rfl⟩ := hI
    simp only [asg, seq3, set3, call3, cons3, nil3, v3, c3, List.set_cons_zero, List.set_cons_succ, List.getElem?_cons_zero, List.getElem?_cons_succ]
    refine ⟨ns, _, rfl, by omega, by omega, fun p M1 hp hpot _ => ?_⟩
    refine ⟨p, 18, rfl, by decide, by decide, hpot, fun ks rs ls n ps ts q1 M2 ok _ _ f1 m1 e1 => ?_⟩
    have th : Th M2 (netL ks rs ls n q1 ts) ks rs ls n ps ts := netL_th m1
    generalize netL ks rs ls n q1 ts = N1 at th
    clear m1 e1 f1
    have sok := (net_ok ok).show (by omega) (by omega)
    refine ⟨N1, ks, rs, ls, n, ps, ts, rfl, th, ok, fun M3 k3 => ?_⟩
    have th3 := th.keep k3
    simp only [List.set_cons_zero, List.set_cons_succ, List.getElem?_cons_zero, List.getElem?_cons_succ]
    refine ⟨N1, ks, rs, ls, n, ps, ts, rfl, th3, fun a b c e f M4 na nb nc ne nf k4 ha hb hc he hf => ?_⟩
    simp only [List.set_cons_zero, List.set_cons_succ, List.getElem?_cons_zero, List.getElem?_cons_succ]
    refine ⟨six n a b c e f, ks, rs, ls, n, ps, ts, rfl, six_th ha hb hc he hf, ok, ?_⟩
    refine ⟨ks, rs, ls, n, ps, ts, rfl, ok, fun M5 k5 => ?_⟩
    generalize hT : textOf (rowsOf ks rs ls n ps ts) = T
    have k35 : Kept M3 M5 := k4.trans k5
    have live : Live M5 (five a b c e f) := fun z hz => by
      simp only [List.mem_cons, List.not_mem_nil, or_false] at hz
      rcases hz with rfl | rfl | rfl | rfl | rfl
      · exact ⟨_, k5 _ _ ha⟩
      · exact ⟨_, k5 _ _ hb⟩
      · exact ⟨_, k5 _ _ hc⟩
      · exact ⟨_, k5 _ _ he⟩
      · exact ⟨_, k5 _ _ hf⟩
    have fresh : ∀ z ∈ five a b c e f, M3 z = none := fun z hz => by
      simp only [List.mem_cons, List.not_mem_nil, or_false] at hz
      rcases hz with rfl | rfl | rfl | rfl | rfl <;> assumption
    refine clear_loop (five a b c e f) (fun R hR => ?_) (by simp) fresh live k35 fun x M6 k6 => ?_
    · walk_at "rd"
      simp only [six, lview_lst, six_cut.1, six_cut.2]
      refine .inl (.inl ?_)
      simp only [r3Add, lview_lst]
      exact ⟨hz 5 (by decide), .inl hR⟩
    simp only [List.set_cons_zero, List.set_cons_succ, if3, or3, not3, tru3, tst3, cal3, op3, cons3, nil3, v3, c3, List.getElem?_cons_zero, List.getElem?_cons_succ]
    refine ⟨true, kit_ss, ?_⟩
    simp only [or3, tst3, op3, cal3, call3, cons3, nil3, v3, c3, List.getElem?_cons_zero, List.getElem?_cons_succ, truD, lview_bl, Bool.not_true, Bool.false_eq_true, if_false, r3Ne, decide_true, next3, seq3, set3]
    refine ⟨ks, rs, ls, n, ps, ts, by rw [hT], ok, ?_⟩
    simp only [List.set_cons_zero, List.set_cons_succ, List.getElem?_cons_zero, List.getElem?_cons_succ, if3, or3, not3, tru3, tst3, cal3, call3, op3, cons3, nil3, v3, c3]
    refine ⟨rfl, rfl, ?_⟩
    simp only [or3, tst3, op3, cal3, call3, cons3, nil3, v3, c3, List.getElem?_cons_zero, List.getElem?_cons_succ, truD, lview_bl, Bool.not_true, Bool.false_eq_true, if_false]
    -- told again
    refine ⟨ks, rs, ls, n, ps, ts, rfl, fun a1 b1 c1 e1 f1 M7 _ _ _ _ _ k7 ha1 hb1 hc1 he1 hf1 => ?_⟩
    refine ⟨_, py_th (six_th ha1 hb1 hc1 he1 hf1) ok.sh, trivial, sok, ?_⟩
    have th7 := th3.keep (k6.trans k7)
    have gN := th7
    obtain ⟨_, _, _, _, _, g0, _⟩ := gN
    refine repr_view g0 (py_th th7 ok.sh) sok ?_
    simp only [or3, tst3, op3, cal3, call3, cons3, nil3, v3, c3, List.getElem?_cons_zero, List.getElem?_cons_succ, r3Ne, decide_true, Bool.not_true, Bool.false_eq_true, if_false]
    refine ⟨ks, rs, ls, n, ps, ts, rfl, ok, fun M8 k8 => ?_⟩
    rw [hT]
    simp only [r3Ne, decide_true, Bool.not_true, Bool.false_eq_true, if_false, next3, seq3]
    have k38 : Kept M3 M8 := k6.trans (k7.trans k8)
    have n38 : ∀ {M' : Mem}, Kept M3 M' → ∀ z, M' z = none → M3 z = none := fun k z h => by
      cases q : M3 z with
      | none => rfl
      | some o => have := k z o q; rw [h] at this; cases this
    -- what is told is emptied
    rw [for_src_eq]
    simp only [op3, sl3, call3, cons3, nil3, some_o3, no_o3, v3, c3, List.getElem?_cons_zero, List.getElem?_cons_succ]
    refine ⟨ks, rs, ls, n, ps, ts, rfl, fun a2 b2 c2 e2 f2 M9 _ _ _ ne2 nf2 k9 ha2 hb2 hc2 he2 hf2 => ?_⟩
    simp only [six, slD, lview_lst, six_cut.2]
    refine .inl ?_
    refine ⟨ks, rs, ls, n, ps, ts, rfl, fun a3 b3 c3' e3 f3 M10 _ _ _ ne3 nf3 k10 ha3 hb3 hc3 he3 hf3 => ?_⟩
    simp only [six, slD, lview_lst, six_cut.2]
    refine .inl ?_
    simp only [r3Add, lview_lst]
    refine ⟨hz 4 (by decide), .inl ?_⟩
    have k39 := k38.trans k9
    have k310 := k39.trans k10
    have h2 := clear_loop (te0 := c3 (.lst [D.ref e2, .ref f2, .ref e3, .ref f3])) (E := { nx := (if3 (or3 (tst3 (op3 r3Ne (call3 (sp_show_net ad) (cons3 (v3 5) nil3)) (v3 3))) (or3 (tst3 (op3 r3Ne (call3 (sp_show_net ad) (cons3 (v3 8) nil3)) (v3 3))) (tst3 (op3 r3Ne (cal3 r3Repr (cons3 (call3 (sp__law_told ad) (cons3 (call3 (sp_read_net ad) (cons3 (v3 3) nil3)) nil3)) nil3)) (cal3 r3Repr (cons3 (v3 2) nil3)))))) (ret3 (c3 (.bl false))) next3) { nx := N, rt := Q, bk := ret3 (c3 (D.bl true)) { nx := fun x M' => Q D.non M', rt := Q }, ct := N }, rt := Q, bk := ret3 (c3 (D.bl true)) { nx := fun x M' => Q D.non M', rt := Q }, ct := N }) (b := 7) (δ := [some (.scr ns), some (.int i), some N1, some (.str T), some (six n a b c e f), some (netO ad.C_Net ks rs ls n ps ts), some (.str T), x, some (netO ad.C_Net ks rs ls n ps ts)]) (M0 := M3) (M := M10) [e2, f2, e3, f3] (fun R h => h) (by simp) (fun z hz => by
        simp only [List.mem_cons, List.not_mem_nil, or_false] at hz
        rcases hz with rfl | rfl | rfl | rfl
        · exact n38 k38 _ ne2
        · exact n38 k38 _ nf2
        · exact n38 k39 _ ne3
        · exact n38 k39 _ nf3) (fun z hz => by
        simp only [List.mem_cons, List.not_mem_nil, or_false] at hz
        rcases hz with rfl | rfl | rfl | rfl
        · exact ⟨_, k10 _ _ he2⟩
        · exact ⟨_, k10 _ _ hf2⟩
        · exact ⟨_, he3⟩
        · exact ⟨_, hf3⟩) k310 (fun x' M11 k11 => by
      simp only [List.set_cons_zero, List.set_cons_succ, if3, or3, tst3, cal3, call3, op3, cons3, nil3, v3, c3, List.getElem?_cons_zero, List.getElem?_cons_succ]
      refine ⟨ks, rs, ls, n, ps, ts, rfl, ok, fun M12 k12 => ?_⟩
      rw [hT]
      simp only [or3, tst3, op3, cal3, call3, cons3, nil3, v3, c3, List.getElem?_cons_zero, List.getElem?_cons_succ, r3Ne, decide_true, Bool.not_true, Bool.false_eq_true, if_false]
      refine ⟨ks, rs, ls, n, ps, ts, rfl, ok, fun M13 k13 => ?_⟩
      rw [hT]
      simp only [or3, tst3, op3, cal3, call3, cons3, nil3, v3, c3, List.getElem?_cons_zero, List.getElem?_cons_succ, r3Ne, decide_true, Bool.not_true, Bool.false_eq_true, if_false]
      refine ⟨ks, rs, ls, n, ps, ts, by rw [hT], ok, ?_⟩
      refine ⟨ks, rs, ls, n, ps, ts, rfl, fun a4 b4 c4 e4 f4 M14 _ _ _ _ _ k14 ha4 hb4 hc4 he4 hf4 => ?_⟩
      refine ⟨_, py_th (six_th ha4 hb4 hc4 he4 hf4) ok.sh, trivial, sok, ?_⟩
      have th14 := th3.keep (k11.trans (k12.trans (k13.trans k14)))
      have gN := th14
      obtain ⟨_, _, _, _, _, g0, _⟩ := gN
      refine repr_view g0 (py_th th14 ok.sh) sok ?_
      simp only [r3Ne, decide_true, Bool.not_true, Bool.false_eq_true, if_false, next3]
      exact hN _ _ ⟨_, _, _, _, _, _, _, _, rfl⟩)
    exact h2
  · obtain ⟨x1, x2, x3, x4, x5, x6, x7, x8, rfl⟩ := hI
    exact q M'

end Z13

namespace Z13
open PySem PySem.Spec PyProof.Rows L2 L3
/-! the walk (printed by gen.py) -/
def topS (i : Nat) : Stmt := PySem.Challenge.pw_relayholds_k13_whole_texts_there_and_bac.main.body.getD i (.Pass ⟨0, 0, 0, 0⟩)
abbrev s_is_word : Stmt := topS 15
theorem sc_is_word : FnScope N_is_word ["text"] (defScope s_is_word) := ⟨rfl, rfl, rfl, by decide +kernel, rfl, by decide +kernel, by decide +kernel⟩
abbrev s_is_whole : Stmt := topS 16
theorem sc_is_whole : FnScope N_is_whole ["thing"] (defScope s_is_whole) := ⟨rfl, rfl, rfl, by decide +kernel, rfl, by decide +kernel, by decide +kernel⟩
abbrev s_word_fault : Stmt := topS 17
theorem sc_word_fault : FnScope N_word_fault ["words"] (defScope s_word_fault) := ⟨rfl, rfl, rfl, by decide +kernel, rfl, by decide +kernel, by decide +kernel⟩
abbrev s_many_fault : Stmt := topS 18
theorem sc_many_fault : FnScope N_many_fault ["keys", "relays", "lamps"] (defScope s_many_fault) := ⟨rfl, rfl, rfl, by decide +kernel, rfl, by decide +kernel, by decide +kernel⟩
abbrev s_size_fault : Stmt := topS 19
theorem sc_size_fault : FnScope N_size_fault ["nodes", "pieces"] (defScope s_size_fault) := ⟨rfl, rfl, rfl, by decide +kernel, rfl, by decide +kernel, by decide +kernel⟩
abbrev s_are_nodes : Stmt := topS 20
theorem sc_are_nodes : FnScope N_are_nodes ["parts", "nodes"] (defScope s_are_nodes) := ⟨rfl, rfl, rfl, by decide +kernel, rfl, by decide +kernel, by decide +kernel⟩
abbrev s_names_of_kind : Stmt := topS 21
theorem sc_names_of_kind : FnScope N_names_of_kind ["word", "keys", "relays", "lamps"] (defScope s_names_of_kind) := ⟨rfl, rfl, rfl, by decide +kernel, rfl, by decide +kernel, by decide +kernel⟩
abbrev s_is_piece : Stmt := topS 22
theorem sc_is_piece : FnScope N_is_piece ["piece", "keys", "relays", "lamps", "nodes"] (defScope s_is_piece) := ⟨rfl, rfl, rfl, by decide +kernel, rfl, by decide +kernel, by decide +kernel⟩
abbrev s_only_fault : Stmt := topS 23
theorem sc_only_fault : FnScope N_only_fault ["word", "names", "pieces"] (defScope s_only_fault) := ⟨rfl, rfl, rfl, by decide +kernel, rfl, by decide +kernel, by decide +kernel⟩
abbrev s_piece_fault : Stmt := topS 24
theorem sc_piece_fault : FnScope N_piece_fault ["keys", "relays", "lamps", "nodes", "pieces"] (defScope s_piece_fault) := ⟨rfl, rfl, rfl, by decide +kernel, rfl, by decide +kernel, by decide +kernel⟩
abbrev s_are_times : Stmt := topS 25
theorem sc_are_times : FnScope N_are_times ["times"] (defScope s_are_times) := ⟨rfl, rfl, rfl, by decide +kernel, rfl, by decide +kernel, by decide +kernel⟩
abbrev s_time_fault : Stmt := topS 26
theorem sc_time_fault : FnScope N_time_fault ["relays", "times"] (defScope s_time_fault) := ⟨rfl, rfl, rfl, by decide +kernel, rfl, by decide +kernel, by decide +kernel⟩
abbrev s_net_fault : Stmt := topS 27
theorem sc_net_fault : FnScope N_net_fault ["keys", "relays", "lamps", "nodes", "pieces", "times"] (defScope s_net_fault) := ⟨rfl, rfl, rfl, by decide +kernel, rfl, by decide +kernel, by decide +kernel⟩
abbrev s_Net___init__ : Stmt := inClass (topS 28) 0
theorem sc_Net___init__ : FnScope N_Net___init__ ["self", "keys", "relays", "lamps", "nodes", "pieces", "times"] (defScope s_Net___init__) := ⟨rfl, rfl, rfl, by decide +kernel, rfl, by decide +kernel, by decide +kernel⟩
abbrev s_Net_key_words : Stmt := inClass (topS 28) 1
theorem sc_Net_key_words : FnScope N_Net_key_words ["self"] (defScope s_Net_key_words) := ⟨rfl, rfl, rfl, by decide +kernel, rfl, by decide +kernel, by decide +kernel⟩
abbrev s_Net_relays : Stmt := inClass (topS 28) 2
theorem sc_Net_relays : FnScope N_Net_relays ["self"] (defScope s_Net_relays) := ⟨rfl, rfl, rfl, by decide +kernel, rfl, by decide +kernel, by decide +kernel⟩
abbrev s_Net_lamps : Stmt := inClass (topS 28) 3
theorem sc_Net_lamps : FnScope N_Net_lamps ["self"] (defScope s_Net_lamps) := ⟨rfl, rfl, rfl, by decide +kernel, rfl, by decide +kernel, by decide +kernel⟩
abbrev s_Net_nodes : Stmt := inClass (topS 28) 4
theorem sc_Net_nodes : FnScope N_Net_nodes ["self"] (defScope s_Net_nodes) := ⟨rfl, rfl, rfl, by decide +kernel, rfl, by decide +kernel, by decide +kernel⟩
abbrev s_Net_pieces : Stmt := inClass (topS 28) 5
theorem sc_Net_pieces : FnScope N_Net_pieces ["self"] (defScope s_Net_pieces) := ⟨rfl, rfl, rfl, by decide +kernel, rfl, by decide +kernel, by decide +kernel⟩
abbrev s_Net_times : Stmt := inClass (topS 28) 6
theorem sc_Net_times : FnScope N_Net_times ["self"] (defScope s_Net_times) := ⟨rfl, rfl, rfl, by decide +kernel, rfl, by decide +kernel, by decide +kernel⟩
abbrev s_show_net : Stmt := topS 31
theorem sc_show_net : FnScope N_show_net ["net"] (defScope s_show_net) := ⟨rfl, rfl, rfl, by decide +kernel, rfl, by decide +kernel, by decide +kernel⟩
abbrev s_want : Stmt := topS 32
theorem sc_want : FnScope N_want ["truth"] (defScope s_want) := ⟨rfl, rfl, rfl, by decide +kernel, rfl, by decide +kernel, by decide +kernel⟩
abbrev s_number_of : Stmt := topS 33
theorem sc_number_of : FnScope N_number_of ["word"] (defScope s_number_of) := ⟨rfl, rfl, rfl, by decide +kernel, rfl, by decide +kernel, by decide +kernel⟩
abbrev s_rows_of : Stmt := topS 34
theorem sc_rows_of : FnScope N_rows_of ["text"] (defScope s_rows_of) := ⟨rfl, rfl, rfl, by decide +kernel, rfl, by decide +kernel, by decide +kernel⟩
abbrev s_piece_of : Stmt := topS 35
theorem sc_piece_of : FnScope N_piece_of ["row"] (defScope s_piece_of) := ⟨rfl, rfl, rfl, by decide +kernel, rfl, by decide +kernel, by decide +kernel⟩
abbrev s_relay_of : Stmt := topS 36
theorem sc_relay_of : FnScope N_relay_of ["row"] (defScope s_relay_of) := ⟨rfl, rfl, rfl, by decide +kernel, rfl, by decide +kernel, by decide +kernel⟩
abbrev s_read_net : Stmt := topS 37
theorem sc_read_net : FnScope N_read_net ["text"] (defScope s_read_net) := ⟨rfl, rfl, rfl, by decide +kernel, rfl, by decide +kernel, by decide +kernel⟩
abbrev s__law_pot : Stmt := topS 39
theorem sc__law_pot : FnScope N__law_pot ["_law_script", "_law_k"] (defScope s__law_pot) := ⟨rfl, rfl, rfl, by decide +kernel, rfl, by decide +kernel, by decide +kernel⟩
abbrev s__law_take : Stmt := topS 40
theorem sc__law_take : FnScope N__law_take ["_law_pot_here", "_law_many"] (defScope s__law_take) := ⟨rfl, rfl, rfl, by decide +kernel, rfl, by decide +kernel, by decide +kernel⟩
abbrev s__law_word : Stmt := topS 41
theorem sc__law_word : FnScope N__law_word ["_law_pot_here", "_law_taken"] (defScope s__law_word) := ⟨rfl, rfl, rfl, by decide +kernel, rfl, by decide +kernel, by decide +kernel⟩
abbrev s__law_unlike : Stmt := topS 42
theorem sc__law_unlike : FnScope N__law_unlike ["_law_pot_here", "_law_nodes", "_law_many"] (defScope s__law_unlike) := ⟨rfl, rfl, rfl, by decide +kernel, rfl, by decide +kernel, by decide +kernel⟩
abbrev s__law_piece : Stmt := topS 43
theorem sc__law_piece : FnScope N__law_piece ["_law_pot_here", "_law_names", "_law_nodes"] (defScope s__law_piece) := ⟨rfl, rfl, rfl, by decide +kernel, rfl, by decide +kernel, by decide +kernel⟩
abbrev s__law_times : Stmt := topS 44
theorem sc__law_times : FnScope N__law_times ["_law_pot_here"] (defScope s__law_times) := ⟨rfl, rfl, rfl, by decide +kernel, rfl, by decide +kernel, by decide +kernel⟩
abbrev s__law_net : Stmt := topS 45
theorem sc__law_net : FnScope N__law_net ["_law_pot_here", "_law_most"] (defScope s__law_net) := ⟨rfl, rfl, rfl, by decide +kernel, rfl, by decide +kernel, by decide +kernel⟩
abbrev s__law_copy : Stmt := topS 46
theorem sc__law_copy : FnScope N__law_copy ["_law_things"] (defScope s__law_copy) := ⟨rfl, rfl, rfl, by decide +kernel, rfl, by decide +kernel, by decide +kernel⟩
abbrev s__law_made : Stmt := topS 47
theorem sc__law_made : FnScope N__law_made ["_law_things"] (defScope s__law_made) := ⟨rfl, rfl, rfl, by decide +kernel, rfl, by decide +kernel, by decide +kernel⟩
abbrev s__law_told : Stmt := topS 48
theorem sc__law_told : FnScope N__law_told ["_law_net_here"] (defScope s__law_told) := ⟨rfl, rfl, rfl, by decide +kernel, rfl, by decide +kernel, by decide +kernel⟩
abbrev s__law_text : Stmt := topS 49
theorem sc__law_text : FnScope N__law_text ["_law_things"] (defScope s__law_text) := ⟨rfl, rfl, rfl, by decide +kernel, rfl, by decide +kernel, by decide +kernel⟩
abbrev s_law : Stmt := topS 50
theorem sc_law : FnScope N_law ["_law_script"] (defScope s_law) := ⟨rfl, rfl, rfl, by decide +kernel, rfl, by decide +kernel, by decide +kernel⟩
structure Fa where
  a_is_word : Addr
  fd_is_word : FuncData
  a_is_whole : Addr
  fd_is_whole : FuncData
  a_word_fault : Addr
  fd_word_fault : FuncData
  a_many_fault : Addr
  fd_many_fault : FuncData
  a_size_fault : Addr
  fd_size_fault : FuncData
  a_are_nodes : Addr
  fd_are_nodes : FuncData
  a_names_of_kind : Addr
  fd_names_of_kind : FuncData
  a_is_piece : Addr
  fd_is_piece : FuncData
  a_only_fault : Addr
  fd_only_fault : FuncData
  a_piece_fault : Addr
  fd_piece_fault : FuncData
  a_are_times : Addr
  fd_are_times : FuncData
  a_time_fault : Addr
  fd_time_fault : FuncData
  a_net_fault : Addr
  fd_net_fault : FuncData
  a_Net___init__ : Addr
  fd_Net___init__ : FuncData
  a_Net_key_words : Addr
  fd_Net_key_words : FuncData
  a_Net_relays : Addr
  fd_Net_relays : FuncData
  a_Net_lamps : Addr
  fd_Net_lamps : FuncData
  a_Net_nodes : Addr
  fd_Net_nodes : FuncData
  a_Net_pieces : Addr
  fd_Net_pieces : FuncData
  a_Net_times : Addr
  fd_Net_times : FuncData
  a_show_net : Addr
  fd_show_net : FuncData
  a_want : Addr
  fd_want : FuncData
  a_number_of : Addr
  fd_number_of : FuncData
  a_rows_of : Addr
  fd_rows_of : FuncData
  a_piece_of : Addr
  fd_piece_of : FuncData
  a_relay_of : Addr
  fd_relay_of : FuncData
  a_read_net : Addr
  fd_read_net : FuncData
  a__law_pot : Addr
  fd__law_pot : FuncData
  a__law_take : Addr
  fd__law_take : FuncData
  a__law_word : Addr
  fd__law_word : FuncData
  a__law_unlike : Addr
  fd__law_unlike : FuncData
  a__law_piece : Addr
  fd__law_piece : FuncData
  a__law_times : Addr
  fd__law_times : FuncData
  a__law_net : Addr
  fd__law_net : FuncData
  a__law_copy : Addr
  fd__law_copy : FuncData
  a__law_made : Addr
  fd__law_made : FuncData
  a__law_told : Addr
  fd__law_told : FuncData
  a__law_text : Addr
  fd__law_text : FuncData
  a_law : Addr
  fd_law : FuncData
structure Txt (ad : Ad) (fa : Fa) (K : PySem.W.Frag) (w : World) (mg : Str → Option Value) : Prop where
  F_is_word : Fun K "is_word" "is_word" s_is_word fa.a_is_word fa.fd_is_word
  b_is_word : Binds K fa.fd_is_word ["text"] []
  g_is_word : mg "is_word" = some (.ref fa.a_is_word)
  F_is_whole : Fun K "is_whole" "is_whole" s_is_whole fa.a_is_whole fa.fd_is_whole
  b_is_whole : Binds K fa.fd_is_whole ["thing"] []
  g_is_whole : mg "is_whole" = some (.ref fa.a_is_whole)
  F_word_fault : Fun K "word_fault" "word_fault" s_word_fault fa.a_word_fault fa.fd_word_fault
  b_word_fault : Binds K fa.fd_word_fault ["words"] []
  g_word_fault : mg "word_fault" = some (.ref fa.a_word_fault)
  F_many_fault : Fun K "many_fault" "many_fault" s_many_fault fa.a_many_fault fa.fd_many_fault
  b_many_fault : Binds K fa.fd_many_fault ["keys", "relays", "lamps"] []
  g_many_fault : mg "many_fault" = some (.ref fa.a_many_fault)
  F_size_fault : Fun K "size_fault" "size_fault" s_size_fault fa.a_size_fault fa.fd_size_fault
  b_size_fault : Binds K fa.fd_size_fault ["nodes", "pieces"] []
  g_size_fault : mg "size_fault" = some (.ref fa.a_size_fault)
  F_are_nodes : Fun K "are_nodes" "are_nodes" s_are_nodes fa.a_are_nodes fa.fd_are_nodes
  b_are_nodes : Binds K fa.fd_are_nodes ["parts", "nodes"] []
  g_are_nodes : mg "are_nodes" = some (.ref fa.a_are_nodes)
  F_names_of_kind : Fun K "names_of_kind" "names_of_kind" s_names_of_kind fa.a_names_of_kind fa.fd_names_of_kind
  b_names_of_kind : Binds K fa.fd_names_of_kind ["word", "keys", "relays", "lamps"] []
  g_names_of_kind : mg "names_of_kind" = some (.ref fa.a_names_of_kind)
  F_is_piece : Fun K "is_piece" "is_piece" s_is_piece fa.a_is_piece fa.fd_is_piece
  b_is_piece : Binds K fa.fd_is_piece ["piece", "keys", "relays", "lamps", "nodes"] []
  g_is_piece : mg "is_piece" = some (.ref fa.a_is_piece)
  F_only_fault : Fun K "only_fault" "only_fault" s_only_fault fa.a_only_fault fa.fd_only_fault
  b_only_fault : Binds K fa.fd_only_fault ["word", "names", "pieces"] []
  g_only_fault : mg "only_fault" = some (.ref fa.a_only_fault)
  F_piece_fault : Fun K "piece_fault" "piece_fault" s_piece_fault fa.a_piece_fault fa.fd_piece_fault
  b_piece_fault : Binds K fa.fd_piece_fault ["keys", "relays", "lamps", "nodes", "pieces"] []
  g_piece_fault : mg "piece_fault" = some (.ref fa.a_piece_fault)
  F_are_times : Fun K "are_times" "are_times" s_are_times fa.a_are_times fa.fd_are_times
  b_are_times : Binds K fa.fd_are_times ["times"] []
  g_are_times : mg "are_times" = some (.ref fa.a_are_times)
  F_time_fault : Fun K "time_fault" "time_fault" s_time_fault fa.a_time_fault fa.fd_time_fault
  b_time_fault : Binds K fa.fd_time_fault ["relays", "times"] []
  g_time_fault : mg "time_fault" = some (.ref fa.a_time_fault)
  F_net_fault : Fun K "net_fault" "net_fault" s_net_fault fa.a_net_fault fa.fd_net_fault
  b_net_fault : Binds K fa.fd_net_fault ["keys", "relays", "lamps", "nodes", "pieces", "times"] []
  g_net_fault : mg "net_fault" = some (.ref fa.a_net_fault)
  F_Net___init__ : Fun K "__init__" "Net.__init__" s_Net___init__ fa.a_Net___init__ fa.fd_Net___init__
  b_Net___init__ : Binds K fa.fd_Net___init__ ["self", "keys", "relays", "lamps", "nodes", "pieces", "times"] []
  F_Net_key_words : Fun K "key_words" "Net.key_words" s_Net_key_words fa.a_Net_key_words fa.fd_Net_key_words
  b_Net_key_words : Binds K fa.fd_Net_key_words ["self"] []
  me_Net_key_words : Meth K ad.C_Net "key_words" fa.a_Net_key_words
  F_Net_relays : Fun K "relays" "Net.relays" s_Net_relays fa.a_Net_relays fa.fd_Net_relays
  b_Net_relays : Binds K fa.fd_Net_relays ["self"] []
  me_Net_relays : Meth K ad.C_Net "relays" fa.a_Net_relays
  F_Net_lamps : Fun K "lamps" "Net.lamps" s_Net_lamps fa.a_Net_lamps fa.fd_Net_lamps
  b_Net_lamps : Binds K fa.fd_Net_lamps ["self"] []
  me_Net_lamps : Meth K ad.C_Net "lamps" fa.a_Net_lamps
  F_Net_nodes : Fun K "nodes" "Net.nodes" s_Net_nodes fa.a_Net_nodes fa.fd_Net_nodes
  b_Net_nodes : Binds K fa.fd_Net_nodes ["self"] []
  me_Net_nodes : Meth K ad.C_Net "nodes" fa.a_Net_nodes
  F_Net_pieces : Fun K "pieces" "Net.pieces" s_Net_pieces fa.a_Net_pieces fa.fd_Net_pieces
  b_Net_pieces : Binds K fa.fd_Net_pieces ["self"] []
  me_Net_pieces : Meth K ad.C_Net "pieces" fa.a_Net_pieces
  F_Net_times : Fun K "times" "Net.times" s_Net_times fa.a_Net_times fa.fd_Net_times
  b_Net_times : Binds K fa.fd_Net_times ["self"] []
  me_Net_times : Meth K ad.C_Net "times" fa.a_Net_times
  F_show_net : Fun K "show_net" "show_net" s_show_net fa.a_show_net fa.fd_show_net
  b_show_net : Binds K fa.fd_show_net ["net"] []
  g_show_net : mg "show_net" = some (.ref fa.a_show_net)
  F_want : Fun K "want" "want" s_want fa.a_want fa.fd_want
  b_want : Binds K fa.fd_want ["truth"] []
  g_want : mg "want" = some (.ref fa.a_want)
  F_number_of : Fun K "number_of" "number_of" s_number_of fa.a_number_of fa.fd_number_of
  b_number_of : Binds K fa.fd_number_of ["word"] []
  g_number_of : mg "number_of" = some (.ref fa.a_number_of)
  F_rows_of : Fun K "rows_of" "rows_of" s_rows_of fa.a_rows_of fa.fd_rows_of
  b_rows_of : Binds K fa.fd_rows_of ["text"] []
  g_rows_of : mg "rows_of" = some (.ref fa.a_rows_of)
  F_piece_of : Fun K "piece_of" "piece_of" s_piece_of fa.a_piece_of fa.fd_piece_of
  b_piece_of : Binds K fa.fd_piece_of ["row"] []
  g_piece_of : mg "piece_of" = some (.ref fa.a_piece_of)
  F_relay_of : Fun K "relay_of" "relay_of" s_relay_of fa.a_relay_of fa.fd_relay_of
  b_relay_of : Binds K fa.fd_relay_of ["row"] []
  g_relay_of : mg "relay_of" = some (.ref fa.a_relay_of)
  F_read_net : Fun K "read_net" "read_net" s_read_net fa.a_read_net fa.fd_read_net
  b_read_net : Binds K fa.fd_read_net ["text"] []
  g_read_net : mg "read_net" = some (.ref fa.a_read_net)
  F__law_pot : Fun K "_law_pot" "_law_pot" s__law_pot fa.a__law_pot fa.fd__law_pot
  b__law_pot : Binds K fa.fd__law_pot ["_law_script", "_law_k"] []
  g__law_pot : mg "_law_pot" = some (.ref fa.a__law_pot)
  F__law_take : Fun K "_law_take" "_law_take" s__law_take fa.a__law_take fa.fd__law_take
  b__law_take : Binds K fa.fd__law_take ["_law_pot_here", "_law_many"] []
  g__law_take : mg "_law_take" = some (.ref fa.a__law_take)
  F__law_word : Fun K "_law_word" "_law_word" s__law_word fa.a__law_word fa.fd__law_word
  b__law_word : Binds K fa.fd__law_word ["_law_pot_here", "_law_taken"] []
  g__law_word : mg "_law_word" = some (.ref fa.a__law_word)
  F__law_unlike : Fun K "_law_unlike" "_law_unlike" s__law_unlike fa.a__law_unlike fa.fd__law_unlike
  b__law_unlike : Binds K fa.fd__law_unlike ["_law_pot_here", "_law_nodes", "_law_many"] []
  g__law_unlike : mg "_law_unlike" = some (.ref fa.a__law_unlike)
  F__law_piece : Fun K "_law_piece" "_law_piece" s__law_piece fa.a__law_piece fa.fd__law_piece
  b__law_piece : Binds K fa.fd__law_piece ["_law_pot_here", "_law_names", "_law_nodes"] []
  g__law_piece : mg "_law_piece" = some (.ref fa.a__law_piece)
  F__law_times : Fun K "_law_times" "_law_times" s__law_times fa.a__law_times fa.fd__law_times
  b__law_times : Binds K fa.fd__law_times ["_law_pot_here"] []
  g__law_times : mg "_law_times" = some (.ref fa.a__law_times)
  F__law_net : Fun K "_law_net" "_law_net" s__law_net fa.a__law_net fa.fd__law_net
  b__law_net : Binds K fa.fd__law_net ["_law_pot_here", "_law_most"] []
  g__law_net : mg "_law_net" = some (.ref fa.a__law_net)
  F__law_copy : Fun K "_law_copy" "_law_copy" s__law_copy fa.a__law_copy fa.fd__law_copy
  b__law_copy : Binds K fa.fd__law_copy ["_law_things"] []
  g__law_copy : mg "_law_copy" = some (.ref fa.a__law_copy)
  F__law_made : Fun K "_law_made" "_law_made" s__law_made fa.a__law_made fa.fd__law_made
  b__law_made : Binds K fa.fd__law_made ["_law_things"] []
  g__law_made : mg "_law_made" = some (.ref fa.a__law_made)
  F__law_told : Fun K "_law_told" "_law_told" s__law_told fa.a__law_told fa.fd__law_told
  b__law_told : Binds K fa.fd__law_told ["_law_net_here"] []
  g__law_told : mg "_law_told" = some (.ref fa.a__law_told)
  F__law_text : Fun K "_law_text" "_law_text" s__law_text fa.a__law_text fa.fd__law_text
  b__law_text : Binds K fa.fd__law_text ["_law_things"] []
  g__law_text : mg "_law_text" = some (.ref fa.a__law_text)
  F_law : Fun K "law" "law" s_law fa.a_law fa.fd_law
  b_law : Binds K fa.fd_law ["_law_script"] []
  g_law : mg "law" = some (.ref fa.a_law)
  cl_Net : Cls K ad.C_Net
  g_Net : mg "Net" = some (.ref ad.C_Net)
  mk_Net : Mk K ad.C_Net fa.a_Net___init__
  na_Net_own_keys : NoAttr K ad.C_Net "own_keys"
  na_Net_own_relays : NoAttr K ad.C_Net "own_relays"
  na_Net_own_lamps : NoAttr K ad.C_Net "own_lamps"
  na_Net_node_count : NoAttr K ad.C_Net "node_count"
  na_Net_piece_rows : NoAttr K ad.C_Net "piece_rows"
  na_Net_time_rows : NoAttr K ad.C_Net "time_rows"
  ct_Net : ClsT K ad.C_Net
  g_MOST_LETTERS : ∃ t, mg "MOST_LETTERS" = some (.int 8 t)
  g_LETTERS : ∃ t, mg "LETTERS" = some (.str "abcdefghijklmnopqrstuvwxyz" t)
  g_MOST_LAMPS : ∃ t, mg "MOST_LAMPS" = some (.int 2 t)
  g_MOST_RELAYS : ∃ t, mg "MOST_RELAYS" = some (.int 4 t)
  g_MOST_KEYS : ∃ t, mg "MOST_KEYS" = some (.int 2 t)
  g_LEAST_NODES : ∃ t, mg "LEAST_NODES" = some (.int 2 t)
  g_MOST_NODES : ∃ t, mg "MOST_NODES" = some (.int 640 t)
  g_MOST_PIECES : ∃ t, mg "MOST_PIECES" = some (.int 800 t)
  g_MOST_TIME : ∃ t, mg "MOST_TIME" = some (.int 4 t)
  g_FIGURES : ∃ t, mg "FIGURES" = some (.str "0123456789" t)
  g_PARTS : mg "PARTS" = some (.ref ad.d_PARTS)
  t_PARTS : Tab K w ad.d_PARTS partsP
  z_len : mg "len" = none
  z_all : mg "all" = none
  z_isinstance : mg "isinstance" = none
  z_int : mg "int" = none
  z_bool : mg "bool" = none
  z_enumerate : mg "enumerate" = none
  z_set : mg "set" = none
  z_list : mg "list" = none
  z_zip : mg "zip" = none
  z_str : mg "str" = none
  z_tuple : mg "tuple" = none
  z_abs : mg "abs" = none
  z_max : mg "max" = none
  z_divmod : mg "divmod" = none
  z_range : mg "range" = none
  z_min : mg "min" = none
  z_repr : mg "repr" = none
section
variable {P : Program} {w : World} {K : PySem.W.Frag} {mg : Str → Option Value} {base : Heap} {ad : Ad} {fa : Fa}
set_option maxHeartbeats 4000000 in
theorem w_is_word (T : Txt ad fa K w mg) (cdv : Value) (A : Around) (outer : List Env) (s : Shared) (H : Hp) (E : XK) (hr : Room 0 (A.deeper (envOfC "is_word" (defScope s_is_word) s.heap.objs.size fa.a_is_word cdv))) : B3 (cxOf CX0 P w K mg base N_is_word "is_word" (defScope s_is_word) fa.a_is_word cdv A outer s H E).nox (defBody s_is_word) (t_is_word ad) := by
  have hu := hr.units
  have hu1 := hu_of hr
  exact (b3_one (s3_ret (e3_and (e3_chain op_le3 op_le3 e3_int (e3_callB c3_len (by rfl) T.z_len (by decide +kernel) (a3_cons (e3_var 0) a3_nil)) (e3_gint (by rfl) T.g_MOST_LETTERS)) (e3_bop1 (e3_callB (c3_all rfl) (by rfl) T.z_all (by decide +kernel) (a3_cons (e3_lc (own := [("sign", 1)]) rfl sc_is_word.nd (i3_src (e3_var 0)) (blkOk_by (own := [("sign", 1)]) (N := N_is_word) (sc := (defScope s_is_word)) (by decide +kernel)) (fun _ _ _ _ _ => (g3_nm sc_is_word.nd rfl (Or.inl rfl))) (fun _ _ _ _ _ => ts3_nil) (fun _ _ _ _ _ => (e3_cmp op_in3 (e3_var 1) (e3_gstr (by rfl) T.g_LETTERS))) (by simp [Tg.slots, slotsA])) a3_nil))))))
theorem ok_is_word (T : Txt ad fa K w mg) : FnOk P w K mg base CX0 1 fa.a_is_word fa.fd_is_word ["text"] (sp3 K (sp_is_word ad)) :=
  ok3 T.F_is_word sc_is_word (fun _ _ _ _ h => len_is_word h) fun cdv A outer s H E hr => ⟨_, w_is_word T cdv A outer s H E hr, fun _ _ _ _ h => r_is_word h⟩
set_option maxHeartbeats 4000000 in
theorem w_is_whole (T : Txt ad fa K w mg) (cdv : Value) (A : Around) (outer : List Env) (s : Shared) (H : Hp) (E : XK) (hr : Room 0 (A.deeper (envOfC "is_whole" (defScope s_is_whole) s.heap.objs.size fa.a_is_whole cdv))) : B3 (cxOf CX0 P w K mg base N_is_whole "is_whole" (defScope s_is_whole) fa.a_is_whole cdv A outer s H E).nox (defBody s_is_whole) (t_is_whole ad) := by
  have hu := hr.units
  have hu1 := hu_of hr
  exact (b3_one (s3_ret (e3_and (e3_callB c3_isi (by rfl) T.z_isinstance (by decide +kernel) (a3_cons (e3_var 0) (a3_cons (e3_con (pe_bltn (v := .ty "int") (by rfl) T.z_int (by decide +kernel) rfl) fun _ => .ty _) a3_nil))) (e3_bop1 (e3_not (e3_callB c3_isi (by rfl) T.z_isinstance (by decide +kernel) (a3_cons (e3_var 0) (a3_cons (e3_con (pe_bltn (v := .ty "bool") (by rfl) T.z_bool (by decide +kernel) rfl) fun _ => .ty _) a3_nil))))))))
theorem ok_is_whole (T : Txt ad fa K w mg) : FnOk P w K mg base CX0 1 fa.a_is_whole fa.fd_is_whole ["thing"] (sp3 K (sp_is_whole ad)) :=
  ok3 T.F_is_whole sc_is_whole (fun _ _ _ _ h => len_is_whole h) fun cdv A outer s H E hr => ⟨_, w_is_whole T cdv A outer s H E hr, fun _ _ _ _ h => r_is_whole h⟩
set_option maxHeartbeats 4000000 in
theorem w_word_fault (T : Txt ad fa K w mg) (cdv : Value) (A : Around) (outer : List Env) (s : Shared) (H : Hp) (E : XK) (hr : Room 1 (A.deeper (envOfC "word_fault" (defScope s_word_fault) s.heap.objs.size fa.a_word_fault cdv))) : B3 (cxOf CX0 P w K mg base N_word_fault "word_fault" (defScope s_word_fault) fa.a_word_fault cdv A outer s H E).nox (defBody s_word_fault) (t_word_fault ad) := by
  have hu := hr.units
  have hu1 := hu_of hr
  exact (b3_cons (s3_for PassesOwn.never rfl (i3_enum (by rfl) T.z_enumerate (a3_cons (e3_var 0) a3_nil)) (g3_tp rfl (gs3_cons (g3_nm sc_word_fault.nd rfl (Or.inl rfl)) (gs3_cons (g3_nm sc_word_fault.nd rfl (Or.inl rfl)) gs3_nil)) rfl) (b3_one (s3_if (PW.pt (w3_or (t3_not (t3_tru (e3_call (ok_is_word T) (hr.mono (by decide)) (by rfl) T.g_is_word T.F_is_word.kp T.b_is_word (a3_cons (e3_var 2) a3_nil)))) (w3_or1 (t3_cmp op_in3 (e3_var 2) (e3_sl (e3_var 0) o3_none (o3_some (e3_var 1))))))) (b3_one (s3_ret (e3_tup (a3_cons e3_str (a3_cons (e3_var 1) a3_nil))))) b3_nil)))
    (b3_one (s3_ret e3_non)))
theorem ok_word_fault (T : Txt ad fa K w mg) : FnOk P w K mg base CX0 2 fa.a_word_fault fa.fd_word_fault ["words"] (sp3 K (sp_word_fault ad)) :=
  ok3 T.F_word_fault sc_word_fault (fun _ _ _ _ h => len_word_fault h) fun cdv A outer s H E hr => ⟨_, w_word_fault T cdv A outer s H E hr, fun _ _ _ _ h => r_word_fault h⟩
set_option maxHeartbeats 4000000 in
theorem w_many_fault (T : Txt ad fa K w mg) (cdv : Value) (A : Around) (outer : List Env) (s : Shared) (H : Hp) (E : XK) (hr : Room 0 (A.deeper (envOfC "many_fault" (defScope s_many_fault) s.heap.objs.size fa.a_many_fault cdv))) : B3 (cxOf CX0 P w K mg base N_many_fault "many_fault" (defScope s_many_fault) fa.a_many_fault cdv A outer s H E).nox (defBody s_many_fault) (t_many_fault ad) := by
  have hu := hr.units
  have hu1 := hu_of hr
  exact (b3_cons (s3_for PassesOwn.never rfl (i3_enum (by rfl) T.z_enumerate (a3_cons (e3_lst (a3_cons (e3_tup (a3_cons (e3_var 0) (a3_cons (e3_gint (by rfl) T.g_MOST_KEYS) a3_nil))) (a3_cons (e3_tup (a3_cons (e3_var 1) (a3_cons (e3_gint (by rfl) T.g_MOST_RELAYS) a3_nil))) (a3_cons (e3_tup (a3_cons (e3_var 2) (a3_cons (e3_gint (by rfl) T.g_MOST_LAMPS) a3_nil))) a3_nil)))) a3_nil)) (g3_tp rfl (gs3_cons (g3_nm sc_many_fault.nd rfl (Or.inl rfl)) (gs3_cons (g3_tp rfl (gs3_cons (g3_nm sc_many_fault.nd rfl (Or.inl rfl)) (gs3_cons (g3_nm sc_many_fault.nd rfl (Or.inl rfl)) gs3_nil)) rfl) gs3_nil)) rfl) (b3_one (s3_if (t3_cmp op_gt3 (e3_callB c3_len (by rfl) T.z_len (by decide +kernel) (a3_cons (e3_var 4) a3_nil)) (e3_var 5)) (b3_one (s3_ret (e3_tup (a3_cons e3_str (a3_cons (e3_var 3) a3_nil))))) b3_nil)))
    (b3_one (s3_ret e3_non)))
theorem ok_many_fault (T : Txt ad fa K w mg) : FnOk P w K mg base CX0 1 fa.a_many_fault fa.fd_many_fault ["keys", "relays", "lamps"] (sp3 K (sp_many_fault ad)) :=
  ok3 T.F_many_fault sc_many_fault (fun _ _ _ _ h => len_many_fault h) fun cdv A outer s H E hr => ⟨_, w_many_fault T cdv A outer s H E hr, fun _ _ _ _ h => r_many_fault h⟩
set_option maxHeartbeats 4000000 in
theorem w_size_fault (T : Txt ad fa K w mg) (cdv : Value) (A : Around) (outer : List Env) (s : Shared) (H : Hp) (E : XK) (hr : Room 0 (A.deeper (envOfC "size_fault" (defScope s_size_fault) s.heap.objs.size fa.a_size_fault cdv))) : B3 (cxOf CX0 P w K mg base N_size_fault "size_fault" (defScope s_size_fault) fa.a_size_fault cdv A outer s H E).nox (defBody s_size_fault) (t_size_fault ad) := by
  have hu := hr.units
  have hu1 := hu_of hr
  exact (b3_cons (s3_if (t3_not (t3_chain op_le3 op_le3 (e3_gint (by rfl) T.g_LEAST_NODES) (e3_var 0) (e3_gint (by rfl) T.g_MOST_NODES))) (b3_one (s3_ret (e3_tup (a3_cons e3_str (a3_cons (e3_var 0) a3_nil))))) b3_nil)
    (b3_cons (s3_if (t3_cmp op_gt3 (e3_callB c3_len (by rfl) T.z_len (by decide +kernel) (a3_cons (e3_var 1) a3_nil)) (e3_gint (by rfl) T.g_MOST_PIECES)) (b3_one (s3_ret (e3_tup (a3_cons e3_str (a3_cons (e3_callB c3_len (by rfl) T.z_len (by decide +kernel) (a3_cons (e3_var 1) a3_nil)) a3_nil))))) b3_nil)
    (b3_one (s3_ret e3_non))))
theorem ok_size_fault (T : Txt ad fa K w mg) : FnOk P w K mg base CX0 1 fa.a_size_fault fa.fd_size_fault ["nodes", "pieces"] (sp3 K (sp_size_fault ad)) :=
  ok3 T.F_size_fault sc_size_fault (fun _ _ _ _ h => len_size_fault h) fun cdv A outer s H E hr => ⟨_, w_size_fault T cdv A outer s H E hr, fun _ _ _ _ h => r_size_fault h⟩
set_option maxHeartbeats 4000000 in
theorem w_are_nodes (T : Txt ad fa K w mg) (cdv : Value) (A : Around) (outer : List Env) (s : Shared) (H : Hp) (E : XK) (hr : Room 1 (A.deeper (envOfC "are_nodes" (defScope s_are_nodes) s.heap.objs.size fa.a_are_nodes cdv))) : B3 (cxOf CX0 P w K mg base N_are_nodes "are_nodes" (defScope s_are_nodes) fa.a_are_nodes cdv A outer s H E).nox (defBody s_are_nodes) (t_are_nodes ad) := by
  have hu := hr.units
  have hu1 := hu_of hr
  exact (b3_cons (s3_if (t3_not (t3_tru (e3_callB (c3_all rfl) (by rfl) T.z_all (by decide +kernel) (a3_cons (e3_lc (own := [("part", 2)]) rfl sc_are_nodes.nd (i3_src (e3_var 0)) (blkOk_by (own := [("part", 2)]) (N := N_are_nodes) (sc := (defScope s_are_nodes)) (by decide +kernel)) (fun _ _ _ _ _ => (g3_nm sc_are_nodes.nd rfl (Or.inl rfl))) (fun _ _ _ _ _ => ts3_nil) (fun _ _ _ _ _ => (e3_and (e3_call (ok_is_whole T) (hr.mono (by decide)) (by rfl) T.g_is_whole T.F_is_whole.kp T.b_is_whole (a3_cons (e3_var 2) a3_nil)) (e3_bop1 (e3_chain op_le3 op_lt3 e3_int (e3_var 2) (e3_var 1))))) (by simp [Tg.slots, slotsA])) a3_nil)))) (b3_one (s3_ret e3_bl)) b3_nil)
    (b3_one (s3_ret (e3_cmp (op_eq3 hu) (e3_lenset (by rfl) T.z_len (by rfl) T.z_set (e3_var 0)) (e3_callB c3_len (by rfl) T.z_len (by decide +kernel) (a3_cons (e3_var 0) a3_nil))))))
theorem ok_are_nodes (T : Txt ad fa K w mg) : FnOk P w K mg base CX0 2 fa.a_are_nodes fa.fd_are_nodes ["parts", "nodes"] (sp3 K (sp_are_nodes ad)) :=
  ok3 T.F_are_nodes sc_are_nodes (fun _ _ _ _ h => len_are_nodes h) fun cdv A outer s H E hr => ⟨_, w_are_nodes T cdv A outer s H E hr, fun _ _ _ _ h => r_are_nodes h⟩
set_option maxHeartbeats 4000000 in
theorem w_names_of_kind (T : Txt ad fa K w mg) (cdv : Value) (A : Around) (outer : List Env) (s : Shared) (H : Hp) (E : XK) (hr : Room 0 (A.deeper (envOfC "names_of_kind" (defScope s_names_of_kind) s.heap.objs.size fa.a_names_of_kind cdv))) : B3 (cxOf CX0 P w K mg base N_names_of_kind "names_of_kind" (defScope s_names_of_kind) fa.a_names_of_kind cdv A outer s H E).nox (defBody s_names_of_kind) (t_names_of_kind ad) := by
  have hu := hr.units
  have hu1 := hu_of hr
  exact (b3_cons (s3_if (t3_cmp (op_eq3 hu) (e3_var 0) e3_str) (b3_one (s3_ret (e3_var 2))) b3_nil)
    (b3_one (s3_ret (e3_if (t3_cmp (op_eq3 hu) (e3_var 0) e3_str) (e3_var 3) (e3_op op_add3 (e3_var 1) (e3_var 2))))))
theorem ok_names_of_kind (T : Txt ad fa K w mg) : FnOk P w K mg base CX0 1 fa.a_names_of_kind fa.fd_names_of_kind ["word", "keys", "relays", "lamps"] (sp3 K (sp_names_of_kind ad)) :=
  ok3 T.F_names_of_kind sc_names_of_kind (fun _ _ _ _ h => len_names_of_kind h) fun cdv A outer s H E hr => ⟨_, w_names_of_kind T cdv A outer s H E hr, fun _ _ _ _ h => r_names_of_kind h⟩
set_option maxHeartbeats 4000000 in
theorem w_is_piece (T : Txt ad fa K w mg) (cdv : Value) (A : Around) (outer : List Env) (s : Shared) (H : Hp) (E : XK) (hr : Room 2 (A.deeper (envOfC "is_piece" (defScope s_is_piece) s.heap.objs.size fa.a_is_piece cdv))) : B3 (cxOf CX0 P w K mg base N_is_piece "is_piece" (defScope s_is_piece) fa.a_is_piece cdv A outer s H E).nox (defBody s_is_piece) (t_is_piece ad) := by
  have hu := hr.units
  have hu1 := hu_of hr
  exact (b3_cons (s3_if (PW.pt (w3_or (t3_cmp (op_eq3 hu) (e3_var 0) (e3_tup a3_nil)) (w3_or1 (t3_cmpX (op_notintab3 T.t_PARTS) (e3_ix (e3_var 0) e3_int) (e3_con (pe_glob (v := .ref ad.d_PARTS) (by rfl) T.g_PARTS rfl) fun _ => .ref _))))) (b3_one (s3_ret e3_bl)) b3_nil)
    (b3_cons (s3_asg (e3_tabix T.t_PARTS (e3_con (pe_glob (v := .ref ad.d_PARTS) (by rfl) T.g_PARTS rfl) fun _ => .ref _) (e3_ix (e3_var 0) e3_int)) (g3_tp rfl (gs3_cons (g3_nm sc_is_piece.nd rfl (Or.inl rfl)) (gs3_cons (g3_nm sc_is_piece.nd rfl (Or.inl rfl)) gs3_nil)) rfl))
    (b3_cons (s3_if (t3_cmp (op_ne3 hu) (e3_callB c3_len (by rfl) T.z_len (by decide +kernel) (a3_cons (e3_var 0) a3_nil)) (e3_op op_add3 (e3_op op_add3 e3_int (e3_var 5)) (e3_var 6))) (b3_one (s3_ret e3_bl)) b3_nil)
    (b3_cons (s3_if (PW.pt (w3_and (t3_cmp (op_eq3 hu) (e3_var 5) e3_int) (w3_and1 (t3_cmp op_notin3 (e3_ix (e3_var 0) e3_int) (e3_call (ok_names_of_kind T) (hr.mono (by decide)) (by rfl) T.g_names_of_kind T.F_names_of_kind.kp T.b_names_of_kind (a3_cons (e3_ix (e3_var 0) e3_int) (a3_cons (e3_var 1) (a3_cons (e3_var 2) (a3_cons (e3_var 3) a3_nil))))))))) (b3_one (s3_ret e3_bl)) b3_nil)
    (b3_one (s3_ret (e3_call (ok_are_nodes T) (hr.mono (by decide)) (by rfl) T.g_are_nodes T.F_are_nodes.kp T.b_are_nodes (a3_cons (e3_sl (e3_var 0) (o3_some (e3_op op_add3 e3_int (e3_var 5))) o3_none) (a3_cons (e3_var 4) a3_nil)))))))))
theorem ok_is_piece (T : Txt ad fa K w mg) : FnOk P w K mg base CX0 3 fa.a_is_piece fa.fd_is_piece ["piece", "keys", "relays", "lamps", "nodes"] (sp3 K (sp_is_piece ad)) :=
  ok3 T.F_is_piece sc_is_piece (fun _ _ _ _ h => len_is_piece h) fun cdv A outer s H E hr => ⟨_, w_is_piece T cdv A outer s H E hr, fun _ _ _ _ h => r_is_piece h⟩
set_option maxHeartbeats 4000000 in
theorem w_only_fault (T : Txt ad fa K w mg) (cdv : Value) (A : Around) (outer : List Env) (s : Shared) (H : Hp) (E : XK) (hr : Room 0 (A.deeper (envOfC "only_fault" (defScope s_only_fault) s.heap.objs.size fa.a_only_fault cdv))) : B3 (cxOf CX0 P w K mg base N_only_fault "only_fault" (defScope s_only_fault) fa.a_only_fault cdv A outer s H E).nox (defBody s_only_fault) (t_only_fault ad) := by
  have hu := hr.units
  have hu1 := hu_of hr
  exact (b3_cons (s3_for PassesOwn.never rfl (i3_enum (by rfl) T.z_enumerate (a3_cons (e3_var 1) a3_nil)) (g3_tp rfl (gs3_cons (g3_nm sc_only_fault.nd rfl (Or.inl rfl)) (gs3_cons (g3_nm sc_only_fault.nd rfl (Or.inr rfl)) gs3_nil)) rfl) (b3_one (s3_if (t3_cmp (op_ne3 hu) (e3_callB c3_len (by rfl) T.z_len (by decide +kernel) (a3_cons (e3_lc (own := [("piece", 5)]) rfl sc_only_fault.nd (i3_src (e3_var 2)) (blkOk_by (own := [("piece", 5)]) (N := N_only_fault) (sc := (defScope s_only_fault)) (by decide +kernel)) (fun _ _ _ _ _ => (g3_nm sc_only_fault.nd rfl (Or.inl rfl))) (fun _ _ _ _ _ => (ts3_one (t3_cmp (op_eq3 hu) (e3_sl (e3_var 5) o3_none (o3_some e3_int)) (e3_tup (a3_cons (e3_var 0) (a3_cons (e3_var 4) a3_nil)))))) (fun _ _ _ _ _ => (e3_var 5)) (by simp [Tg.slots, slotsA])) a3_nil)) e3_int) (b3_one (s3_ret (e3_tup (a3_cons (e3_var 0) (a3_cons (e3_var 3) a3_nil))))) b3_nil)))
    (b3_one (s3_ret e3_non)))
theorem ok_only_fault (T : Txt ad fa K w mg) : FnOk P w K mg base CX0 1 fa.a_only_fault fa.fd_only_fault ["word", "names", "pieces"] (sp3 K (sp_only_fault ad)) :=
  ok3 T.F_only_fault sc_only_fault (fun _ _ _ _ h => len_only_fault h) fun cdv A outer s H E hr => ⟨_, w_only_fault T cdv A outer s H E hr, fun _ _ _ _ h => r_only_fault h⟩
set_option maxHeartbeats 4000000 in
theorem w_piece_fault (T : Txt ad fa K w mg) (cdv : Value) (A : Around) (outer : List Env) (s : Shared) (H : Hp) (E : XK) (hr : Room 3 (A.deeper (envOfC "piece_fault" (defScope s_piece_fault) s.heap.objs.size fa.a_piece_fault cdv))) : B3 (cxOf CX0 P w K mg base N_piece_fault "piece_fault" (defScope s_piece_fault) fa.a_piece_fault cdv A outer s H E).nox (defBody s_piece_fault) (t_piece_fault ad) := by
  have hu := hr.units
  have hu1 := hu_of hr
  exact (b3_cons (s3_for PassesOwn.never rfl (i3_enum (by rfl) T.z_enumerate (a3_cons (e3_var 4) a3_nil)) (g3_tp rfl (gs3_cons (g3_nm sc_piece_fault.nd rfl (Or.inl rfl)) (gs3_cons (g3_nm sc_piece_fault.nd rfl (Or.inl rfl)) gs3_nil)) rfl) (b3_one (s3_if (t3_not (t3_tru (e3_call (ok_is_piece T) (hr.mono (by decide)) (by rfl) T.g_is_piece T.F_is_piece.kp T.b_is_piece (a3_cons (e3_var 6) (a3_cons (e3_var 0) (a3_cons (e3_var 1) (a3_cons (e3_var 2) (a3_cons (e3_var 3) a3_nil)))))))) (b3_one (s3_ret (e3_tup (a3_cons e3_str (a3_cons (e3_var 5) a3_nil))))) b3_nil)))
    (b3_one (s3_ret (e3_or (e3_call (ok_only_fault T) (hr.mono (by decide)) (by rfl) T.g_only_fault T.F_only_fault.kp T.b_only_fault (a3_cons e3_str (a3_cons (e3_var 1) (a3_cons (e3_var 4) a3_nil)))) (e3_bop1 (e3_call (ok_only_fault T) (hr.mono (by decide)) (by rfl) T.g_only_fault T.F_only_fault.kp T.b_only_fault (a3_cons e3_str (a3_cons (e3_var 2) (a3_cons (e3_var 4) a3_nil)))))))))
theorem ok_piece_fault (T : Txt ad fa K w mg) : FnOk P w K mg base CX0 4 fa.a_piece_fault fa.fd_piece_fault ["keys", "relays", "lamps", "nodes", "pieces"] (sp3 K (sp_piece_fault ad)) :=
  ok3 T.F_piece_fault sc_piece_fault (fun _ _ _ _ h => len_piece_fault h) fun cdv A outer s H E hr => ⟨_, w_piece_fault T cdv A outer s H E hr, fun _ _ _ _ h => r_piece_fault h⟩
set_option maxHeartbeats 4000000 in
theorem w_are_times (T : Txt ad fa K w mg) (cdv : Value) (A : Around) (outer : List Env) (s : Shared) (H : Hp) (E : XK) (hr : Room 0 (A.deeper (envOfC "are_times" (defScope s_are_times) s.heap.objs.size fa.a_are_times cdv))) : B3 (cxOf CX0 P w K mg base N_are_times "are_times" (defScope s_are_times) fa.a_are_times cdv A outer s H E).nox (defBody s_are_times) (t_are_times ad) := by
  have hu := hr.units
  have hu1 := hu_of hr
  exact (b3_cons (s3_if (PW.pt (w3_or (t3_cmp (op_ne3 hu) (e3_callB c3_len (by rfl) T.z_len (by decide +kernel) (a3_cons (e3_var 0) a3_nil)) e3_int) (w3_or1 (t3_not (t3_tru (e3_callB (c3_all rfl) (by rfl) T.z_all (by decide +kernel) (a3_cons (e3_lc (own := [("time", 1)]) rfl sc_are_times.nd (i3_src (e3_var 0)) (blkOk_by (own := [("time", 1)]) (N := N_are_times) (sc := (defScope s_are_times)) (by decide +kernel)) (fun _ _ _ _ _ => (g3_nm sc_are_times.nd rfl (Or.inl rfl))) (fun _ _ _ _ _ => ts3_nil) (fun _ _ _ _ _ => (e3_chain op_le3 op_le3 e3_int (e3_var 1) (e3_gint (by rfl) T.g_MOST_TIME))) (by simp [Tg.slots, slotsA])) a3_nil))))))) (b3_one (s3_ret e3_bl)) b3_nil)
    (b3_one (s3_ret (e3_and (e3_cmp op_le3 (e3_ix (e3_var 0) e3_int) (e3_ix (e3_var 0) e3_int)) (e3_bop1 (e3_cmp op_le3 (e3_ix (e3_var 0) e3_int) (e3_ix (e3_var 0) e3_int)))))))
theorem ok_are_times (T : Txt ad fa K w mg) : FnOk P w K mg base CX0 1 fa.a_are_times fa.fd_are_times ["times"] (sp3 K (sp_are_times ad)) :=
  ok3 T.F_are_times sc_are_times (fun _ _ _ _ h => len_are_times h) fun cdv A outer s H E hr => ⟨_, w_are_times T cdv A outer s H E hr, fun _ _ _ _ h => r_are_times h⟩
set_option maxHeartbeats 4000000 in
theorem w_time_fault (T : Txt ad fa K w mg) (cdv : Value) (A : Around) (outer : List Env) (s : Shared) (H : Hp) (E : XK) (hr : Room 1 (A.deeper (envOfC "time_fault" (defScope s_time_fault) s.heap.objs.size fa.a_time_fault cdv))) : B3 (cxOf CX0 P w K mg base N_time_fault "time_fault" (defScope s_time_fault) fa.a_time_fault cdv A outer s H E).nox (defBody s_time_fault) (t_time_fault ad) := by
  have hu := hr.units
  have hu1 := hu_of hr
  exact (b3_cons (s3_for PassesOwn.never rfl (i3_enum (by rfl) T.z_enumerate (a3_cons (e3_sl (e3_var 1) o3_none (o3_some (e3_callB c3_len (by rfl) T.z_len (by decide +kernel) (a3_cons (e3_var 0) a3_nil)))) a3_nil)) (g3_tp rfl (gs3_cons (g3_nm sc_time_fault.nd rfl (Or.inl rfl)) (gs3_cons (g3_nm sc_time_fault.nd rfl (Or.inl rfl)) gs3_nil)) rfl) (b3_one (s3_if (t3_not (t3_tru (e3_call (ok_are_times T) (hr.mono (by decide)) (by rfl) T.g_are_times T.F_are_times.kp T.b_are_times (a3_cons (e3_var 3) a3_nil)))) (b3_one (s3_ret (e3_tup (a3_cons e3_str (a3_cons (e3_var 2) a3_nil))))) b3_nil)))
    (b3_one (s3_ret (e3_if (t3_cmp (op_ne3 hu) (e3_callB c3_len (by rfl) T.z_len (by decide +kernel) (a3_cons (e3_var 1) a3_nil)) (e3_callB c3_len (by rfl) T.z_len (by decide +kernel) (a3_cons (e3_var 0) a3_nil))) (e3_tup (a3_cons e3_str (a3_cons (e3_callB c3_len (by rfl) T.z_len (by decide +kernel) (a3_cons (e3_var 1) a3_nil)) a3_nil))) e3_non))))
theorem ok_time_fault (T : Txt ad fa K w mg) : FnOk P w K mg base CX0 2 fa.a_time_fault fa.fd_time_fault ["relays", "times"] (sp3 K (sp_time_fault ad)) :=
  ok3 T.F_time_fault sc_time_fault (fun _ _ _ _ h => len_time_fault h) fun cdv A outer s H E hr => ⟨_, w_time_fault T cdv A outer s H E hr, fun _ _ _ _ h => r_time_fault h⟩
set_option maxHeartbeats 4000000 in
theorem w_net_fault (T : Txt ad fa K w mg) (cdv : Value) (A : Around) (outer : List Env) (s : Shared) (H : Hp) (E : XK) (hr : Room 4 (A.deeper (envOfC "net_fault" (defScope s_net_fault) s.heap.objs.size fa.a_net_fault cdv))) : B3 (cxOf CX0 P w K mg base N_net_fault "net_fault" (defScope s_net_fault) fa.a_net_fault cdv A outer s H E).nox (defBody s_net_fault) (t_net_fault ad) := by
  have hu := hr.units
  have hu1 := hu_of hr
  exact (b3_cons (s3_set (i := 6) sc_net_fault.nd rfl (Or.inl rfl) (e3_or (e3_call (ok_word_fault T) (hr.mono (by decide)) (by rfl) T.g_word_fault T.F_word_fault.kp T.b_word_fault (a3_cons (e3_op op_add3 (e3_op op_add3 (e3_var 0) (e3_var 1)) (e3_var 2)) a3_nil)) (e3_or (e3_call (ok_many_fault T) (hr.mono (by decide)) (by rfl) T.g_many_fault T.F_many_fault.kp T.b_many_fault (a3_cons (e3_var 0) (a3_cons (e3_var 1) (a3_cons (e3_var 2) a3_nil)))) (e3_bop1 (e3_call (ok_size_fault T) (hr.mono (by decide)) (by rfl) T.g_size_fault T.F_size_fault.kp T.b_size_fault (a3_cons (e3_var 3) (a3_cons (e3_var 4) a3_nil)))))))
    (b3_one (s3_ret (e3_or (e3_var 6) (e3_or (e3_call (ok_piece_fault T) (hr.mono (by decide)) (by rfl) T.g_piece_fault T.F_piece_fault.kp T.b_piece_fault (a3_cons (e3_var 0) (a3_cons (e3_var 1) (a3_cons (e3_var 2) (a3_cons (e3_var 3) (a3_cons (e3_var 4) a3_nil)))))) (e3_bop1 (e3_call (ok_time_fault T) (hr.mono (by decide)) (by rfl) T.g_time_fault T.F_time_fault.kp T.b_time_fault (a3_cons (e3_var 1) (a3_cons (e3_var 5) a3_nil)))))))))
theorem ok_net_fault (T : Txt ad fa K w mg) : FnOk P w K mg base CX0 5 fa.a_net_fault fa.fd_net_fault ["keys", "relays", "lamps", "nodes", "pieces", "times"] (sp3 K (sp_net_fault ad)) :=
  ok3 T.F_net_fault sc_net_fault (fun _ _ _ _ h => len_net_fault h) fun cdv A outer s H E hr => ⟨_, w_net_fault T cdv A outer s H E hr, fun _ _ _ _ h => r_net_fault h⟩
set_option maxHeartbeats 4000000 in
theorem w_Net___init__ (T : Txt ad fa K w mg) (cdv : Value) (A : Around) (outer : List Env) (s : Shared) (H : Hp) (E : XK) (hr : Room 5 (A.deeper (envOfC "Net.__init__" (defScope s_Net___init__) s.heap.objs.size fa.a_Net___init__ cdv))) : B3 (cxOf CX0 P w K mg base N_Net___init__ "Net.__init__" (defScope s_Net___init__) fa.a_Net___init__ cdv A outer s H E).nox (defBody s_Net___init__) (t_Net___init__ ad) := by
  have hu := hr.units
  have hu1 := hu_of hr
  exact (b3_cons (s3_set (i := 7) sc_Net___init__.nd rfl (Or.inl rfl) (e3_call (ok_net_fault T) (hr.mono (by decide)) (by rfl) T.g_net_fault T.F_net_fault.kp T.b_net_fault (a3_cons (e3_var 1) (a3_cons (e3_var 2) (a3_cons (e3_var 3) (a3_cons (e3_var 4) (a3_cons (e3_var 5) (a3_cons (e3_var 6) a3_nil))))))))
    (b3_cons (s3_if (t3_cmp op_isnot3 (e3_var 7) e3_non) (b3_one s3_never) b3_nil)
    (b3_cons (s3_fld T.cl_Net T.na_Net_own_keys (e3_var 0) (e3_callTy c3_list (by rfl) T.z_list (by decide +kernel) (a3_cons (e3_var 1) a3_nil)))
    (b3_cons (s3_fld T.cl_Net T.na_Net_own_relays (e3_var 0) (e3_callTy c3_list (by rfl) T.z_list (by decide +kernel) (a3_cons (e3_var 2) a3_nil)))
    (b3_cons (s3_fld T.cl_Net T.na_Net_own_lamps (e3_var 0) (e3_callTy c3_list (by rfl) T.z_list (by decide +kernel) (a3_cons (e3_var 3) a3_nil)))
    (b3_cons (s3_fld T.cl_Net T.na_Net_node_count (e3_var 0) (e3_var 4))
    (b3_cons (s3_fld T.cl_Net T.na_Net_piece_rows (e3_var 0) (e3_callTy c3_list (by rfl) T.z_list (by decide +kernel) (a3_cons (e3_var 5) a3_nil)))
    (b3_one (s3_fld T.cl_Net T.na_Net_time_rows (e3_var 0) (e3_callTy c3_list (by rfl) T.z_list (by decide +kernel) (a3_cons (e3_var 6) a3_nil)))))))))))
theorem ok_Net___init__ (T : Txt ad fa K w mg) : FnOk P w K mg base CX0 6 fa.a_Net___init__ fa.fd_Net___init__ ["self", "keys", "relays", "lamps", "nodes", "pieces", "times"] (sp3 K (sp_Net___init__ ad)) :=
  ok3 T.F_Net___init__ sc_Net___init__ (fun _ _ _ _ h => len_Net___init__ h) fun cdv A outer s H E hr => ⟨_, w_Net___init__ T cdv A outer s H E hr, fun _ _ _ _ h => r_Net___init__ h⟩
set_option maxHeartbeats 4000000 in
theorem w_Net_key_words (T : Txt ad fa K w mg) (cdv : Value) (A : Around) (outer : List Env) (s : Shared) (H : Hp) (E : XK) (hr : Room 0 (A.deeper (envOfC "Net.key_words" (defScope s_Net_key_words) s.heap.objs.size fa.a_Net_key_words cdv))) : B3 (cxOf CX0 P w K mg base N_Net_key_words "Net.key_words" (defScope s_Net_key_words) fa.a_Net_key_words cdv A outer s H E).nox (defBody s_Net_key_words) (t_Net_key_words ad) := by
  have hu := hr.units
  have hu1 := hu_of hr
  exact (b3_one (s3_ret (e3_callTy c3_list (by rfl) T.z_list (by decide +kernel) (a3_cons (e3_fld T.cl_Net T.na_Net_own_keys (e3_var 0)) a3_nil))))
theorem ok_Net_key_words (T : Txt ad fa K w mg) : FnOk P w K mg base CX0 1 fa.a_Net_key_words fa.fd_Net_key_words ["self"] (sp3 K (sp_Net_key_words ad)) :=
  ok3 T.F_Net_key_words sc_Net_key_words (fun _ _ _ _ h => len_Net_key_words h) fun cdv A outer s H E hr => ⟨_, w_Net_key_words T cdv A outer s H E hr, fun _ _ _ _ h => r_Net_key_words h⟩
set_option maxHeartbeats 4000000 in
theorem w_Net_relays (T : Txt ad fa K w mg) (cdv : Value) (A : Around) (outer : List Env) (s : Shared) (H : Hp) (E : XK) (hr : Room 0 (A.deeper (envOfC "Net.relays" (defScope s_Net_relays) s.heap.objs.size fa.a_Net_relays cdv))) : B3 (cxOf CX0 P w K mg base N_Net_relays "Net.relays" (defScope s_Net_relays) fa.a_Net_relays cdv A outer s H E).nox (defBody s_Net_relays) (t_Net_relays ad) := by
  have hu := hr.units
  have hu1 := hu_of hr
  exact (b3_one (s3_ret (e3_callTy c3_list (by rfl) T.z_list (by decide +kernel) (a3_cons (e3_fld T.cl_Net T.na_Net_own_relays (e3_var 0)) a3_nil))))
theorem ok_Net_relays (T : Txt ad fa K w mg) : FnOk P w K mg base CX0 1 fa.a_Net_relays fa.fd_Net_relays ["self"] (sp3 K (sp_Net_relays ad)) :=
  ok3 T.F_Net_relays sc_Net_relays (fun _ _ _ _ h => len_Net_relays h) fun cdv A outer s H E hr => ⟨_, w_Net_relays T cdv A outer s H E hr, fun _ _ _ _ h => r_Net_relays h⟩
set_option maxHeartbeats 4000000 in
theorem w_Net_lamps (T : Txt ad fa K w mg) (cdv : Value) (A : Around) (outer : List Env) (s : Shared) (H : Hp) (E : XK) (hr : Room 0 (A.deeper (envOfC "Net.lamps" (defScope s_Net_lamps) s.heap.objs.size fa.a_Net_lamps cdv))) : B3 (cxOf CX0 P w K mg base N_Net_lamps "Net.lamps" (defScope s_Net_lamps) fa.a_Net_lamps cdv A outer s H E).nox (defBody s_Net_lamps) (t_Net_lamps ad) := by
  have hu := hr.units
  have hu1 := hu_of hr
  exact (b3_one (s3_ret (e3_callTy c3_list (by rfl) T.z_list (by decide +kernel) (a3_cons (e3_fld T.cl_Net T.na_Net_own_lamps (e3_var 0)) a3_nil))))
theorem ok_Net_lamps (T : Txt ad fa K w mg) : FnOk P w K mg base CX0 1 fa.a_Net_lamps fa.fd_Net_lamps ["self"] (sp3 K (sp_Net_lamps ad)) :=
  ok3 T.F_Net_lamps sc_Net_lamps (fun _ _ _ _ h => len_Net_lamps h) fun cdv A outer s H E hr => ⟨_, w_Net_lamps T cdv A outer s H E hr, fun _ _ _ _ h => r_Net_lamps h⟩
set_option maxHeartbeats 4000000 in
theorem w_Net_nodes (T : Txt ad fa K w mg) (cdv : Value) (A : Around) (outer : List Env) (s : Shared) (H : Hp) (E : XK) (hr : Room 0 (A.deeper (envOfC "Net.nodes" (defScope s_Net_nodes) s.heap.objs.size fa.a_Net_nodes cdv))) : B3 (cxOf CX0 P w K mg base N_Net_nodes "Net.nodes" (defScope s_Net_nodes) fa.a_Net_nodes cdv A outer s H E).nox (defBody s_Net_nodes) (t_Net_nodes ad) := by
  have hu := hr.units
  have hu1 := hu_of hr
  exact (b3_one (s3_ret (e3_fld T.cl_Net T.na_Net_node_count (e3_var 0))))
theorem ok_Net_nodes (T : Txt ad fa K w mg) : FnOk P w K mg base CX0 1 fa.a_Net_nodes fa.fd_Net_nodes ["self"] (sp3 K (sp_Net_nodes ad)) :=
  ok3 T.F_Net_nodes sc_Net_nodes (fun _ _ _ _ h => len_Net_nodes h) fun cdv A outer s H E hr => ⟨_, w_Net_nodes T cdv A outer s H E hr, fun _ _ _ _ h => r_Net_nodes h⟩
set_option maxHeartbeats 4000000 in
theorem w_Net_pieces (T : Txt ad fa K w mg) (cdv : Value) (A : Around) (outer : List Env) (s : Shared) (H : Hp) (E : XK) (hr : Room 0 (A.deeper (envOfC "Net.pieces" (defScope s_Net_pieces) s.heap.objs.size fa.a_Net_pieces cdv))) : B3 (cxOf CX0 P w K mg base N_Net_pieces "Net.pieces" (defScope s_Net_pieces) fa.a_Net_pieces cdv A outer s H E).nox (defBody s_Net_pieces) (t_Net_pieces ad) := by
  have hu := hr.units
  have hu1 := hu_of hr
  exact (b3_one (s3_ret (e3_callTy c3_list (by rfl) T.z_list (by decide +kernel) (a3_cons (e3_fld T.cl_Net T.na_Net_piece_rows (e3_var 0)) a3_nil))))
theorem ok_Net_pieces (T : Txt ad fa K w mg) : FnOk P w K mg base CX0 1 fa.a_Net_pieces fa.fd_Net_pieces ["self"] (sp3 K (sp_Net_pieces ad)) :=
  ok3 T.F_Net_pieces sc_Net_pieces (fun _ _ _ _ h => len_Net_pieces h) fun cdv A outer s H E hr => ⟨_, w_Net_pieces T cdv A outer s H E hr, fun _ _ _ _ h => r_Net_pieces h⟩
set_option maxHeartbeats 4000000 in
theorem w_Net_times (T : Txt ad fa K w mg) (cdv : Value) (A : Around) (outer : List Env) (s : Shared) (H : Hp) (E : XK) (hr : Room 0 (A.deeper (envOfC "Net.times" (defScope s_Net_times) s.heap.objs.size fa.a_Net_times cdv))) : B3 (cxOf CX0 P w K mg base N_Net_times "Net.times" (defScope s_Net_times) fa.a_Net_times cdv A outer s H E).nox (defBody s_Net_times) (t_Net_times ad) := by
  have hu := hr.units
  have hu1 := hu_of hr
  exact (b3_one (s3_ret (e3_callTy c3_list (by rfl) T.z_list (by decide +kernel) (a3_cons (e3_fld T.cl_Net T.na_Net_time_rows (e3_var 0)) a3_nil))))
theorem ok_Net_times (T : Txt ad fa K w mg) : FnOk P w K mg base CX0 1 fa.a_Net_times fa.fd_Net_times ["self"] (sp3 K (sp_Net_times ad)) :=
  ok3 T.F_Net_times sc_Net_times (fun _ _ _ _ h => len_Net_times h) fun cdv A outer s H E hr => ⟨_, w_Net_times T cdv A outer s H E hr, fun _ _ _ _ h => r_Net_times h⟩
set_option maxHeartbeats 4000000 in
theorem w_show_net (T : Txt ad fa K w mg) (cdv : Value) (A : Around) (outer : List Env) (s : Shared) (H : Hp) (E : XK) (hr : Room 1 (A.deeper (envOfC "show_net" (defScope s_show_net) s.heap.objs.size fa.a_show_net cdv))) : B3 (cxOf CX0 P w K mg base N_show_net "show_net" (defScope s_show_net) fa.a_show_net cdv A outer s H E).nox (defBody s_show_net) (t_show_net ad) := by
  have hu := hr.units
  have hu1 := hu_of hr
  exact (b3_cons (s3_set (i := 1) sc_show_net.nd rfl (Or.inl rfl) (e3_lst (a3_cons (e3_op op_add3 (e3_lst (a3_cons e3_str a3_nil)) (e3_meth0 (e3_var 0) T.cl_Net T.me_Net_key_words (ok_Net_key_words T) (hr.mono (by decide)) T.b_Net_key_words)) a3_nil)))
    (b3_cons (s3_for PassesOwn.never rfl (i3_zip (by rfl) T.z_zip (a3_cons (e3_meth0 (e3_var 0) T.cl_Net T.me_Net_relays (ok_Net_relays T) (hr.mono (by decide)) T.b_Net_relays) (a3_cons (e3_meth0 (e3_var 0) T.cl_Net T.me_Net_times (ok_Net_times T) (hr.mono (by decide)) T.b_Net_times) a3_nil))) (g3_tp rfl (gs3_cons (g3_nm sc_show_net.nd rfl (Or.inl rfl)) (gs3_cons (g3_nm sc_show_net.nd rfl (Or.inl rfl)) gs3_nil)) rfl) (b3_one (s3_expr (e3_bm PySem.F.plainAttrs_list PySem.F.slot_list_append PySem.F.type_list_append tyL_list m3_append (e3_var 1) (a3_cons (e3_op op_add3 (e3_lst (a3_cons e3_str (a3_cons (e3_var 2) a3_nil))) (e3_lc (own := [("time", 7)]) rfl sc_show_net.nd (i3_src (e3_var 3)) (blkOk_by (own := [("time", 7)]) (N := N_show_net) (sc := (defScope s_show_net)) (by decide +kernel)) (fun _ _ _ _ _ => (g3_nm sc_show_net.nd rfl (Or.inl rfl))) (fun _ _ _ _ _ => ts3_nil) (fun _ _ _ _ _ => (e3_callTy c3_str (by rfl) T.z_str (by decide +kernel) (a3_cons (e3_var 7) a3_nil))) (by simp [Tg.slots, slotsA]))) a3_nil)))))
    (b3_cons (s3_expr (e3_bm PySem.F.plainAttrs_list PySem.F.slot_list_append PySem.F.type_list_append tyL_list m3_append (e3_var 1) (a3_cons (e3_op op_add3 (e3_lst (a3_cons e3_str a3_nil)) (e3_meth0 (e3_var 0) T.cl_Net T.me_Net_lamps (ok_Net_lamps T) (hr.mono (by decide)) T.b_Net_lamps)) a3_nil)))
    (b3_cons (s3_expr (e3_bm PySem.F.plainAttrs_list PySem.F.slot_list_append PySem.F.type_list_append tyL_list m3_append (e3_var 1) (a3_cons (e3_lst (a3_cons e3_str (a3_cons (e3_callTy c3_str (by rfl) T.z_str (by decide +kernel) (a3_cons (e3_meth0 (e3_var 0) T.cl_Net T.me_Net_nodes (ok_Net_nodes T) (hr.mono (by decide)) T.b_Net_nodes) a3_nil)) a3_nil))) a3_nil)))
    (b3_cons (s3_for PassesOwn.never rfl (i3_src (e3_meth0 (e3_var 0) T.cl_Net T.me_Net_pieces (ok_Net_pieces T) (hr.mono (by decide)) T.b_Net_pieces)) (g3_nm sc_show_net.nd rfl (Or.inl rfl)) (b3_one (s3_expr (e3_bm PySem.F.plainAttrs_list PySem.F.slot_list_append PySem.F.type_list_append tyL_list m3_append (e3_var 1) (a3_cons (e3_lc (own := [("part", 6)]) rfl sc_show_net.nd (i3_src (e3_var 4)) (blkOk_by (own := [("part", 6)]) (N := N_show_net) (sc := (defScope s_show_net)) (by decide +kernel)) (fun _ _ _ _ _ => (g3_nm sc_show_net.nd rfl (Or.inl rfl))) (fun _ _ _ _ _ => ts3_nil) (fun _ _ _ _ _ => (e3_callTy c3_str (by rfl) T.z_str (by decide +kernel) (a3_cons (e3_var 6) a3_nil))) (by simp [Tg.slots, slotsA])) a3_nil)))))
    (b3_one (s3_ret (e3_bm PySem.F.plainAttrs_str PySem.F.slot_str_join PySem.F.type_str_join tyL_str m3_join e3_str (a3_cons (e3_lc (own := [("row", 5)]) rfl sc_show_net.nd (i3_src (e3_var 1)) (blkOk_by (own := [("row", 5)]) (N := N_show_net) (sc := (defScope s_show_net)) (by decide +kernel)) (fun _ _ _ _ _ => (g3_nm sc_show_net.nd rfl (Or.inl rfl))) (fun _ _ _ _ _ => ts3_nil) (fun _ _ _ _ _ => (e3_op op_add3 (e3_bm PySem.F.plainAttrs_str PySem.F.slot_str_join PySem.F.type_str_join tyL_str m3_join e3_str (a3_cons (e3_var 5) a3_nil)) e3_str)) (by simp [Tg.slots, slotsA])) a3_nil)))))))))
theorem ok_show_net (T : Txt ad fa K w mg) : FnOk P w K mg base CX0 2 fa.a_show_net fa.fd_show_net ["net"] (sp3 K (sp_show_net ad)) :=
  ok3 T.F_show_net sc_show_net (fun _ _ _ _ h => len_show_net h) fun cdv A outer s H E hr => ⟨_, w_show_net T cdv A outer s H E hr, fun _ _ _ _ h => r_show_net h⟩
set_option maxHeartbeats 4000000 in
theorem w_want (T : Txt ad fa K w mg) (cdv : Value) (A : Around) (outer : List Env) (s : Shared) (H : Hp) (E : XK) (hr : Room 0 (A.deeper (envOfC "want" (defScope s_want) s.heap.objs.size fa.a_want cdv))) : B3 (cxOf CX0 P w K mg base N_want "want" (defScope s_want) fa.a_want cdv A outer s H E).nox (defBody s_want) (t_want ad) := by
  have hu := hr.units
  have hu1 := hu_of hr
  exact (b3_one (s3_if (t3_not (t3_tru (e3_var 0))) (b3_one s3_never) b3_nil))
theorem ok_want (T : Txt ad fa K w mg) : FnOk P w K mg base CX0 1 fa.a_want fa.fd_want ["truth"] (sp3 K (sp_want ad)) :=
  ok3 T.F_want sc_want (fun _ _ _ _ h => len_want h) fun cdv A outer s H E hr => ⟨_, w_want T cdv A outer s H E hr, fun _ _ _ _ h => r_want h⟩
set_option maxHeartbeats 4000000 in
theorem w_number_of (T : Txt ad fa K w mg) (cdv : Value) (A : Around) (outer : List Env) (s : Shared) (H : Hp) (E : XK) (hr : Room 1 (A.deeper (envOfC "number_of" (defScope s_number_of) s.heap.objs.size fa.a_number_of cdv))) : B3 (cxOf CX0 P w K mg base N_number_of "number_of" (defScope s_number_of) fa.a_number_of cdv A outer s H E).nox (defBody s_number_of) (t_number_of ad) := by
  have hu := hr.units
  have hu1 := hu_of hr
  exact (b3_cons (s3_expr (e3_call (ok_want T) (hr.mono (by decide)) (by rfl) T.g_want T.F_want.kp T.b_want (a3_cons (e3_and (e3_cmp (op_ne3 hu) (e3_var 0) e3_str) (e3_bop1 (e3_callB (c3_all rfl) (by rfl) T.z_all (by decide +kernel) (a3_cons (e3_lc (own := [("sign", 1)]) rfl sc_number_of.nd (i3_src (e3_var 0)) (blkOk_by (own := [("sign", 1)]) (N := N_number_of) (sc := (defScope s_number_of)) (by decide +kernel)) (fun _ _ _ _ _ => (g3_nm sc_number_of.nd rfl (Or.inl rfl))) (fun _ _ _ _ _ => ts3_nil) (fun _ _ _ _ _ => (e3_cmp op_in3 (e3_var 1) (e3_gstr (by rfl) T.g_FIGURES))) (by simp [Tg.slots, slotsA])) a3_nil)))) a3_nil)))
    (b3_cons (s3_expr (e3_call (ok_want T) (hr.mono (by decide)) (by rfl) T.g_want T.F_want.kp T.b_want (a3_cons (e3_or (e3_cmp (op_eq3 hu) (e3_var 0) e3_str) (e3_bop1 (e3_cmp (op_ne3 hu) (e3_ix (e3_var 0) e3_int) e3_str))) a3_nil)))
    (b3_one (s3_ret (e3_callTy c3_int (by rfl) T.z_int (by decide +kernel) (a3_cons (e3_var 0) a3_nil))))))
theorem ok_number_of (T : Txt ad fa K w mg) : FnOk P w K mg base CX0 2 fa.a_number_of fa.fd_number_of ["word"] (sp3 K (sp_number_of ad)) :=
  ok3 T.F_number_of sc_number_of (fun _ _ _ _ h => len_number_of h) fun cdv A outer s H E hr => ⟨_, w_number_of T cdv A outer s H E hr, fun _ _ _ _ h => r_number_of h⟩
set_option maxHeartbeats 4000000 in
theorem w_rows_of (T : Txt ad fa K w mg) (cdv : Value) (A : Around) (outer : List Env) (s : Shared) (H : Hp) (E : XK) (hr : Room 1 (A.deeper (envOfC "rows_of" (defScope s_rows_of) s.heap.objs.size fa.a_rows_of cdv))) : B3 (cxOf CX0 P w K mg base N_rows_of "rows_of" (defScope s_rows_of) fa.a_rows_of cdv A outer s H E).nox (defBody s_rows_of) (t_rows_of ad) := by
  have hu := hr.units
  have hu1 := hu_of hr
  exact (b3_cons (s3_expr (e3_call (ok_want T) (hr.mono (by decide)) (by rfl) T.g_want T.F_want.kp T.b_want (a3_cons (e3_callB c3_isi (by rfl) T.z_isinstance (by decide +kernel) (a3_cons (e3_var 0) (a3_cons (e3_con (pe_bltn (v := .ty "str") (by rfl) T.z_str (by decide +kernel) rfl) fun _ => .ty _) a3_nil))) a3_nil)))
    (b3_cons (s3_set (i := 1) sc_rows_of.nd rfl (Or.inl rfl) (e3_bm PySem.F.plainAttrs_str PySem.F.slot_str_split PySem.F.type_str_split tyL_str m3_split (e3_var 0) (a3_cons e3_str a3_nil)))
    (b3_cons (s3_expr (e3_call (ok_want T) (hr.mono (by decide)) (by rfl) T.g_want T.F_want.kp T.b_want (a3_cons (e3_cmp (op_eq3 hu) (e3_ix (e3_var 1) (e3_neg e3_int)) e3_str) a3_nil)))
    (b3_one (s3_ret (e3_lc (own := [("row", 2)]) rfl sc_rows_of.nd (i3_src (e3_sl (e3_var 1) o3_none (o3_some (e3_neg e3_int)))) (blkOk_by (own := [("row", 2)]) (N := N_rows_of) (sc := (defScope s_rows_of)) (by decide +kernel)) (fun _ _ _ _ _ => (g3_nm sc_rows_of.nd rfl (Or.inl rfl))) (fun _ _ _ _ _ => ts3_nil) (fun _ _ _ _ _ => (e3_bm PySem.F.plainAttrs_str PySem.F.slot_str_split PySem.F.type_str_split tyL_str m3_split (e3_var 2) (a3_cons e3_str a3_nil))) (by simp [Tg.slots, slotsA])))))))
theorem ok_rows_of (T : Txt ad fa K w mg) : FnOk P w K mg base CX0 2 fa.a_rows_of fa.fd_rows_of ["text"] (sp3 K (sp_rows_of ad)) :=
  ok3 T.F_rows_of sc_rows_of (fun _ _ _ _ h => len_rows_of h) fun cdv A outer s H E hr => ⟨_, w_rows_of T cdv A outer s H E hr, fun _ _ _ _ h => r_rows_of h⟩
set_option maxHeartbeats 4000000 in
theorem w_piece_of (T : Txt ad fa K w mg) (cdv : Value) (A : Around) (outer : List Env) (s : Shared) (H : Hp) (E : XK) (hr : Room 2 (A.deeper (envOfC "piece_of" (defScope s_piece_of) s.heap.objs.size fa.a_piece_of cdv))) : B3 (cxOf CX0 P w K mg base N_piece_of "piece_of" (defScope s_piece_of) fa.a_piece_of cdv A outer s H E).nox (defBody s_piece_of) (t_piece_of ad) := by
  have hu := hr.units
  have hu1 := hu_of hr
  exact (b3_cons (s3_expr (e3_call (ok_want T) (hr.mono (by decide)) (by rfl) T.g_want T.F_want.kp T.b_want (a3_cons (e3_cmpX (op_intab3 T.t_PARTS) (e3_ix (e3_var 0) e3_int) (e3_con (pe_glob (v := .ref ad.d_PARTS) (by rfl) T.g_PARTS rfl) fun _ => .ref _)) a3_nil)))
    (b3_cons (s3_asg (e3_tabix T.t_PARTS (e3_con (pe_glob (v := .ref ad.d_PARTS) (by rfl) T.g_PARTS rfl) fun _ => .ref _) (e3_ix (e3_var 0) e3_int)) (g3_tp rfl (gs3_cons (g3_nm sc_piece_of.nd rfl (Or.inl rfl)) (gs3_cons (g3_nm sc_piece_of.nd rfl (Or.inl rfl)) gs3_nil)) rfl))
    (b3_cons (s3_expr (e3_call (ok_want T) (hr.mono (by decide)) (by rfl) T.g_want T.F_want.kp T.b_want (a3_cons (e3_cmp (op_eq3 hu) (e3_callB c3_len (by rfl) T.z_len (by decide +kernel) (a3_cons (e3_var 0) a3_nil)) (e3_op op_add3 (e3_op op_add3 e3_int (e3_var 1)) (e3_var 2))) a3_nil)))
    (b3_one (s3_ret (e3_callTy c3_tuple (by rfl) T.z_tuple (by decide +kernel) (a3_cons (e3_op op_add3 (e3_sl (e3_var 0) o3_none (o3_some (e3_op op_add3 e3_int (e3_var 1)))) (e3_lc (own := [("word", 3)]) rfl sc_piece_of.nd (i3_src (e3_sl (e3_var 0) (o3_some (e3_op op_add3 e3_int (e3_var 1))) o3_none)) (blkOk_by (own := [("word", 3)]) (N := N_piece_of) (sc := (defScope s_piece_of)) (by decide +kernel)) (fun _ _ _ _ _ => (g3_nm sc_piece_of.nd rfl (Or.inl rfl))) (fun _ _ _ _ _ => ts3_nil) (fun _ _ _ _ _ => (e3_call (ok_number_of T) (hr.mono (by decide)) (by rfl) T.g_number_of T.F_number_of.kp T.b_number_of (a3_cons (e3_var 3) a3_nil))) (by simp [Tg.slots, slotsA]))) a3_nil)))))))
theorem ok_piece_of (T : Txt ad fa K w mg) : FnOk P w K mg base CX0 3 fa.a_piece_of fa.fd_piece_of ["row"] (sp3 K (sp_piece_of ad)) :=
  ok3 T.F_piece_of sc_piece_of (fun _ _ _ _ h => len_piece_of h) fun cdv A outer s H E hr => ⟨_, w_piece_of T cdv A outer s H E hr, fun _ _ _ _ h => r_piece_of h⟩
set_option maxHeartbeats 4000000 in
theorem w_relay_of (T : Txt ad fa K w mg) (cdv : Value) (A : Around) (outer : List Env) (s : Shared) (H : Hp) (E : XK) (hr : Room 2 (A.deeper (envOfC "relay_of" (defScope s_relay_of) s.heap.objs.size fa.a_relay_of cdv))) : B3 (cxOf CX0 P w K mg base N_relay_of "relay_of" (defScope s_relay_of) fa.a_relay_of cdv A outer s H E).nox (defBody s_relay_of) (t_relay_of ad) := by
  have hu := hr.units
  have hu1 := hu_of hr
  exact (b3_cons (s3_expr (e3_call (ok_want T) (hr.mono (by decide)) (by rfl) T.g_want T.F_want.kp T.b_want (a3_cons (e3_cmp (op_eq3 hu) (e3_callB c3_len (by rfl) T.z_len (by decide +kernel) (a3_cons (e3_var 0) a3_nil)) e3_int) a3_nil)))
    (b3_one (s3_ret (e3_tup (a3_cons (e3_ix (e3_var 0) e3_int) (a3_cons (e3_callTy c3_tuple (by rfl) T.z_tuple (by decide +kernel) (a3_cons (e3_lc (own := [("word", 1)]) rfl sc_relay_of.nd (i3_src (e3_sl (e3_var 0) (o3_some e3_int) o3_none)) (blkOk_by (own := [("word", 1)]) (N := N_relay_of) (sc := (defScope s_relay_of)) (by decide +kernel)) (fun _ _ _ _ _ => (g3_nm sc_relay_of.nd rfl (Or.inl rfl))) (fun _ _ _ _ _ => ts3_nil) (fun _ _ _ _ _ => (e3_call (ok_number_of T) (hr.mono (by decide)) (by rfl) T.g_number_of T.F_number_of.kp T.b_number_of (a3_cons (e3_var 1) a3_nil))) (by simp [Tg.slots, slotsA])) a3_nil)) a3_nil))))))
theorem ok_relay_of (T : Txt ad fa K w mg) : FnOk P w K mg base CX0 3 fa.a_relay_of fa.fd_relay_of ["row"] (sp3 K (sp_relay_of ad)) :=
  ok3 T.F_relay_of sc_relay_of (fun _ _ _ _ h => len_relay_of h) fun cdv A outer s H E hr => ⟨_, w_relay_of T cdv A outer s H E hr, fun _ _ _ _ h => r_relay_of h⟩
set_option maxHeartbeats 4000000 in
theorem w_read_net (T : Txt ad fa K w mg) (cdv : Value) (A : Around) (outer : List Env) (s : Shared) (H : Hp) (E : XK) (hr : Room 7 (A.deeper (envOfC "read_net" (defScope s_read_net) s.heap.objs.size fa.a_read_net cdv))) : B3 (cxOf CX0 P w K mg base N_read_net "read_net" (defScope s_read_net) fa.a_read_net cdv A outer s H E).nox (defBody s_read_net) (t_read_net ad) := by
  have hu := hr.units
  have hu1 := hu_of hr
  exact (b3_cons (s3_set (i := 1) sc_read_net.nd rfl (Or.inl rfl) (e3_call (ok_rows_of T) (hr.mono (by decide)) (by rfl) T.g_rows_of T.F_rows_of.kp T.b_rows_of (a3_cons (e3_var 0) a3_nil)))
    (b3_cons (s3_set (i := 2) sc_read_net.nd rfl (Or.inl rfl) e3_int)
    (b3_cons (s3_while PassesOwn.never (PW.pt (w3_and (t3_cmp op_lt3 (e3_op op_add3 e3_int (e3_var 2)) (e3_callB c3_len (by rfl) T.z_len (by decide +kernel) (a3_cons (e3_var 1) a3_nil))) (w3_and1 (t3_cmp (op_eq3 hu) (e3_ix (e3_ix (e3_var 1) (e3_op op_add3 e3_int (e3_var 2))) e3_int) e3_str)))) (b3_one (s3_set (i := 2) sc_read_net.nd rfl (Or.inl rfl) (e3_op op_add3 (e3_var 2) e3_int))))
    (b3_cons (s3_expr (e3_call (ok_want T) (hr.mono (by decide)) (by rfl) T.g_want T.F_want.kp T.b_want (a3_cons (e3_and (e3_cmp op_ge3 (e3_callB c3_len (by rfl) T.z_len (by decide +kernel) (a3_cons (e3_var 1) a3_nil)) (e3_op op_add3 e3_int (e3_var 2))) (e3_and (e3_cmp (op_eq3 hu) (e3_ix (e3_ix (e3_var 1) e3_int) e3_int) e3_str) (e3_bop1 (e3_cmp (op_eq3 hu) (e3_ix (e3_ix (e3_var 1) (e3_op op_add3 e3_int (e3_var 2))) e3_int) e3_str)))) a3_nil)))
    (b3_cons (s3_expr (e3_call (ok_want T) (hr.mono (by decide)) (by rfl) T.g_want T.F_want.kp T.b_want (a3_cons (e3_and (e3_cmp (op_eq3 hu) (e3_ix (e3_ix (e3_var 1) (e3_op op_add3 e3_int (e3_var 2))) e3_int) e3_str) (e3_bop1 (e3_cmp (op_eq3 hu) (e3_callB c3_len (by rfl) T.z_len (by decide +kernel) (a3_cons (e3_ix (e3_var 1) (e3_op op_add3 e3_int (e3_var 2))) a3_nil)) e3_int))) a3_nil)))
    (b3_cons (s3_setLc (own := [("row", 7)]) (i := 3) rfl sc_read_net.nd rfl rfl (sw_true rfl rfl rfl (by decide +kernel)) (i3_src (e3_sl (e3_var 1) (o3_some e3_int) (o3_some (e3_op op_add3 e3_int (e3_var 2))))) (blkOk_by (own := [("row", 7)]) (N := N_read_net) (sc := (defScope s_read_net)) (by decide +kernel)) (fun _ _ _ _ _ => (g3_nm sc_read_net.nd rfl (Or.inl rfl))) (fun _ _ _ _ _ => ts3_nil) (fun _ _ _ _ _ => (e3_call (ok_relay_of T) (hr.mono (by decide)) (by rfl) T.g_relay_of T.F_relay_of.kp T.b_relay_of (a3_cons (e3_var 7) a3_nil))) (by simp [Tg.slots, slotsA]))
    (b3_cons (s3_setLc (own := [("row", 7)]) (i := 4) rfl sc_read_net.nd rfl rfl (sw_true rfl rfl rfl (by decide +kernel)) (i3_src (e3_sl (e3_var 1) (o3_some (e3_op op_add3 e3_int (e3_var 2))) o3_none)) (blkOk_by (own := [("row", 7)]) (N := N_read_net) (sc := (defScope s_read_net)) (by decide +kernel)) (fun _ _ _ _ _ => (g3_nm sc_read_net.nd rfl (Or.inl rfl))) (fun _ _ _ _ _ => ts3_nil) (fun _ _ _ _ _ => (e3_call (ok_piece_of T) (hr.mono (by decide)) (by rfl) T.g_piece_of T.F_piece_of.kp T.b_piece_of (a3_cons (e3_var 7) a3_nil))) (by simp [Tg.slots, slotsA]))
    (b3_cons (s3_set (i := 5) sc_read_net.nd rfl (Or.inl rfl) (e3_call (ok_number_of T) (hr.mono (by decide)) (by rfl) T.g_number_of T.F_number_of.kp T.b_number_of (a3_cons (e3_ix (e3_ix (e3_var 1) (e3_op op_add3 e3_int (e3_var 2))) e3_int) a3_nil)))
    (b3_cons (s3_setLc (own := [("relay", 8), ("times", 9)]) (i := 6) rfl sc_read_net.nd rfl rfl (sw_true rfl rfl rfl (by decide +kernel)) (i3_src (e3_var 3)) (blkOk_by (own := [("relay", 8), ("times", 9)]) (N := N_read_net) (sc := (defScope s_read_net)) (by decide +kernel)) (fun _ _ _ _ _ => (g3_tp rfl (gs3_cons (g3_nm sc_read_net.nd rfl (Or.inl rfl)) (gs3_cons (g3_nm sc_read_net.nd rfl (Or.inl rfl)) gs3_nil)) rfl)) (fun _ _ _ _ _ => ts3_nil) (fun _ _ _ _ _ => (e3_var 8)) (by simp [Tg.slots, slotsA]))
    (b3_one (s3_try0 (b3_one (s3_ret (e3_make T.mk_Net (ok_Net___init__ T) (hr.mono (by decide)) (by rfl) T.g_Net T.b_Net___init__ (a3_cons (e3_sl (e3_ix (e3_var 1) e3_int) (o3_some e3_int) o3_none) (a3_cons (e3_var 6) (a3_cons (e3_sl (e3_ix (e3_var 1) (e3_op op_add3 e3_int (e3_var 2))) (o3_some e3_int) o3_none) (a3_cons (e3_var 5) (a3_cons (e3_var 4) (a3_cons (e3_lc (own := [("relay", 8), ("times", 9)]) rfl sc_read_net.nd (i3_src (e3_var 3)) (blkOk_by (own := [("relay", 8), ("times", 9)]) (N := N_read_net) (sc := (defScope s_read_net)) (by decide +kernel)) (fun _ _ _ _ _ => (g3_tp rfl (gs3_cons (g3_nm sc_read_net.nd rfl (Or.inl rfl)) (gs3_cons (g3_nm sc_read_net.nd rfl (Or.inl rfl)) gs3_nil)) rfl)) (fun _ _ _ _ _ => ts3_nil) (fun _ _ _ _ _ => (e3_var 9)) (by simp [Tg.slots, slotsA])) a3_nil))))))))))))))))))))
theorem ok_read_net (T : Txt ad fa K w mg) : FnOk P w K mg base CX0 8 fa.a_read_net fa.fd_read_net ["text"] (sp3 K (sp_read_net ad)) :=
  ok3 T.F_read_net sc_read_net (fun _ _ _ _ h => len_read_net h) fun cdv A outer s H E hr => ⟨_, w_read_net T cdv A outer s H E hr, fun _ _ _ _ h => r_read_net h⟩
set_option maxHeartbeats 4000000 in
theorem w__law_pot (T : Txt ad fa K w mg) (cdv : Value) (A : Around) (outer : List Env) (s : Shared) (H : Hp) (E : XK) (hr : Room 0 (A.deeper (envOfC "_law_pot" (defScope s__law_pot) s.heap.objs.size fa.a__law_pot cdv))) : B3 (cxOf CX0 P w K mg base N__law_pot "_law_pot" (defScope s__law_pot) fa.a__law_pot cdv A outer s H E).nox (defBody s__law_pot) (t__law_pot ad) := by
  have hu := hr.units
  have hu1 := hu_of hr
  exact (b3_cons (s3_set (i := 2) sc__law_pot.nd rfl (Or.inl rfl) e3_int)
    (b3_cons (s3_if (t3_cmp op_lt3 (e3_var 1) (e3_callB c3_len (by rfl) T.z_len (by decide +kernel) (a3_cons (e3_var 0) a3_nil))) (b3_one (s3_set (i := 2) sc__law_pot.nd rfl (Or.inl rfl) (e3_ix (e3_var 0) (e3_var 1)))) b3_nil)
    (b3_one (s3_ret (e3_lst (a3_cons (e3_callB (c3_max rfl) (by rfl) T.z_max (by decide +kernel) (a3_cons e3_int (a3_cons (e3_op op_sub3 (e3_var 2) (e3_op op_pow3 e3_int e3_int)) a3_nil))) (a3_cons (e3_op op_add3 (e3_op op_mod3 (e3_op op_add3 (e3_op op_add3 (e3_callB c3_abs (by rfl) T.z_abs (by decide +kernel) (a3_cons (e3_var 2) a3_nil)) (e3_op op_mul3 e3_int (e3_var 1))) e3_int) e3_int) e3_int) a3_nil)))))))
theorem ok__law_pot (T : Txt ad fa K w mg) : FnOk P w K mg base CX0 1 fa.a__law_pot fa.fd__law_pot ["_law_script", "_law_k"] (sp3 K (sp__law_pot ad)) :=
  ok3 T.F__law_pot sc__law_pot (fun _ _ _ _ h => len__law_pot h) fun cdv A outer s H E hr => ⟨_, w__law_pot T cdv A outer s H E hr, fun _ _ _ _ h => r__law_pot h⟩
set_option maxHeartbeats 4000000 in
theorem w__law_take (T : Txt ad fa K w mg) (cdv : Value) (A : Around) (outer : List Env) (s : Shared) (H : Hp) (E : XK) (hr : Room 0 (A.deeper (envOfC "_law_take" (defScope s__law_take) s.heap.objs.size fa.a__law_take cdv))) : B3 (cxOf CX0 P w K mg base N__law_take "_law_take" (defScope s__law_take) fa.a__law_take cdv A outer s H E).nox (defBody s__law_take) (t__law_take ad) := by
  have hu := hr.units
  have hu1 := hu_of hr
  exact (b3_cons (s3_if (t3_cmp op_gt3 (e3_ix (e3_var 0) e3_int) e3_int) (b3_cons (s3_dm (j := 2) rfl sc__law_take.nd rfl (Or.inl rfl) (e3_var 0) e3_int (e3_callB c3_divmod (by rfl) T.z_divmod (by decide +kernel) (a3_cons (e3_ix (e3_var 0) e3_int) (a3_cons (e3_var 1) a3_nil))))
    (b3_one (s3_ret (e3_var 2)))) b3_nil)
    (b3_cons (s3_setix (e3_op op_mod3 (e3_op op_mul3 (e3_ix (e3_var 0) e3_int) e3_int) e3_int) (e3_var 0) e3_int)
    (b3_one (s3_ret (e3_op op_mod3 (e3_op op_fdiv3 (e3_op op_mod3 (e3_op op_mul3 (e3_ix (e3_var 0) e3_int) (e3_ix (e3_var 0) e3_int)) e3_int) e3_int) (e3_var 1))))))
theorem ok__law_take (T : Txt ad fa K w mg) : FnOk P w K mg base CX0 1 fa.a__law_take fa.fd__law_take ["_law_pot_here", "_law_many"] (sp3 K (sp__law_take ad)) :=
  ok3 T.F__law_take sc__law_take (fun _ _ _ _ h => len__law_take h) fun cdv A outer s H E hr => ⟨_, w__law_take T cdv A outer s H E hr, fun _ _ _ _ h => r__law_take h⟩
set_option maxHeartbeats 4000000 in
theorem w__law_word (T : Txt ad fa K w mg) (cdv : Value) (A : Around) (outer : List Env) (s : Shared) (H : Hp) (E : XK) (hr : Room 1 (A.deeper (envOfC "_law_word" (defScope s__law_word) s.heap.objs.size fa.a__law_word cdv))) : B3 (cxOf CX0 P w K mg base N__law_word "_law_word" (defScope s__law_word) fa.a__law_word cdv A outer s H E).nox (defBody s__law_word) (t__law_word ad) := by
  have hu := hr.units
  have hu1 := hu_of hr
  exact (b3_cons (s3_set (i := 2) sc__law_word.nd rfl (Or.inr rfl) e3_str)
    (b3_cons (s3_set (i := 3) sc__law_word.nd rfl (Or.inl rfl) (e3_call (ok__law_take T) (hr.mono (by decide)) (by rfl) T.g__law_take T.F__law_take.kp T.b__law_take (a3_cons (e3_var 0) (a3_cons e3_int a3_nil))))
    (b3_cons (s3_if (t3_cmp (op_eq3 hu) (e3_var 3) e3_int) (b3_one (s3_set (i := 4) sc__law_word.nd rfl (Or.inr rfl) (e3_ix (e3_lst (a3_cons e3_str (a3_cons e3_str (a3_cons e3_str (a3_cons e3_str (a3_cons e3_str (a3_cons e3_str (a3_cons e3_str (a3_cons e3_str (a3_cons e3_str (a3_cons e3_str a3_nil))))))))))) (e3_call (ok__law_take T) (hr.mono (by decide)) (by rfl) T.g__law_take T.F__law_take.kp T.b__law_take (a3_cons (e3_var 0) (a3_cons e3_int a3_nil)))))) (b3_cons (s3_set (i := 5) sc__law_word.nd rfl (Or.inl rfl) (e3_op op_add3 e3_int (e3_op op_mul3 (e3_op op_mod3 (e3_var 3) e3_int) (e3_call (ok__law_take T) (hr.mono (by decide)) (by rfl) T.g__law_take T.F__law_take.kp T.b__law_take (a3_cons (e3_var 0) (a3_cons e3_int a3_nil))))))
    (b3_one (s3_set (i := 4) sc__law_word.nd rfl (Or.inr rfl) (e3_bm PySem.F.plainAttrs_str PySem.F.slot_str_join PySem.F.type_str_join tyL_str m3_join e3_str (a3_cons (e3_lc (own := [("_law_k", 6)]) rfl sc__law_word.nd (i3_rng1 (by rfl) T.z_range (a3_cons (e3_var 5) a3_nil)) (blkOk_by (own := [("_law_k", 6)]) (N := N__law_word) (sc := (defScope s__law_word)) (by decide +kernel)) (fun _ _ _ _ _ => (g3_nm sc__law_word.nd rfl (Or.inl rfl))) (fun _ _ _ _ _ => ts3_nil) (fun _ _ _ _ _ => (e3_ix (e3_var 2) (e3_call (ok__law_take T) (hr.mono (by decide)) (by rfl) T.g__law_take T.F__law_take.kp T.b__law_take (a3_cons (e3_var 0) (a3_cons e3_int a3_nil))))) (by simp [Tg.slots, slotsA])) a3_nil))))))
    (b3_cons (s3_if (t3_cmp op_in3 (e3_var 4) (e3_var 1)) (b3_one (s3_set (i := 4) sc__law_word.nd rfl (Or.inr rfl) (e3_ix (e3_lc (own := [("_law_letter", 7)]) rfl sc__law_word.nd (i3_src (e3_var 2)) (blkOk_by (own := [("_law_letter", 7)]) (N := N__law_word) (sc := (defScope s__law_word)) (by decide +kernel)) (fun _ _ _ _ _ => (g3_nm sc__law_word.nd rfl (Or.inl rfl))) (fun _ _ _ _ _ => (ts3_one (t3_cmp op_notin3 (e3_op op_add3 (e3_sl (e3_var 4) o3_none (o3_some e3_int)) (e3_var 7)) (e3_var 1)))) (fun _ _ _ _ _ => (e3_op op_add3 (e3_sl (e3_var 4) o3_none (o3_some e3_int)) (e3_var 7))) (by simp [Tg.slots, slotsA])) e3_int))) b3_nil)
    (b3_cons (s3_expr (e3_bm PySem.F.plainAttrs_list PySem.F.slot_list_append PySem.F.type_list_append tyL_list m3_append (e3_var 1) (a3_cons (e3_var 4) a3_nil)))
    (b3_one (s3_ret (e3_var 4))))))))
theorem ok__law_word (T : Txt ad fa K w mg) : FnOk P w K mg base CX0 2 fa.a__law_word fa.fd__law_word ["_law_pot_here", "_law_taken"] (sp3 K (sp__law_word ad)) :=
  ok3 T.F__law_word sc__law_word (fun _ _ _ _ h => len__law_word h) fun cdv A outer s H E hr => ⟨_, w__law_word T cdv A outer s H E hr, fun _ _ _ _ h => r__law_word h⟩
set_option maxHeartbeats 4000000 in
theorem w__law_unlike (T : Txt ad fa K w mg) (cdv : Value) (A : Around) (outer : List Env) (s : Shared) (H : Hp) (E : XK) (hr : Room 1 (A.deeper (envOfC "_law_unlike" (defScope s__law_unlike) s.heap.objs.size fa.a__law_unlike cdv))) : B3 (cxOf CX0 P w K mg base N__law_unlike "_law_unlike" (defScope s__law_unlike) fa.a__law_unlike cdv A outer s H E).nox (defBody s__law_unlike) (t__law_unlike ad) := by
  have hu := hr.units
  have hu1 := hu_of hr
  exact (b3_cons (s3_set (i := 3) sc__law_unlike.nd rfl (Or.inr rfl) (e3_lrg1 rfl (by rfl) T.z_list (by rfl) T.z_range (e3_var 1)))
    (b3_one (s3_ret (e3_callTy c3_tuple (by rfl) T.z_tuple (by decide +kernel) (a3_cons (e3_lc (own := [("_law_k", 4)]) rfl sc__law_unlike.nd (i3_rng1 (by rfl) T.z_range (a3_cons (e3_var 2) a3_nil)) (blkOk_by (own := [("_law_k", 4)]) (N := N__law_unlike) (sc := (defScope s__law_unlike)) (by decide +kernel)) (fun _ _ _ _ _ => (g3_nm sc__law_unlike.nd rfl (Or.inl rfl))) (fun _ _ _ _ _ => ts3_nil) (fun _ _ _ _ _ => (e3_bm PySem.F.plainAttrs_list PySem.F.slot_list_pop PySem.F.type_list_pop tyL_list m3_pop (e3_var 3) (a3_cons (e3_call (ok__law_take T) (hr.mono (by decide)) (by rfl) T.g__law_take T.F__law_take.kp T.b__law_take (a3_cons (e3_var 0) (a3_cons (e3_callB c3_len (by rfl) T.z_len (by decide +kernel) (a3_cons (e3_var 3) a3_nil)) a3_nil))) a3_nil))) (by simp [Tg.slots, slotsA])) a3_nil)))))
theorem ok__law_unlike (T : Txt ad fa K w mg) : FnOk P w K mg base CX0 2 fa.a__law_unlike fa.fd__law_unlike ["_law_pot_here", "_law_nodes", "_law_many"] (sp3 K (sp__law_unlike ad)) :=
  ok3 T.F__law_unlike sc__law_unlike (fun _ _ _ _ h => len__law_unlike h) fun cdv A outer s H E hr => ⟨_, w__law_unlike T cdv A outer s H E hr, fun _ _ _ _ h => r__law_unlike h⟩
set_option maxHeartbeats 4000000 in
theorem w__law_piece (T : Txt ad fa K w mg) (cdv : Value) (A : Around) (outer : List Env) (s : Shared) (H : Hp) (E : XK) (hr : Room 2 (A.deeper (envOfC "_law_piece" (defScope s__law_piece) s.heap.objs.size fa.a__law_piece cdv))) : B3 (cxOf CX0 P w K mg base N__law_piece "_law_piece" (defScope s__law_piece) fa.a__law_piece cdv A outer s H E).nox (defBody s__law_piece) (t__law_piece ad) := by
  have hu := hr.units
  have hu1 := hu_of hr
  exact (b3_cons (s3_set (i := 3) sc__law_piece.nd rfl (Or.inl rfl) (e3_call (ok__law_take T) (hr.mono (by decide)) (by rfl) T.g__law_take T.F__law_take.kp T.b__law_take (a3_cons (e3_var 0) (a3_cons e3_int a3_nil))))
    (b3_cons (s3_if (PW.pt (w3_or (t3_cmp (op_eq3 hu) (e3_var 3) e3_int) (w3_or1 (t3_cmp (op_eq3 hu) (e3_var 1) (e3_lst a3_nil))))) (b3_one (s3_ret (e3_op op_add3 (e3_tup (a3_cons e3_str a3_nil)) (e3_call (ok__law_unlike T) (hr.mono (by decide)) (by rfl) T.g__law_unlike T.F__law_unlike.kp T.b__law_unlike (a3_cons (e3_var 0) (a3_cons (e3_var 2) (a3_cons e3_int a3_nil))))))) b3_nil)
    (b3_cons (s3_set (i := 4) sc__law_piece.nd rfl (Or.inl rfl) (e3_ix (e3_var 1) (e3_call (ok__law_take T) (hr.mono (by decide)) (by rfl) T.g__law_take T.F__law_take.kp T.b__law_take (a3_cons (e3_var 0) (a3_cons (e3_callB c3_len (by rfl) T.z_len (by decide +kernel) (a3_cons (e3_var 1) a3_nil)) a3_nil)))))
    (b3_cons (s3_if (PW.pt (w3_and (t3_cmp (op_eq3 hu) (e3_var 3) e3_int) (w3_and1 (t3_cmp op_gt3 (e3_var 2) e3_int)))) (b3_one (s3_ret (e3_op op_add3 (e3_tup (a3_cons e3_str (a3_cons (e3_var 4) a3_nil))) (e3_call (ok__law_unlike T) (hr.mono (by decide)) (by rfl) T.g__law_unlike T.F__law_unlike.kp T.b__law_unlike (a3_cons (e3_var 0) (a3_cons (e3_var 2) (a3_cons e3_int a3_nil))))))) b3_nil)
    (b3_one (s3_ret (e3_op op_add3 (e3_tup (a3_cons (e3_ix (e3_lst (a3_cons e3_str (a3_cons e3_str a3_nil))) (e3_op op_mod3 (e3_var 3) e3_int)) (a3_cons (e3_var 4) a3_nil))) (e3_call (ok__law_unlike T) (hr.mono (by decide)) (by rfl) T.g__law_unlike T.F__law_unlike.kp T.b__law_unlike (a3_cons (e3_var 0) (a3_cons (e3_var 2) (a3_cons e3_int a3_nil)))))))))))
theorem ok__law_piece (T : Txt ad fa K w mg) : FnOk P w K mg base CX0 3 fa.a__law_piece fa.fd__law_piece ["_law_pot_here", "_law_names", "_law_nodes"] (sp3 K (sp__law_piece ad)) :=
  ok3 T.F__law_piece sc__law_piece (fun _ _ _ _ h => len__law_piece h) fun cdv A outer s H E hr => ⟨_, w__law_piece T cdv A outer s H E hr, fun _ _ _ _ h => r__law_piece h⟩
set_option maxHeartbeats 4000000 in
theorem w__law_times (T : Txt ad fa K w mg) (cdv : Value) (A : Around) (outer : List Env) (s : Shared) (H : Hp) (E : XK) (hr : Room 1 (A.deeper (envOfC "_law_times" (defScope s__law_times) s.heap.objs.size fa.a__law_times cdv))) : B3 (cxOf CX0 P w K mg base N__law_times "_law_times" (defScope s__law_times) fa.a__law_times cdv A outer s H E).nox (defBody s__law_times) (t__law_times ad) := by
  have hu := hr.units
  have hu1 := hu_of hr
  exact (b3_cons (s3_par (i := 1) (j := 2) rfl sc__law_times.nd rfl rfl (by decide) rfl rfl (e3_op op_add3 e3_int (e3_call (ok__law_take T) (hr.mono (by decide)) (by rfl) T.g__law_take T.F__law_take.kp T.b__law_take (a3_cons (e3_var 0) (a3_cons e3_int a3_nil)))) (e3_op op_add3 e3_int (e3_call (ok__law_take T) (hr.mono (by decide)) (by rfl) T.g__law_take T.F__law_take.kp T.b__law_take (a3_cons (e3_var 0) (a3_cons e3_int a3_nil)))))
    (b3_one (s3_ret (e3_tup (a3_cons (e3_var 1) (a3_cons (e3_op op_add3 (e3_var 1) (e3_call (ok__law_take T) (hr.mono (by decide)) (by rfl) T.g__law_take T.F__law_take.kp T.b__law_take (a3_cons (e3_var 0) (a3_cons (e3_op op_sub3 e3_int (e3_var 1)) a3_nil)))) (a3_cons (e3_var 2) (a3_cons (e3_op op_add3 (e3_var 2) (e3_call (ok__law_take T) (hr.mono (by decide)) (by rfl) T.g__law_take T.F__law_take.kp T.b__law_take (a3_cons (e3_var 0) (a3_cons (e3_op op_sub3 e3_int (e3_var 2)) a3_nil)))) a3_nil))))))))
theorem ok__law_times (T : Txt ad fa K w mg) : FnOk P w K mg base CX0 2 fa.a__law_times fa.fd__law_times ["_law_pot_here"] (sp3 K (sp__law_times ad)) :=
  ok3 T.F__law_times sc__law_times (fun _ _ _ _ h => len__law_times h) fun cdv A outer s H E hr => ⟨_, w__law_times T cdv A outer s H E hr, fun _ _ _ _ h => r__law_times h⟩
set_option maxHeartbeats 4000000 in
theorem w__law_net (T : Txt ad fa K w mg) (cdv : Value) (A : Around) (outer : List Env) (s : Shared) (H : Hp) (E : XK) (hr : Room 3 (A.deeper (envOfC "_law_net" (defScope s__law_net) s.heap.objs.size fa.a__law_net cdv))) : B3 (cxOf CX0 P w K mg base N__law_net "_law_net" (defScope s__law_net) fa.a__law_net cdv A outer s H E).nox (defBody s__law_net) (t__law_net ad) := by
  have hu := hr.units
  have hu1 := hu_of hr
  exact (b3_cons (s3_set (i := 2) sc__law_net.nd rfl (Or.inr rfl) (e3_lst a3_nil))
    (b3_cons (s3_set (i := 3) sc__law_net.nd rfl (Or.inr rfl) (e3_lc (own := [("_law_k", 9)]) rfl sc__law_net.nd (i3_rng1 (by rfl) T.z_range (a3_cons (e3_call (ok__law_take T) (hr.mono (by decide)) (by rfl) T.g__law_take T.F__law_take.kp T.b__law_take (a3_cons (e3_var 0) (a3_cons e3_int a3_nil))) a3_nil)) (blkOk_by (own := [("_law_k", 9)]) (N := N__law_net) (sc := (defScope s__law_net)) (by decide +kernel)) (fun _ _ _ _ _ => (g3_nm sc__law_net.nd rfl (Or.inl rfl))) (fun _ _ _ _ _ => ts3_nil) (fun _ _ _ _ _ => (e3_call (ok__law_word T) (hr.mono (by decide)) (by rfl) T.g__law_word T.F__law_word.kp T.b__law_word (a3_cons (e3_var 0) (a3_cons (e3_var 2) a3_nil)))) (by simp [Tg.slots, slotsA])))
    (b3_cons (s3_set (i := 4) sc__law_net.nd rfl (Or.inr rfl) (e3_lc (own := [("_law_k", 9)]) rfl sc__law_net.nd (i3_rng1 (by rfl) T.z_range (a3_cons (e3_call (ok__law_take T) (hr.mono (by decide)) (by rfl) T.g__law_take T.F__law_take.kp T.b__law_take (a3_cons (e3_var 0) (a3_cons e3_int a3_nil))) a3_nil)) (blkOk_by (own := [("_law_k", 9)]) (N := N__law_net) (sc := (defScope s__law_net)) (by decide +kernel)) (fun _ _ _ _ _ => (g3_nm sc__law_net.nd rfl (Or.inl rfl))) (fun _ _ _ _ _ => ts3_nil) (fun _ _ _ _ _ => (e3_call (ok__law_word T) (hr.mono (by decide)) (by rfl) T.g__law_word T.F__law_word.kp T.b__law_word (a3_cons (e3_var 0) (a3_cons (e3_var 2) a3_nil)))) (by simp [Tg.slots, slotsA])))
    (b3_cons (s3_setLc (own := [("_law_k", 9)]) (i := 5) rfl sc__law_net.nd rfl rfl (sw_true rfl rfl rfl (by decide +kernel)) (i3_rng1 (by rfl) T.z_range (a3_cons (e3_call (ok__law_take T) (hr.mono (by decide)) (by rfl) T.g__law_take T.F__law_take.kp T.b__law_take (a3_cons (e3_var 0) (a3_cons e3_int a3_nil))) a3_nil)) (blkOk_by (own := [("_law_k", 9)]) (N := N__law_net) (sc := (defScope s__law_net)) (by decide +kernel)) (fun _ _ _ _ _ => (g3_nm sc__law_net.nd rfl (Or.inl rfl))) (fun _ _ _ _ _ => ts3_nil) (fun _ _ _ _ _ => (e3_call (ok__law_word T) (hr.mono (by decide)) (by rfl) T.g__law_word T.F__law_word.kp T.b__law_word (a3_cons (e3_var 0) (a3_cons (e3_var 2) a3_nil)))) (by simp [Tg.slots, slotsA]))
    (b3_cons (s3_set (i := 6) sc__law_net.nd rfl (Or.inr rfl) (e3_op op_add3 e3_int (e3_call (ok__law_take T) (hr.mono (by decide)) (by rfl) T.g__law_take T.F__law_take.kp T.b__law_take (a3_cons (e3_var 0) (a3_cons e3_int a3_nil)))))
    (b3_cons (s3_setLc (own := [("_law_k", 9)]) (i := 7) rfl sc__law_net.nd rfl rfl (sw_true rfl rfl rfl (by decide +kernel)) (i3_rng1 (by rfl) T.z_range (a3_cons (e3_call (ok__law_take T) (hr.mono (by decide)) (by rfl) T.g__law_take T.F__law_take.kp T.b__law_take (a3_cons (e3_var 0) (a3_cons (e3_op op_add3 (e3_var 1) e3_int) a3_nil))) a3_nil)) (blkOk_by (own := [("_law_k", 9)]) (N := N__law_net) (sc := (defScope s__law_net)) (by decide +kernel)) (fun _ _ _ _ _ => (g3_nm sc__law_net.nd rfl (Or.inl rfl))) (fun _ _ _ _ _ => ts3_nil) (fun _ _ _ _ _ => (e3_call (ok__law_piece T) (hr.mono (by decide)) (by rfl) T.g__law_piece T.F__law_piece.kp T.b__law_piece (a3_cons (e3_var 0) (a3_cons (e3_op op_add3 (e3_var 3) (e3_var 4)) (a3_cons (e3_var 6) a3_nil))))) (by simp [Tg.slots, slotsA]))
    (b3_cons (s3_for PassesOwn.never rfl (i3_src (e3_var 4)) (g3_nm sc__law_net.nd rfl (Or.inl rfl)) (b3_one (s3_expr (e3_bm PySem.F.plainAttrs_list PySem.F.slot_list_insert PySem.F.type_list_insert tyL_list m3_insert (e3_var 7) (a3_cons (e3_call (ok__law_take T) (hr.mono (by decide)) (by rfl) T.g__law_take T.F__law_take.kp T.b__law_take (a3_cons (e3_var 0) (a3_cons (e3_op op_add3 (e3_callB c3_len (by rfl) T.z_len (by decide +kernel) (a3_cons (e3_var 7) a3_nil)) e3_int) a3_nil))) (a3_cons (e3_op op_add3 (e3_tup (a3_cons e3_str (a3_cons (e3_var 8) a3_nil))) (e3_call (ok__law_unlike T) (hr.mono (by decide)) (by rfl) T.g__law_unlike T.F__law_unlike.kp T.b__law_unlike (a3_cons (e3_var 0) (a3_cons (e3_var 6) (a3_cons e3_int a3_nil))))) a3_nil))))))
    (b3_cons (s3_for PassesOwn.never rfl (i3_src (e3_var 5)) (g3_nm sc__law_net.nd rfl (Or.inl rfl)) (b3_one (s3_expr (e3_bm PySem.F.plainAttrs_list PySem.F.slot_list_insert PySem.F.type_list_insert tyL_list m3_insert (e3_var 7) (a3_cons (e3_call (ok__law_take T) (hr.mono (by decide)) (by rfl) T.g__law_take T.F__law_take.kp T.b__law_take (a3_cons (e3_var 0) (a3_cons (e3_op op_add3 (e3_callB c3_len (by rfl) T.z_len (by decide +kernel) (a3_cons (e3_var 7) a3_nil)) e3_int) a3_nil))) (a3_cons (e3_op op_add3 (e3_tup (a3_cons e3_str (a3_cons (e3_var 8) a3_nil))) (e3_call (ok__law_unlike T) (hr.mono (by decide)) (by rfl) T.g__law_unlike T.F__law_unlike.kp T.b__law_unlike (a3_cons (e3_var 0) (a3_cons (e3_var 6) (a3_cons e3_int a3_nil))))) a3_nil))))))
    (b3_one (s3_ret (e3_lst (a3_cons (e3_var 3) (a3_cons (e3_var 4) (a3_cons (e3_var 5) (a3_cons (e3_var 6) (a3_cons (e3_var 7) (a3_cons (e3_lc (own := [("_law_name", 8)]) rfl sc__law_net.nd (i3_src (e3_var 4)) (blkOk_by (own := [("_law_name", 8)]) (N := N__law_net) (sc := (defScope s__law_net)) (by decide +kernel)) (fun _ _ _ _ _ => (g3_nm sc__law_net.nd rfl (Or.inl rfl))) (fun _ _ _ _ _ => ts3_nil) (fun _ _ _ _ _ => (e3_call (ok__law_times T) (hr.mono (by decide)) (by rfl) T.g__law_times T.F__law_times.kp T.b__law_times (a3_cons (e3_var 0) a3_nil))) (by simp [Tg.slots, slotsA])) a3_nil)))))))))))))))))
theorem ok__law_net (T : Txt ad fa K w mg) : FnOk P w K mg base CX0 4 fa.a__law_net fa.fd__law_net ["_law_pot_here", "_law_most"] (sp3 K (sp__law_net ad)) :=
  ok3 T.F__law_net sc__law_net (fun _ _ _ _ h => len__law_net h) fun cdv A outer s H E hr => ⟨_, w__law_net T cdv A outer s H E hr, fun _ _ _ _ h => r__law_net h⟩
set_option maxHeartbeats 4000000 in
theorem w__law_copy (T : Txt ad fa K w mg) (cdv : Value) (A : Around) (outer : List Env) (s : Shared) (H : Hp) (E : XK) (hr : Room 0 (A.deeper (envOfC "_law_copy" (defScope s__law_copy) s.heap.objs.size fa.a__law_copy cdv))) : B3 (cxOf CX0 P w K mg base N__law_copy "_law_copy" (defScope s__law_copy) fa.a__law_copy cdv A outer s H E).nox (defBody s__law_copy) (t__law_copy ad) := by
  have hu := hr.units
  have hu1 := hu_of hr
  exact (b3_cons (s3_asgL (e3_var 0) rfl (gs3_cons (g3_nm sc__law_copy.nd rfl (Or.inl rfl)) (gs3_cons (g3_nm sc__law_copy.nd rfl (Or.inl rfl)) (gs3_cons (g3_nm sc__law_copy.nd rfl (Or.inl rfl)) (gs3_cons (g3_nm sc__law_copy.nd rfl (Or.inl rfl)) (gs3_cons (g3_nm sc__law_copy.nd rfl (Or.inl rfl)) (gs3_cons (g3_nm sc__law_copy.nd rfl (Or.inl rfl)) gs3_nil)))))) rfl)
    (b3_one (s3_ret (e3_lst (a3_cons (e3_callTy c3_list (by rfl) T.z_list (by decide +kernel) (a3_cons (e3_var 1) a3_nil)) (a3_cons (e3_callTy c3_list (by rfl) T.z_list (by decide +kernel) (a3_cons (e3_var 2) a3_nil)) (a3_cons (e3_callTy c3_list (by rfl) T.z_list (by decide +kernel) (a3_cons (e3_var 3) a3_nil)) (a3_cons (e3_var 4) (a3_cons (e3_callTy c3_list (by rfl) T.z_list (by decide +kernel) (a3_cons (e3_var 5) a3_nil)) (a3_cons (e3_callTy c3_list (by rfl) T.z_list (by decide +kernel) (a3_cons (e3_var 6) a3_nil)) a3_nil))))))))))
theorem ok__law_copy (T : Txt ad fa K w mg) : FnOk P w K mg base CX0 1 fa.a__law_copy fa.fd__law_copy ["_law_things"] (sp3 K (sp__law_copy ad)) :=
  ok3 T.F__law_copy sc__law_copy (fun _ _ _ _ h => len__law_copy h) fun cdv A outer s H E hr => ⟨_, w__law_copy T cdv A outer s H E hr, fun _ _ _ _ h => r__law_copy h⟩
set_option maxHeartbeats 4000000 in
theorem w__law_made (T : Txt ad fa K w mg) (cdv : Value) (A : Around) (outer : List Env) (s : Shared) (H : Hp) (E : XK) (hr : Room 7 (A.deeper (envOfC "_law_made" (defScope s__law_made) s.heap.objs.size fa.a__law_made cdv))) : B3 (cxOf CX0 P w K mg base N__law_made "_law_made" (defScope s__law_made) fa.a__law_made cdv A outer s H E).nox (defBody s__law_made) (t__law_made ad) := by
  have hu := hr.units
  have hu1 := hu_of hr
  exact (b3_one (s3_ret (e3_make T.mk_Net (ok_Net___init__ T) (hr.mono (by decide)) (by rfl) T.g_Net T.b_Net___init__ (a3_cons (e3_ix (e3_var 0) e3_int) (a3_cons (e3_ix (e3_var 0) e3_int) (a3_cons (e3_ix (e3_var 0) e3_int) (a3_cons (e3_ix (e3_var 0) e3_int) (a3_cons (e3_ix (e3_var 0) e3_int) (a3_cons (e3_ix (e3_var 0) e3_int) a3_nil)))))))))
theorem ok__law_made (T : Txt ad fa K w mg) : FnOk P w K mg base CX0 8 fa.a__law_made fa.fd__law_made ["_law_things"] (sp3 K (sp__law_made ad)) :=
  ok3 T.F__law_made sc__law_made (fun _ _ _ _ h => len__law_made h) fun cdv A outer s H E hr => ⟨_, w__law_made T cdv A outer s H E hr, fun _ _ _ _ h => r__law_made h⟩
set_option maxHeartbeats 4000000 in
theorem w__law_told (T : Txt ad fa K w mg) (cdv : Value) (A : Around) (outer : List Env) (s : Shared) (H : Hp) (E : XK) (hr : Room 1 (A.deeper (envOfC "_law_told" (defScope s__law_told) s.heap.objs.size fa.a__law_told cdv))) : B3 (cxOf CX0 P w K mg base N__law_told "_law_told" (defScope s__law_told) fa.a__law_told cdv A outer s H E).nox (defBody s__law_told) (t__law_told ad) := by
  have hu := hr.units
  have hu1 := hu_of hr
  exact (b3_one (s3_ret (e3_lst (a3_cons (e3_meth0 (e3_var 0) T.cl_Net T.me_Net_key_words (ok_Net_key_words T) (hr.mono (by decide)) T.b_Net_key_words) (a3_cons (e3_meth0 (e3_var 0) T.cl_Net T.me_Net_relays (ok_Net_relays T) (hr.mono (by decide)) T.b_Net_relays) (a3_cons (e3_meth0 (e3_var 0) T.cl_Net T.me_Net_lamps (ok_Net_lamps T) (hr.mono (by decide)) T.b_Net_lamps) (a3_cons (e3_meth0 (e3_var 0) T.cl_Net T.me_Net_nodes (ok_Net_nodes T) (hr.mono (by decide)) T.b_Net_nodes) (a3_cons (e3_meth0 (e3_var 0) T.cl_Net T.me_Net_pieces (ok_Net_pieces T) (hr.mono (by decide)) T.b_Net_pieces) (a3_cons (e3_meth0 (e3_var 0) T.cl_Net T.me_Net_times (ok_Net_times T) (hr.mono (by decide)) T.b_Net_times) a3_nil)))))))))
theorem ok__law_told (T : Txt ad fa K w mg) : FnOk P w K mg base CX0 2 fa.a__law_told fa.fd__law_told ["_law_net_here"] (sp3 K (sp__law_told ad)) :=
  ok3 T.F__law_told sc__law_told (fun _ _ _ _ h => len__law_told h) fun cdv A outer s H E hr => ⟨_, w__law_told T cdv A outer s H E hr, fun _ _ _ _ h => r__law_told h⟩
set_option maxHeartbeats 4000000 in
theorem w__law_text (T : Txt ad fa K w mg) (cdv : Value) (A : Around) (outer : List Env) (s : Shared) (H : Hp) (E : XK) (hr : Room 0 (A.deeper (envOfC "_law_text" (defScope s__law_text) s.heap.objs.size fa.a__law_text cdv))) : B3 (cxOf CX0 P w K mg base N__law_text "_law_text" (defScope s__law_text) fa.a__law_text cdv A outer s H E).nox (defBody s__law_text) (t__law_text ad) := by
  have hu := hr.units
  have hu1 := hu_of hr
  exact (b3_cons (s3_asgL (e3_var 0) rfl (gs3_cons (g3_nm sc__law_text.nd rfl (Or.inl rfl)) (gs3_cons (g3_nm sc__law_text.nd rfl (Or.inl rfl)) (gs3_cons (g3_nm sc__law_text.nd rfl (Or.inl rfl)) (gs3_cons (g3_nm sc__law_text.nd rfl (Or.inl rfl)) (gs3_cons (g3_nm sc__law_text.nd rfl (Or.inl rfl)) (gs3_cons (g3_nm sc__law_text.nd rfl (Or.inl rfl)) gs3_nil)))))) rfl)
    (b3_cons (s3_set (i := 7) sc__law_text.nd rfl (Or.inl rfl) (e3_lst (a3_cons (e3_bm PySem.F.plainAttrs_str PySem.F.slot_str_join PySem.F.type_str_join tyL_str m3_join e3_str (a3_cons (e3_op op_add3 (e3_lst (a3_cons e3_str a3_nil)) (e3_var 1)) a3_nil)) a3_nil)))
    (b3_cons (s3_for PassesOwn.never rfl (i3_rng1 (by rfl) T.z_range (a3_cons (e3_callB c3_len (by rfl) T.z_len (by decide +kernel) (a3_cons (e3_var 2) a3_nil)) a3_nil)) (g3_nm sc__law_text.nd rfl (Or.inl rfl)) (b3_one (s3_expr (e3_bm PySem.F.plainAttrs_list PySem.F.slot_list_append PySem.F.type_list_append tyL_list m3_append (e3_var 7) (a3_cons (e3_bm PySem.F.plainAttrs_str PySem.F.slot_str_join PySem.F.type_str_join tyL_str m3_join e3_str (a3_cons (e3_op op_add3 (e3_lst (a3_cons e3_str (a3_cons (e3_ix (e3_var 2) (e3_var 8)) a3_nil))) (e3_lc (own := [("_law_time", 12)]) rfl sc__law_text.nd (i3_src (e3_ix (e3_var 6) (e3_var 8))) (blkOk_by (own := [("_law_time", 12)]) (N := N__law_text) (sc := (defScope s__law_text)) (by decide +kernel)) (fun _ _ _ _ _ => (g3_nm sc__law_text.nd rfl (Or.inl rfl))) (fun _ _ _ _ _ => ts3_nil) (fun _ _ _ _ _ => (e3_callTy c3_str (by rfl) T.z_str (by decide +kernel) (a3_cons (e3_var 12) a3_nil))) (by simp [Tg.slots, slotsA]))) a3_nil)) a3_nil)))))
    (b3_cons (s3_expr (e3_bm PySem.F.plainAttrs_list PySem.F.slot_list_append PySem.F.type_list_append tyL_list m3_append (e3_var 7) (a3_cons (e3_bm PySem.F.plainAttrs_str PySem.F.slot_str_join PySem.F.type_str_join tyL_str m3_join e3_str (a3_cons (e3_op op_add3 (e3_lst (a3_cons e3_str a3_nil)) (e3_var 3)) a3_nil)) a3_nil)))
    (b3_cons (s3_expr (e3_bm PySem.F.plainAttrs_list PySem.F.slot_list_append PySem.F.type_list_append tyL_list m3_append (e3_var 7) (a3_cons (e3_op op_add3 e3_str (e3_callTy c3_str (by rfl) T.z_str (by decide +kernel) (a3_cons (e3_var 4) a3_nil))) a3_nil)))
    (b3_cons (s3_set (i := 7) sc__law_text.nd rfl (Or.inl rfl) (e3_op op_add3 (e3_var 7) (e3_lc (own := [("_law_piece_here", 9)]) rfl sc__law_text.nd (i3_src (e3_var 5)) (blkOk_by (own := [("_law_piece_here", 9)]) (N := N__law_text) (sc := (defScope s__law_text)) (by decide +kernel)) (fun _ _ _ _ _ => (g3_nm sc__law_text.nd rfl (Or.inl rfl))) (fun _ _ _ _ _ => ts3_nil) (fun _ _ _ _ _ => (e3_bm PySem.F.plainAttrs_str PySem.F.slot_str_join PySem.F.type_str_join tyL_str m3_join e3_str (a3_cons (e3_lc (own := [("_law_part", 11)]) rfl sc__law_text.nd (i3_src (e3_var 9)) (by refine blkOk_by ?_; first | decide +kernel | (simp only [Cx.blk, compEnvC]; decide +kernel) | rfl) (fun _ _ _ _ _ => (g3_nm sc__law_text.nd rfl (Or.inl rfl))) (fun _ _ _ _ _ => ts3_nil) (fun _ _ _ _ _ => (e3_callTy c3_str (by rfl) T.z_str (by decide +kernel) (a3_cons (e3_var 11) a3_nil))) (by simp [Tg.slots, slotsA])) a3_nil))) (by simp [Tg.slots, slotsA]))))
    (b3_one (s3_ret (e3_bm PySem.F.plainAttrs_str PySem.F.slot_str_join PySem.F.type_str_join tyL_str m3_join e3_str (a3_cons (e3_lc (own := [("_law_row", 10)]) rfl sc__law_text.nd (i3_src (e3_var 7)) (blkOk_by (own := [("_law_row", 10)]) (N := N__law_text) (sc := (defScope s__law_text)) (by decide +kernel)) (fun _ _ _ _ _ => (g3_nm sc__law_text.nd rfl (Or.inl rfl))) (fun _ _ _ _ _ => ts3_nil) (fun _ _ _ _ _ => (e3_op op_add3 (e3_var 10) e3_str)) (by simp [Tg.slots, slotsA])) a3_nil))))))))))
theorem ok__law_text (T : Txt ad fa K w mg) : FnOk P w K mg base CX0 1 fa.a__law_text fa.fd__law_text ["_law_things"] (sp3 K (sp__law_text ad)) :=
  ok3 T.F__law_text sc__law_text (fun _ _ _ _ h => len__law_text h) fun cdv A outer s H E hr => ⟨_, w__law_text T cdv A outer s H E hr, fun _ _ _ _ h => r__law_text h⟩
set_option maxHeartbeats 4000000 in
theorem w_law (T : Txt ad fa K w mg) (cdv : Value) (A : Around) (outer : List Env) (s : Shared) (H : Hp) (E : XK) (hr : Room 8 (A.deeper (envOfC "law" (defScope s_law) s.heap.objs.size fa.a_law cdv))) (hgu : A.guards = some []) : B3 (cxOf CX0 P w K mg base N_law "law" (defScope s_law) fa.a_law cdv A outer s H E).nox (defBody s_law) (t_law ad) := by
  have hu := hr.units
  have hu1 := hu_of hr
  have hu2 := units80 hr (by decide)
  exact (b3_cons (s3_for PassesOwn.never rfl (i3_rng1 (by rfl) T.z_range (a3_cons (e3_callB (c3_max rfl) (by rfl) T.z_max (by decide +kernel) (a3_cons e3_int (a3_cons (e3_callB (c3_min rfl) (by rfl) T.z_min (by decide +kernel) (a3_cons (e3_callB c3_len (by rfl) T.z_len (by decide +kernel) (a3_cons (e3_var 0) a3_nil)) (a3_cons e3_int a3_nil))) a3_nil))) a3_nil)) (g3_nm sc_law.nd rfl (Or.inl rfl)) (b3_cons (s3_set (i := 2) sc_law.nd rfl (Or.inl rfl) (e3_call (ok__law_net T) (hr.mono (by decide)) (by rfl) T.g__law_net T.F__law_net.kp T.b__law_net (a3_cons (e3_call (ok__law_pot T) (hr.mono (by decide)) (by rfl) T.g__law_pot T.F__law_pot.kp T.b__law_pot (a3_cons (e3_var 0) (a3_cons (e3_var 1) a3_nil))) (a3_cons e3_int a3_nil))))
    (b3_cons (s3_set (i := 3) sc_law.nd rfl (Or.inl rfl) (e3_call (ok__law_text T) (hr.mono (by decide)) (by rfl) T.g__law_text T.F__law_text.kp T.b__law_text (a3_cons (e3_var 2) a3_nil)))
    (b3_cons (s3_set (i := 4) sc_law.nd rfl (Or.inl rfl) (e3_call (ok__law_copy T) (hr.mono (by decide)) (by rfl) T.g__law_copy T.F__law_copy.kp T.b__law_copy (a3_cons (e3_var 2) a3_nil)))
    (b3_cons (s3_set (i := 5) sc_law.nd rfl (Or.inl rfl) (e3_call (ok__law_made T) (hr.mono (by decide)) (by rfl) T.g__law_made T.F__law_made.kp T.b__law_made (a3_cons (e3_var 4) a3_nil)))
    (b3_cons (s3_set (i := 6) sc_law.nd rfl (Or.inl rfl) (e3_call (ok_show_net T) (hr.mono (by decide)) (by rfl) T.g_show_net T.F_show_net.kp T.b_show_net (a3_cons (e3_var 5) a3_nil)))
    (b3_cons (s3_for PassesOwn.never rfl (i3_src (e3_op op_add3 (e3_sl (e3_var 4) o3_none (o3_some e3_int)) (e3_sl (e3_var 4) (o3_some e3_int) o3_none))) (g3_nm sc_law.nd rfl (Or.inl rfl)) (b3_one (s3_expr (e3_bm0 PySem.F.plainAttrs_list PySem.F.slot_list_clear PySem.F.type_list_clear tyL_list m3_clear (e3_var 7)))))
    (b3_cons (s3_if (PW.pt (w3_or (t3_not (t3_tru (e3_callB c3_isi (by rfl) T.z_isinstance (by decide +kernel) (a3_cons (e3_var 6) (a3_cons (e3_con (pe_bltn (v := .ty "str") (by rfl) T.z_str (by decide +kernel) rfl) fun _ => .ty _) a3_nil))))) (w3_or1 (t3_cmp (op_ne3 hu) (e3_var 6) (e3_var 3))))) (b3_one (s3_ret e3_bl)) b3_nil)
    (b3_cons (s3_set (i := 8) sc_law.nd rfl (Or.inl rfl) (e3_call (ok_read_net T) (hr.mono (by decide)) (by rfl) T.g_read_net T.F_read_net.kp T.b_read_net (a3_cons (e3_var 6) a3_nil)))
    (b3_cons (s3_if (PW.pt (w3_or (t3_not (t3_tru (e3_callB (c3_isiC T.ct_Net) (by rfl) T.z_isinstance (by decide +kernel) (a3_cons (e3_var 8) (a3_cons (e3_con (pe_glob (v := .ref ad.C_Net) (by rfl) T.g_Net rfl) fun _ => .ref _) a3_nil))))) (w3_or (t3_cmp (op_ne3 hu) (e3_callB (c3_repr hgu hu2) (by rfl) T.z_repr (by decide +kernel) (a3_cons (e3_call (ok__law_told T) (hr.mono (by decide)) (by rfl) T.g__law_told T.F__law_told.kp T.b__law_told (a3_cons (e3_var 8) a3_nil)) a3_nil)) (e3_callB (c3_repr hgu hu2) (by rfl) T.z_repr (by decide +kernel) (a3_cons (e3_var 2) a3_nil))) (w3_or1 (t3_cmp (op_ne3 hu) (e3_call (ok_show_net T) (hr.mono (by decide)) (by rfl) T.g_show_net T.F_show_net.kp T.b_show_net (a3_cons (e3_var 8) a3_nil)) (e3_var 3)))))) (b3_one (s3_ret e3_bl)) b3_nil)
    (b3_cons (s3_for PassesOwn.never rfl (i3_src (e3_op op_add3 (e3_sl (e3_call (ok__law_told T) (hr.mono (by decide)) (by rfl) T.g__law_told T.F__law_told.kp T.b__law_told (a3_cons (e3_var 5) a3_nil)) (o3_some e3_int) o3_none) (e3_sl (e3_call (ok__law_told T) (hr.mono (by decide)) (by rfl) T.g__law_told T.F__law_told.kp T.b__law_told (a3_cons (e3_var 8) a3_nil)) (o3_some e3_int) o3_none))) (g3_nm sc_law.nd rfl (Or.inl rfl)) (b3_one (s3_expr (e3_bm0 PySem.F.plainAttrs_list PySem.F.slot_list_clear PySem.F.type_list_clear tyL_list m3_clear (e3_var 7)))))
    (b3_one (s3_if (PW.pt (w3_or (t3_cmp (op_ne3 hu) (e3_call (ok_show_net T) (hr.mono (by decide)) (by rfl) T.g_show_net T.F_show_net.kp T.b_show_net (a3_cons (e3_var 5) a3_nil)) (e3_var 3)) (w3_or (t3_cmp (op_ne3 hu) (e3_call (ok_show_net T) (hr.mono (by decide)) (by rfl) T.g_show_net T.F_show_net.kp T.b_show_net (a3_cons (e3_var 8) a3_nil)) (e3_var 3)) (w3_or1 (t3_cmp (op_ne3 hu) (e3_callB (c3_repr hgu hu2) (by rfl) T.z_repr (by decide +kernel) (a3_cons (e3_call (ok__law_told T) (hr.mono (by decide)) (by rfl) T.g__law_told T.F__law_told.kp T.b__law_told (a3_cons (e3_call (ok_read_net T) (hr.mono (by decide)) (by rfl) T.g_read_net T.F_read_net.kp T.b_read_net (a3_cons (e3_var 3) a3_nil)) a3_nil)) a3_nil)) (e3_callB (c3_repr hgu hu2) (by rfl) T.z_repr (by decide +kernel) (a3_cons (e3_var 2) a3_nil))))))) (b3_one (s3_ret e3_bl)) b3_nil)))))))))))))
    (b3_one (s3_ret e3_bl)))
theorem ok_law (T : Txt ad fa K w mg) : FnG P w K mg base 9 fa.a_law fa.fd_law ["_law_script"] (spLaw) :=
  okG T.F_law sc_law (fun _ _ _ _ h => len_law h) fun cdv A outer s H E hr hgu => ⟨_, w_law T cdv A outer s H E hr hgu, fun _ _ _ _ h => r_law h⟩
end
theorem tab_PARTS {w : World} {K : PySem.W.Frag} {d : Addr} {n : Nat} {h0 : Int} {t0 : Tok} {u0 : Addr} {to0 : Option Addr} {tn0 : Nat} {ts0 : Array (Option Value)} {ta0 tb0 : Tok} {h1 : Int} {t1 : Tok} {u1 : Addr} {to1 : Option Addr} {tn1 : Nat} {ts1 : Array (Option Value)} {ta1 tb1 : Tok} {h2 : Int} {t2 : Tok} {u2 : Addr} {to2 : Option Addr} {tn2 : Nat} {ts2 : Array (Option Value)} {ta2 tb2 : Tok} {h3 : Int} {t3 : Tok} {u3 : Addr} {to3 : Option Addr} {tn3 : Nat} {ts3 : Array (Option Value)} {ta3 tb3 : Tok} {h4 : Int} {t4 : Tok} {u4 : Addr} {to4 : Option Addr} {tn4 : Nat} {ts4 : Array (Option Value)} {ta4 tb4 : Tok} {h5 : Int} {t5 : Tok} {u5 : Addr} {to5 : Option Addr} {tn5 : Nat} {ts5 : Array (Option Value)} {ta5 tb5 : Tok}
    (at_ : K.lookup d = some ⟨.type "dict", none, .dict #[⟨h0, .str "wire" t0, .ref u0⟩, ⟨h1, .str "made" t1, .ref u1⟩, ⟨h2, .str "broken" t2, .ref u2⟩, ⟨h3, .str "swap" t3, .ref u3⟩, ⟨h4, .str "coil" t4, .ref u4⟩, ⟨h5, .str "lamp" t5, .ref u5⟩] n, #[]⟩) (low : (d == sysModules) = false)
    (e0 : h0 = PyData.keyHash w.params "wire") (e1 : h1 = PyData.keyHash w.params "made") (e2 : h2 = PyData.keyHash w.params "broken") (e3 : h3 = PyData.keyHash w.params "swap") (e4 : h4 = PyData.keyHash w.params "coil") (e5 : h5 = PyData.keyHash w.params "lamp")
    (m0 : K.lookup u0 = some ⟨.type "tuple", to0, .seq #[.int 0 ta0, .int 2 tb0] tn0, ts0⟩) (m1 : K.lookup u1 = some ⟨.type "tuple", to1, .seq #[.int 1 ta1, .int 2 tb1] tn1, ts1⟩) (m2 : K.lookup u2 = some ⟨.type "tuple", to2, .seq #[.int 1 ta2, .int 2 tb2] tn2, ts2⟩) (m3 : K.lookup u3 = some ⟨.type "tuple", to3, .seq #[.int 1 ta3, .int 3 tb3] tn3, ts3⟩) (m4 : K.lookup u4 = some ⟨.type "tuple", to4, .seq #[.int 1 ta4, .int 2 tb4] tn4, ts4⟩) (m5 : K.lookup u5 = some ⟨.type "tuple", to5, .seq #[.int 1 ta5, .int 2 tb5] tn5, ts5⟩)
    : Tab K w d partsP := by
  refine tab_mk [("wire", h0, t0, .ref u0), ("made", h1, t1, .ref u1), ("broken", h2, t2, .ref u2), ("swap", h3, t3, .ref u3), ("coil", h4, t4, .ref u4), ("lamp", h5, t5, .ref u5)] partsP at_ (fun q hq => ?_) low fun z => ?_
  · simp only [List.mem_cons, List.not_mem_nil, or_false] at hq
    rcases hq with rfl | rfl | rfl | rfl | rfl | rfl
    · exact e0
    · exact e1
    · exact e2
    · exact e3
    · exact e4
    · exact e5
  · unfold partsP
    by_cases z0 : z = "wire"
    · subst z0
      exact ⟨.ref u0, rfl, isTup2 m0⟩
    by_cases z1 : z = "made"
    · subst z1
      exact ⟨.ref u1, rfl, isTup2 m1⟩
    by_cases z2 : z = "broken"
    · subst z2
      exact ⟨.ref u2, rfl, isTup2 m2⟩
    by_cases z3 : z = "swap"
    · subst z3
      exact ⟨.ref u3, rfl, isTup2 m3⟩
    by_cases z4 : z = "coil"
    · subst z4
      exact ⟨.ref u4, rfl, isTup2 m4⟩
    by_cases z5 : z = "lamp"
    · subst z5
      exact ⟨.ref u5, rfl, isTup2 m5⟩
    simp only [z0, z1, z2, z3, z4, z5, if_false, List.find?_cons, List.find?_nil, decide_eq_false (Ne.symm z0), decide_eq_false (Ne.symm z1), decide_eq_false (Ne.symm z2), decide_eq_false (Ne.symm z3), decide_eq_false (Ne.symm z4), decide_eq_false (Ne.symm z5)]
    trivial
set_option maxHeartbeats 8000000 in
theorem all_mk {l : PySem.W.OpenLaw} {w : World} {K : PySem.W.Frag} {h : Heap} {mg : Str → Option Value} {aL : Addr} (X : K.In h) (G : h.Ns mainGlobals mg) (hfa : mg "law" = some (.ref aL))
    {f_0 : Addr} {od_0 an_0 : Option Addr} {sl_0 : Array (Option Value)} {oc_0 kV_0 dc_0 pm_0 cd_0 ct_0 : Value}
    {f_1 : Addr} {od_1 an_1 : Option Addr} {sl_1 : Array (Option Value)} {oc_1 kV_1 dc_1 pm_1 cd_1 ct_1 : Value}
    {f_2 : Addr} {od_2 an_2 : Option Addr} {sl_2 : Array (Option Value)} {oc_2 kV_2 dc_2 pm_2 cd_2 ct_2 : Value}
    {f_3 : Addr} {od_3 an_3 : Option Addr} {sl_3 : Array (Option Value)} {oc_3 kV_3 dc_3 pm_3 cd_3 ct_3 : Value}
    {f_4 : Addr} {od_4 an_4 : Option Addr} {sl_4 : Array (Option Value)} {oc_4 kV_4 dc_4 pm_4 cd_4 ct_4 : Value}
    {f_5 : Addr} {od_5 an_5 : Option Addr} {sl_5 : Array (Option Value)} {oc_5 kV_5 dc_5 pm_5 cd_5 ct_5 : Value}
    {f_6 : Addr} {od_6 an_6 : Option Addr} {sl_6 : Array (Option Value)} {oc_6 kV_6 dc_6 pm_6 cd_6 ct_6 : Value}
    {f_7 : Addr} {od_7 an_7 : Option Addr} {sl_7 : Array (Option Value)} {oc_7 kV_7 dc_7 pm_7 cd_7 ct_7 : Value}
    {f_8 : Addr} {od_8 an_8 : Option Addr} {sl_8 : Array (Option Value)} {oc_8 kV_8 dc_8 pm_8 cd_8 ct_8 : Value}
    {f_9 : Addr} {od_9 an_9 : Option Addr} {sl_9 : Array (Option Value)} {oc_9 kV_9 dc_9 pm_9 cd_9 ct_9 : Value}
    {f_10 : Addr} {od_10 an_10 : Option Addr} {sl_10 : Array (Option Value)} {oc_10 kV_10 dc_10 pm_10 cd_10 ct_10 : Value}
    {f_11 : Addr} {od_11 an_11 : Option Addr} {sl_11 : Array (Option Value)} {oc_11 kV_11 dc_11 pm_11 cd_11 ct_11 : Value}
    {f_12 : Addr} {od_12 an_12 : Option Addr} {sl_12 : Array (Option Value)} {oc_12 kV_12 dc_12 pm_12 cd_12 ct_12 : Value}
    {f_13 : Addr} {od_13 an_13 : Option Addr} {sl_13 : Array (Option Value)} {oc_13 kV_13 dc_13 pm_13 cd_13 ct_13 : Value}
    {f_14 : Addr} {od_14 an_14 : Option Addr} {sl_14 : Array (Option Value)} {oc_14 kV_14 dc_14 pm_14 cd_14 ct_14 : Value}
    {f_15 : Addr} {od_15 an_15 : Option Addr} {sl_15 : Array (Option Value)} {oc_15 kV_15 dc_15 pm_15 cd_15 ct_15 : Value}
    {f_16 : Addr} {od_16 an_16 : Option Addr} {sl_16 : Array (Option Value)} {oc_16 kV_16 dc_16 pm_16 cd_16 ct_16 : Value}
    {f_17 : Addr} {od_17 an_17 : Option Addr} {sl_17 : Array (Option Value)} {oc_17 kV_17 dc_17 pm_17 cd_17 ct_17 : Value}
    {f_18 : Addr} {od_18 an_18 : Option Addr} {sl_18 : Array (Option Value)} {oc_18 kV_18 dc_18 pm_18 cd_18 ct_18 : Value}
    {f_19 : Addr} {od_19 an_19 : Option Addr} {sl_19 : Array (Option Value)} {oc_19 kV_19 dc_19 pm_19 cd_19 ct_19 : Value}
    {f_20 : Addr} {od_20 an_20 : Option Addr} {sl_20 : Array (Option Value)} {oc_20 kV_20 dc_20 pm_20 cd_20 ct_20 : Value}
    {f_21 : Addr} {od_21 an_21 : Option Addr} {sl_21 : Array (Option Value)} {oc_21 kV_21 dc_21 pm_21 cd_21 ct_21 : Value}
    {f_22 : Addr} {od_22 an_22 : Option Addr} {sl_22 : Array (Option Value)} {oc_22 kV_22 dc_22 pm_22 cd_22 ct_22 : Value}
    {f_23 : Addr} {od_23 an_23 : Option Addr} {sl_23 : Array (Option Value)} {oc_23 kV_23 dc_23 pm_23 cd_23 ct_23 : Value}
    {f_24 : Addr} {od_24 an_24 : Option Addr} {sl_24 : Array (Option Value)} {oc_24 kV_24 dc_24 pm_24 cd_24 ct_24 : Value}
    {f_25 : Addr} {od_25 an_25 : Option Addr} {sl_25 : Array (Option Value)} {oc_25 kV_25 dc_25 pm_25 cd_25 ct_25 : Value}
    {f_26 : Addr} {od_26 an_26 : Option Addr} {sl_26 : Array (Option Value)} {oc_26 kV_26 dc_26 pm_26 cd_26 ct_26 : Value}
    {f_27 : Addr} {od_27 an_27 : Option Addr} {sl_27 : Array (Option Value)} {oc_27 kV_27 dc_27 pm_27 cd_27 ct_27 : Value}
    {f_28 : Addr} {od_28 an_28 : Option Addr} {sl_28 : Array (Option Value)} {oc_28 kV_28 dc_28 pm_28 cd_28 ct_28 : Value}
    {f_29 : Addr} {od_29 an_29 : Option Addr} {sl_29 : Array (Option Value)} {oc_29 kV_29 dc_29 pm_29 cd_29 ct_29 : Value}
    {f_30 : Addr} {od_30 an_30 : Option Addr} {sl_30 : Array (Option Value)} {oc_30 kV_30 dc_30 pm_30 cd_30 ct_30 : Value}
    {f_31 : Addr} {od_31 an_31 : Option Addr} {sl_31 : Array (Option Value)} {oc_31 kV_31 dc_31 pm_31 cd_31 ct_31 : Value}
    {f_32 : Addr} {od_32 an_32 : Option Addr} {sl_32 : Array (Option Value)} {oc_32 kV_32 dc_32 pm_32 cd_32 ct_32 : Value}
    {f_33 : Addr} {od_33 an_33 : Option Addr} {sl_33 : Array (Option Value)} {oc_33 kV_33 dc_33 pm_33 cd_33 ct_33 : Value}
    {f_34 : Addr} {od_34 an_34 : Option Addr} {sl_34 : Array (Option Value)} {oc_34 kV_34 dc_34 pm_34 cd_34 ct_34 : Value}
    {f_35 : Addr} {od_35 an_35 : Option Addr} {sl_35 : Array (Option Value)} {oc_35 kV_35 dc_35 pm_35 cd_35 ct_35 : Value}
    {f_36 : Addr} {od_36 an_36 : Option Addr} {sl_36 : Array (Option Value)} {oc_36 kV_36 dc_36 pm_36 cd_36 ct_36 : Value}
    {f_37 : Addr} {od_37 an_37 : Option Addr} {sl_37 : Array (Option Value)} {oc_37 kV_37 dc_37 pm_37 cd_37 ct_37 : Value}
    {f_38 : Addr} {od_38 an_38 : Option Addr} {sl_38 : Array (Option Value)} {oc_38 kV_38 dc_38 pm_38 cd_38 ct_38 : Value}
    {C_Net : Addr}
    {tk_MOST_LETTERS : Tok}
    {tk_LETTERS : Tok}
    {tk_MOST_LAMPS : Tok}
    {tk_MOST_RELAYS : Tok}
    {tk_MOST_KEYS : Tok}
    {tk_LEAST_NODES : Tok}
    {tk_MOST_NODES : Tok}
    {tk_MOST_PIECES : Tok}
    {tk_MOST_TIME : Tok}
    {tk_FIGURES : Tok}
    {d_PARTS : Addr} {dn_PARTS : Nat}
    {h_PARTS_0 : Int} {t_PARTS_0 : Tok} {u_PARTS_0 : Addr} {to_PARTS_0 : Option Addr} {tn_PARTS_0 : Nat} {ts_PARTS_0 : Array (Option Value)} {ta_PARTS_0 tb_PARTS_0 : Tok}
    {h_PARTS_1 : Int} {t_PARTS_1 : Tok} {u_PARTS_1 : Addr} {to_PARTS_1 : Option Addr} {tn_PARTS_1 : Nat} {ts_PARTS_1 : Array (Option Value)} {ta_PARTS_1 tb_PARTS_1 : Tok}
    {h_PARTS_2 : Int} {t_PARTS_2 : Tok} {u_PARTS_2 : Addr} {to_PARTS_2 : Option Addr} {tn_PARTS_2 : Nat} {ts_PARTS_2 : Array (Option Value)} {ta_PARTS_2 tb_PARTS_2 : Tok}
    {h_PARTS_3 : Int} {t_PARTS_3 : Tok} {u_PARTS_3 : Addr} {to_PARTS_3 : Option Addr} {tn_PARTS_3 : Nat} {ts_PARTS_3 : Array (Option Value)} {ta_PARTS_3 tb_PARTS_3 : Tok}
    {h_PARTS_4 : Int} {t_PARTS_4 : Tok} {u_PARTS_4 : Addr} {to_PARTS_4 : Option Addr} {tn_PARTS_4 : Nat} {ts_PARTS_4 : Array (Option Value)} {ta_PARTS_4 tb_PARTS_4 : Tok}
    {h_PARTS_5 : Int} {t_PARTS_5 : Tok} {u_PARTS_5 : Addr} {to_PARTS_5 : Option Addr} {tn_PARTS_5 : Nat} {ts_PARTS_5 : Array (Option Value)} {ta_PARTS_5 tb_PARTS_5 : Tok}
    (a0 : PySem.W.nsIn K mainGlobals "is_word" = some (some (.ref f_0)))
    (l0 : K.lookup f_0 = some ⟨oc_0, od_0, .func (PySem.W.fnOf "is_word" "is_word" (defArgs s_is_word) (defBody s_is_word) (defScope s_is_word) .none kV_0 dc_0 pm_0 an_0 cd_0 ct_0), sl_0⟩)
    (c0 : PySem.W.codeIn K cd_0 "is_word" = true)
    (k0 : PySem.W.keepIn K (.ref f_0) = true)
    (a1 : PySem.W.nsIn K mainGlobals "is_whole" = some (some (.ref f_1)))
    (l1 : K.lookup f_1 = some ⟨oc_1, od_1, .func (PySem.W.fnOf "is_whole" "is_whole" (defArgs s_is_whole) (defBody s_is_whole) (defScope s_is_whole) .none kV_1 dc_1 pm_1 an_1 cd_1 ct_1), sl_1⟩)
    (c1 : PySem.W.codeIn K cd_1 "is_whole" = true)
    (k1 : PySem.W.keepIn K (.ref f_1) = true)
    (a2 : PySem.W.nsIn K mainGlobals "word_fault" = some (some (.ref f_2)))
    (l2 : K.lookup f_2 = some ⟨oc_2, od_2, .func (PySem.W.fnOf "word_fault" "word_fault" (defArgs s_word_fault) (defBody s_word_fault) (defScope s_word_fault) .none kV_2 dc_2 pm_2 an_2 cd_2 ct_2), sl_2⟩)
    (c2 : PySem.W.codeIn K cd_2 "word_fault" = true)
    (k2 : PySem.W.keepIn K (.ref f_2) = true)
    (a3 : PySem.W.nsIn K mainGlobals "many_fault" = some (some (.ref f_3)))
    (l3 : K.lookup f_3 = some ⟨oc_3, od_3, .func (PySem.W.fnOf "many_fault" "many_fault" (defArgs s_many_fault) (defBody s_many_fault) (defScope s_many_fault) .none kV_3 dc_3 pm_3 an_3 cd_3 ct_3), sl_3⟩)
    (c3 : PySem.W.codeIn K cd_3 "many_fault" = true)
    (k3 : PySem.W.keepIn K (.ref f_3) = true)
    (a4 : PySem.W.nsIn K mainGlobals "size_fault" = some (some (.ref f_4)))
    (l4 : K.lookup f_4 = some ⟨oc_4, od_4, .func (PySem.W.fnOf "size_fault" "size_fault" (defArgs s_size_fault) (defBody s_size_fault) (defScope s_size_fault) .none kV_4 dc_4 pm_4 an_4 cd_4 ct_4), sl_4⟩)
    (c4 : PySem.W.codeIn K cd_4 "size_fault" = true)
    (k4 : PySem.W.keepIn K (.ref f_4) = true)
    (a5 : PySem.W.nsIn K mainGlobals "are_nodes" = some (some (.ref f_5)))
    (l5 : K.lookup f_5 = some ⟨oc_5, od_5, .func (PySem.W.fnOf "are_nodes" "are_nodes" (defArgs s_are_nodes) (defBody s_are_nodes) (defScope s_are_nodes) .none kV_5 dc_5 pm_5 an_5 cd_5 ct_5), sl_5⟩)
    (c5 : PySem.W.codeIn K cd_5 "are_nodes" = true)
    (k5 : PySem.W.keepIn K (.ref f_5) = true)
    (a6 : PySem.W.nsIn K mainGlobals "names_of_kind" = some (some (.ref f_6)))
    (l6 : K.lookup f_6 = some ⟨oc_6, od_6, .func (PySem.W.fnOf "names_of_kind" "names_of_kind" (defArgs s_names_of_kind) (defBody s_names_of_kind) (defScope s_names_of_kind) .none kV_6 dc_6 pm_6 an_6 cd_6 ct_6), sl_6⟩)
    (c6 : PySem.W.codeIn K cd_6 "names_of_kind" = true)
    (k6 : PySem.W.keepIn K (.ref f_6) = true)
    (a7 : PySem.W.nsIn K mainGlobals "is_piece" = some (some (.ref f_7)))
    (l7 : K.lookup f_7 = some ⟨oc_7, od_7, .func (PySem.W.fnOf "is_piece" "is_piece" (defArgs s_is_piece) (defBody s_is_piece) (defScope s_is_piece) .none kV_7 dc_7 pm_7 an_7 cd_7 ct_7), sl_7⟩)
    (c7 : PySem.W.codeIn K cd_7 "is_piece" = true)
    (k7 : PySem.W.keepIn K (.ref f_7) = true)
    (a8 : PySem.W.nsIn K mainGlobals "only_fault" = some (some (.ref f_8)))
    (l8 : K.lookup f_8 = some ⟨oc_8, od_8, .func (PySem.W.fnOf "only_fault" "only_fault" (defArgs s_only_fault) (defBody s_only_fault) (defScope s_only_fault) .none kV_8 dc_8 pm_8 an_8 cd_8 ct_8), sl_8⟩)
    (c8 : PySem.W.codeIn K cd_8 "only_fault" = true)
    (k8 : PySem.W.keepIn K (.ref f_8) = true)
    (a9 : PySem.W.nsIn K mainGlobals "piece_fault" = some (some (.ref f_9)))
    (l9 : K.lookup f_9 = some ⟨oc_9, od_9, .func (PySem.W.fnOf "piece_fault" "piece_fault" (defArgs s_piece_fault) (defBody s_piece_fault) (defScope s_piece_fault) .none kV_9 dc_9 pm_9 an_9 cd_9 ct_9), sl_9⟩)
    (c9 : PySem.W.codeIn K cd_9 "piece_fault" = true)
    (k9 : PySem.W.keepIn K (.ref f_9) = true)
    (a10 : PySem.W.nsIn K mainGlobals "are_times" = some (some (.ref f_10)))
    (l10 : K.lookup f_10 = some ⟨oc_10, od_10, .func (PySem.W.fnOf "are_times" "are_times" (defArgs s_are_times) (defBody s_are_times) (defScope s_are_times) .none kV_10 dc_10 pm_10 an_10 cd_10 ct_10), sl_10⟩)
    (c10 : PySem.W.codeIn K cd_10 "are_times" = true)
    (k10 : PySem.W.keepIn K (.ref f_10) = true)
    (a11 : PySem.W.nsIn K mainGlobals "time_fault" = some (some (.ref f_11)))
    (l11 : K.lookup f_11 = some ⟨oc_11, od_11, .func (PySem.W.fnOf "time_fault" "time_fault" (defArgs s_time_fault) (defBody s_time_fault) (defScope s_time_fault) .none kV_11 dc_11 pm_11 an_11 cd_11 ct_11), sl_11⟩)
    (c11 : PySem.W.codeIn K cd_11 "time_fault" = true)
    (k11 : PySem.W.keepIn K (.ref f_11) = true)
    (a12 : PySem.W.nsIn K mainGlobals "net_fault" = some (some (.ref f_12)))
    (l12 : K.lookup f_12 = some ⟨oc_12, od_12, .func (PySem.W.fnOf "net_fault" "net_fault" (defArgs s_net_fault) (defBody s_net_fault) (defScope s_net_fault) .none kV_12 dc_12 pm_12 an_12 cd_12 ct_12), sl_12⟩)
    (c12 : PySem.W.codeIn K cd_12 "net_fault" = true)
    (k12 : PySem.W.keepIn K (.ref f_12) = true)
    (a13 : PySem.W.findIn K (.ref C_Net) "__init__" = some (some (.ref f_13)))
    (i13 : PySem.W.isFn K (.ref f_13) = true)
    (l13 : K.lookup f_13 = some ⟨oc_13, od_13, .func (PySem.W.fnOf "__init__" "Net.__init__" (defArgs s_Net___init__) (defBody s_Net___init__) (defScope s_Net___init__) .none kV_13 dc_13 pm_13 an_13 cd_13 ct_13), sl_13⟩)
    (c13 : PySem.W.codeIn K cd_13 "Net.__init__" = true)
    (k13 : PySem.W.keepIn K (.ref f_13) = true)
    (a14 : PySem.W.findIn K (.ref C_Net) "key_words" = some (some (.ref f_14)))
    (i14 : PySem.W.isFn K (.ref f_14) = true)
    (l14 : K.lookup f_14 = some ⟨oc_14, od_14, .func (PySem.W.fnOf "key_words" "Net.key_words" (defArgs s_Net_key_words) (defBody s_Net_key_words) (defScope s_Net_key_words) .none kV_14 dc_14 pm_14 an_14 cd_14 ct_14), sl_14⟩)
    (c14 : PySem.W.codeIn K cd_14 "Net.key_words" = true)
    (k14 : PySem.W.keepIn K (.ref f_14) = true)
    (a15 : PySem.W.findIn K (.ref C_Net) "relays" = some (some (.ref f_15)))
    (i15 : PySem.W.isFn K (.ref f_15) = true)
    (l15 : K.lookup f_15 = some ⟨oc_15, od_15, .func (PySem.W.fnOf "relays" "Net.relays" (defArgs s_Net_relays) (defBody s_Net_relays) (defScope s_Net_relays) .none kV_15 dc_15 pm_15 an_15 cd_15 ct_15), sl_15⟩)
    (c15 : PySem.W.codeIn K cd_15 "Net.relays" = true)
    (k15 : PySem.W.keepIn K (.ref f_15) = true)
    (a16 : PySem.W.findIn K (.ref C_Net) "lamps" = some (some (.ref f_16)))
    (i16 : PySem.W.isFn K (.ref f_16) = true)
    (l16 : K.lookup f_16 = some ⟨oc_16, od_16, .func (PySem.W.fnOf "lamps" "Net.lamps" (defArgs s_Net_lamps) (defBody s_Net_lamps) (defScope s_Net_lamps) .none kV_16 dc_16 pm_16 an_16 cd_16 ct_16), sl_16⟩)
    (c16 : PySem.W.codeIn K cd_16 "Net.lamps" = true)
    (k16 : PySem.W.keepIn K (.ref f_16) = true)
    (a17 : PySem.W.findIn K (.ref C_Net) "nodes" = some (some (.ref f_17)))
    (i17 : PySem.W.isFn K (.ref f_17) = true)
    (l17 : K.lookup f_17 = some ⟨oc_17, od_17, .func (PySem.W.fnOf "nodes" "Net.nodes" (defArgs s_Net_nodes) (defBody s_Net_nodes) (defScope s_Net_nodes) .none kV_17 dc_17 pm_17 an_17 cd_17 ct_17), sl_17⟩)
    (c17 : PySem.W.codeIn K cd_17 "Net.nodes" = true)
    (k17 : PySem.W.keepIn K (.ref f_17) = true)
    (a18 : PySem.W.findIn K (.ref C_Net) "pieces" = some (some (.ref f_18)))
    (i18 : PySem.W.isFn K (.ref f_18) = true)
    (l18 : K.lookup f_18 = some ⟨oc_18, od_18, .func (PySem.W.fnOf "pieces" "Net.pieces" (defArgs s_Net_pieces) (defBody s_Net_pieces) (defScope s_Net_pieces) .none kV_18 dc_18 pm_18 an_18 cd_18 ct_18), sl_18⟩)
    (c18 : PySem.W.codeIn K cd_18 "Net.pieces" = true)
    (k18 : PySem.W.keepIn K (.ref f_18) = true)
    (a19 : PySem.W.findIn K (.ref C_Net) "times" = some (some (.ref f_19)))
    (i19 : PySem.W.isFn K (.ref f_19) = true)
    (l19 : K.lookup f_19 = some ⟨oc_19, od_19, .func (PySem.W.fnOf "times" "Net.times" (defArgs s_Net_times) (defBody s_Net_times) (defScope s_Net_times) .none kV_19 dc_19 pm_19 an_19 cd_19 ct_19), sl_19⟩)
    (c19 : PySem.W.codeIn K cd_19 "Net.times" = true)
    (k19 : PySem.W.keepIn K (.ref f_19) = true)
    (a20 : PySem.W.nsIn K mainGlobals "show_net" = some (some (.ref f_20)))
    (l20 : K.lookup f_20 = some ⟨oc_20, od_20, .func (PySem.W.fnOf "show_net" "show_net" (defArgs s_show_net) (defBody s_show_net) (defScope s_show_net) .none kV_20 dc_20 pm_20 an_20 cd_20 ct_20), sl_20⟩)
    (c20 : PySem.W.codeIn K cd_20 "show_net" = true)
    (k20 : PySem.W.keepIn K (.ref f_20) = true)
    (a21 : PySem.W.nsIn K mainGlobals "want" = some (some (.ref f_21)))
    (l21 : K.lookup f_21 = some ⟨oc_21, od_21, .func (PySem.W.fnOf "want" "want" (defArgs s_want) (defBody s_want) (defScope s_want) .none kV_21 dc_21 pm_21 an_21 cd_21 ct_21), sl_21⟩)
    (c21 : PySem.W.codeIn K cd_21 "want" = true)
    (k21 : PySem.W.keepIn K (.ref f_21) = true)
    (a22 : PySem.W.nsIn K mainGlobals "number_of" = some (some (.ref f_22)))
    (l22 : K.lookup f_22 = some ⟨oc_22, od_22, .func (PySem.W.fnOf "number_of" "number_of" (defArgs s_number_of) (defBody s_number_of) (defScope s_number_of) .none kV_22 dc_22 pm_22 an_22 cd_22 ct_22), sl_22⟩)
    (c22 : PySem.W.codeIn K cd_22 "number_of" = true)
    (k22 : PySem.W.keepIn K (.ref f_22) = true)
    (a23 : PySem.W.nsIn K mainGlobals "rows_of" = some (some (.ref f_23)))
    (l23 : K.lookup f_23 = some ⟨oc_23, od_23, .func (PySem.W.fnOf "rows_of" "rows_of" (defArgs s_rows_of) (defBody s_rows_of) (defScope s_rows_of) .none kV_23 dc_23 pm_23 an_23 cd_23 ct_23), sl_23⟩)
    (c23 : PySem.W.codeIn K cd_23 "rows_of" = true)
    (k23 : PySem.W.keepIn K (.ref f_23) = true)
    (a24 : PySem.W.nsIn K mainGlobals "piece_of" = some (some (.ref f_24)))
    (l24 : K.lookup f_24 = some ⟨oc_24, od_24, .func (PySem.W.fnOf "piece_of" "piece_of" (defArgs s_piece_of) (defBody s_piece_of) (defScope s_piece_of) .none kV_24 dc_24 pm_24 an_24 cd_24 ct_24), sl_24⟩)
    (c24 : PySem.W.codeIn K cd_24 "piece_of" = true)
    (k24 : PySem.W.keepIn K (.ref f_24) = true)
    (a25 : PySem.W.nsIn K mainGlobals "relay_of" = some (some (.ref f_25)))
    (l25 : K.lookup f_25 = some ⟨oc_25, od_25, .func (PySem.W.fnOf "relay_of" "relay_of" (defArgs s_relay_of) (defBody s_relay_of) (defScope s_relay_of) .none kV_25 dc_25 pm_25 an_25 cd_25 ct_25), sl_25⟩)
    (c25 : PySem.W.codeIn K cd_25 "relay_of" = true)
    (k25 : PySem.W.keepIn K (.ref f_25) = true)
    (a26 : PySem.W.nsIn K mainGlobals "read_net" = some (some (.ref f_26)))
    (l26 : K.lookup f_26 = some ⟨oc_26, od_26, .func (PySem.W.fnOf "read_net" "read_net" (defArgs s_read_net) (defBody s_read_net) (defScope s_read_net) .none kV_26 dc_26 pm_26 an_26 cd_26 ct_26), sl_26⟩)
    (c26 : PySem.W.codeIn K cd_26 "read_net" = true)
    (k26 : PySem.W.keepIn K (.ref f_26) = true)
    (a27 : PySem.W.nsIn K mainGlobals "_law_pot" = some (some (.ref f_27)))
    (l27 : K.lookup f_27 = some ⟨oc_27, od_27, .func (PySem.W.fnOf "_law_pot" "_law_pot" (defArgs s__law_pot) (defBody s__law_pot) (defScope s__law_pot) .none kV_27 dc_27 pm_27 an_27 cd_27 ct_27), sl_27⟩)
    (c27 : PySem.W.codeIn K cd_27 "_law_pot" = true)
    (k27 : PySem.W.keepIn K (.ref f_27) = true)
    (a28 : PySem.W.nsIn K mainGlobals "_law_take" = some (some (.ref f_28)))
    (l28 : K.lookup f_28 = some ⟨oc_28, od_28, .func (PySem.W.fnOf "_law_take" "_law_take" (defArgs s__law_take) (defBody s__law_take) (defScope s__law_take) .none kV_28 dc_28 pm_28 an_28 cd_28 ct_28), sl_28⟩)
    (c28 : PySem.W.codeIn K cd_28 "_law_take" = true)
    (k28 : PySem.W.keepIn K (.ref f_28) = true)
    (a29 : PySem.W.nsIn K mainGlobals "_law_word" = some (some (.ref f_29)))
    (l29 : K.lookup f_29 = some ⟨oc_29, od_29, .func (PySem.W.fnOf "_law_word" "_law_word" (defArgs s__law_word) (defBody s__law_word) (defScope s__law_word) .none kV_29 dc_29 pm_29 an_29 cd_29 ct_29), sl_29⟩)
    (c29 : PySem.W.codeIn K cd_29 "_law_word" = true)
    (k29 : PySem.W.keepIn K (.ref f_29) = true)
    (a30 : PySem.W.nsIn K mainGlobals "_law_unlike" = some (some (.ref f_30)))
    (l30 : K.lookup f_30 = some ⟨oc_30, od_30, .func (PySem.W.fnOf "_law_unlike" "_law_unlike" (defArgs s__law_unlike) (defBody s__law_unlike) (defScope s__law_unlike) .none kV_30 dc_30 pm_30 an_30 cd_30 ct_30), sl_30⟩)
    (c30 : PySem.W.codeIn K cd_30 "_law_unlike" = true)
    (k30 : PySem.W.keepIn K (.ref f_30) = true)
    (a31 : PySem.W.nsIn K mainGlobals "_law_piece" = some (some (.ref f_31)))
    (l31 : K.lookup f_31 = some ⟨oc_31, od_31, .func (PySem.W.fnOf "_law_piece" "_law_piece" (defArgs s__law_piece) (defBody s__law_piece) (defScope s__law_piece) .none kV_31 dc_31 pm_31 an_31 cd_31 ct_31), sl_31⟩)
    (c31 : PySem.W.codeIn K cd_31 "_law_piece" = true)
    (k31 : PySem.W.keepIn K (.ref f_31) = true)
    (a32 : PySem.W.nsIn K mainGlobals "_law_times" = some (some (.ref f_32)))
    (l32 : K.lookup f_32 = some ⟨oc_32, od_32, .func (PySem.W.fnOf "_law_times" "_law_times" (defArgs s__law_times) (defBody s__law_times) (defScope s__law_times) .none kV_32 dc_32 pm_32 an_32 cd_32 ct_32), sl_32⟩)
    (c32 : PySem.W.codeIn K cd_32 "_law_times" = true)
    (k32 : PySem.W.keepIn K (.ref f_32) = true)
    (a33 : PySem.W.nsIn K mainGlobals "_law_net" = some (some (.ref f_33)))
    (l33 : K.lookup f_33 = some ⟨oc_33, od_33, .func (PySem.W.fnOf "_law_net" "_law_net" (defArgs s__law_net) (defBody s__law_net) (defScope s__law_net) .none kV_33 dc_33 pm_33 an_33 cd_33 ct_33), sl_33⟩)
    (c33 : PySem.W.codeIn K cd_33 "_law_net" = true)
    (k33 : PySem.W.keepIn K (.ref f_33) = true)
    (a34 : PySem.W.nsIn K mainGlobals "_law_copy" = some (some (.ref f_34)))
    (l34 : K.lookup f_34 = some ⟨oc_34, od_34, .func (PySem.W.fnOf "_law_copy" "_law_copy" (defArgs s__law_copy) (defBody s__law_copy) (defScope s__law_copy) .none kV_34 dc_34 pm_34 an_34 cd_34 ct_34), sl_34⟩)
    (c34 : PySem.W.codeIn K cd_34 "_law_copy" = true)
    (k34 : PySem.W.keepIn K (.ref f_34) = true)
    (a35 : PySem.W.nsIn K mainGlobals "_law_made" = some (some (.ref f_35)))
    (l35 : K.lookup f_35 = some ⟨oc_35, od_35, .func (PySem.W.fnOf "_law_made" "_law_made" (defArgs s__law_made) (defBody s__law_made) (defScope s__law_made) .none kV_35 dc_35 pm_35 an_35 cd_35 ct_35), sl_35⟩)
    (c35 : PySem.W.codeIn K cd_35 "_law_made" = true)
    (k35 : PySem.W.keepIn K (.ref f_35) = true)
    (a36 : PySem.W.nsIn K mainGlobals "_law_told" = some (some (.ref f_36)))
    (l36 : K.lookup f_36 = some ⟨oc_36, od_36, .func (PySem.W.fnOf "_law_told" "_law_told" (defArgs s__law_told) (defBody s__law_told) (defScope s__law_told) .none kV_36 dc_36 pm_36 an_36 cd_36 ct_36), sl_36⟩)
    (c36 : PySem.W.codeIn K cd_36 "_law_told" = true)
    (k36 : PySem.W.keepIn K (.ref f_36) = true)
    (a37 : PySem.W.nsIn K mainGlobals "_law_text" = some (some (.ref f_37)))
    (l37 : K.lookup f_37 = some ⟨oc_37, od_37, .func (PySem.W.fnOf "_law_text" "_law_text" (defArgs s__law_text) (defBody s__law_text) (defScope s__law_text) .none kV_37 dc_37 pm_37 an_37 cd_37 ct_37), sl_37⟩)
    (c37 : PySem.W.codeIn K cd_37 "_law_text" = true)
    (k37 : PySem.W.keepIn K (.ref f_37) = true)
    (a38 : PySem.W.nsIn K mainGlobals "law" = some (some (.ref f_38)))
    (l38 : K.lookup f_38 = some ⟨oc_38, od_38, .func (PySem.W.fnOf "law" "law" (defArgs s_law) (defBody s_law) (defScope s_law) .none kV_38 dc_38 pm_38 an_38 cd_38 ct_38), sl_38⟩)
    (c38 : PySem.W.codeIn K cd_38 "law" = true)
    (k38 : PySem.W.keepIn K (.ref f_38) = true)
    (gC_Net : PySem.W.nsIn K mainGlobals "Net" = some (some (.ref C_Net)))
    (pg_Net : PySem.W.plainGet K C_Net Str.empty = true)
    (hd_Net : PySem.W.hasDictIn K C_Net = true)
    (po_Net : PySem.W.plainOver K C_Net = true)
    (sa_Net : PySem.W.findIn K (.ref C_Net) "__setattr__" = some (some (.builtin "object.__setattr__")))
    (mk_Net : PySem.W.makesIn K C_Net = true)
    (kc_Net : PySem.W.keepIn K (.ref C_Net) = true)
    (cta_Net : PySem.W.findIn K (.ref C_Net) "__class__" = some (some (.builtin "object.__class__")))
    (ctn_Net : PySem.W.specialIn K (.builtin "object.__class__") "__get__" = some (some (.builtin "getset_descriptor.__get__")))
    (ctk_Net : PySem.W.takesIn K (.builtin "object.__class__") = some true)
    (ctm_Net : PySem.W.mroIn K C_Net (.type "object") = some true)
    (na_Net_own_keys : PySem.W.findIn K (.ref C_Net) "own_keys" = some none)
    (na_Net_own_relays : PySem.W.findIn K (.ref C_Net) "own_relays" = some none)
    (na_Net_own_lamps : PySem.W.findIn K (.ref C_Net) "own_lamps" = some none)
    (na_Net_node_count : PySem.W.findIn K (.ref C_Net) "node_count" = some none)
    (na_Net_piece_rows : PySem.W.findIn K (.ref C_Net) "piece_rows" = some none)
    (na_Net_time_rows : PySem.W.findIn K (.ref C_Net) "time_rows" = some none)
    (gc_MOST_LETTERS : PySem.W.nsIn K mainGlobals "MOST_LETTERS" = some (some (.int 8 tk_MOST_LETTERS)))
    (gc_LETTERS : PySem.W.nsIn K mainGlobals "LETTERS" = some (some (.str "abcdefghijklmnopqrstuvwxyz" tk_LETTERS)))
    (gc_MOST_LAMPS : PySem.W.nsIn K mainGlobals "MOST_LAMPS" = some (some (.int 2 tk_MOST_LAMPS)))
    (gc_MOST_RELAYS : PySem.W.nsIn K mainGlobals "MOST_RELAYS" = some (some (.int 4 tk_MOST_RELAYS)))
    (gc_MOST_KEYS : PySem.W.nsIn K mainGlobals "MOST_KEYS" = some (some (.int 2 tk_MOST_KEYS)))
    (gc_LEAST_NODES : PySem.W.nsIn K mainGlobals "LEAST_NODES" = some (some (.int 2 tk_LEAST_NODES)))
    (gc_MOST_NODES : PySem.W.nsIn K mainGlobals "MOST_NODES" = some (some (.int 640 tk_MOST_NODES)))
    (gc_MOST_PIECES : PySem.W.nsIn K mainGlobals "MOST_PIECES" = some (some (.int 800 tk_MOST_PIECES)))
    (gc_MOST_TIME : PySem.W.nsIn K mainGlobals "MOST_TIME" = some (some (.int 4 tk_MOST_TIME)))
    (gc_FIGURES : PySem.W.nsIn K mainGlobals "FIGURES" = some (some (.str "0123456789" tk_FIGURES)))
    (gt_PARTS : PySem.W.nsIn K mainGlobals "PARTS" = some (some (.ref d_PARTS)))
    (lt_PARTS : K.lookup d_PARTS = some ⟨.type "dict", none, .dict #[⟨h_PARTS_0, .str "wire" t_PARTS_0, .ref u_PARTS_0⟩, ⟨h_PARTS_1, .str "made" t_PARTS_1, .ref u_PARTS_1⟩, ⟨h_PARTS_2, .str "broken" t_PARTS_2, .ref u_PARTS_2⟩, ⟨h_PARTS_3, .str "swap" t_PARTS_3, .ref u_PARTS_3⟩, ⟨h_PARTS_4, .str "coil" t_PARTS_4, .ref u_PARTS_4⟩, ⟨h_PARTS_5, .str "lamp" t_PARTS_5, .ref u_PARTS_5⟩] dn_PARTS, #[]⟩)
    (hh_PARTS_0 : h_PARTS_0 = PyData.keyHash w.params "wire")
    (hh_PARTS_1 : h_PARTS_1 = PyData.keyHash w.params "made")
    (hh_PARTS_2 : h_PARTS_2 = PyData.keyHash w.params "broken")
    (hh_PARTS_3 : h_PARTS_3 = PyData.keyHash w.params "swap")
    (hh_PARTS_4 : h_PARTS_4 = PyData.keyHash w.params "coil")
    (hh_PARTS_5 : h_PARTS_5 = PyData.keyHash w.params "lamp")
    (lo_PARTS : (d_PARTS == sysModules) = false)
    (lu_PARTS_0 : K.lookup u_PARTS_0 = some ⟨.type "tuple", to_PARTS_0, .seq #[.int 0 ta_PARTS_0, .int 2 tb_PARTS_0] tn_PARTS_0, ts_PARTS_0⟩)
    (lu_PARTS_1 : K.lookup u_PARTS_1 = some ⟨.type "tuple", to_PARTS_1, .seq #[.int 1 ta_PARTS_1, .int 2 tb_PARTS_1] tn_PARTS_1, ts_PARTS_1⟩)
    (lu_PARTS_2 : K.lookup u_PARTS_2 = some ⟨.type "tuple", to_PARTS_2, .seq #[.int 1 ta_PARTS_2, .int 2 tb_PARTS_2] tn_PARTS_2, ts_PARTS_2⟩)
    (lu_PARTS_3 : K.lookup u_PARTS_3 = some ⟨.type "tuple", to_PARTS_3, .seq #[.int 1 ta_PARTS_3, .int 3 tb_PARTS_3] tn_PARTS_3, ts_PARTS_3⟩)
    (lu_PARTS_4 : K.lookup u_PARTS_4 = some ⟨.type "tuple", to_PARTS_4, .seq #[.int 1 ta_PARTS_4, .int 2 tb_PARTS_4] tn_PARTS_4, ts_PARTS_4⟩)
    (lu_PARTS_5 : K.lookup u_PARTS_5 = some ⟨.type "tuple", to_PARTS_5, .seq #[.int 1 ta_PARTS_5, .int 2 tb_PARTS_5] tn_PARTS_5, ts_PARTS_5⟩)
    (zz_len : PySem.W.nsIn K mainGlobals "len" = some none)
    (zz_all : PySem.W.nsIn K mainGlobals "all" = some none)
    (zz_isinstance : PySem.W.nsIn K mainGlobals "isinstance" = some none)
    (zz_int : PySem.W.nsIn K mainGlobals "int" = some none)
    (zz_bool : PySem.W.nsIn K mainGlobals "bool" = some none)
    (zz_enumerate : PySem.W.nsIn K mainGlobals "enumerate" = some none)
    (zz_set : PySem.W.nsIn K mainGlobals "set" = some none)
    (zz_list : PySem.W.nsIn K mainGlobals "list" = some none)
    (zz_zip : PySem.W.nsIn K mainGlobals "zip" = some none)
    (zz_str : PySem.W.nsIn K mainGlobals "str" = some none)
    (zz_tuple : PySem.W.nsIn K mainGlobals "tuple" = some none)
    (zz_abs : PySem.W.nsIn K mainGlobals "abs" = some none)
    (zz_max : PySem.W.nsIn K mainGlobals "max" = some none)
    (zz_divmod : PySem.W.nsIn K mainGlobals "divmod" = some none)
    (zz_range : PySem.W.nsIn K mainGlobals "range" = some none)
    (zz_min : PySem.W.nsIn K mainGlobals "min" = some none)
    (zz_repr : PySem.W.nsIn K mainGlobals "repr" = some none) :
    ∃ fd : FuncData, (∀ (s : Shared) (v : Value), BindsTo s fd ⟨[v], []⟩ [("_law_script", v)]) ∧ ∀ base : Heap, K.In base → base.Ns mainGlobals mg → FnG l.prog w K mg base 9 aL fd ["_law_script"] spLaw := by
  have e := hfa.symm.trans (PySem.W.mg_of X G a38)
  obtain rfl : f_38 = aL := by cases e; rfl
  have F0 := fun_mk (st := s_is_word) l0 c0 k0
  have b0 := F0.binds (ps := ["text"]) fun _ _ _ _ _ _ us hl => match us, hl with | [_], _ => rfl
  have F1 := fun_mk (st := s_is_whole) l1 c1 k1
  have b1 := F1.binds (ps := ["thing"]) fun _ _ _ _ _ _ us hl => match us, hl with | [_], _ => rfl
  have F2 := fun_mk (st := s_word_fault) l2 c2 k2
  have b2 := F2.binds (ps := ["words"]) fun _ _ _ _ _ _ us hl => match us, hl with | [_], _ => rfl
  have F3 := fun_mk (st := s_many_fault) l3 c3 k3
  have b3 := F3.binds (ps := ["keys", "relays", "lamps"]) fun _ _ _ _ _ _ us hl => match us, hl with | [_, _, _], _ => rfl
  have F4 := fun_mk (st := s_size_fault) l4 c4 k4
  have b4 := F4.binds (ps := ["nodes", "pieces"]) fun _ _ _ _ _ _ us hl => match us, hl with | [_, _], _ => rfl
  have F5 := fun_mk (st := s_are_nodes) l5 c5 k5
  have b5 := F5.binds (ps := ["parts", "nodes"]) fun _ _ _ _ _ _ us hl => match us, hl with | [_, _], _ => rfl
  have F6 := fun_mk (st := s_names_of_kind) l6 c6 k6
  have b6 := F6.binds (ps := ["word", "keys", "relays", "lamps"]) fun _ _ _ _ _ _ us hl => match us, hl with | [_, _, _, _], _ => rfl
  have F7 := fun_mk (st := s_is_piece) l7 c7 k7
  have b7 := F7.binds (ps := ["piece", "keys", "relays", "lamps", "nodes"]) fun _ _ _ _ _ _ us hl => match us, hl with | [_, _, _, _, _], _ => rfl
  have F8 := fun_mk (st := s_only_fault) l8 c8 k8
  have b8 := F8.binds (ps := ["word", "names", "pieces"]) fun _ _ _ _ _ _ us hl => match us, hl with | [_, _, _], _ => rfl
  have F9 := fun_mk (st := s_piece_fault) l9 c9 k9
  have b9 := F9.binds (ps := ["keys", "relays", "lamps", "nodes", "pieces"]) fun _ _ _ _ _ _ us hl => match us, hl with | [_, _, _, _, _], _ => rfl
  have F10 := fun_mk (st := s_are_times) l10 c10 k10
  have b10 := F10.binds (ps := ["times"]) fun _ _ _ _ _ _ us hl => match us, hl with | [_], _ => rfl
  have F11 := fun_mk (st := s_time_fault) l11 c11 k11
  have b11 := F11.binds (ps := ["relays", "times"]) fun _ _ _ _ _ _ us hl => match us, hl with | [_, _], _ => rfl
  have F12 := fun_mk (st := s_net_fault) l12 c12 k12
  have b12 := F12.binds (ps := ["keys", "relays", "lamps", "nodes", "pieces", "times"]) fun _ _ _ _ _ _ us hl => match us, hl with | [_, _, _, _, _, _], _ => rfl
  have F13 := fun_mk (st := s_Net___init__) l13 c13 k13
  have b13 := F13.binds (ps := ["self", "keys", "relays", "lamps", "nodes", "pieces", "times"]) fun _ _ _ _ _ _ us hl => match us, hl with | [_, _, _, _, _, _, _], _ => rfl
  have F14 := fun_mk (st := s_Net_key_words) l14 c14 k14
  have b14 := F14.binds (ps := ["self"]) fun _ _ _ _ _ _ us hl => match us, hl with | [_], _ => rfl
  have F15 := fun_mk (st := s_Net_relays) l15 c15 k15
  have b15 := F15.binds (ps := ["self"]) fun _ _ _ _ _ _ us hl => match us, hl with | [_], _ => rfl
  have F16 := fun_mk (st := s_Net_lamps) l16 c16 k16
  have b16 := F16.binds (ps := ["self"]) fun _ _ _ _ _ _ us hl => match us, hl with | [_], _ => rfl
  have F17 := fun_mk (st := s_Net_nodes) l17 c17 k17
  have b17 := F17.binds (ps := ["self"]) fun _ _ _ _ _ _ us hl => match us, hl with | [_], _ => rfl
  have F18 := fun_mk (st := s_Net_pieces) l18 c18 k18
  have b18 := F18.binds (ps := ["self"]) fun _ _ _ _ _ _ us hl => match us, hl with | [_], _ => rfl
  have F19 := fun_mk (st := s_Net_times) l19 c19 k19
  have b19 := F19.binds (ps := ["self"]) fun _ _ _ _ _ _ us hl => match us, hl with | [_], _ => rfl
  have F20 := fun_mk (st := s_show_net) l20 c20 k20
  have b20 := F20.binds (ps := ["net"]) fun _ _ _ _ _ _ us hl => match us, hl with | [_], _ => rfl
  have F21 := fun_mk (st := s_want) l21 c21 k21
  have b21 := F21.binds (ps := ["truth"]) fun _ _ _ _ _ _ us hl => match us, hl with | [_], _ => rfl
  have F22 := fun_mk (st := s_number_of) l22 c22 k22
  have b22 := F22.binds (ps := ["word"]) fun _ _ _ _ _ _ us hl => match us, hl with | [_], _ => rfl
  have F23 := fun_mk (st := s_rows_of) l23 c23 k23
  have b23 := F23.binds (ps := ["text"]) fun _ _ _ _ _ _ us hl => match us, hl with | [_], _ => rfl
  have F24 := fun_mk (st := s_piece_of) l24 c24 k24
  have b24 := F24.binds (ps := ["row"]) fun _ _ _ _ _ _ us hl => match us, hl with | [_], _ => rfl
  have F25 := fun_mk (st := s_relay_of) l25 c25 k25
  have b25 := F25.binds (ps := ["row"]) fun _ _ _ _ _ _ us hl => match us, hl with | [_], _ => rfl
  have F26 := fun_mk (st := s_read_net) l26 c26 k26
  have b26 := F26.binds (ps := ["text"]) fun _ _ _ _ _ _ us hl => match us, hl with | [_], _ => rfl
  have F27 := fun_mk (st := s__law_pot) l27 c27 k27
  have b27 := F27.binds (ps := ["_law_script", "_law_k"]) fun _ _ _ _ _ _ us hl => match us, hl with | [_, _], _ => rfl
  have F28 := fun_mk (st := s__law_take) l28 c28 k28
  have b28 := F28.binds (ps := ["_law_pot_here", "_law_many"]) fun _ _ _ _ _ _ us hl => match us, hl with | [_, _], _ => rfl
  have F29 := fun_mk (st := s__law_word) l29 c29 k29
  have b29 := F29.binds (ps := ["_law_pot_here", "_law_taken"]) fun _ _ _ _ _ _ us hl => match us, hl with | [_, _], _ => rfl
  have F30 := fun_mk (st := s__law_unlike) l30 c30 k30
  have b30 := F30.binds (ps := ["_law_pot_here", "_law_nodes", "_law_many"]) fun _ _ _ _ _ _ us hl => match us, hl with | [_, _, _], _ => rfl
  have F31 := fun_mk (st := s__law_piece) l31 c31 k31
  have b31 := F31.binds (ps := ["_law_pot_here", "_law_names", "_law_nodes"]) fun _ _ _ _ _ _ us hl => match us, hl with | [_, _, _], _ => rfl
  have F32 := fun_mk (st := s__law_times) l32 c32 k32
  have b32 := F32.binds (ps := ["_law_pot_here"]) fun _ _ _ _ _ _ us hl => match us, hl with | [_], _ => rfl
  have F33 := fun_mk (st := s__law_net) l33 c33 k33
  have b33 := F33.binds (ps := ["_law_pot_here", "_law_most"]) fun _ _ _ _ _ _ us hl => match us, hl with | [_, _], _ => rfl
  have F34 := fun_mk (st := s__law_copy) l34 c34 k34
  have b34 := F34.binds (ps := ["_law_things"]) fun _ _ _ _ _ _ us hl => match us, hl with | [_], _ => rfl
  have F35 := fun_mk (st := s__law_made) l35 c35 k35
  have b35 := F35.binds (ps := ["_law_things"]) fun _ _ _ _ _ _ us hl => match us, hl with | [_], _ => rfl
  have F36 := fun_mk (st := s__law_told) l36 c36 k36
  have b36 := F36.binds (ps := ["_law_net_here"]) fun _ _ _ _ _ _ us hl => match us, hl with | [_], _ => rfl
  have F37 := fun_mk (st := s__law_text) l37 c37 k37
  have b37 := F37.binds (ps := ["_law_things"]) fun _ _ _ _ _ _ us hl => match us, hl with | [_], _ => rfl
  have F38 := fun_mk (st := s_law) l38 c38 k38
  have b38 := F38.binds (ps := ["_law_script"]) fun _ _ _ _ _ _ us hl => match us, hl with | [_], _ => rfl
  let ad : Ad := { C_Net := C_Net, d_PARTS := d_PARTS }
  let fa : Fa := ⟨f_0, PySem.W.fnOf "is_word" "is_word" (defArgs s_is_word) (defBody s_is_word) (defScope s_is_word) .none kV_0 dc_0 pm_0 an_0 cd_0 ct_0, f_1, PySem.W.fnOf "is_whole" "is_whole" (defArgs s_is_whole) (defBody s_is_whole) (defScope s_is_whole) .none kV_1 dc_1 pm_1 an_1 cd_1 ct_1, f_2, PySem.W.fnOf "word_fault" "word_fault" (defArgs s_word_fault) (defBody s_word_fault) (defScope s_word_fault) .none kV_2 dc_2 pm_2 an_2 cd_2 ct_2, f_3, PySem.W.fnOf "many_fault" "many_fault" (defArgs s_many_fault) (defBody s_many_fault) (defScope s_many_fault) .none kV_3 dc_3 pm_3 an_3 cd_3 ct_3, f_4, PySem.W.fnOf "size_fault" "size_fault" (defArgs s_size_fault) (defBody s_size_fault) (defScope s_size_fault) .none kV_4 dc_4 pm_4 an_4 cd_4 ct_4, f_5, PySem.W.fnOf "are_nodes" "are_nodes" (defArgs s_are_nodes) (defBody s_are_nodes) (defScope s_are_nodes) .none kV_5 dc_5 pm_5 an_5 cd_5 ct_5, f_6, PySem.W.fnOf "names_of_kind" "names_of_kind" (defArgs s_names_of_kind) (defBody s_names_of_kind) (defScope s_names_of_kind) .none kV_6 dc_6 pm_6 an_6 cd_6 ct_6, f_7, PySem.W.fnOf "is_piece" "is_piece" (defArgs s_is_piece) (defBody s_is_piece) (defScope s_is_piece) .none kV_7 dc_7 pm_7 an_7 cd_7 ct_7, f_8, PySem.W.fnOf "only_fault" "only_fault" (defArgs s_only_fault) (defBody s_only_fault) (defScope s_only_fault) .none kV_8 dc_8 pm_8 an_8 cd_8 ct_8, f_9, PySem.W.fnOf "piece_fault" "piece_fault" (defArgs s_piece_fault) (defBody s_piece_fault) (defScope s_piece_fault) .none kV_9 dc_9 pm_9 an_9 cd_9 ct_9, f_10, PySem.W.fnOf "are_times" "are_times" (defArgs s_are_times) (defBody s_are_times) (defScope s_are_times) .none kV_10 dc_10 pm_10 an_10 cd_10 ct_10, f_11, PySem.W.fnOf "time_fault" "time_fault" (defArgs s_time_fault) (defBody s_time_fault) (defScope s_time_fault) .none kV_11 dc_11 pm_11 an_11 cd_11 ct_11, f_12, PySem.W.fnOf "net_fault" "net_fault" (defArgs s_net_fault) (defBody s_net_fault) (defScope s_net_fault) .none kV_12 dc_12 pm_12 an_12 cd_12 ct_12, f_13, PySem.W.fnOf "__init__" "Net.__init__" (defArgs s_Net___init__) (defBody s_Net___init__) (defScope s_Net___init__) .none kV_13 dc_13 pm_13 an_13 cd_13 ct_13, f_14, PySem.W.fnOf "key_words" "Net.key_words" (defArgs s_Net_key_words) (defBody s_Net_key_words) (defScope s_Net_key_words) .none kV_14 dc_14 pm_14 an_14 cd_14 ct_14, f_15, PySem.W.fnOf "relays" "Net.relays" (defArgs s_Net_relays) (defBody s_Net_relays) (defScope s_Net_relays) .none kV_15 dc_15 pm_15 an_15 cd_15 ct_15, f_16, PySem.W.fnOf "lamps" "Net.lamps" (defArgs s_Net_lamps) (defBody s_Net_lamps) (defScope s_Net_lamps) .none kV_16 dc_16 pm_16 an_16 cd_16 ct_16, f_17, PySem.W.fnOf "nodes" "Net.nodes" (defArgs s_Net_nodes) (defBody s_Net_nodes) (defScope s_Net_nodes) .none kV_17 dc_17 pm_17 an_17 cd_17 ct_17, f_18, PySem.W.fnOf "pieces" "Net.pieces" (defArgs s_Net_pieces) (defBody s_Net_pieces) (defScope s_Net_pieces) .none kV_18 dc_18 pm_18 an_18 cd_18 ct_18, f_19, PySem.W.fnOf "times" "Net.times" (defArgs s_Net_times) (defBody s_Net_times) (defScope s_Net_times) .none kV_19 dc_19 pm_19 an_19 cd_19 ct_19, f_20, PySem.W.fnOf "show_net" "show_net" (defArgs s_show_net) (defBody s_show_net) (defScope s_show_net) .none kV_20 dc_20 pm_20 an_20 cd_20 ct_20, f_21, PySem.W.fnOf "want" "want" (defArgs s_want) (defBody s_want) (defScope s_want) .none kV_21 dc_21 pm_21 an_21 cd_21 ct_21, f_22, PySem.W.fnOf "number_of" "number_of" (defArgs s_number_of) (defBody s_number_of) (defScope s_number_of) .none kV_22 dc_22 pm_22 an_22 cd_22 ct_22, f_23, PySem.W.fnOf "rows_of" "rows_of" (defArgs s_rows_of) (defBody s_rows_of) (defScope s_rows_of) .none kV_23 dc_23 pm_23 an_23 cd_23 ct_23, f_24, PySem.W.fnOf "piece_of" "piece_of" (defArgs s_piece_of) (defBody s_piece_of) (defScope s_piece_of) .none kV_24 dc_24 pm_24 an_24 cd_24 ct_24, f_25, PySem.W.fnOf "relay_of" "relay_of" (defArgs s_relay_of) (defBody s_relay_of) (defScope s_relay_of) .none kV_25 dc_25 pm_25 an_25 cd_25 ct_25, f_26, PySem.W.fnOf "read_net" "read_net" (defArgs s_read_net) (defBody s_read_net) (defScope s_read_net) .none kV_26 dc_26 pm_26 an_26 cd_26 ct_26, f_27, PySem.W.fnOf "_law_pot" "_law_pot" (defArgs s__law_pot) (defBody s__law_pot) (defScope s__law_pot) .none kV_27 dc_27 pm_27 an_27 cd_27 ct_27, f_28, PySem.W.fnOf "_law_take" "_law_take" (defArgs s__law_take) (defBody s__law_take) (defScope s__law_take) .none kV_28 dc_28 pm_28 an_28 cd_28 ct_28, f_29, PySem.W.fnOf "_law_word" "_law_word" (defArgs s__law_word) (defBody s__law_word) (defScope s__law_word) .none kV_29 dc_29 pm_29 an_29 cd_29 ct_29, f_30, PySem.W.fnOf "_law_unlike" "_law_unlike" (defArgs s__law_unlike) (defBody s__law_unlike) (defScope s__law_unlike) .none kV_30 dc_30 pm_30 an_30 cd_30 ct_30, f_31, PySem.W.fnOf "_law_piece" "_law_piece" (defArgs s__law_piece) (defBody s__law_piece) (defScope s__law_piece) .none kV_31 dc_31 pm_31 an_31 cd_31 ct_31, f_32, PySem.W.fnOf "_law_times" "_law_times" (defArgs s__law_times) (defBody s__law_times) (defScope s__law_times) .none kV_32 dc_32 pm_32 an_32 cd_32 ct_32, f_33, PySem.W.fnOf "_law_net" "_law_net" (defArgs s__law_net) (defBody s__law_net) (defScope s__law_net) .none kV_33 dc_33 pm_33 an_33 cd_33 ct_33, f_34, PySem.W.fnOf "_law_copy" "_law_copy" (defArgs s__law_copy) (defBody s__law_copy) (defScope s__law_copy) .none kV_34 dc_34 pm_34 an_34 cd_34 ct_34, f_35, PySem.W.fnOf "_law_made" "_law_made" (defArgs s__law_made) (defBody s__law_made) (defScope s__law_made) .none kV_35 dc_35 pm_35 an_35 cd_35 ct_35, f_36, PySem.W.fnOf "_law_told" "_law_told" (defArgs s__law_told) (defBody s__law_told) (defScope s__law_told) .none kV_36 dc_36 pm_36 an_36 cd_36 ct_36, f_37, PySem.W.fnOf "_law_text" "_law_text" (defArgs s__law_text) (defBody s__law_text) (defScope s__law_text) .none kV_37 dc_37 pm_37 an_37 cd_37 ct_37, f_38, PySem.W.fnOf "law" "law" (defArgs s_law) (defBody s_law) (defScope s_law) .none kV_38 dc_38 pm_38 an_38 cd_38 ct_38⟩
  have T : Txt ad fa K w mg := {
    F_is_word := F0,
    b_is_word := b0,
    g_is_word := PySem.W.mg_of X G a0,
    F_is_whole := F1,
    b_is_whole := b1,
    g_is_whole := PySem.W.mg_of X G a1,
    F_word_fault := F2,
    b_word_fault := b2,
    g_word_fault := PySem.W.mg_of X G a2,
    F_many_fault := F3,
    b_many_fault := b3,
    g_many_fault := PySem.W.mg_of X G a3,
    F_size_fault := F4,
    b_size_fault := b4,
    g_size_fault := PySem.W.mg_of X G a4,
    F_are_nodes := F5,
    b_are_nodes := b5,
    g_are_nodes := PySem.W.mg_of X G a5,
    F_names_of_kind := F6,
    b_names_of_kind := b6,
    g_names_of_kind := PySem.W.mg_of X G a6,
    F_is_piece := F7,
    b_is_piece := b7,
    g_is_piece := PySem.W.mg_of X G a7,
    F_only_fault := F8,
    b_only_fault := b8,
    g_only_fault := PySem.W.mg_of X G a8,
    F_piece_fault := F9,
    b_piece_fault := b9,
    g_piece_fault := PySem.W.mg_of X G a9,
    F_are_times := F10,
    b_are_times := b10,
    g_are_times := PySem.W.mg_of X G a10,
    F_time_fault := F11,
    b_time_fault := b11,
    g_time_fault := PySem.W.mg_of X G a11,
    F_net_fault := F12,
    b_net_fault := b12,
    g_net_fault := PySem.W.mg_of X G a12,
    F_Net___init__ := F13,
    b_Net___init__ := b13,
    F_Net_key_words := F14,
    b_Net_key_words := b14,
    me_Net_key_words := ⟨a14, i14, k14⟩,
    F_Net_relays := F15,
    b_Net_relays := b15,
    me_Net_relays := ⟨a15, i15, k15⟩,
    F_Net_lamps := F16,
    b_Net_lamps := b16,
    me_Net_lamps := ⟨a16, i16, k16⟩,
    F_Net_nodes := F17,
    b_Net_nodes := b17,
    me_Net_nodes := ⟨a17, i17, k17⟩,
    F_Net_pieces := F18,
    b_Net_pieces := b18,
    me_Net_pieces := ⟨a18, i18, k18⟩,
    F_Net_times := F19,
    b_Net_times := b19,
    me_Net_times := ⟨a19, i19, k19⟩,
    F_show_net := F20,
    b_show_net := b20,
    g_show_net := PySem.W.mg_of X G a20,
    F_want := F21,
    b_want := b21,
    g_want := PySem.W.mg_of X G a21,
    F_number_of := F22,
    b_number_of := b22,
    g_number_of := PySem.W.mg_of X G a22,
    F_rows_of := F23,
    b_rows_of := b23,
    g_rows_of := PySem.W.mg_of X G a23,
    F_piece_of := F24,
    b_piece_of := b24,
    g_piece_of := PySem.W.mg_of X G a24,
    F_relay_of := F25,
    b_relay_of := b25,
    g_relay_of := PySem.W.mg_of X G a25,
    F_read_net := F26,
    b_read_net := b26,
    g_read_net := PySem.W.mg_of X G a26,
    F__law_pot := F27,
    b__law_pot := b27,
    g__law_pot := PySem.W.mg_of X G a27,
    F__law_take := F28,
    b__law_take := b28,
    g__law_take := PySem.W.mg_of X G a28,
    F__law_word := F29,
    b__law_word := b29,
    g__law_word := PySem.W.mg_of X G a29,
    F__law_unlike := F30,
    b__law_unlike := b30,
    g__law_unlike := PySem.W.mg_of X G a30,
    F__law_piece := F31,
    b__law_piece := b31,
    g__law_piece := PySem.W.mg_of X G a31,
    F__law_times := F32,
    b__law_times := b32,
    g__law_times := PySem.W.mg_of X G a32,
    F__law_net := F33,
    b__law_net := b33,
    g__law_net := PySem.W.mg_of X G a33,
    F__law_copy := F34,
    b__law_copy := b34,
    g__law_copy := PySem.W.mg_of X G a34,
    F__law_made := F35,
    b__law_made := b35,
    g__law_made := PySem.W.mg_of X G a35,
    F__law_told := F36,
    b__law_told := b36,
    g__law_told := PySem.W.mg_of X G a36,
    F__law_text := F37,
    b__law_text := b37,
    g__law_text := PySem.W.mg_of X G a37,
    F_law := F38,
    b_law := b38,
    g_law := PySem.W.mg_of X G a38,
    cl_Net := ⟨pg_Net, hd_Net, po_Net, sa_Net⟩,
    g_Net := PySem.W.mg_of X G gC_Net,
    mk_Net := ⟨mk_Net, a13, i13, kc_Net⟩,
    ct_Net := ⟨⟨pg_Net, hd_Net, po_Net, sa_Net⟩, cta_Net, ctn_Net, ctk_Net, ctm_Net⟩,
    na_Net_own_keys := na_Net_own_keys,
    na_Net_own_relays := na_Net_own_relays,
    na_Net_own_lamps := na_Net_own_lamps,
    na_Net_node_count := na_Net_node_count,
    na_Net_piece_rows := na_Net_piece_rows,
    na_Net_time_rows := na_Net_time_rows,
    g_MOST_LETTERS := ⟨_, PySem.W.mg_of X G gc_MOST_LETTERS⟩,
    g_LETTERS := ⟨_, PySem.W.mg_of X G gc_LETTERS⟩,
    g_MOST_LAMPS := ⟨_, PySem.W.mg_of X G gc_MOST_LAMPS⟩,
    g_MOST_RELAYS := ⟨_, PySem.W.mg_of X G gc_MOST_RELAYS⟩,
    g_MOST_KEYS := ⟨_, PySem.W.mg_of X G gc_MOST_KEYS⟩,
    g_LEAST_NODES := ⟨_, PySem.W.mg_of X G gc_LEAST_NODES⟩,
    g_MOST_NODES := ⟨_, PySem.W.mg_of X G gc_MOST_NODES⟩,
    g_MOST_PIECES := ⟨_, PySem.W.mg_of X G gc_MOST_PIECES⟩,
    g_MOST_TIME := ⟨_, PySem.W.mg_of X G gc_MOST_TIME⟩,
    g_FIGURES := ⟨_, PySem.W.mg_of X G gc_FIGURES⟩,
    g_PARTS := PySem.W.mg_of X G gt_PARTS,
    t_PARTS := tab_PARTS lt_PARTS lo_PARTS hh_PARTS_0 hh_PARTS_1 hh_PARTS_2 hh_PARTS_3 hh_PARTS_4 hh_PARTS_5 lu_PARTS_0 lu_PARTS_1 lu_PARTS_2 lu_PARTS_3 lu_PARTS_4 lu_PARTS_5,
    z_len := PySem.W.mg_none_of X G zz_len,
    z_all := PySem.W.mg_none_of X G zz_all,
    z_isinstance := PySem.W.mg_none_of X G zz_isinstance,
    z_int := PySem.W.mg_none_of X G zz_int,
    z_bool := PySem.W.mg_none_of X G zz_bool,
    z_enumerate := PySem.W.mg_none_of X G zz_enumerate,
    z_set := PySem.W.mg_none_of X G zz_set,
    z_list := PySem.W.mg_none_of X G zz_list,
    z_zip := PySem.W.mg_none_of X G zz_zip,
    z_str := PySem.W.mg_none_of X G zz_str,
    z_tuple := PySem.W.mg_none_of X G zz_tuple,
    z_abs := PySem.W.mg_none_of X G zz_abs,
    z_max := PySem.W.mg_none_of X G zz_max,
    z_divmod := PySem.W.mg_none_of X G zz_divmod,
    z_range := PySem.W.mg_none_of X G zz_range,
    z_min := PySem.W.mg_none_of X G zz_min,
    z_repr := PySem.W.mg_none_of X G zz_repr }
  exact ⟨_, fun s v => .of_eq rfl, fun base _ _ => ok_law T⟩
end Z13
open PySem PySem.W PyProof.Rows
set_option maxRecDepth 100000 in
set_option maxHeartbeats 0 in
theorem PySem.Challenge.cw_relayholds_k13_whole_texts_there_and_bac_holds : PySem.Challenge.rw_relayholds_k13_whole_texts_there_and_bac.Holds := by
  w_on; o_law; k_head; (case hw => w_witness2)
  k_fill
  refine L3.walk3 (l := PySem.Challenge.rw_relayholds_k13_whole_texts_there_and_bac) (k := 9) (x := "_law_script") rfl rfl ⟨rfl, by decide, by decide⟩ (fun w h Y => PySem.W.kIn_of Y) ?F
  case F =>
    intro w mg fa h KX G hmg
    refine' Z13.all_mk KX G hmg ?a0 ?l0 ?c0 ?k0 ?a1 ?l1 ?c1 ?k1 ?a2 ?l2 ?c2 ?k2 ?a3 ?l3 ?c3 ?k3 ?a4 ?l4 ?c4 ?k4 ?a5 ?l5 ?c5 ?k5 ?a6 ?l6 ?c6 ?k6 ?a7 ?l7 ?c7 ?k7 ?a8 ?l8 ?c8 ?k8 ?a9 ?l9 ?c9 ?k9 ?a10 ?l10 ?c10 ?k10 ?a11 ?l11 ?c11 ?k11 ?a12 ?l12 ?c12 ?k12 ?a13 ?i13 ?l13 ?c13 ?k13 ?a14 ?i14 ?l14 ?c14 ?k14 ?a15 ?i15 ?l15 ?c15 ?k15 ?a16 ?i16 ?l16 ?c16 ?k16 ?a17 ?i17 ?l17 ?c17 ?k17 ?a18 ?i18 ?l18 ?c18 ?k18 ?a19 ?i19 ?l19 ?c19 ?k19 ?a20 ?l20 ?c20 ?k20 ?a21 ?l21 ?c21 ?k21 ?a22 ?l22 ?c22 ?k22 ?a23 ?l23 ?c23 ?k23 ?a24 ?l24 ?c24 ?k24 ?a25 ?l25 ?c25 ?k25 ?a26 ?l26 ?c26 ?k26 ?a27 ?l27 ?c27 ?k27 ?a28 ?l28 ?c28 ?k28 ?a29 ?l29 ?c29 ?k29 ?a30 ?l30 ?c30 ?k30 ?a31 ?l31 ?c31 ?k31 ?a32 ?l32 ?c32 ?k32 ?a33 ?l33 ?c33 ?k33 ?a34 ?l34 ?c34 ?k34 ?a35 ?l35 ?c35 ?k35 ?a36 ?l36 ?c36 ?k36 ?a37 ?l37 ?c37 ?k37 ?a38 ?l38 ?c38 ?k38 ?gC_Net ?pg_Net ?hd_Net ?po_Net ?sa_Net ?mk_Net ?kc_Net ?cta_Net ?ctn_Net ?ctk_Net ?ctm_Net ?na_Net_own_keys ?na_Net_own_relays ?na_Net_own_lamps ?na_Net_node_count ?na_Net_piece_rows ?na_Net_time_rows ?gc_MOST_LETTERS ?gc_LETTERS ?gc_MOST_LAMPS ?gc_MOST_RELAYS ?gc_MOST_KEYS ?gc_LEAST_NODES ?gc_MOST_NODES ?gc_MOST_PIECES ?gc_MOST_TIME ?gc_FIGURES ?gt_PARTS ?lt_PARTS ?hh_PARTS_0 ?hh_PARTS_1 ?hh_PARTS_2 ?hh_PARTS_3 ?hh_PARTS_4 ?hh_PARTS_5 ?lo_PARTS ?lu_PARTS_0 ?lu_PARTS_1 ?lu_PARTS_2 ?lu_PARTS_3 ?lu_PARTS_4 ?lu_PARTS_5 ?zz_len ?zz_all ?zz_isinstance ?zz_int ?zz_bool ?zz_enumerate ?zz_set ?zz_list ?zz_zip ?zz_str ?zz_tuple ?zz_abs ?zz_max ?zz_divmod ?zz_range ?zz_min ?zz_repr
    (case gC_Net => k_is)
    (case a0 => k_is)
    (case l0 => k_is)
    (case c0 => k_is)
    (case k0 => k_is)
    (case a1 => k_is)
    (case l1 => k_is)
    (case c1 => k_is)
    (case k1 => k_is)
    (case a2 => k_is)
    (case l2 => k_is)
    (case c2 => k_is)
    (case k2 => k_is)
    (case a3 => k_is)
    (case l3 => k_is)
    (case c3 => k_is)
    (case k3 => k_is)
    (case a4 => k_is)
    (case l4 => k_is)
    (case c4 => k_is)
    (case k4 => k_is)
    (case a5 => k_is)
    (case l5 => k_is)
    (case c5 => k_is)
    (case k5 => k_is)
    (case a6 => k_is)
    (case l6 => k_is)
    (case c6 => k_is)
    (case k6 => k_is)
    (case a7 => k_is)
    (case l7 => k_is)
    (case c7 => k_is)
    (case k7 => k_is)
    (case a8 => k_is)
    (case l8 => k_is)
    (case c8 => k_is)
    (case k8 => k_is)
    (case a9 => k_is)
    (case l9 => k_is)
    (case c9 => k_is)
    (case k9 => k_is)
    (case a10 => k_is)
    (case l10 => k_is)
    (case c10 => k_is)
    (case k10 => k_is)
    (case a11 => k_is)
    (case l11 => k_is)
    (case c11 => k_is)
    (case k11 => k_is)
    (case a12 => k_is)
    (case l12 => k_is)
    (case c12 => k_is)
    (case k12 => k_is)
    (case a13 => k_is)
    (case i13 => k_is)
    (case l13 => k_is)
    (case c13 => k_is)
    (case k13 => k_is)
    (case a14 => k_is)
    (case i14 => k_is)
    (case l14 => k_is)
    (case c14 => k_is)
    (case k14 => k_is)
    (case a15 => k_is)
    (case i15 => k_is)
    (case l15 => k_is)
    (case c15 => k_is)
    (case k15 => k_is)
    (case a16 => k_is)
    (case i16 => k_is)
    (case l16 => k_is)
    (case c16 => k_is)
    (case k16 => k_is)
    (case a17 => k_is)
    (case i17 => k_is)
    (case l17 => k_is)
    (case c17 => k_is)
    (case k17 => k_is)
    (case a18 => k_is)
    (case i18 => k_is)
    (case l18 => k_is)
    (case c18 => k_is)
    (case k18 => k_is)
    (case a19 => k_is)
    (case i19 => k_is)
    (case l19 => k_is)
    (case c19 => k_is)
    (case k19 => k_is)
    (case a20 => k_is)
    (case l20 => k_is)
    (case c20 => k_is)
    (case k20 => k_is)
    (case a21 => k_is)
    (case l21 => k_is)
    (case c21 => k_is)
    (case k21 => k_is)
    (case a22 => k_is)
    (case l22 => k_is)
    (case c22 => k_is)
    (case k22 => k_is)
    (case a23 => k_is)
    (case l23 => k_is)
    (case c23 => k_is)
    (case k23 => k_is)
    (case a24 => k_is)
    (case l24 => k_is)
    (case c24 => k_is)
    (case k24 => k_is)
    (case a25 => k_is)
    (case l25 => k_is)
    (case c25 => k_is)
    (case k25 => k_is)
    (case a26 => k_is)
    (case l26 => k_is)
    (case c26 => k_is)
    (case k26 => k_is)
    (case a27 => k_is)
    (case l27 => k_is)
    (case c27 => k_is)
    (case k27 => k_is)
    (case a28 => k_is)
    (case l28 => k_is)
    (case c28 => k_is)
    (case k28 => k_is)
    (case a29 => k_is)
    (case l29 => k_is)
    (case c29 => k_is)
    (case k29 => k_is)
    (case a30 => k_is)
    (case l30 => k_is)
    (case c30 => k_is)
    (case k30 => k_is)
    (case a31 => k_is)
    (case l31 => k_is)
    (case c31 => k_is)
    (case k31 => k_is)
    (case a32 => k_is)
    (case l32 => k_is)
    (case c32 => k_is)
    (case k32 => k_is)
    (case a33 => k_is)
    (case l33 => k_is)
    (case c33 => k_is)
    (case k33 => k_is)
    (case a34 => k_is)
    (case l34 => k_is)
    (case c34 => k_is)
    (case k34 => k_is)
    (case a35 => k_is)
    (case l35 => k_is)
    (case c35 => k_is)
    (case k35 => k_is)
    (case a36 => k_is)
    (case l36 => k_is)
    (case c36 => k_is)
    (case k36 => k_is)
    (case a37 => k_is)
    (case l37 => k_is)
    (case c37 => k_is)
    (case k37 => k_is)
    (case a38 => k_is)
    (case l38 => k_is)
    (case c38 => k_is)
    (case k38 => k_is)
    (case pg_Net => k_is)
    (case hd_Net => k_is)
    (case po_Net => k_is)
    (case sa_Net => k_is)
    (case mk_Net => k_is)
    (case kc_Net => k_is)
    (case cta_Net => k_is)
    (case ctn_Net => k_is)
    (case ctk_Net => k_is)
    (case ctm_Net => k_is)
    (case na_Net_own_keys => k_is)
    (case na_Net_own_relays => k_is)
    (case na_Net_own_lamps => k_is)
    (case na_Net_node_count => k_is)
    (case na_Net_piece_rows => k_is)
    (case na_Net_time_rows => k_is)
    (case gc_MOST_LETTERS => k_is)
    (case gc_LETTERS => k_is)
    (case gc_MOST_LAMPS => k_is)
    (case gc_MOST_RELAYS => k_is)
    (case gc_MOST_KEYS => k_is)
    (case gc_LEAST_NODES => k_is)
    (case gc_MOST_NODES => k_is)
    (case gc_MOST_PIECES => k_is)
    (case gc_MOST_TIME => k_is)
    (case gc_FIGURES => k_is)
    (case gt_PARTS => k_is)
    (case lt_PARTS => k_is)
    (case hh_PARTS_0 => rfl)
    (case hh_PARTS_1 => rfl)
    (case hh_PARTS_2 => rfl)
    (case hh_PARTS_3 => rfl)
    (case hh_PARTS_4 => rfl)
    (case hh_PARTS_5 => rfl)
    (case lo_PARTS => rfl)
    (case lu_PARTS_0 => k_is)
    (case lu_PARTS_1 => k_is)
    (case lu_PARTS_2 => k_is)
    (case lu_PARTS_3 => k_is)
    (case lu_PARTS_4 => k_is)
    (case lu_PARTS_5 => k_is)
    (case zz_len => k_is)
    (case zz_all => k_is)
    (case zz_isinstance => k_is)
    (case zz_int => k_is)
    (case zz_bool => k_is)
    (case zz_enumerate => k_is)
    (case zz_set => k_is)
    (case zz_list => k_is)
    (case zz_zip => k_is)
    (case zz_str => k_is)
    (case zz_tuple => k_is)
    (case zz_abs => k_is)
    (case zz_max => k_is)
    (case zz_divmod => k_is)
    (case zz_range => k_is)
    (case zz_min => k_is)
    (case zz_repr => k_is)

