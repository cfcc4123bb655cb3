import PyProof.Rows.All
import Wide.All
import OpenK.AllK
import Wide.FinOn
import HandS.ForMost
import HandS.ForExc
import HandS.Walk
import HandS.TupAny
import HandS.TupMul
import HandS.Deep
import HandS.Conv
import HandS.IsInst
import HandS.Wide
import HandS.Flow
import HandS.Zip
import HandS.RaiseMore
import KE.KExcSuper
import KE.KSuper
import HandS.ExcInit
import HandS.ExcField
import HandS.ExcIs
import HandS.TryMany
import KE.KExcIs
import HandS.HotCalls
import HandS.EndBits
import HandS.HeadEnd
import PyProof.NoPylong
import PyProof.ReprReads
import PyProof.StrHeap
import PyProof.ReprHeadsEmpty
import PySem.Challenge.RW_standsfirm_k00_errors_and_limits
set_option Elab.async false
set_option linter.all false
set_option maxRecDepth 100000
set_option maxHeartbeats 4000000
set_option autoImplicit false
/-! Sf: a layer of plain data over the hand layer. Data D; slots and shared objects; the relation Rel of both with the abstract heap. -/
namespace Sf
open PySem PySem.Spec PyProof.Rows L2

/-- plain data: what a value is, its tuples and frozen lists written out; ref: a shared object -/
inductive D where
  | non | bl (b : Bool) | int (i : Int) | str (s : Str) | tup (l : List D) | lst (l : List D) | dct (ks : List Key) (l : List D) | ref (a : Addr)
  | scr (ns : List Int) | xc (a C dd : Addr) (ks : List Str) (l : List D) | cls (C : Addr) | ty (n : String)

/-- an object that may still be written: a list, a dict -/
inductive Own where
  | lst (l : List D)
  | dct (ks : List Key) (l : List D)
/-- what a slot holds: a value, or an object that the slot alone holds -/
inductive SV where
  | val (d : D)
  | own (o : Own)
/-- a shared object -/
inductive MO where
  | obj (o : Own)
  | ins (C : Addr) (fs : List (Str × D))
abbrev Mem := Addr → Option MO
abbrev Loc' := List (Option SV)

def Own.frz : Own → D
  | .lst l => .lst l
  | .dct ks l => .dct ks l
def SV.frz : SV → D
  | .val d => d
  | .own o => o.frz
def updM (m : Mem) (a : Addr) (o : MO) : Mem := fun b => if b = a then some o else m b
def delM (m : Mem) (a : Addr) : Mem := fun b => if b = a then none else m b
theorem updM_same {m : Mem} {a : Addr} {o : MO} : updM m a o a = some o := if_pos rfl
theorem updM_ne {m : Mem} {a b : Addr} {o : MO} (h : b ≠ a) : updM m a o b = m b := if_neg h
theorem delM_same {m : Mem} {a : Addr} : delM m a a = none := if_pos rfl
theorem delM_ne {m : Mem} {a b : Addr} (h : b ≠ a) : delM m a b = m b := if_neg h
theorem updM_updM {m : Mem} {a : Addr} {o u : MO} : updM (updM m a o) a u = updM m a u := by
  funext b; unfold updM; split <;> rfl
theorem delM_updM {m : Mem} {a : Addr} {o : MO} (h : m a = none) : delM (updM m a o) a = m := by
  funext b; unfold delM updM
  by_cases e : b = a
  · rw [if_pos e, e, h]
  · rw [if_neg e, if_neg e]

/-! ### a value of the heap stands for data -/
section
variable (K : PySem.W.Frag) (Av : Addr → Prop) (H : Hp)
def TupAt (a : Addr) (vs : List V) : Prop := (Rd H a (.tup vs) ∧ ¬ Av a) ∨
  ∃ (o : Obj) (its : Array Value) (n : Nat), K.lookup a = some o ∧ o.cls = .type "tuple" ∧ o.data = .seq its n ∧ its.size ≤ sizeLine ∧ Vals vs its.toList
/-- the script: its ints are read alone -/
def ScrAt (a : Addr) (ns : List Int) : Prop := (Rd H a (.lst (ns.map V.int)) ∧ ¬ Av a) ∨
  ∃ (o : Obj) (its : Array Value) (n : Nat), K.lookup a = some o ∧ o.cls = .type "list" ∧ o.dict = none ∧ o.data = .seq its n ∧ its.size ≤ sizeLine ∧ Vals (ns.map V.int) its.toList
mutual
inductive Rep : V → D → Prop
  | non : Rep .non .non
  | bl (b : Bool) : Rep (.bl b) (.bl b)
  | int (i : Int) : Rep (.int i) (.int i)
  | str (s : Str) : Rep (.str s) (.str s)
  | tup {a : Addr} {vs : List V} {ds : List D} : TupAt K Av H a vs → Reps vs ds → Rep (.ref a) (.tup ds)
  | lst {a : Addr} {vs : List V} {ds : List D} : H a = some (.lst vs) → ¬ Av a → Reps vs ds → Rep (.ref a) (.lst ds)
  | dct {a : Addr} {kvs : List (Key × V)} {ds : List D} : Rd H a (.dK kvs) → ¬ Av a → Reps (kvs.map (·.2)) ds → Rep (.ref a) (.dct (kvs.map (·.1)) ds)
  | ref (a : Addr) : Rep (.ref a) (.ref a)
  | scr {a : Addr} {ns : List Int} : ScrAt K Av H a ns → Rep (.ref a) (.scr ns)
  | xc {a C dd : Addr} {fv : List (Str × V)} {ds : List D} : H dd = some (.xd fv) → ¬ Av dd → Reps (fv.map (·.2)) ds → Rep (.ref a) (.xc a C dd (fv.map (·.1)) ds)
  | cls (C : Addr) : Rep (.ref C) (.cls C)
  | ty (n : String) : Rep (.ty n) (.ty n)
inductive Reps : List V → List D → Prop
  | nil : Reps [] []
  | cons {v : V} {d : D} {vs : List V} {ds : List D} : Rep v d → Reps vs ds → Reps (v :: vs) (d :: ds)
end
end

section
variable {K : PySem.W.Frag} {Av Av' : Addr → Prop} {H H' : Hp}
/-- what is not to be written stands, and is not to be written there either -/
abbrev Tr (Av Av' : Addr → Prop) (H H' : Hp) : Prop := ∀ b o, H b = some o → ¬ Av b → H' b = some o ∧ ¬ Av' b
theorem rd_tr (T : Tr Av Av' H H') {a : Addr} {u : HO} (h : Rd H a u) (n : ¬ Av a) : Rd H' a u ∧ ¬ Av' a := by
  rcases h with h | ⟨o, h⟩
  · exact ⟨.inl (T _ _ h n).1, (T _ _ h n).2⟩
  · exact ⟨.inr ⟨o, (T _ _ h n).1⟩, (T _ _ h n).2⟩
theorem TupAt.tr (T : Tr Av Av' H H') {a : Addr} {vs : List V} (h : TupAt K Av H a vs) : TupAt K Av' H' a vs := by
  rcases h with ⟨h, n⟩ | h
  · exact .inl (rd_tr T h n)
  · exact .inr h
theorem ScrAt.tr (T : Tr Av Av' H H') {a : Addr} {ns : List Int} (h : ScrAt K Av H a ns) : ScrAt K Av' H' a ns := by
  rcases h with ⟨h, n⟩ | h
  · exact .inl (rd_tr T h n)
  · exact .inr h
theorem TupAt.sq {a : Addr} {vs : List V} (h : TupAt K Av H a vs) : SqT K H a vs := h.imp (·.1) id
theorem ScrAt.sq {a : Addr} {ns : List Int} (h : ScrAt K Av H a ns) : SqL K H a (ns.map V.int) := h.imp (·.1) id
mutual
theorem Rep.tr (T : Tr Av Av' H H') : ∀ {v : V} {d : D}, Rep K Av H v d → Rep K Av' H' v d
  | _, _, .non => .non
  | _, _, .bl b => .bl b
  | _, _, .int i => .int i
  | _, _, .str s => .str s
  | _, _, .tup h r => .tup (h.tr T) (Reps.tr T r)
  | _, _, .lst h n r => .lst (T _ _ h n).1 (T _ _ h n).2 (Reps.tr T r)
  | _, _, .scr h => .scr (h.tr T)
  | _, _, .xc h n r => .xc (T _ _ h n).1 (T _ _ h n).2 (Reps.tr T r)
  | _, _, .cls C => .cls C
  | _, _, .ty n => .ty n
  | _, _, .dct h n r => .dct (rd_tr T h n).1 (rd_tr T h n).2 (Reps.tr T r)
  | _, _, .ref a => .ref a
theorem Reps.tr (T : Tr Av Av' H H') : ∀ {vs : List V} {ds : List D}, Reps K Av H vs ds → Reps K Av' H' vs ds
  | _, _, .nil => .nil
  | _, _, .cons r t => .cons (Rep.tr T r) (Reps.tr T t)
end
theorem Reps.length : ∀ {vs : List V} {ds : List D}, Reps K Av H vs ds → vs.length = ds.length
  | _, _, .nil => rfl
  | _, _, .cons _ t => by rw [List.length_cons, List.length_cons, Reps.length t]
theorem Reps.append : ∀ {vs ws : List V} {ds es : List D}, Reps K Av H vs ds → Reps K Av H ws es → Reps K Av H (vs ++ ws) (ds ++ es)
  | _, _, _, _, .nil, q => q
  | _, _, _, _, .cons r t, q => .cons r (Reps.append t q)
theorem Reps.get : ∀ {vs : List V} {ds : List D} {i : Nat} {d : D}, Reps K Av H vs ds → ds[i]? = some d → ∃ v, vs[i]? = some v ∧ Rep K Av H v d
  | _, _, _, _, .nil, e => by simp at e
  | _, _, 0, _, .cons r _, e => by simp at e; subst e; exact ⟨_, rfl, r⟩
  | _, _, i + 1, _, .cons _ t, e => by
    obtain ⟨v, h1, h2⟩ := Reps.get (i := i) t (by simpa using e)
    exact ⟨v, by simpa using h1, h2⟩
theorem Reps.getV {vs : List V} {ds : List D} {i : Nat} {v : V} (r : Reps K Av H vs ds) (e : vs[i]? = some v) : ∃ d, ds[i]? = some d ∧ Rep K Av H v d := by
  have hi : i < ds.length := by rw [← r.length]; exact (List.getElem?_eq_some_iff.mp e).1
  obtain ⟨v', e', q⟩ := r.get (List.getElem?_eq_getElem hi)
  rw [e] at e'; cases e'
  exact ⟨_, List.getElem?_eq_getElem hi, q⟩
theorem Reps.set {v : V} {d : D} (q : Rep K Av H v d) : ∀ {vs : List V} {ds : List D} (i : Nat), Reps K Av H vs ds → Reps K Av H (vs.set i v) (ds.set i d)
  | _, _, _, .nil => .nil
  | _, _, 0, .cons _ t => .cons q t
  | _, _, i + 1, .cons r t => .cons r (Reps.set q i t)
theorem Reps.take : ∀ {vs : List V} {ds : List D} (n : Nat), Reps K Av H vs ds → Reps K Av H (vs.take n) (ds.take n)
  | _, _, 0, _ => .nil
  | _, _, _ + 1, .nil => .nil
  | _, _, n + 1, .cons r t => .cons r (Reps.take n t)
theorem Reps.drop : ∀ {vs : List V} {ds : List D} (n : Nat), Reps K Av H vs ds → Reps K Av H (vs.drop n) (ds.drop n)
  | _, _, 0, r => r
  | _, _, _ + 1, .nil => .nil
  | _, _, n + 1, .cons _ t => Reps.drop n t
theorem Reps.eraseIdx : ∀ {vs : List V} {ds : List D} (n : Nat), Reps K Av H vs ds → Reps K Av H (vs.eraseIdx n) (ds.eraseIdx n)
  | _, _, _, .nil => .nil
  | _, _, 0, .cons _ t => t
  | _, _, n + 1, .cons r t => .cons r (Reps.eraseIdx n t)
theorem Reps.reverse : ∀ {vs : List V} {ds : List D}, Reps K Av H vs ds → Reps K Av H vs.reverse ds.reverse
  | _, _, .nil => .nil
  | _, _, .cons r t => by
    rw [List.reverse_cons, List.reverse_cons]
    exact (Reps.reverse t).append (.cons r .nil)
theorem Reps.replicate {v : V} {d : D} (q : Rep K Av H v d) : ∀ n : Nat, Reps K Av H (List.replicate n v) (List.replicate n d)
  | 0 => .nil
  | n + 1 => .cons q (Reps.replicate q n)
theorem Reps.ints : ∀ {vs : List V} {ns : List Int}, Reps K Av H vs (ns.map D.int) → vs = ns.map V.int
  | _, [], .nil => rfl
  | _, n :: ns, .cons r t => by cases r; rw [Reps.ints t]; rfl
theorem Reps.of_ints : ∀ ns : List Int, Reps K Av H (ns.map V.int) (ns.map D.int)
  | [] => .nil
  | n :: ns => .cons (.int n) (Reps.of_ints ns)
theorem Reps.bools : ∀ {vs : List V} {ns : List Bool}, Reps K Av H vs (ns.map D.bl) → vs = ns.map V.bl
  | _, [], .nil => rfl
  | _, n :: ns, .cons r t => by cases r; rw [Reps.bools t]; rfl
theorem Reps.strs : ∀ {vs : List V} {ns : List Str}, Reps K Av H vs (ns.map D.str) → vs = ns.map V.str
  | _, [], .nil => rfl
  | _, n :: ns, .cons r t => by cases r; rw [Reps.strs t]; rfl
theorem Reps.of_strs : ∀ ns : List Str, Reps K Av H (ns.map V.str) (ns.map D.str)
  | [] => .nil
  | n :: ns => .cons (.str n) (Reps.of_strs ns)
end

section
variable (K : PySem.W.Frag) (Av : Addr → Prop) (H : Hp)
/-- the object o bears the content w -/
def OwnIs (o : HO) (w : Own) : Prop := match o, w with
  | .lst vs, .lst l => Reps K Av H vs l
  | .dK kvs, .dct ks l => kvs.map (·.1) = ks ∧ Reps K Av H (kvs.map (·.2)) l
  | _, _ => False
def MoIs (o : HO) (w : MO) : Prop := match o, w with
  | o, .obj w => OwnIs K Av H o w
  | .ins C dx fv, .ins C' fs => C = C' ∧ H dx ≠ none ∧ fv.map (·.1) = fs.map (·.1) ∧ Reps K Av H (fv.map (·.2)) (fs.map (·.2))
  | _, _ => False
def OwnRep (w : Own) (a : Addr) : Prop := ∃ o, H a = some o ∧ OwnIs K Av H o w
def MoRep (w : MO) (a : Addr) : Prop := ∃ o, H a = some o ∧ MoIs K Av H o w
def SvRep (s : SV) (v : V) : Prop := match s with
  | .val d => Rep K Av H v d
  | .own w => ∃ a, v = .ref a ∧ OwnRep K Av H w a
end
section
variable {K : PySem.W.Frag} {Av Av' : Addr → Prop} {H H' : Hp}
theorem OwnIs.tr (T : Tr Av Av' H H') {o : HO} {w : Own} (h : OwnIs K Av H o w) : OwnIs K Av' H' o w := by
  cases w with
  | lst l => cases o with
    | lst vs => exact Reps.tr (vs := vs) (ds := l) T h
    | _ => exact False.elim h
  | dct ks l => cases o with
    | dK kvs => exact ⟨h.1, h.2.tr T⟩
    | _ => exact False.elim h
theorem MoIs.tr (T : Tr Av Av' H H') (T2 : ∀ b, H b ≠ none → H' b ≠ none) {o : HO} {w : MO} (h : MoIs K Av H o w) : MoIs K Av' H' o w := by
  cases w with
  | obj w =>
    have h' : OwnIs K Av H o w := by cases o <;> exact h
    have q := h'.tr T
    cases o <;> exact q
  | ins C fs => cases o with
    | ins C' dx fv => exact ⟨h.1, T2 _ h.2.1, h.2.2.1, h.2.2.2.tr T⟩
    | _ => exact False.elim h
theorem MoIs.obj {o : HO} {w : Own} : MoIs K Av H o (.obj w) ↔ OwnIs K Av H o w := by cases o <;> exact Iff.rfl
theorem OwnRep.tr (T : Tr Av Av' H H') {w : Own} {a : Addr} (h : OwnRep K Av H w a) (e : ∀ u, H a = some u → H' a = some u) : OwnRep K Av' H' w a :=
  let ⟨o, h1, h2⟩ := h; ⟨o, e _ h1, h2.tr T⟩
theorem MoRep.tr (T : Tr Av Av' H H') (T2 : ∀ b, H b ≠ none → H' b ≠ none) {w : MO} {a : Addr} (h : MoRep K Av H w a) (e : ∀ u, H a = some u → H' a = some u) : MoRep K Av' H' w a :=
  let ⟨o, h1, h2⟩ := h; ⟨o, e _ h1, h2.tr T T2⟩
theorem SvRep.tr (T : Tr Av Av' H H') {s : SV} {v : V} (h : SvRep K Av H s v) (e : ∀ w a, s = .own w → v = .ref a → ∀ u, H a = some u → H' a = some u) : SvRep K Av' H' s v := by
  cases s with
  | val d => exact Rep.tr (v := v) (d := d) T h
  | own w => obtain ⟨a, h1, h2⟩ := h; exact ⟨a, h1, h2.tr T (e w a rfl h1)⟩
end

/-- nothing is lost -/
abbrev Grow (H H' : Hp) : Prop := ∀ b o, H b = some o → H' b = some o
theorem Grow.ne {H H' : Hp} (g : Grow H H') : ∀ b, H b ≠ none → H' b ≠ none := fun b h z => by
  cases q : H b with
  | none => exact h q
  | some o => rw [g b o q] at z; cases z
theorem Grow.up {H : Hp} {p : Addr} {o : HO} (hp : H p = none) : Grow H (upd H p o) := fun b u h => by rw [upd_ne (ne_of_none h hp)]; exact h
/-! ### the relation -/
/-- a function's entry: what its callers alone hold, what it may write, its heap -/
structure Ent where
  G : Addr → Prop
  M : Addr → Prop
  H : Hp
def OwnAt (l : Loc') (σ : L2.St) (b : Addr) : Prop := ∃ (i : Nat) (o : Own), l[i]? = some (some (SV.own o)) ∧ σ[i]? = some (some (V.ref b))
def AvO (e : Ent) (l : Loc') (m : Mem) (σ : L2.St) (b : Addr) : Prop := e.G b ∨ OwnAt l σ b ∨ m b ≠ none

structure Rel (K : PySem.W.Frag) (e : Ent) (l : Loc') (m : Mem) (σ : L2.St) (H : Hp) : Prop where
  len : σ.length = l.length
  at_ : ∀ (i : Nat) (sv : SV), l[i]? = some (some sv) → ∃ v, σ[i]? = some (some v) ∧ SvRep K (AvO e l m σ) H sv v
  sep : ∀ (i j : Nat) (o o' : Own) (a : Addr), l[i]? = some (some (SV.own o)) → l[j]? = some (some (SV.own o')) → σ[i]? = some (some (V.ref a)) → σ[j]? = some (some (V.ref a)) → i = j
  mem : ∀ a o, m a = some o → MoRep K (AvO e l m σ) H o a ∧ ¬ OwnAt l σ a
  gs : ∀ b, e.G b → ¬ OwnAt l σ b ∧ m b = none ∧ ∃ o, H b = some o
  keep : ∀ b o, e.H b = some o → ¬ e.M b → H b = some o
  new : ∀ b, OwnAt l σ b ∨ m b ≠ none → e.M b ∨ e.H b = none

section
variable {K : PySem.W.Frag} {e : Ent} {l l' : Loc'} {m m' : Mem} {σ σ' : L2.St} {H H' : Hp}
theorem Rel.own (R : Rel K e l m σ H) {b : Addr} (h : OwnAt l σ b) : ∃ u, H b = some u := by
  obtain ⟨i, o, h1, h2⟩ := h
  obtain ⟨v, e1, a, e2, q⟩ := R.at_ i _ h1
  rw [h2] at e1; cases e1; cases e2
  obtain ⟨u, q, _⟩ := q
  exact ⟨u, q⟩
theorem Rel.there (R : Rel K e l m σ H) {b : Addr} (h : AvO e l m σ b) : ∃ u, H b = some u := by
  rcases h with h | h | h
  · exact (R.gs b h).2.2
  · exact R.own h
  · cases q : m b with
    | none => exact absurd q h
    | some o =>
      obtain ⟨u, q, _⟩ := (R.mem b o q).1
      exact ⟨u, q⟩
theorem Rel.fresh (R : Rel K e l m σ H) {b : Addr} (h : H b = none) : ¬ AvO e l m σ b := fun z => by
  obtain ⟨u, q⟩ := R.there z
  rw [h] at q; cases q
/-- the general change: the same objects stand, at other places -/
theorem Rel.chg (R : Rel K e l m σ H) (hlen : σ'.length = l'.length)
    (T : Tr (AvO e l m σ) (AvO e l' m' σ') H H')
    (hat : ∀ (i : Nat) (sv : SV), l'[i]? = some (some sv) → ∃ v, σ'[i]? = some (some v) ∧ SvRep K (AvO e l' m' σ') H' sv v)
    (hsep : ∀ (i j : Nat) (o o' : Own) (a : Addr), l'[i]? = some (some (SV.own o)) → l'[j]? = some (some (SV.own o')) → σ'[i]? = some (some (V.ref a)) → σ'[j]? = some (some (V.ref a)) → i = j)
    (hmem : ∀ a o, m' a = some o → MoRep K (AvO e l' m' σ') H' o a ∧ ¬ OwnAt l' σ' a)
    (hgs : ∀ b, e.G b → ¬ OwnAt l' σ' b ∧ m' b = none) (hG : ∀ b o, e.G b → H b = some o → H' b = some o)
    (hkeep : ∀ b o, H b = some o → ¬ (OwnAt l σ b ∨ m b ≠ none) → H' b = some o)
    (hnew : ∀ b, OwnAt l' σ' b ∨ m' b ≠ none → (OwnAt l σ b ∨ m b ≠ none) ∨ H b = none) : Rel K e l' m' σ' H' where
  len := hlen
  at_ := hat
  sep := hsep
  mem := hmem
  gs := fun b h => ⟨(hgs b h).1, (hgs b h).2, let ⟨o, q⟩ := (R.gs b h).2.2; ⟨o, hG b o h q⟩⟩
  keep := fun b o h n => by
    have q := R.keep b o h n
    refine hkeep b o q fun z => ?_
    rcases R.new b z with z | z
    · exact n z
    · rw [h] at z; cases z
  new := fun b h => by
    rcases hnew b h with z | z
    · exact R.new b z
    · cases q : e.H b with
      | none => exact .inr rfl
      | some o =>
        by_cases n : e.M b
        · exact .inl n
        · rw [R.keep b o q n] at z; cases z

/-- a value is laid on top -/
theorem ownAt_push {l : Loc'} {σ : L2.St} {d : D} {v : V} {b : Addr} : OwnAt (some (.val d) :: l) (some v :: σ) b ↔ OwnAt l σ b := by
  constructor
  · rintro ⟨i, o, h1, h2⟩
    cases i with
    | zero => simp at h1
    | succ i => exact ⟨i, o, by simpa using h1, by simpa using h2⟩
  · rintro ⟨i, o, h1, h2⟩
    exact ⟨i + 1, o, by simpa using h1, by simpa using h2⟩
theorem ownAt_cons {l : Loc'} {σ : L2.St} {x : Option SV} {y : Option V} {b : Addr} (h : OwnAt l σ b) : OwnAt (x :: l) (y :: σ) b := by
  obtain ⟨i, o, h1, h2⟩ := h
  exact ⟨i + 1, o, by simpa using h1, by simpa using h2⟩
theorem avO_congr {l l' : Loc'} {σ σ' : L2.St} (h : ∀ b, OwnAt l σ b ↔ OwnAt l' σ' b) : AvO e l m σ = AvO e l' m σ' := by
  funext b
  unfold AvO
  rw [h b]
theorem Rel.push (R : Rel K e l m σ H) {v : V} {d : D} (h : Rep K (AvO e l m σ) H v d) : Rel K e (some (.val d) :: l) m (some v :: σ) H := by
  have ea : AvO e l m σ = AvO e (some (.val d) :: l) m (some v :: σ) := avO_congr fun b => ownAt_push.symm
  refine ⟨by simp [R.len], fun i sv hi => ?_, fun i j o o' a h1 h2 h3 h4 => ?_, fun a o q => ?_, fun b q => ?_, R.keep, fun b q => R.new b (by rwa [ownAt_push] at q)⟩
  · rw [← ea]
    cases i with
    | zero =>
      have : SV.val d = sv := by simpa using hi
      subst this
      exact ⟨v, rfl, h⟩
    | succ i => simpa using R.at_ i sv (by simpa using hi)
  · cases i with
    | zero => simp at h1
    | succ i =>
      cases j with
      | zero => simp at h2
      | succ j => rw [R.sep i j o o' a (by simpa using h1) (by simpa using h2) (by simpa using h3) (by simpa using h4)]
  · rw [← ea, ownAt_push]; exact R.mem a o q
  · rw [ownAt_push]; exact R.gs b q
/-- the top goes -/
theorem Rel.pop {x : Option SV} {y : Option V} (R : Rel K e (x :: l) m (y :: σ) H) : Rel K e l m σ H := by
  have T : Tr (AvO e (x :: l) m (y :: σ)) (AvO e l m σ) H H := fun b o h n => ⟨h, fun z => n (by
    rcases z with z | z | z
    · exact .inl z
    · exact .inr (.inl (ownAt_cons z))
    · exact .inr (.inr z))⟩
  refine R.chg (by simpa using R.len) T (fun i sv hi => ?_) (fun i j o o' a h1 h2 h3 h4 => ?_) (fun a o q => ?_) (fun b q => ?_) (fun _ _ _ h => h) (fun _ _ h _ => h) (fun b q => .inl ?_)
  · obtain ⟨v, h1, h2⟩ := R.at_ (i + 1) sv (by simpa using hi)
    exact ⟨v, by simpa using h1, h2.tr T fun _ _ _ _ _ h => h⟩
  · have := R.sep (i + 1) (j + 1) o o' a (by simpa using h1) (by simpa using h2) (by simpa using h3) (by simpa using h4)
    omega
  · have := R.mem a o q
    exact ⟨this.1.tr T (fun _ h => h) fun _ h => h, fun z => this.2 (ownAt_cons z)⟩
  · have := R.gs b q
    exact ⟨fun z => this.1 (ownAt_cons z), this.2.1⟩
  · exact q.imp ownAt_cons id
/-- the top's data, read below it -/
theorem Rel.top {v : V} {d : D} (R : Rel K e (some (.val d) :: l) m (some v :: σ) H) : Rep K (AvO e l m σ) H v d := by
  obtain ⟨u, h1, h2⟩ := R.at_ 0 _ rfl
  have : v = u := by simpa using h1
  subst this
  have ea : AvO e l m σ = AvO e (some (.val d) :: l) m (some v :: σ) := avO_congr fun b => ownAt_push.symm
  rw [ea]; exact h2

/-- a new object, whatever it is, stands beside -/
theorem Rel.ext (R : Rel K e l m σ H) {p : Addr} {o : HO} (hp : H p = none) : Rel K e l m σ (upd H p o) := by
  have k : ∀ b u, H b = some u → upd H p o b = some u := fun b u h => by rw [upd_ne (ne_of_none h hp)]; exact h
  have T : Tr (AvO e l m σ) (AvO e l m σ) H (upd H p o) := fun b u h n => ⟨k b u h, n⟩
  exact R.chg R.len T (fun i sv hi => let ⟨v, h1, h2⟩ := R.at_ i sv hi; ⟨v, h1, h2.tr T fun _ _ _ _ u h => k _ u h⟩) R.sep (fun a o q => ⟨(R.mem a o q).1.tr T (Grow.up hp).ne fun u h => k _ u h, (R.mem a o q).2⟩)
    (fun b q => ⟨(R.gs b q).1, (R.gs b q).2.1⟩) (fun b u _ h => k b u h) (fun b u h _ => k b u h) (fun b q => .inl q)
theorem Rel.trUp (R : Rel K e l m σ H) {p : Addr} {o : HO} (hp : H p = none) : Tr (AvO e l m σ) (AvO e l m σ) H (upd H p o) := fun b u h n =>
  ⟨by rw [upd_ne (ne_of_none h hp)]; exact h, n⟩
/-- a new tuple on top -/
theorem Rel.newTup (R : Rel K e l m σ H) {p : Addr} {vs : List V} {ds : List D} (hp : H p = none) (h : Reps K (AvO e l m σ) H vs ds) :
    Rel K e (some (.val (.tup ds)) :: l) m (some (.ref p) :: σ) (upd H p (.tup vs)) :=
  (R.ext hp).push (.tup (.inl ⟨.inl upd_same, R.fresh hp⟩) (h.tr (R.trUp hp)))

/-- a new object of its own on top -/
theorem Rel.newOwn (R : Rel K e l m σ H) {p : Addr} {o : HO} {w : Own} (hp : H p = none) (h : OwnIs K (AvO e l m σ) H o w) :
    Rel K e (some (.own w) :: l) m (some (.ref p) :: σ) (upd H p o) := by
  have k : Grow H (upd H p o) := Grow.up hp
  have hO : ∀ b, OwnAt (some (.own w) :: l) (some (.ref p) :: σ) b → b = p ∨ OwnAt l σ b := by
    rintro b ⟨i, o, h1, h2⟩
    cases i with
    | zero => simp at h2; exact .inl h2.symm
    | succ i => exact .inr ⟨i, o, by simpa using h1, by simpa using h2⟩
  have T : Tr (AvO e l m σ) (AvO e (some (.own w) :: l) m (some (.ref p) :: σ)) H (upd H p o) := fun b u h n => ⟨k b u h, fun z => by
    rcases z with z | z | z
    · exact n (.inl z)
    · rcases hO b z with z | z
      · rw [z, hp] at h; cases h
      · exact n (.inr (.inl z))
    · exact n (.inr (.inr z))⟩
  have nO : ¬ OwnAt l σ p := fun z => R.fresh hp (.inr (.inl z))
  refine R.chg (by simp [R.len]) T (fun i sv hi => ?_) (fun i j o1 o2 a h1 h2 h3 h4 => ?_) (fun a o q => ?_) (fun b q => ?_) (fun b u _ h => k b u h) (fun b u h _ => k b u h) (fun b q => ?_)
  · cases i with
    | zero =>
      have : SV.own w = sv := by simpa using hi
      subst this
      exact ⟨.ref p, rfl, p, rfl, o, upd_same, h.tr T⟩
    | succ i =>
      obtain ⟨v, h1, h2⟩ := R.at_ i sv (by simpa using hi)
      exact ⟨v, by simpa using h1, h2.tr T fun _ _ _ _ u h => k _ u h⟩
  · cases i with
    | zero =>
      have ea : p = a := by simpa using h3
      subst ea
      cases j with
      | zero => rfl
      | succ j => exact absurd ⟨j, o2, by simpa using h2, by simpa using h4⟩ nO
    | succ i =>
      cases j with
      | zero =>
        have ea : p = a := by simpa using h4
        subst ea
        exact absurd ⟨i, o1, by simpa using h1, by simpa using h3⟩ nO
      | succ j => rw [R.sep i j o1 o2 a (by simpa using h1) (by simpa using h2) (by simpa using h3) (by simpa using h4)]
  · refine ⟨(R.mem a o q).1.tr T k.ne fun u h => k _ u h, fun z => ?_⟩
    rcases hO a z with z | z
    · subst z
      exact R.fresh hp (.inr (.inr (by rw [q]; simp)))
    · exact (R.mem a o q).2 z
  · refine ⟨fun z => ?_, (R.gs b q).2.1⟩
    rcases hO b z with z | z
    · subst z
      exact R.fresh hp (.inl q)
    · exact (R.gs b q).1 z
  · rcases q with q | q
    · rcases hO b q with z | z
      · rw [z]; exact .inr hp
      · exact .inl (.inl z)
    · exact .inl (.inr q)

/-- another content for places: which own objects there are stays or shrinks; the heap is the same -/
theorem Rel.same (R : Rel K e l m σ H) (hlen : σ'.length = l'.length) (hO : ∀ b, OwnAt l' σ' b → OwnAt l σ b)
    (hat : ∀ (i : Nat) (sv : SV), l'[i]? = some (some sv) → ∃ v, σ'[i]? = some (some v) ∧ SvRep K (AvO e l' m σ') H sv v)
    (hsep : ∀ (i j : Nat) (o o' : Own) (a : Addr), l'[i]? = some (some (SV.own o)) → l'[j]? = some (some (SV.own o')) → σ'[i]? = some (some (V.ref a)) → σ'[j]? = some (some (V.ref a)) → i = j) : Rel K e l' m σ' H := by
  have T : Tr (AvO e l m σ) (AvO e l' m σ') H H := fun b o h n => ⟨h, fun z => n (z.imp id fun z => z.imp (hO b) id)⟩
  exact R.chg hlen T hat hsep (fun a o q => ⟨(R.mem a o q).1.tr T (fun _ h => h) fun _ h => h, fun z => (R.mem a o q).2 (hO a z)⟩) (fun b q => ⟨fun z => (R.gs b q).1 (hO b z), (R.gs b q).2.1⟩) (fun _ _ _ h => h) (fun _ _ h _ => h) (fun b q => .inl (q.imp (hO b) id))
theorem Rel.trSame {l' : Loc'} {σ' : L2.St} (hO : ∀ b, OwnAt l' σ' b → OwnAt l σ b) : Tr (AvO e l m σ) (AvO e l' m σ') H H := fun b o h n => ⟨h, fun z => n (z.imp id fun z => z.imp (hO b) id)⟩

/-- the top goes to a place i below -/
theorem Rel.store {x : Option SV} {y : Option V} {i : Nat} (R : Rel K e (x :: l) m (y :: σ) H) (hi : i < l.length) : Rel K e (l.set i x) m (σ.set i y) H := by
  have hlen : σ.length = l.length := by simpa using R.len
  have hσ : i < σ.length := by omega
  -- place j of the new is place (if j = i then 0 else j + 1) of the old
  have g1 : ∀ j : Nat, (l.set i x)[j]? = if j = i then some x else l[j]? := fun j => by
    rw [List.getElem?_set]
    by_cases e : i = j
    · subst e; simp [hi]
    · simp [e, Ne.symm e]
  have g2 : ∀ j : Nat, (σ.set i y)[j]? = if j = i then some y else σ[j]? := fun j => by
    rw [List.getElem?_set]
    by_cases e : i = j
    · subst e; simp [hσ]
    · simp [e, Ne.symm e]
  let φ : Nat → Nat := fun j => if j = i then 0 else j + 1
  have f1 : ∀ j : Nat, (l.set i x)[j]? = (x :: l)[φ j]? := fun j => by
    rw [g1]
    by_cases e : j = i
    · simp [φ, e]
    · simp [φ, e]
  have f2 : ∀ j : Nat, (σ.set i y)[j]? = (y :: σ)[φ j]? := fun j => by
    rw [g2]
    by_cases e : j = i
    · simp [φ, e]
    · simp [φ, e]
  have inj : ∀ j k, φ j = φ k → j = k := fun j k h => by
    simp only [φ] at h
    split at h <;> split at h <;> omega
  have hO : ∀ b, OwnAt (l.set i x) (σ.set i y) b → OwnAt (x :: l) (y :: σ) b := by
    rintro b ⟨j, o, h1, h2⟩
    exact ⟨φ j, o, by rw [← f1]; exact h1, by rw [← f2]; exact h2⟩
  refine R.same (by simp [hlen]) hO (fun j sv h => ?_) (fun j k o o' a h1 h2 h3 h4 => ?_)
  · rw [f1] at h
    obtain ⟨v, q1, q2⟩ := R.at_ _ sv h
    exact ⟨v, by rw [f2]; exact q1, q2.tr (Rel.trSame hO) fun _ _ _ _ _ h => h⟩
  · rw [f1] at h1 h2
    rw [f2] at h3 h4
    exact inj _ _ (R.sep _ _ o o' a h1 h2 h3 h4)
/-- a place is forgotten -/
theorem Rel.forget {i : Nat} {y : Option V} (R : Rel K e l m σ H) : Rel K e (l.set i none) m (σ.set i y) H := by
  have hlen := R.len
  have g1 : ∀ (j : Nat) (sv : SV), (l.set i none)[j]? = some (some sv) → l[j]? = some (some sv) ∧ (σ.set i y)[j]? = σ[j]? := fun j sv h => by
    by_cases e : i = j
    · subst e
      by_cases hi : i < l.length
      · rw [List.getElem?_set_self hi] at h; cases h
      · rw [List.getElem?_eq_none (by simpa using hi)] at h; cases h
    · rw [List.getElem?_set_ne e] at h
      exact ⟨h, List.getElem?_set_ne e⟩
  have hO : ∀ b, OwnAt (l.set i none) (σ.set i y) b → OwnAt l σ b := by
    rintro b ⟨j, o, h1, h2⟩
    obtain ⟨q1, q2⟩ := g1 j _ h1
    exact ⟨j, o, q1, by rw [← q2]; exact h2⟩
  refine R.same (by simp [hlen]) hO (fun j sv h => ?_) (fun j k o o' a h1 h2 h3 h4 => ?_)
  · obtain ⟨q1, q2⟩ := g1 j sv h
    obtain ⟨v, q3, q4⟩ := R.at_ _ sv q1
    exact ⟨v, by rw [q2]; exact q3, q4.tr (Rel.trSame hO) fun _ _ _ _ _ h => h⟩
  · obtain ⟨q1, q2⟩ := g1 j _ h1
    obtain ⟨q3, q4⟩ := g1 k _ h2
    rw [q2] at h3
    rw [q4] at h4
    exact R.sep _ _ o o' a q1 q3 h3 h4
theorem OwnIs.rep {w : Own} {a : Addr} {Av : Addr → Prop} (h : OwnRep K Av H w a) (n : ¬ Av a) : Rep K Av H (.ref a) w.frz := by
  obtain ⟨o, h1, h2⟩ := h
  cases w with
  | lst l => cases o with
    | lst vs => exact .lst h1 n h2
    | _ => exact False.elim h2
  | dct ks l => cases o with
    | dK kvs =>
      obtain ⟨rfl, h3⟩ := h2
      exact .dct (.inl h1) n h3
    | _ => exact False.elim h2
/-- an object of a place's own is written no more -/
theorem Rel.freeze {i : Nat} {sv : SV} (R : Rel K e l m σ H) (hi : l[i]? = some (some sv)) : Rel K e (l.set i (some (.val sv.frz))) m σ H := by
  cases sv with
  | val d =>
    have : l.set i (some (.val (SV.val d).frz)) = l := by
      apply List.ext_getElem?
      intro j
      by_cases e : i = j
      · subst e
        rw [List.getElem?_set_self (List.getElem?_eq_some_iff.mp hi).1, hi]; rfl
      · rw [List.getElem?_set_ne e]
    rw [this]; exact R
  | own w =>
    have hil := (List.getElem?_eq_some_iff.mp hi).1
    obtain ⟨v, hv, a, ev, q⟩ := R.at_ i _ hi
    subst ev
    have g1 : ∀ (j : Nat) (o : Own), (l.set i (some (.val (SV.own w).frz)))[j]? = some (some (SV.own o)) → l[j]? = some (some (SV.own o)) ∧ j ≠ i := fun j o h => by
      by_cases e : i = j
      · subst e
        rw [List.getElem?_set_self hil] at h; cases h
      · rw [List.getElem?_set_ne e] at h
        exact ⟨h, Ne.symm e⟩
    have hO : ∀ b, OwnAt (l.set i (some (.val (SV.own w).frz))) σ b → OwnAt l σ b := by
      rintro b ⟨j, o, h1, h2⟩
      exact ⟨j, o, (g1 j o h1).1, h2⟩
    have na : ¬ AvO e (l.set i (some (.val (SV.own w).frz))) m σ a := fun z => by
      rcases z with z | ⟨j, o, h1, h2⟩ | z
      · exact (R.gs a z).1 ⟨i, w, hi, hv⟩
      · obtain ⟨q1, q2⟩ := g1 j o h1
        exact q2 (R.sep j i o w a q1 hi h2 hv)
      · cases q : m a with
        | none => exact z q
        | some o => exact (R.mem a o q).2 ⟨i, w, hi, hv⟩
    have T := Rel.trSame (e := e) (m := m) (H := H) (σ := σ) hO
    refine R.same (by simp [R.len]) hO (fun j sv h => ?_) (fun j k o o' a h1 h2 h3 h4 => R.sep j k o o' a (g1 j o h1).1 (g1 k o' h2).1 h3 h4)
    by_cases ej : i = j
    · subst ej
      rw [List.getElem?_set_self hil] at h
      have : SV.val (SV.own w).frz = sv := by simpa using h
      subst this
      exact ⟨_, hv, OwnIs.rep (q.tr T fun _ h => h) na⟩
    · rw [List.getElem?_set_ne ej] at h
      obtain ⟨v, q1, q2⟩ := R.at_ j sv h
      exact ⟨v, q1, q2.tr T fun _ _ _ _ _ h => h⟩
end
end Sf

set_option maxHeartbeats 4000000
set_option autoImplicit false
/-! Sf, second part: the judgements over data, and the rules of expressions. -/
namespace Sf
open PySem PySem.Spec PyProof.Rows L2

structure S where
  loc : Loc'
  mem : Mem
structure Exc where
  cls : Addr
  ks : List Str
  l : List D
abbrev EX := Exc → S → Prop
inductive B where
  | val (d : D)
  | at (i : Nat)
abbrev TEm := S → (SV → S → Prop) → EX → Prop
abbrev TBm := S → (B → S → Prop) → EX → Prop
abbrev TAm := S → (List B → S → Prop) → EX → Prop
abbrev TTm := S → (Bool → S → Prop) → EX → Prop
structure EndsM where
  nx : S → Prop
  rt : SV → S → Prop
  bk : S → Prop := fun _ => False
  ct : S → Prop := fun _ => False
  ex : EX
abbrev TSm := EndsM → S → Prop

section
variable (K : PySem.W.Frag) (en : Ent) (X : EX)
def BRep (Av : Addr → Prop) (H : Hp) (σ : L2.St) (v : V) (b : B) : Prop := match b with
  | .val d => Rep K Av H v d
  | .at i => σ[i]? = some (some v)
inductive BReps (Av : Addr → Prop) (H : Hp) (σ : L2.St) : List V → List B → Prop
  | nil : BReps Av H σ [] []
  | cons {v : V} {b : B} {vs : List V} {bs : List B} : BRep K Av H σ v b → BReps Av H σ vs bs → BReps Av H σ (v :: vs) (b :: bs)
def ExcAt (Av : Addr → Prop) (H : Hp) (cls : Value) (d : Option Addr) (x : Exc) : Prop :=
  cls = .ref x.cls ∧ ∃ (dd : Addr) (fv : List (Str × V)), d = some dd ∧ H dd = some (.xd fv) ∧ ¬ Av dd ∧ fv.map (·.1) = x.ks ∧ Reps K Av H (fv.map (·.2)) x.l
def liftW : WX := fun cls d σ H => ∃ (s : S) (x : Exc), Rel K en s.loc s.mem σ H ∧ ExcAt K (AvO en s.loc s.mem σ) H cls d x ∧ X x s
def liftE (m : TEm) : TE := fun σ H Q => ∃ (stk : Loc') (vs : L2.St) (s : S) (R : SV → S → Prop), stk.length = vs.length ∧ Rel K en (stk ++ s.loc) s.mem (vs ++ σ) H ∧ m s R X ∧
  ∀ v H' sv s', Rel K en (some sv :: (stk ++ s'.loc)) s'.mem (some v :: (vs ++ σ)) H' → R sv s' → Q v H'
def liftB (m : TBm) : TE := fun σ H Q => ∃ (stk : Loc') (vs : L2.St) (s : S) (R : B → S → Prop), stk.length = vs.length ∧ Rel K en (stk ++ s.loc) s.mem (vs ++ σ) H ∧ m s R X ∧
  ∀ v H' b s', Rel K en (stk ++ s'.loc) s'.mem (vs ++ σ) H' → BRep K (AvO en (stk ++ s'.loc) s'.mem (vs ++ σ)) H' σ v b → R b s' → Q v H'
def liftA (m : TAm) : TA := fun σ H Q => ∃ (stk : Loc') (vs : L2.St) (s : S) (R : List B → S → Prop), stk.length = vs.length ∧ Rel K en (stk ++ s.loc) s.mem (vs ++ σ) H ∧ m s R X ∧
  ∀ us H' bs s', Rel K en (stk ++ s'.loc) s'.mem (vs ++ σ) H' → BReps K (AvO en (stk ++ s'.loc) s'.mem (vs ++ σ)) H' σ us bs → R bs s' → Q us H'
def liftT (m : TTm) : TT := fun σ H Q => ∃ (stk : Loc') (vs : L2.St) (s : S) (R : Bool → S → Prop), stk.length = vs.length ∧ Rel K en (stk ++ s.loc) s.mem (vs ++ σ) H ∧ m s R X ∧
  ∀ b H' s', Rel K en (stk ++ s'.loc) s'.mem (vs ++ σ) H' → R b s' → Q b H'
def liftS (m : TSm) : TS := fun D σ H => ∃ (stk : Loc') (vs : L2.St) (s : S) (E : EndsM), stk.length = vs.length ∧ E.ex = X ∧ Rel K en (stk ++ s.loc) s.mem (vs ++ σ) H ∧ m E s ∧
  (∀ σ' H' s', Rel K en (stk ++ s'.loc) s'.mem (vs ++ σ') H' → E.nx s' → D.nx σ' H') ∧ (∀ v σ' H' sv s', Rel K en (some sv :: (stk ++ s'.loc)) s'.mem (some v :: (vs ++ σ')) H' → E.rt sv s' → D.rt v H') ∧
  (∀ σ' H' s', Rel K en (stk ++ s'.loc) s'.mem (vs ++ σ') H' → E.bk s' → D.bk σ' H') ∧ ∀ σ' H' s', Rel K en (stk ++ s'.loc) s'.mem (vs ++ σ') H' → E.ct s' → D.ct σ' H'
end
def ME (X : Cx) (e : Expr) (m : TEm) : Prop := ∀ (en : Ent) (Z : EX), Takes X (liftW X.K en Z) → PE X e (liftE X.K en Z m)
def MB (X : Cx) (e : Expr) (m : TBm) : Prop := ∀ (en : Ent) (Z : EX), Takes X (liftW X.K en Z) → PE X e (liftB X.K en Z m)
def MA (X : Cx) (es : List Expr) (m : TAm) : Prop := ∀ (en : Ent) (Z : EX), Takes X (liftW X.K en Z) → PA X es (liftA X.K en Z m)
def MT (X : Cx) (e : Expr) (m : TTm) : Prop := ∀ (en : Ent) (Z : EX), Takes X (liftW X.K en Z) → PT X e (liftT X.K en Z m)
def MW (X : Cx) (e : Expr) (m : TTm) : Prop := ∀ (en : Ent) (Z : EX), Takes X (liftW X.K en Z) → PW X e (liftT X.K en Z m)
def MS (X : Cx) (st : Stmt) (m : TSm) : Prop := ∀ (en : Ent) (Z : EX), Takes X (liftW X.K en Z) → PS X st (liftS X.K en Z m)
def MSs (X : Cx) (st : List Stmt) (m : TSm) : Prop := ∀ (en : Ent) (Z : EX), Takes X (liftW X.K en Z) → PSs X st (liftS X.K en Z m)

/-! ### weaker readings -/
section
variable {X : Cx} {e : Expr} {es : List Expr} {st : Stmt} {sts : List Stmt}
theorem PE.imp {t t' : TE} (h : PE X e t) (i : ∀ σ H Q, t' σ H Q → t σ H Q) : PE X e t' := ⟨fun pins s σ H Q I q => h.run pins s σ H Q I (i _ _ _ q)⟩
theorem PA.imp {t t' : TA} (h : PA X es t) (i : ∀ σ H Q, t' σ H Q → t σ H Q) : PA X es t' := ⟨fun pos pins s σ H Q I q => h.run pos pins s σ H Q I (i _ _ _ q)⟩
theorem PT.imp {t t' : TT} (h : PT X e t) (i : ∀ σ H Q, t' σ H Q → t σ H Q) : PT X e t' := ⟨fun pins s σ H Q I q => h.run pins s σ H Q I (i _ _ _ q)⟩
theorem PW.imp {t t' : TT} (h : PW X e t) (i : ∀ σ H Q, t' σ H Q → t σ H Q) : PW X e t' := ⟨fun wh pins s σ H Q I q => h.run wh pins s σ H Q I (i _ _ _ q)⟩
theorem PS.imp {t t' : TS} (h : PS X st t) (i : ∀ D σ H, t' D σ H → t D σ H) : PS X st t' := ⟨fun pins s σ H D I q => h.run pins s σ H D I (i _ _ _ q)⟩
theorem PSs.imp {t t' : TS} (h : PSs X sts t) (i : ∀ D σ H, t' D σ H → t D σ H) : PSs X sts t' := ⟨fun pins s σ H D I q => h.run pins s σ H D I (i _ _ _ q)⟩
end

/-! ### constants, names -/
def S.get (s : S) (b : B) (k : SV → Prop) : Prop := match b with
  | .val d => k (.val d)
  | .at i => match s.loc[i]? with
    | some (some sv) => k sv
    | _ => False
def mC (d : D) : TEm := fun s Q _ => Q (.val d) s
def mFrz (m : TEm) : TBm := fun s Q X => m s (fun sv s' => Q (.val sv.frz) s') X
/-- the name of slot i, its object lent or looked into -/
def mAt (i : Nat) : TBm := fun s Q _ => match s.loc[i]? with
  | some (some (.val d)) => Q (.val d) s
  | some (some (.own _)) => Q (.at i) s
  | _ => False
/-- the name of slot i as a value: its object is written no more -/
def mVar (i : Nat) : TEm := fun s Q _ => match s.loc[i]? with
  | some (some (.val d)) => Q (.val d) s
  | some (some (.own w)) => Q (.val w.frz) { s with loc := s.loc.set i (some (.val w.frz)) }
  | _ => False
/-- .. its object handed on, the slot empty -/
def mMove (i : Nat) : TEm := fun s Q _ => match s.loc[i]? with
  | some (some (.val d)) => Q (.val d) s
  | some (some (.own w)) => Q (.own w) { s with loc := s.loc.set i none }
  | _ => False

section
variable {K : PySem.W.Frag} {en : Ent} {l l' : Loc'} {m : Mem} {σ vs : L2.St} {H : Hp} {stk : Loc'}
theorem get_stk {α : Type} {a b : List α} {i : Nat} : (a ++ b)[a.length + i]? = b[i]? := by
  rw [List.getElem?_append_right (by omega)]
  congr 1
  omega
theorem get_stk' {α β : Type} {a : List α} {c : List β} {b : List α} {i : Nat} (h : c.length = a.length) : (a ++ b)[c.length + i]? = b[i]? := by rw [h]; exact get_stk
theorem set_stk {α : Type} {a b : List α} {i : Nat} {x : α} : (a ++ b).set (a.length + i) x = a ++ b.set i x := by
  rw [List.set_append_right _ _ (by omega)]
  congr 2
  omega
theorem Rel.frzTop {sv : SV} {v : V} (R : Rel K en (some sv :: l) m (some v :: σ) H) : Rel K en (some (.val sv.frz) :: l) m (some v :: σ) H := R.freeze (i := 0) rfl
/-- the top's data, read below it (whatever the top is) -/
theorem Rel.topB {d : D} {v : V} (R : Rel K en (some (.val d) :: l) m (some v :: σ) H) : Rel K en l m σ H ∧ Rep K (AvO en l m σ) H v d := ⟨R.pop, R.top⟩
end

section
variable {X : Cx} {e a b : Expr} {es : List Expr} {pos : Pos} {ma mb : TEm}
theorem me_const {v : V} {d : D} (h : PE X e (tC v)) (r : ∀ K Av H, Rep K Av H v d) : ME X e (mC d) := fun en Z tk => PE.imp h fun σ H Q ⟨stk, vs, s, R, hl, r0, hm, hq⟩ => hq v H _ s (r0.push (r _ _ _)) hm
theorem me_int {i : Int} {j pos} : ME X (.Constant (.int i) j pos) (mC (.int i)) := me_const pe_int fun _ _ _ => .int i
theorem me_bl {b : Bool} {j pos} : ME X (.Constant (.bool b) j pos) (mC (.bl b)) := me_const pe_bl fun _ _ _ => .bl b
theorem me_non {j pos} : ME X (.Constant .none j pos) (mC .non) := me_const pe_non fun _ _ _ => .non
theorem me_str {x : Str} {j pos} : ME X (.Constant (.str x) j pos) (mC (.str x)) := me_const pe_str fun _ _ _ => .str x
theorem mb_frz {m : TEm} (h : ME X e m) : MB X e (mFrz m) := fun en Z tk => PE.imp (h en Z tk) fun σ H Q ⟨stk, vs, s, R, hl, r0, hm, hq⟩ =>
  ⟨stk, vs, s, _, hl, r0, hm, fun v H' sv s' r1 q => hq v H' (.val sv.frz) s' r1.pop r1.frzTop.top q⟩
theorem val_loc {K : PySem.W.Frag} {en : Ent} {stk : Loc'} {vs σ : L2.St} {s : S} {H : Hp} {i : Nat} {sv : SV} (hl : stk.length = vs.length) (R : Rel K en (stk ++ s.loc) s.mem (vs ++ σ) H) (h : s.loc[i]? = some (some sv)) :
    ∃ v, σ[i]? = some (some v) ∧ SvRep K (AvO en (stk ++ s.loc) s.mem (vs ++ σ)) H sv v := by
  obtain ⟨v, h1, h2⟩ := R.at_ (stk.length + i) sv (by rw [get_stk]; exact h)
  exact ⟨v, by rwa [hl, get_stk] at h1, h2⟩
theorem mb_at {i : Nat} (h : PE X e (tVar i)) : MB X e (mAt i) := fun en Z tk => PE.imp h fun σ H Q ⟨stk, vs, s, R, hl, r0, hm, hq⟩ => by
  unfold mAt at hm
  split at hm
  · rename_i d hd
    obtain ⟨v, h1, h2⟩ := val_loc hl r0 hd
    exact ⟨v, h1, hq v H (.val d) s r0 h2 hm⟩
  · rename_i w hw
    obtain ⟨v, h1, h2⟩ := val_loc hl r0 hw
    exact ⟨v, h1, hq v H (.at i) s r0 h1 hm⟩
  · exact hm.elim
theorem me_var {i : Nat} (h : PE X e (tVar i)) : ME X e (mVar i) := fun en Z tk => PE.imp h fun σ H Q ⟨stk, vs, s, R, hl, r0, hm, hq⟩ => by
  unfold mVar at hm
  split at hm
  · rename_i d hd
    obtain ⟨v, h1, h2⟩ := val_loc hl r0 hd
    exact ⟨v, h1, hq v H _ s (r0.push h2) hm⟩
  · rename_i w hw
    have r1 := r0.freeze (i := stk.length + i) (by rw [get_stk]; exact hw)
    rw [set_stk] at r1
    have hil : i < s.loc.length := (List.getElem?_eq_some_iff.mp hw).1
    obtain ⟨v, h1, h2⟩ := val_loc (s := { s with loc := s.loc.set i (some (.val w.frz)) }) (i := i) (sv := .val w.frz) hl r1 (by show (s.loc.set i _)[i]? = _; rw [List.getElem?_set_self hil])
    exact ⟨v, h1, hq v H _ _ (r1.push h2) hm⟩
  · exact hm.elim
/-- a place's object goes to the top -/
theorem Rel.take {K : PySem.W.Frag} {en : Ent} {l : Loc'} {m : Mem} {σ : L2.St} {H : Hp} {i : Nat} {sv : SV} {v : V} (R : Rel K en l m σ H) (hi : l[i]? = some (some sv)) (hv : σ[i]? = some (some v)) :
    Rel K en (some sv :: l.set i none) m (some v :: σ) H := by
  have hil := (List.getElem?_eq_some_iff.mp hi).1
  have hs : ∀ (j : Nat) (x : SV), (l.set i none)[j]? = some (some x) → j ≠ i ∧ l[j]? = some (some x) := fun j x h => by
    by_cases e : i = j
    · subst e
      rw [List.getElem?_set_self hil] at h; cases h
    · rw [List.getElem?_set_ne e] at h
      exact ⟨Ne.symm e, h⟩
  have hO : ∀ b, OwnAt (some sv :: l.set i none) (some v :: σ) b → OwnAt l σ b := by
    rintro b ⟨j, o, h1, h2⟩
    cases j with
    | zero =>
      have e1 : sv = .own o := by simpa using h1
      have e2 : v = .ref b := by simpa using h2
      exact ⟨i, o, by rw [hi, e1], by rw [hv, e2]⟩
    | succ j => exact ⟨j, o, (hs j _ (by simpa using h1)).2, by simpa using h2⟩
  refine R.same (by simp [R.len]) hO (fun j x h => ?_) (fun j k o o' a h1 h2 h3 h4 => ?_)
  · cases j with
    | zero =>
      have e1 : sv = x := by simpa using h
      subst e1
      obtain ⟨v', q1, q2⟩ := R.at_ i _ hi
      rw [hv] at q1; cases q1
      exact ⟨v, rfl, q2.tr (Rel.trSame hO) fun _ _ _ _ _ h => h⟩
    | succ j =>
      obtain ⟨v', q1, q2⟩ := R.at_ j x (hs j x (by simpa using h)).2
      exact ⟨v', by simpa using q1, q2.tr (Rel.trSame hO) fun _ _ _ _ _ h => h⟩
  · cases j with
    | zero =>
      have e1 : sv = .own o := by simpa using h1
      have e2 : v = .ref a := by simpa using h3
      cases k with
      | zero => rfl
      | succ k =>
        obtain ⟨n, q⟩ := hs k _ (by simpa using h2)
        exact absurd (R.sep k i o' o a q (by rw [hi, e1]) (by simpa using h4) (by rw [hv, e2])) n
    | succ j =>
      obtain ⟨n, q⟩ := hs j _ (by simpa using h1)
      cases k with
      | zero =>
        have e1 : sv = .own o' := by simpa using h2
        have e2 : v = .ref a := by simpa using h4
        exact absurd (R.sep j i o o' a q (by rw [hi, e1]) (by simpa using h3) (by rw [hv, e2])) n
      | succ k => rw [R.sep j k o o' a q (hs k _ (by simpa using h2)).2 (by simpa using h3) (by simpa using h4)]
theorem me_move {i : Nat} (h : PE X e (tVar i)) : ME X e (mMove i) := fun en Z tk => PE.imp h fun σ H Q ⟨stk, vs, s, R, hl, r0, hm, hq⟩ => by
  unfold mMove at hm
  split at hm
  · rename_i d hd
    obtain ⟨v, h1, h2⟩ := val_loc hl r0 hd
    exact ⟨v, h1, hq v H _ s (r0.push h2) hm⟩
  · rename_i w hw
    obtain ⟨v, h1, h2⟩ := val_loc hl r0 hw
    have r1 := r0.take (i := stk.length + i) (sv := .own w) (v := v) (by rw [get_stk]; exact hw) (by rw [hl, get_stk]; exact h1)
    rw [set_stk] at r1
    exact ⟨v, h1, hq v H _ { s with loc := s.loc.set i none } r1 hm⟩
  · exact hm.elim

/-! ### argument lists -/
def mNil : TAm := fun s Q _ => Q [] s
def mCons (ma : TBm) (mr : TAm) : TAm := fun s Q X => ma s (fun b s1 => mr s1 (fun bs s2 => Q (b :: bs) s2) X) X
theorem ma_nil : MA X [] mNil := fun en Z tk => PA.imp pa_nil fun σ H Q ⟨stk, vs, s, R, hl, r0, hm, hq⟩ => hq _ H [] s r0 .nil hm
end
def B.slot : B → Option SV
  | .val d => some (.val d)
  | .at _ => none
section
variable {K : PySem.W.Frag} {en : Ent} {l l' : Loc'} {m : Mem} {σ vs : L2.St} {H : Hp} {stk : Loc'} {b : B} {v : V}
theorem ownAt_push0 {l : Loc'} {σ : L2.St} {y : Option V} {b : Addr} : OwnAt (none :: l) (y :: σ) b ↔ OwnAt l σ b := by
  constructor
  · rintro ⟨i, o, h1, h2⟩
    cases i with
    | zero => simp at h1
    | succ i => exact ⟨i, o, by simpa using h1, by simpa using h2⟩
  · exact ownAt_cons
theorem Rel.push0 {y : Option V} (R : Rel K en l m σ H) : Rel K en (none :: l) m (y :: σ) H := by
  have hO : ∀ b, OwnAt (none :: l) (y :: σ) b → OwnAt l σ b := fun b h => ownAt_push0.mp h
  refine R.same (by simp [R.len]) hO (fun i sv h => ?_) (fun i j o o' a h1 h2 h3 h4 => ?_)
  · cases i with
    | zero => simp at h
    | succ i =>
      obtain ⟨v, q1, q2⟩ := R.at_ i sv (by simpa using h)
      exact ⟨v, by simpa using q1, q2.tr (Rel.trSame hO) fun _ _ _ _ _ h => h⟩
  · cases i with
    | zero => simp at h1
    | succ i =>
      cases j with
      | zero => simp at h2
      | succ j => rw [R.sep i j o o' a (by simpa using h1) (by simpa using h2) (by simpa using h3) (by simpa using h4)]
theorem Rel.pushB {σ0 : L2.St} (R : Rel K en l m σ H) (h : BRep K (AvO en l m σ) H σ0 v b) : Rel K en (b.slot :: l) m (some v :: σ) H := by
  cases b with
  | val d => exact R.push h
  | «at» i => exact R.push0
theorem Rel.popB {σ0 σ1 : L2.St} {Av : Addr → Prop} {H0 : Hp} (R : Rel K en (b.slot :: l) m (some v :: σ) H) (h : BRep K Av H0 σ0 v b) : Rel K en l m σ H ∧ BRep K (AvO en l m σ) H σ0 v b := by
  refine ⟨R.pop, ?_⟩
  cases b with
  | val d => exact R.top
  | «at» i => exact h
theorem avO_slot : AvO en (b.slot :: l) m (some v :: σ) = AvO en l m σ := by
  cases b with
  | val d => exact avO_congr fun b => ownAt_push
  | «at» i => exact avO_congr fun b => ownAt_push0
end
section
variable {X : Cx} {e a b : Expr} {es : List Expr} {pos : Pos}
theorem ma_cons {ma : TBm} {mr : TAm} (h : MB X e ma) (hr : MA X es mr) (hs : starEach (e :: es) X.env = (false, eval e X.env) :: starEach es X.env := by rfl) : MA X (e :: es) (mCons ma mr) := fun en Z tk =>
  PA.imp (pa_cons (h en Z tk) (hr en Z tk) hs) fun σ H Q ⟨stk, vs, s, R, hl, r0, hm, hq⟩ =>
    ⟨stk, vs, s, _, hl, r0, hm, fun v H1 b s1 r1 b1 hm1 => ⟨b.slot :: stk, some v :: vs, s1, _, by simp [hl], r1.pushB b1, hm1, fun us H2 bs s2 r2 b2 hm2 => by
      obtain ⟨r3, b3⟩ := r2.popB (σ1 := σ) b1
      refine hq (v :: us) H2 (b :: bs) s2 r3 (.cons b3 ?_) hm2
      have ea := avO_slot (en := en) (l := stk ++ s2.loc) (m := s2.mem) (σ := vs ++ σ) (b := b) (v := v)
      simp only [List.cons_append] at b2
      rw [ea] at b2
      exact b2⟩⟩

/-! ### operations on values -/
abbrev R2m := Mem → SV → SV → (SV → Prop) → Prop
abbrev R1m := Mem → SV → (SV → Prop) → Prop
/-- some rule of the hand layer serves -/
def RAny (X : Cx) (f : Value → Value → Sem Value) : R2 := fun v w H Q => ∃ r0, OpR X f r0 ∧ r0 v w H Q
theorem opR_any {f : Value → Value → Sem Value} : OpR X f (RAny X f) := fun pins s σ H x y v u Q I rx ry ⟨r0, h, q⟩ => h pins s σ H x y v u Q I rx ry q
/-- an operation of two values, by data -/
def OpM (X : Cx) (f : Value → Value → Sem Value) (r : R2m) : Prop := ∀ (en : Ent) (l : Loc') (m : Mem) (σ : L2.St) (H : Hp) (v w : V) (x y : SV) (R : SV → Prop) (Q : VK), Rel X.K en l m σ H → SvRep X.K (AvO en l m σ) H x v → SvRep X.K (AvO en l m σ) H y w →
  r m x y R → (∀ u H' z, Rel X.K en (some z :: l) m (some u :: σ) H' → R z → Q u H') → RAny X f v w H Q
def mOp2 (r : R2m) (ma mb : TBm) : TEm := fun s Q X => ma s (fun b1 s1 => mb s1 (fun b2 s2 => s2.get b1 fun x => s2.get b2 fun y => r s2.mem x y fun z => Q z s2) X) X
theorem get_sv {K : PySem.W.Frag} {en : Ent} {stk : Loc'} {vs σ : L2.St} {s : S} {H : Hp} {b : B} {v : V} {k : SV → Prop} (hl : stk.length = vs.length) (R : Rel K en (stk ++ s.loc) s.mem (vs ++ σ) H) (h : BRep K (AvO en (stk ++ s.loc) s.mem (vs ++ σ)) H σ v b) (g : s.get b k) :
    ∃ sv, SvRep K (AvO en (stk ++ s.loc) s.mem (vs ++ σ)) H sv v ∧ k sv := by
  cases b with
  | val d => exact ⟨.val d, h, g⟩
  | «at» i =>
    unfold S.get at g
    dsimp only at g
    split at g
    · rename_i sv hsv
      obtain ⟨v', h1, h2⟩ := val_loc hl R hsv
      have h' : σ[i]? = some (some v) := h
      rw [h1] at h'; cases h'
      exact ⟨sv, h2, g⟩
    · exact g.elim
theorem bin_lift {ma mb : TBm} {r : R2m} {f : Value → Value → Sem Value} (hr : OpM X f r) {en : Ent} {Z : EX} {σ : L2.St} {H : Hp} {Q : VK} (h : liftE X.K en Z (mOp2 r ma mb) σ H Q) : tOp (RAny X f) (liftB X.K en Z ma) (liftB X.K en Z mb) σ H Q := by
  obtain ⟨stk, vs, s, R, hl, r0, hm, hq⟩ := h
  refine ⟨stk, vs, s, _, hl, r0, hm, fun v H1 b s1 r1 b1 hm1 => ⟨b.slot :: stk, some v :: vs, s1, _, by simp [hl], r1.pushB b1, hm1, fun w H2 b' s2 r2 b2 hm2 => ?_⟩⟩
  obtain ⟨r3, b3⟩ := r2.popB (σ1 := σ) b1
  have ea := avO_slot (en := en) (l := stk ++ s2.loc) (m := s2.mem) (σ := vs ++ σ) (b := b) (v := v)
  simp only [List.cons_append] at b2
  rw [ea] at b2
  obtain ⟨x, hx, hm3⟩ := get_sv hl r3 b3 hm2
  obtain ⟨y, hy, hm4⟩ := get_sv hl r3 b2 hm3
  exact hr en _ _ _ H2 v w x y _ Q r3 hx hy hm4 fun u H' z rz q => hq u H' z s2 rz q
theorem me_op {op : Operator} {r : R2m} {ma mb : TBm} (hr : OpM X (binaryOp op) r) (ha : MB X a ma) (hb : MB X b mb) : ME X (.BinOp a op b pos) (mOp2 r ma mb) := fun en Z tk =>
  PE.imp (pe_op opR_any (ha en Z tk) (hb en Z tk)) fun σ H Q h => bin_lift hr h
theorem me_cmp {op : CmpOp} {r : R2m} {ma mb : TBm} (hr : OpM X (compareOp op) r) (ha : MB X a ma) (hb : MB X b mb) (hm : behindInMarks op b = false) : ME X (.Compare a [op] [b] pos) (mOp2 r ma mb) := fun en Z tk =>
  PE.imp (pe_cmpR opR_any (ha en Z tk) (hb en Z tk) hm) fun σ H Q h => bin_lift hr h
end
end Sf

set_option maxHeartbeats 4000000
set_option autoImplicit false
/-! Sf, third part: operations by data. -/
namespace Sf
open PySem PySem.Spec PyProof.Rows L2

/-! ### lists, tuples looked into -/
def lstOf (m : Mem) (sv : SV) : Option (List D) := match sv with
  | .val (.lst l) => some l
  | .own (.lst l) => some l
  | .val (.ref p) => match m p with
    | some (.obj (.lst l)) => some l
    | _ => none
  | _ => none
def tupOf (sv : SV) : Option (List D) := match sv with
  | .val (.tup l) => some l
  | _ => none
section
variable {K : PySem.W.Frag} {en : Ent} {l : Loc'} {m : Mem} {σ : L2.St} {H : Hp} {v : V} {sv : SV} {ds : List D}
theorem lstOf_rep (R : Rel K en l m σ H) (h : SvRep K (AvO en l m σ) H sv v) (e : lstOf m sv = some ds) : ∃ a vs, v = .ref a ∧ H a = some (.lst vs) ∧ Reps K (AvO en l m σ) H vs ds := by
  unfold lstOf at e
  split at e
  · cases e
    cases h with
    | lst h1 h2 h3 => exact ⟨_, _, rfl, h1, h3⟩
  · cases e
    obtain ⟨a, rfl, o, h1, h2⟩ := h
    cases o with
    | lst vs => exact ⟨a, vs, rfl, h1, h2⟩
    | _ => exact False.elim h2
  · rename_i p
    split at e
    · rename_i l' hm
      cases e
      cases h
      obtain ⟨o, h1, h2⟩ := (R.mem p _ hm).1
      cases o with
      | lst vs => exact ⟨p, vs, rfl, h1, h2⟩
      | _ => exact False.elim h2
    · cases e
  · cases e
theorem tupOf_rep (h : SvRep K (AvO en l m σ) H sv v) (e : tupOf sv = some ds) : ∃ a vs, v = .ref a ∧ SqT K H a vs ∧ Reps K (AvO en l m σ) H vs ds := by
  unfold tupOf at e
  split at e
  · cases e
    cases h with
    | tup h1 h2 => exact ⟨_, _, rfl, h1.sq, h2⟩
  · cases e
end

/-! ### arithmetic -/
section
variable {X : Cx}
/-- an operation on two ints -/
def rIntM (C : Int → Int → Prop) (g : Int → Int → D) : R2m := fun _ x y k => match x, y with
  | .val (.int i), .val (.int j) => C i j ∧ k (.val (g i j))
  | _, _ => False
theorem op_int {f : Value → Value → Sem Value} {C : Int → Int → Prop} {g : Int → Int → D} {gv : Int → Int → V} (h : OpR X f (rI C gv)) (hg : ∀ K Av H i j, Rep K Av H (gv i j) (g i j)) : OpM X f (rIntM C g) := by
  intro en l m σ H v w x y R Q r hx hy hr hq
  unfold rIntM at hr
  split at hr
  · cases hx; cases hy
    exact ⟨_, h, _, _, rfl, rfl, hr.1, hq _ _ _ (r.push (hg _ _ _ _ _)) hr.2⟩
  · exact hr.elim
theorem op_int0 {f : Value → Value → Sem Value} {g : Int → Int → D} {gv : Int → Int → V} (h : OpR X f (rI0 gv)) (hg : ∀ K Av H i j, Rep K Av H (gv i j) (g i j)) : OpM X f (rIntM (fun _ _ => True) g) := by
  intro en l m σ H v w x y R Q r hx hy hr hq
  unfold rIntM at hr
  split at hr
  · cases hx; cases hy
    exact ⟨_, h, _, _, rfl, rfl, hq _ _ _ (r.push (hg _ _ _ _ _)) hr.2⟩
  · exact hr.elim
def rSubM : R2m := rIntM (fun _ _ => True) fun i j => .int (i - j)
theorem om_sub : OpM X (binaryOp .Sub) rSubM := op_int0 op_sub fun _ _ _ _ _ => .int _
def rAddM : R2m := fun m x y k => match x, y with
  | .val (.int i), .val (.int j) => k (.val (.int (i + j)))
  | .val (.str i), .val (.str j) => i.length + j.length ≤ sizeLine ∧ k (.val (.str (i ++ j)))
  | .val (.tup a), .val (.tup b) => a.length + b.length ≤ sizeLine ∧ k (.val (.tup (a ++ b)))
  | x, y => match lstOf m x, lstOf m y with
    | some a, some b => a.length + b.length ≤ sizeLine ∧ k (.own (.lst (a ++ b)))
    | _, _ => False
theorem om_add : OpM X (binaryOp .Add) rAddM := by
  intro en l m σ H v w x y R Q r hx hy hr hq
  unfold rAddM at hr
  split at hr
  · cases hx; cases hy
    exact ⟨_, op_add, _, _, rfl, rfl, hq _ _ _ (r.push (.int _)) hr⟩
  · cases hx; cases hy
    exact ⟨_, op_add_str, _, _, rfl, rfl, hr.1, hq _ _ _ (r.push (.str _)) hr.2⟩
  · rename_i a b
    obtain ⟨p, vs, rfl, hp, rp⟩ := tupOf_rep hx rfl
    obtain ⟨q, ws, rfl, hw, rw'⟩ := tupOf_rep hy rfl
    have e1 := rp.length
    have e2 := rw'.length
    refine ⟨_, op_catA, p, q, vs, ws, rfl, rfl, hp, hw, by rw [e1, e2]; exact hr.1, fun e => ?_, fun _ e => ?_, fun _ _ t ht => ?_⟩
    · subst e
      have : a = [] := by cases rp; rfl
      subst this
      exact hq _ _ _ (r.push hy) hr.2
    · subst e
      have : b = [] := by cases rw'; rfl
      subst this
      have hk := hr.2
      rw [List.append_nil] at hk
      exact hq _ _ _ (r.push hx) hk
    · exact hq _ _ _ (r.newTup ht (rp.append rw')) hr.2
  · split at hr
    · rename_i a b ha hb
      obtain ⟨p, vs, rfl, hp, rp⟩ := lstOf_rep r hx ha
      obtain ⟨q, ws, rfl, hw, rw'⟩ := lstOf_rep r hy hb
      refine ⟨_, op_cat, p, q, vs, ws, rfl, rfl, hp, hw, by rw [rp.length, rw'.length]; exact hr.1, fun t ht => ?_⟩
      exact hq _ _ _ (r.newOwn (o := .lst (vs ++ ws)) (w := .lst (a ++ b)) ht (rp.append rw')) hr.2
    · exact hr.elim
def CMulB (i j : Int) : Prop := i.natAbs.log2 + j.natAbs.log2 < 134000000
theorem CMulB.ok {i j : Int} (h : CMulB i j) : IntMulOk i j := by
  have b : ∀ x : Int, Builtin.Int.intBits x ≤ x.natAbs.log2 + 1 := fun x => by
    unfold Builtin.Int.intBits
    split <;> omega
  have h1 := b i
  have h2 := b j
  have h3 : i.natAbs.log2 + j.natAbs.log2 < 134000000 := h
  have e : bitsLine = 134217728 := by decide
  unfold IntMulOk
  intro z
  rw [Bool.and_eq_true] at z
  have z2 := z.2
  unfold Builtin.Int.intTooBig at z2
  have z3 := of_decide_eq_true z2
  rw [e] at z3
  omega
theorem op_mulB : OpR X (binaryOp .Mult) (rI CMulB fun i j => .int (i * j)) := opI fun _ _ _ _ _ _ _ hc q => mul_int q hc.ok
def rMulM : R2m := fun m x y k => match x, y with
  | .val (.int i), .val (.int j) => CMulB i j ∧ k (.val (.int (i * j)))
  | .val (.tup a), .val (.int j) => a ≠ [] ∧ 2 ≤ j ∧ j ≤ 1000 ∧ a.length ≤ 1000 ∧ k (.val (.tup (List.replicate j.toNat a).flatten))
  | x, .val (.int j) => match lstOf m x with
    | some a => -(2 ^ 63) ≤ j ∧ j < 2 ^ 63 ∧ a.length * j.toNat ≤ sizeLine ∧ k (.own (.lst (List.replicate j.toNat a).flatten))
    | _ => False
  | _, _ => False
theorem Reps.flat {K : PySem.W.Frag} {Av : Addr → Prop} {H : Hp} {vs : List V} {ds : List D} (h : Reps K Av H vs ds) : ∀ n : Nat, Reps K Av H (List.replicate n vs).flatten (List.replicate n ds).flatten
  | 0 => .nil
  | n + 1 => by
    rw [List.replicate_succ, List.replicate_succ, List.flatten_cons, List.flatten_cons]
    exact h.append (h.flat n)
theorem om_mul : OpM X (binaryOp .Mult) rMulM := by
  intro en l m σ H v w x y R Q r hx hy hr hq
  unfold rMulM at hr
  split at hr
  · cases hx; cases hy
    exact ⟨_, op_mulB, _, _, rfl, rfl, hr.1, hq _ _ _ (r.push (.int _)) hr.2⟩
  · rename_i a j
    obtain ⟨p, vs, rfl, hp, rp⟩ := tupOf_rep hx rfl
    cases hy
    obtain ⟨h1, h2, h3, h4, h5⟩ := hr
    refine ⟨_, op_repT, p, j, vs, rfl, rfl, hp, fun e => h1 ?_, h2, h3, by rw [rp.length]; exact h4, fun t ht => hq _ _ _ (r.newTup ht (rp.flat _)) h5⟩
    subst e; cases rp; rfl
  · rename_i j _ _
    cases hy
    split at hr
    · rename_i a ha
      obtain ⟨p, vs, rfl, hp, rp⟩ := lstOf_rep r hx ha
      obtain ⟨h1, h2, h3, h4⟩ := hr
      exact ⟨_, op_rep, p, j, vs, rfl, rfl, hp, h1, h2, by rw [rp.length]; exact h3, fun t ht => hq _ _ _ (r.newOwn (o := .lst _) (w := .lst _) ht (rp.flat _)) h4⟩
    · exact hr.elim
  · exact hr.elim
def CDivB (_ j : Int) : Prop := j ≠ 0 ∧ j.natAbs.log2 < 9000
theorem op_fdivB : OpR X (binaryOp .FloorDiv) (rI CDivB fun i j => .int (i.fdiv j)) := opI fun _ _ _ _ _ _ _ hc q => floordiv_int hc.1 q (.inl (PyProof.noPylong_of_log2 hc.2))
def rDivM : R2m := rIntM CDivB fun i j => .int (i.fdiv j)
theorem om_div : OpM X (binaryOp .FloorDiv) rDivM := op_int op_fdivB fun _ _ _ _ _ => .int _
def rModM : R2m := rIntM (fun _ j => j ≠ 0) fun i j => .int (i.fmod j)
theorem om_mod : OpM X (binaryOp .Mod) rModM := op_int op_modN fun _ _ _ _ _ => .int _
def rPowM : R2m := rIntM CPow fun i j => .int (i ^ j.toNat)
theorem om_pow : OpM X (binaryOp .Pow) rPowM := op_int op_pow fun _ _ _ _ _ => .int _
def rShlM : R2m := rIntM CPow fun i j => .int (i * 2 ^ j.toNat)
theorem om_shl : OpM X (binaryOp .LShift) rShlM := op_int op_shl fun _ _ _ _ _ => .int _
def rShrM : R2m := rIntM (fun _ j => 0 ≤ j) fun i j => .int (i / 2 ^ j.toNat)
theorem om_shr : OpM X (binaryOp .RShift) rShrM := op_int op_shr fun _ _ _ _ _ => .int _
def rAndM : R2m := rIntM (fun _ _ => True) fun i j => .int (Builtin.bitAnd i j)
theorem om_and : OpM X (binaryOp .BitAnd) rAndM := op_int0 op_and fun _ _ _ _ _ => .int _

/-! ### order -/
def rCmpM (p : Int → Int → Bool) (q : List Nat → List Nat → Bool) : R2m := fun _ x y k => match x, y with
  | .val (.int i), .val (.int j) => k (.val (.bl (p i j)))
  | .val (.str i), .val (.str j) => k (.val (.bl (q i.cps.toList j.cps.toList)))
  | _, _ => False
theorem om_cmp {f : Value → Value → Sem Value} {p : Int → Int → Bool} {q : List Nat → List Nat → Bool} (h1 : OpR X f (rI0 fun i j => .bl (p i j))) (h2 : OpR X f (fun x y H Q => ∃ i j, x = .str i ∧ y = .str j ∧ Q (.bl (q i.cps.toList j.cps.toList)) H)) : OpM X f (rCmpM p q) := by
  intro en l m σ H v w x y R Q r hx hy hr hq
  unfold rCmpM at hr
  split at hr
  · cases hx; cases hy
    exact ⟨_, h1, _, _, rfl, rfl, hq _ _ _ (r.push (.bl _)) hr⟩
  · cases hx; cases hy
    exact ⟨_, h2, _, _, rfl, rfl, hq _ _ _ (r.push (.bl _)) hr⟩
  · exact hr.elim
def rLtM : R2m := rCmpM (fun i j => decide (i < j)) fun a b => decide (a < b)
def rLeM : R2m := rCmpM (fun i j => decide (i ≤ j)) fun a b => !decide (b < a)
def rGtM : R2m := rCmpM (fun i j => decide (j < i)) fun a b => decide (b < a)
def rGeM : R2m := rCmpM (fun i j => decide (j ≤ i)) fun a b => !decide (a < b)
theorem om_lt : OpM X (compareOp .Lt) rLtM := om_cmp op_lt op_lt_str
theorem om_le : OpM X (compareOp .LtE) rLeM := om_cmp op_le op_le_str
theorem om_gt : OpM X (compareOp .Gt) rGtM := om_cmp op_gt op_gt_str
theorem om_ge : OpM X (compareOp .GtE) rGeM := om_cmp op_ge op_ge_str
end

/-! ### equality -/
mutual
def D.py : D → PyData
  | .non => .none
  | .bl b => .bool b
  | .int i => .int i
  | .str s => .str s
  | .tup l => .tuple (D.pys l)
  | .lst l => .list (D.pys l)
  | _ => .none
def D.pys : List D → List PyData
  | [] => []
  | d :: l => d.py :: D.pys l
end
/-- plain data, at most n deep -/
def D.okd : Nat → D → Bool
  | _, .non => true
  | _, .bl _ => true
  | _, .int _ => true
  | _, .str s => PyData.strOk s
  | n + 1, .tup l => l.all (D.okd n)
  | n + 1, .lst l => l.all (D.okd n)
  | _, _ => false
def D.eqv (d e : D) : Bool := PyData.eqv d.py e.py
/-- a value to be compared -/
def datOf (m : Mem) (sv : SV) : Option D := match lstOf m sv with
  | some l => some (.lst l)
  | none => match sv with
    | .val d => some d
    | .own _ => none
section
variable {K : PySem.W.Frag} {Av : Addr → Prop} {H : Hp}
theorem okd_dp : ∀ (n : Nat) (d : D) (v : V), D.okd n d = true → Rep K Av H v d → Dp K H v d.py
  | _, .non, _, _, .non => .non
  | _, .bl b, _, _, .bl _ => .bl b
  | _, .int i, _, _, .int _ => .int i
  | _, .str s, _, _, .str _ => .str s
  | n + 1, .tup l, _, h, .tup h1 h2 => by
    have all : ∀ (l : List D) (vs : List V), l.all (D.okd n) = true → Reps K Av H vs l → DpAll K H vs (D.pys l) := by
      intro l
      induction l with
      | nil => intro vs _ r; cases r; exact .nil
      | cons d l ih =>
        intro vs h r
        cases r with
        | cons r1 r2 =>
          rw [List.all_cons, Bool.and_eq_true] at h
          exact .cons (okd_dp n d _ h.1 r1) (ih _ h.2 r2)
    exact .tup h1.sq (all l _ h h2)
  | n + 1, .lst l, _, h, .lst h1 _ h2 => by
    have all : ∀ (l : List D) (vs : List V), l.all (D.okd n) = true → Reps K Av H vs l → DpAll K H vs (D.pys l) := by
      intro l
      induction l with
      | nil => intro vs _ r; cases r; exact .nil
      | cons d l ih =>
        intro vs h r
        cases r with
        | cons r1 r2 =>
          rw [List.all_cons, Bool.and_eq_true] at h
          exact .cons (okd_dp n d _ h.1 r1) (ih _ h.2 r2)
    exact .lst (.inl (.inl h1)) (all l _ h h2)
  | 0, .tup _, _, h, _ => by simp [D.okd] at h
  | 0, .lst _, _, h, _ => by simp [D.okd] at h
  | _, .dct _ _, _, h, _ => by simp [D.okd] at h
  | _, .ref _, _, h, _ => by simp [D.okd] at h
  | _, .scr _, _, h, _ => by simp [D.okd] at h
  | _, .xc _ _ _ _ _, _, h, _ => by simp [D.okd] at h
  | _, .cls _, _, h, _ => by simp [D.okd] at h
  | _, .ty _, _, h, _ => by simp [D.okd] at h
theorem okd_lst_dp (n : Nat) {l : List D} {vs : List V} {a : Addr} (h : D.okd (n + 1) (.lst l) = true) (h1 : H a = some (.lst vs)) (h2 : Reps K Av H vs l) : Dp K H (.ref a) (D.lst l).py := by
  have all : ∀ (l : List D) (vs : List V), l.all (D.okd n) = true → Reps K Av H vs l → DpAll K H vs (D.pys l) := by
    intro l
    induction l with
    | nil => intro vs _ r; cases r; exact .nil
    | cons d l ih =>
      intro vs h r
      cases r with
      | cons r1 r2 =>
        rw [List.all_cons, Bool.and_eq_true] at h
        exact .cons (okd_dp n d _ h.1 r1) (ih _ h.2 r2)
  exact .lst (.inl (.inl h1)) (all l _ h h2)
theorem okd_shape : ∀ (n : Nat) (d : D), D.okd n d = true → d.py.canLay0 = true ∧ d.py.depth ≤ n + 1
  | _, .non, _ => by simp [D.py, PyData.canLay0, PyData.depth]
  | _, .bl b, _ => by simp [D.py, PyData.canLay0, PyData.depth]
  | _, .int i, _ => by simp [D.py, PyData.canLay0, PyData.depth]
  | _, .str s, h => by
    have h' : PyData.strOk s = true := by simpa [D.okd] using h
    simp [D.py, PyData.canLay0, PyData.depth, h']
  | n + 1, .tup l, h => by
    have all : ∀ l : List D, l.all (D.okd n) = true → PyData.canLayAll0 (D.pys l) = true ∧ PyData.depthAll (D.pys l) ≤ n + 1 := by
      intro l
      induction l with
      | nil => intro _; simp [D.pys, PyData.canLayAll0, PyData.depthAll]
      | cons d l ih =>
        intro h
        rw [List.all_cons, Bool.and_eq_true] at h
        have h1 := okd_shape n d h.1
        have h2 := ih h.2
        simp only [D.pys, PyData.canLayAll0, PyData.depthAll, Bool.and_eq_true]
        refine ⟨⟨h1.1, h2.1⟩, by omega⟩
    have := all l h
    simp only [D.py, PyData.canLay0, PyData.depth]
    exact ⟨this.1, by omega⟩
  | n + 1, .lst l, h => by
    have all : ∀ l : List D, l.all (D.okd n) = true → PyData.canLayAll0 (D.pys l) = true ∧ PyData.depthAll (D.pys l) ≤ n + 1 := by
      intro l
      induction l with
      | nil => intro _; simp [D.pys, PyData.canLayAll0, PyData.depthAll]
      | cons d l ih =>
        intro h
        rw [List.all_cons, Bool.and_eq_true] at h
        have h1 := okd_shape n d h.1
        have h2 := ih h.2
        simp only [D.pys, PyData.canLayAll0, PyData.depthAll, Bool.and_eq_true]
        refine ⟨⟨h1.1, h2.1⟩, by omega⟩
    have := all l h
    simp only [D.py, PyData.canLay0, PyData.depth]
    exact ⟨this.1, by omega⟩
  | 0, .tup _, h => by simp [D.okd] at h
  | 0, .lst _, h => by simp [D.okd] at h
  | _, .dct _ _, h => by simp [D.okd] at h
  | _, .ref _, h => by simp [D.okd] at h
  | _, .scr _, h => by simp [D.okd] at h
  | _, .xc _ _ _ _ _, h => by simp [D.okd] at h
  | _, .cls _, h => by simp [D.okd] at h
  | _, .ty _, h => by simp [D.okd] at h
theorem okd_shaped {d : D} (h : D.okd 60 d = true) : SeqAt.shaped d.py = true := by
  obtain ⟨h1, h2⟩ := okd_shape 60 d h
  unfold SeqAt.shaped
  rw [h1, decide_eq_true (by omega)]; rfl
theorem datOf_dp {en : Ent} {l : Loc'} {m : Mem} {σ : L2.St} {v : V} {sv : SV} {d : D} (R : Rel K en l m σ H) (h : SvRep K (AvO en l m σ) H sv v) (e : datOf m sv = some d) (o : D.okd 60 d = true) : Dp K H v d.py := by
  unfold datOf at e
  split at e
  · rename_i ds hds
    cases e
    obtain ⟨a, vs, rfl, h1, h2⟩ := lstOf_rep R h hds
    exact okd_lst_dp 59 o h1 h2
  · split at e
    · rename_i d'
      cases e
      exact okd_dp 60 d v o h
    · cases e
end
section
variable {X : Cx}
def rEqM (neg : Bool) : R2m := fun m x y k => match datOf m x, datOf m y with
  | some (.str a), some (.str b) => k (.val (.bl ((a == b) != neg)))
  | some d, some e => D.okd 60 d = true ∧ D.okd 60 e = true ∧ k (.val (.bl (D.eqv d e != neg)))
  | _, _ => False
theorem datStr {K : PySem.W.Frag} {Av : Addr → Prop} {H : Hp} {m : Mem} {v : V} {sv : SV} {a : Str} (h : SvRep K Av H sv v) (e : datOf m sv = some (.str a)) : v = .str a := by
  unfold datOf at e
  split at e
  · cases e
  · split at e
    · cases e
      cases h
      rfl
    · cases e
theorem om_eq (hu : X.A.units + 64 < cLine) : OpM X (compareOp .Eq) (rEqM false) := by
  intro en l m σ H v w x y R Q r hx hy hr hq
  unfold rEqM at hr
  split at hr
  · rename_i a b hd he
    rw [Bool.bne_false] at hr
    have h1 := datStr hx hd
    have h2 := datStr hy he
    subst h1 h2
    exact ⟨_, op_eq, rfl, by rw [dec_str]; exact hq _ _ _ (r.push (.bl _)) hr⟩
  · rename_i d e hd he
    obtain ⟨o1, o2, hk⟩ := hr
    rw [Bool.bne_false] at hk
    exact ⟨_, op_eqD hu, _, _, datOf_dp r hx hd o1, datOf_dp r hy he o2, okd_shaped o1, okd_shaped o2, hq _ _ _ (r.push (.bl _)) hk⟩
  · exact hr.elim
theorem om_ne (hu : X.A.units + 64 < cLine) : OpM X (compareOp .NotEq) (rEqM true) := by
  intro en l m σ H v w x y R Q r hx hy hr hq
  unfold rEqM at hr
  split at hr
  · rename_i a b hd he
    rw [Bool.bne_true] at hr
    have h1 := datStr hx hd
    have h2 := datStr hy he
    subst h1 h2
    exact ⟨_, op_ne, rfl, by rw [dec_str]; exact hq _ _ _ (r.push (.bl _)) hr⟩
  · rename_i d e hd he
    obtain ⟨o1, o2, hk⟩ := hr
    rw [Bool.bne_true] at hk
    exact ⟨_, op_neD hu, _, _, datOf_dp r hx hd o1, datOf_dp r hy he o2, okd_shaped o1, okd_shaped o2, hq _ _ _ (r.push (.bl _)) hk⟩
  · exact hr.elim
/-- is None -/
def isNonM (sv : SV) : Bool := match sv with
  | .val .non => true
  | _ => false
def rIsM (neg : Bool) : R2m := fun _ x y k => match y with
  | .val .non => k (.val (.bl (isNonM x != neg)))
  | _ => False
theorem isNon_rep {K : PySem.W.Frag} {Av : Addr → Prop} {H : Hp} {v : V} {x : SV} (h : SvRep K Av H x v) : decide (v = .non) = isNonM x := by
  cases x with
  | own w => obtain ⟨a, rfl, _⟩ := h; rfl
  | val d => cases h <;> rfl
theorem om_is : OpM X (compareOp .Is) (rIsM false) := by
  intro en l m σ H v w x y R Q r hx hy hr hq
  unfold rIsM at hr
  split at hr
  · cases hy
    rw [Bool.bne_false] at hr
    exact ⟨_, op_isN, rfl, by rw [isNon_rep hx]; exact hq _ _ _ (r.push (.bl _)) hr⟩
  · exact hr.elim
theorem om_isnot : OpM X (compareOp .IsNot) (rIsM true) := by
  intro en l m σ H v w x y R Q r hx hy hr hq
  unfold rIsM at hr
  split at hr
  · cases hy
    rw [Bool.bne_true] at hr
    exact ⟨_, op_notN, rfl, by rw [isNon_rep hx]; exact hq _ _ _ (r.push (.bl _)) hr⟩
  · exact hr.elim
/-- in: a sign in a text, data in a list, flat data in a tuple -/
def D.flat : D → Bool
  | .non => true
  | .bl _ => true
  | .int _ => true
  | .str _ => true
  | _ => false
def rInM (neg : Bool) : R2m := fun m x y k => match x, y with
  | .val (.str a), .val (.str b) => ∃ c, a = ⟨#[c]⟩ ∧ k (.val (.bl ((b.cps.toList.contains c) != neg)))
  | .val d, .val (.tup l) => d.flat = true ∧ l.all D.flat = true ∧ k (.val (.bl ((l.any fun z => D.eqv z d) != neg)))
  | .val d, y => match lstOf m y with
    | some l => D.okd 60 d = true ∧ l.all (D.okd 59) = true ∧ k (.val (.bl ((l.any fun z => D.eqv z d) != neg)))
    | none => False
  | _, _ => False
theorem flat_rep {K : PySem.W.Frag} {Av : Addr → Prop} {H : Hp} {v : V} {d : D} (f : d.flat = true) (h : Rep K Av H v d) : flatV v = true ∧ ∀ (u : V) (e : D), e.flat = true → Rep K Av H u e → eqV v u = D.eqv d e := by
  cases h with
  | non => exact ⟨rfl, fun u e fe he => by cases he <;> first | rfl | cases fe⟩
  | bl b => exact ⟨rfl, fun u e fe he => by cases he <;> first | rfl | cases fe⟩
  | int i => exact ⟨rfl, fun u e fe he => by cases he <;> first | rfl | cases fe⟩
  | str s => exact ⟨rfl, fun u e fe he => by cases he <;> first | rfl | cases fe⟩
  | _ => cases f
theorem flat_reps {K : PySem.W.Frag} {Av : Addr → Prop} {H : Hp} {v : V} {d : D} (f : d.flat = true) (h : Rep K Av H v d) : ∀ {vs : List V} {l : List D}, l.all D.flat = true → Reps K Av H vs l → vs.all flatV = true ∧ inV v vs = l.any fun z => D.eqv z d
  | _, _, _, .nil => ⟨rfl, rfl⟩
  | _, _, g, .cons r t => by
    rw [List.all_cons, Bool.and_eq_true] at g
    obtain ⟨q1, q2⟩ := flat_reps f h g.2 t
    obtain ⟨q3, q4⟩ := flat_rep g.1 r
    refine ⟨by rw [List.all_cons, q1, q3]; rfl, ?_⟩
    unfold inV at q2 ⊢
    rw [List.any_cons, List.any_cons, q2, q4 v d f h]
theorem pys_any (d : D) : ∀ l : List D, ((D.pys l).any fun z => PyData.eqv z d.py) = l.any fun z => D.eqv z d
  | [] => rfl
  | x :: l => by
    rw [D.pys, List.any_cons, List.any_cons, pys_any d l]; rfl
theorem om_in_ {f : Value → Value → Sem Value} {neg : Bool} (h1 : OpR X f (fun x y H Q => ∃ (c : Nat) (z : Str), x = .str ⟨#[c]⟩ ∧ y = .str z ∧ Q (.bl ((decide (c ∈ z.cps.toList)) != neg)) H))
    (h2 : OpR X f (rIn X.K neg)) (h3 : OpR X f (fun x y H Q => ∃ d ds, Dp X.K H x d ∧ Dp X.K H y (.list ds) ∧ SeqAt.shaped d = true ∧ SeqAt.shaped (.list ds) = true ∧ Q (.bl ((ds.any fun z => PyData.eqv z d) != neg)) H)) : OpM X f (rInM neg) := by
  intro en l m σ H v w x y R Q r hx hy hr hq
  unfold rInM at hr
  split at hr
  · obtain ⟨c, rfl, hk⟩ := hr
    cases hx; cases hy
    rename_i b
    have e : b.cps.toList.contains c = decide (c ∈ b.cps.toList) := by simp
    rw [e] at hk
    exact ⟨_, h1, _, _, rfl, rfl, hq _ _ _ (r.push (.bl _)) hk⟩
  · obtain ⟨f1, f2, hk⟩ := hr
    obtain ⟨p, vs, rfl, hp, rp⟩ := tupOf_rep hy rfl
    obtain ⟨q1, q2⟩ := flat_reps f1 hx f2 rp
    refine ⟨_, h2, p, vs, rfl, .inr hp, (flat_rep f1 hx).1, q1, ?_⟩
    have e : (if neg = true then !inV v vs else inV v vs) = (inV v vs != neg) := by cases neg <;> simp
    rw [e, q2]
    exact hq _ _ _ (r.push (.bl _)) hk
  · split at hr
    · rename_i ls hl
      obtain ⟨o1, o2, hk⟩ := hr
      obtain ⟨p, vs, rfl, hp, rp⟩ := lstOf_rep r hy hl
      have o2' : D.okd 60 (.lst ls) = true := o2
      rw [← pys_any] at hk
      exact ⟨_, h3, _, _, okd_dp 60 _ _ o1 hx, okd_lst_dp 59 o2' hp rp, okd_shaped o1, okd_shaped o2', hq _ _ _ (r.push (.bl _)) hk⟩
    · exact hr.elim
  · exact hr.elim
theorem om_in (hu : X.A.units + 65 < cLine) : OpM X (compareOp .In) (rInM false) :=
  om_in_ (fun pins s σ H x y v u Q I rx ry ⟨c, z, e1, e2, q⟩ => op_in_sign pins s σ H x y v u Q I rx ry ⟨c, z, e1, e2, by rw [Bool.bne_false] at q; exact q⟩) op_in_seq
    fun pins s σ H x y v u Q I rx ry ⟨d, ds, e1, e2, e3, e4, q⟩ => op_inD hu pins s σ H x y v u Q I rx ry ⟨d, ds, e1, e2, e3, e4, by rw [Bool.bne_false] at q; exact q⟩
theorem om_notin (hu : X.A.units + 65 < cLine) : OpM X (compareOp .NotIn) (rInM true) :=
  om_in_ (fun pins s σ H x y v u Q I rx ry ⟨c, z, e1, e2, q⟩ => op_notIn_sign pins s σ H x y v u Q I rx ry ⟨c, z, e1, e2, by rw [Bool.bne_true] at q; exact q⟩) op_notIn_seq
    fun pins s σ H x y v u Q I rx ry ⟨d, ds, e1, e2, e3, e4, q⟩ => op_notInD hu pins s σ H x y v u Q I rx ry ⟨d, ds, e1, e2, e3, e4, by rw [Bool.bne_true] at q; exact q⟩

/-! ### subscripts -/
def IAny (X : Cx) : R2 := fun v w H Q => ∃ r0, IxR X r0 ∧ r0 v w H Q
theorem ixR_any : IxR X (IAny X) := fun value slice pins s σ H x y v u Q I rx ry ⟨r0, h, q⟩ hs => h value slice pins s σ H x y v u Q I rx ry q hs
def rIxM : R2m := fun m x y k => match x, y with
  | .val (.str a), .val (.int i) => a.length ≤ sizeLine ∧ ∃ c, atI a.cps.toList i = some c ∧ k (.val (.str ⟨#[c]⟩))
  | .val (.tup l), .val (.int i) => match atI l i with
    | some d => k (.val d)
    | none => False
  | x, .val (.int i) => match lstOf m x with
    | some l => match atI l i with
      | some d => k (.val d)
      | none => False
    | none => False
  | _, _ => False
theorem Reps.atI {K : PySem.W.Frag} {Av : Addr → Prop} {H : Hp} {vs : List V} {ds : List D} {i : Int} {d : D} (h : Reps K Av H vs ds) (e : atI ds i = some d) : ∃ v, L2.atI vs i = some v ∧ Rep K Av H v d := by
  unfold L2.atI at e ⊢
  rw [h.length]
  cases q : ixN ds.length i with
  | none => rw [q] at e; cases e
  | some j =>
    rw [q] at e
    exact h.get e
theorem ix_lift {a b : Expr} {ma mb : TBm} {pos : Pos} (ha : MB X a ma) (hb : MB X b mb) (hs : PlainIx b) : ME X (.Subscript a b pos) (mOp2 rIxM ma mb) := fun en Z tk =>
  PE.imp (pe_ix ixR_any (ha en Z tk) (hb en Z tk) hs) fun σ H Q h => by
  obtain ⟨stk, vs, s, R, hl, r0, hm, hq⟩ := h
  refine ⟨stk, vs, s, _, hl, r0, hm, fun v H1 b s1 r1 b1 hm1 => ⟨b.slot :: stk, some v :: vs, s1, _, by simp [hl], r1.pushB b1, hm1, fun w H2 b' s2 r2 b2 hm2 => ?_⟩⟩
  obtain ⟨r3, b3⟩ := r2.popB (σ1 := σ) b1
  have ea := avO_slot (en := en) (l := stk ++ s2.loc) (m := s2.mem) (σ := vs ++ σ) (b := b) (v := v)
  simp only [List.cons_append] at b2
  rw [ea] at b2
  obtain ⟨x, hx, hm3⟩ := get_sv hl r3 b3 hm2
  obtain ⟨y, hy, hm4⟩ := get_sv hl r3 b2 hm3
  unfold rIxM at hm4
  split at hm4
  · cases hx; cases hy
    obtain ⟨z, c, hc, hk⟩ := hm4
    exact ⟨_, ix_str, _, _, c, rfl, rfl, z, hc, hq _ _ _ s2 (r3.push (.str _)) hk⟩
  · obtain ⟨p, ws, rfl, hp, rp⟩ := tupOf_rep hx rfl
    cases hy
    split at hm4
    · rename_i d hd
      obtain ⟨u, hu, ru⟩ := rp.atI hd
      exact ⟨_, ix_tup, p, ws, _, u, rfl, rfl, hp, hu, hq _ _ _ s2 (r3.push ru) hm4⟩
    · exact hm4.elim
  · cases hy
    split at hm4
    · rename_i ls hls
      obtain ⟨p, ws, rfl, hp, rp⟩ := lstOf_rep r3 hx hls
      split at hm4
      · rename_i d hd
        obtain ⟨u, hu, ru⟩ := rp.atI hd
        exact ⟨_, ix_list, p, ws, _, u, rfl, rfl, .inl (.inl hp), hu, hq _ _ _ s2 (r3.push ru) hm4⟩
      · exact hm4.elim
    · exact hm4.elim
  · exact hm4.elim
end
end Sf

set_option maxHeartbeats 4000000
set_option autoImplicit false
/-! Sf, fourth part: tests, displays, slices, calls of built-ins. -/
namespace Sf
open PySem PySem.Spec PyProof.Rows L2

/-! ### tests -/
def mTest (m : TEm) : TTm := fun s Q X => m s (fun sv s' => match sv with
  | .val (.bl b) => Q b s'
  | _ => False) X
def truM (m : Mem) (sv : SV) (k : Bool → Prop) : Prop := match sv with
  | .val .non => k false
  | .val (.bl b) => k b
  | .val (.int i) => k (i != 0)
  | .val (.str y) => y.length ≤ sizeLine ∧ k ((y.length : Int) != 0)
  | .val (.tup l) => k (!l.isEmpty)
  | sv => match lstOf m sv with
    | some l => k (!l.isEmpty)
    | none => False
def mTru (m : TBm) : TTm := fun s Q X => m s (fun b s1 => s1.get b fun sv => truM s1.mem sv fun k => Q k s1) X
def mBool (m : TTm) : TEm := fun s Q X => m s (fun b s' => Q (.val (.bl b)) s') X
def mNot (m : TTm) : TTm := fun s Q X => m s (fun b s' => Q (!b) s') X
def mAnd (ma mb : TTm) : TTm := fun s Q X => ma s (fun b s' => if b = true then mb s' Q X else Q false s') X
def mOr (ma mb : TTm) : TTm := fun s Q X => ma s (fun b s' => if b = true then Q true s' else mb s' Q X) X
def mIfE (c : TTm) (ma mb : TEm) : TEm := fun s Q X => c s (fun b s' => if b = true then ma s' Q X else mb s' Q X) X
/-- values a and b, a or b: bools -/
def mAndV (ma mb : TEm) : TEm := fun s Q X => ma s (fun sv s' => match sv with
  | .val (.bl b) => if b = true then mb s' Q X else Q (.val (.bl false)) s'
  | _ => False) X
def mOrV (ma mb : TEm) : TEm := fun s Q X => ma s (fun sv s' => match sv with
  | .val (.bl b) => if b = true then Q (.val (.bl true)) s' else mb s' Q X
  | _ => False) X
def mNotV (m : TTm) : TEm := fun s Q X => m s (fun b s' => Q (.val (.bl (!b))) s') X

section
variable {K : PySem.W.Frag} {en : Ent} {l : Loc'} {m : Mem} {σ : L2.St} {H : Hp} {v : V} {sv : SV} {k : Bool → Prop}
theorem reps_isEmpty {Av : Addr → Prop} {vs : List V} {ds : List D} (h : Reps K Av H vs ds) : (!vs.isEmpty) = !ds.isEmpty := by cases h <;> rfl
theorem tru_rep (R : Rel K en l m σ H) (h : SvRep K (AvO en l m σ) H sv v) (t : truM m sv k) : ∃ b, TruV K v H b ∧ k b := by
  unfold truM at t
  split at t
  · cases h; exact ⟨_, rfl, t⟩
  · cases h; exact ⟨_, rfl, t⟩
  · cases h; exact ⟨_, rfl, t⟩
  · cases h; exact ⟨_, ⟨t.1, rfl⟩, t.2⟩
  · rename_i ds
    obtain ⟨a, vs, rfl, h1, h2⟩ := tupOf_rep h rfl
    exact ⟨_, .inr (.inl ⟨vs, h1, rfl⟩), by rw [reps_isEmpty h2]; exact t⟩
  · split at t
    · rename_i ds hds
      obtain ⟨a, vs, rfl, h1, h2⟩ := lstOf_rep R h hds
      exact ⟨_, .inl ⟨vs, .inl (.inl h1), rfl⟩, by rw [reps_isEmpty h2]; exact t⟩
    · exact t.elim
end
section
variable {X : Cx} {e a b c : Expr} {es : List Expr} {pos : Pos} {rest : List Expr}
theorem mt_val {m : TEm} (h : ME X e m) (he : ∀ whole, isTrue e X.env whole = (do let v ← whole; standAt e.pos; holding [v] (truthy v)) := by intro _; rfl) : MT X e (mTest m) := fun en Z tk =>
  PT.imp (pt_val (h en Z tk) he) fun σ H Q ⟨stk, vs, s, R, hl, r0, hm, hq⟩ => ⟨stk, vs, s, _, hl, r0, hm, fun v H' sv s' r1 q => by
    split at q
    · have h1 := r1.top
      cases h1
      exact ⟨_, rfl, hq _ H' s' r1.pop q⟩
    · exact q.elim⟩
theorem mt_tru {m : TBm} (h : MB X e m) (he : ∀ whole, isTrue e X.env whole = (do let v ← whole; standAt e.pos; holding [v] (truthy v)) := by intro _; rfl) : MT X e (mTru m) := fun en Z tk =>
  PT.imp (pt_truth (h en Z tk) he) fun σ H Q ⟨stk, vs, s, R, hl, r0, hm, hq⟩ => ⟨stk, vs, s, _, hl, r0, hm, fun v H' b s' r1 b1 q => by
    obtain ⟨sv, h1, h2⟩ := get_sv hl r1 b1 q
    obtain ⟨k, h3, h4⟩ := tru_rep r1 h1 h2
    exact ⟨k, h3, hq _ H' s' r1 h4⟩⟩
theorem mt_cmp {op : CmpOp} {r : R2m} {ma mb : TBm} (hr : OpM X (compareOp op) r) (ha : MB X a ma) (hb : MB X b mb) (hm : behindInMarks op b = false) : MT X (.Compare a [op] [b] pos) (mTest (mOp2 r ma mb)) := fun en Z tk =>
  PT.imp (pt_cmpR opR_any (ha en Z tk) (hb en Z tk) hm) fun σ H Q ⟨stk, vs, s, R, hl, r0, hm, hq⟩ => bin_lift hr ⟨stk, vs, s, _, hl, r0, hm, fun v H' sv s' r1 q => by
    split at q
    · have h1 := r1.top
      cases h1
      exact ⟨_, rfl, hq _ H' s' r1.pop q⟩
    · exact q.elim⟩
theorem mt_not {m : TTm} (h : MT X a m) : MT X (.UnaryOp .Not a pos) (mNot m) := fun en Z tk =>
  PT.imp (pt_not (h en Z tk)) fun σ H Q ⟨stk, vs, s, R, hl, r0, hm, hq⟩ => ⟨stk, vs, s, _, hl, r0, hm, fun b H' s' r1 q => hq _ H' s' r1 q⟩
theorem mt_of {m : TTm} (h : MW X e m) : MT X e m := fun en Z tk => (h en Z tk).pt
theorem mw_and1 {m : TTm} (h : MT X a m) : MW X (.BoolOp .And [a] pos) m := fun en Z tk => pw_and1 (h en Z tk)
theorem mw_or1 {m : TTm} (h : MT X a m) : MW X (.BoolOp .Or [a] pos) m := fun en Z tk => pw_or1 (h en Z tk)
theorem mw_and {ma mb : TTm} (ha : MT X a ma) (hb : MW X (.BoolOp .And (b :: rest) pos) mb) : MW X (.BoolOp .And (a :: b :: rest) pos) (mAnd ma mb) := fun en Z tk =>
  PW.imp (pw_and (ha en Z tk) (hb en Z tk)) fun σ H Q ⟨stk, vs, s, R, hl, r0, hm, hq⟩ => ⟨stk, vs, s, _, hl, r0, hm, fun b H' s' r1 q => by
    cases b with
    | true => exact ⟨stk, vs, s', R, hl, r1, q, hq⟩
    | false => exact hq _ H' s' r1 q⟩
theorem mw_or {ma mb : TTm} (ha : MT X a ma) (hb : MW X (.BoolOp .Or (b :: rest) pos) mb) : MW X (.BoolOp .Or (a :: b :: rest) pos) (mOr ma mb) := fun en Z tk =>
  PW.imp (pw_or (ha en Z tk) (hb en Z tk)) fun σ H Q ⟨stk, vs, s, R, hl, r0, hm, hq⟩ => ⟨stk, vs, s, _, hl, r0, hm, fun b H' s' r1 q => by
    cases b with
    | true => exact hq _ H' s' r1 q
    | false => exact ⟨stk, vs, s', R, hl, r1, q, hq⟩⟩
theorem me_ife {mc : TTm} {ma mb : TEm} (hc : MT X c mc) (ha : ME X a ma) (hb : ME X b mb) : ME X (.IfExp c a b pos) (mIfE mc ma mb) := fun en Z tk =>
  PE.imp (pe_ifExp (hc en Z tk) (ha en Z tk) (hb en Z tk)) fun σ H Q ⟨stk, vs, s, R, hl, r0, hm, hq⟩ => ⟨stk, vs, s, _, hl, r0, hm, fun b H' s' r1 q => by
    cases b with
    | true => exact ⟨stk, vs, s', R, hl, r1, q, hq⟩
    | false => exact ⟨stk, vs, s', R, hl, r1, q, hq⟩⟩
theorem me_one {op} {m : TEm} (h : ME X a m) : ME X (.BoolOp op [a] pos) m := fun en Z tk => pe_one (h en Z tk)
theorem me_and {ma mb : TEm} (ha : ME X a ma) (hb : ME X (.BoolOp .And (b :: rest) pos) mb) : ME X (.BoolOp .And (a :: b :: rest) pos) (mAndV ma mb) := fun en Z tk =>
  PE.imp (pe_and (ha en Z tk) (hb en Z tk)) fun σ H Q ⟨stk, vs, s, R, hl, r0, hm, hq⟩ => ⟨stk, vs, s, _, hl, r0, hm, fun v H' sv s' r1 q => by
    split at q
    · have h1 := r1.top
      cases h1
      rename_i b'
      cases b' with
      | true => exact ⟨_, rfl, stk, vs, s', R, hl, r1.pop, q, hq⟩
      | false => exact ⟨_, rfl, hq _ H' _ s' r1 q⟩
    · exact q.elim⟩
theorem me_or {ma mb : TEm} (ha : ME X a ma) (hb : ME X (.BoolOp .Or (b :: rest) pos) mb) : ME X (.BoolOp .Or (a :: b :: rest) pos) (mOrV ma mb) := fun en Z tk =>
  PE.imp (pe_or (ha en Z tk) (hb en Z tk)) fun σ H Q ⟨stk, vs, s, R, hl, r0, hm, hq⟩ => ⟨stk, vs, s, _, hl, r0, hm, fun v H' sv s' r1 q => by
    split at q
    · have h1 := r1.top
      cases h1
      rename_i b'
      cases b' with
      | true => exact ⟨_, rfl, hq _ H' _ s' r1 q⟩
      | false => exact ⟨_, rfl, stk, vs, s', R, hl, r1.pop, q, hq⟩
    · exact q.elim⟩
/-- not x, of any truth -/
theorem me_not {m : TBm} (h : MB X a m) : ME X (.UnaryOp .Not a pos) (mNotV (mTru m)) := fun en Z tk =>
  PE.imp (pe_notT (h en Z tk)) fun σ H Q ⟨stk, vs, s, R, hl, r0, hm, hq⟩ => ⟨stk, vs, s, _, hl, r0, hm, fun v H' b s' r1 b1 q => by
    obtain ⟨sv, h1, h2⟩ := get_sv hl r1 b1 q
    obtain ⟨k, h3, h4⟩ := tru_rep r1 h1 h2
    exact ⟨k, h3, hq _ H' _ s' (r1.push (.bl _)) h4⟩⟩
/-- -x -/
def mNeg (m : TEm) : TEm := fun s Q X => m s (fun sv s' => match sv with
  | .val (.int i) => Q (.val (.int (-i))) s'
  | _ => False) X
theorem me_neg {m : TEm} (h : ME X a m) : ME X (.UnaryOp .USub a pos) (mNeg m) := fun en Z tk =>
  PE.imp (pe_un un_neg (h en Z tk)) fun σ H Q ⟨stk, vs, s, R, hl, r0, hm, hq⟩ => ⟨stk, vs, s, _, hl, r0, hm, fun v H' sv s' r1 q => by
    split at q
    · have h1 := r1.top
      cases h1
      exact ⟨_, rfl, hq _ H' _ s' (r1.pop.push (.int _)) q⟩
    · exact q.elim⟩

theorem Rel.popS {K : PySem.W.Frag} {en : Ent} {stk l : Loc'} {m : Mem} {vs σ σ0 : L2.St} {H H0 : Hp} {b : B} {v : V} {Av : Addr → Prop} (R : Rel K en ((b.slot :: stk) ++ l) m ((some v :: vs) ++ σ) H) (h : BRep K Av H0 σ0 v b) :
    Rel K en (stk ++ l) m (vs ++ σ) H ∧ BRep K (AvO en (stk ++ l) m (vs ++ σ)) H σ0 v b := Rel.popB (σ1 := σ) R h
theorem avO_slotS {en : Ent} {stk l : Loc'} {m : Mem} {vs σ : L2.St} {b : B} {v : V} : AvO en ((b.slot :: stk) ++ l) m ((some v :: vs) ++ σ) = AvO en (stk ++ l) m (vs ++ σ) := avO_slot
/-! ### a op b op c -/
def mChain (r r' : R2m) (ma mb mc : TBm) : TEm := fun s Q X => ma s (fun b1 s1 => mb s1 (fun b2 s2 => s2.get b1 fun x => s2.get b2 fun y => r s2.mem x y fun z => match z with
  | .val (.bl true) => mc s2 (fun b3 s3 => s3.get b2 fun y' => s3.get b3 fun w => r' s3.mem y' w fun z => Q z s3) X
  | .val (.bl false) => Q (.val (.bl false)) s2
  | _ => False) X) X
theorem chain_lift {f g : Value → Value → Sem Value} {r r' : R2m} {ma mb mc : TBm} (hr : OpM X f r) (hr' : OpM X g r') {en : Ent} {Z : EX} {σ : L2.St} {H : Hp} {Q : VK} (h : liftE X.K en Z (mChain r r' ma mb mc) σ H Q) :
    tChain (RAny X f) (RAny X g) (liftB X.K en Z ma) (liftB X.K en Z mb) (liftB X.K en Z mc) σ H Q := by
  obtain ⟨stk, vs, s, R, hl, r0, hm, hq⟩ := h
  refine ⟨stk, vs, s, _, hl, r0, hm, fun v H1 b s1 r1 b1 hm1 => ⟨b.slot :: stk, some v :: vs, s1, _, by simp [hl], r1.pushB b1, hm1, fun w H2 b' s2 r2 b2 hm2 => ?_⟩⟩
  obtain ⟨r3, b3⟩ := Rel.popS r2 b1
  rw [avO_slotS] at b2
  obtain ⟨x, hx, hm3⟩ := get_sv hl r3 b3 hm2
  obtain ⟨y, hy, hm4⟩ := get_sv hl r3 b2 hm3
  have r3' := r3.pushB b2
  have ea' := avO_slot (en := en) (l := stk ++ s2.loc) (m := s2.mem) (σ := vs ++ σ) (b := b') (v := w)
  refine hr en _ _ _ H2 v w x y _ _ r3' (by rw [ea']; exact hx) (by rw [ea']; exact hy) hm4 fun u H' z rz q => ?_
  split at q
  · have h1 := rz.top
    cases h1
    refine ⟨true, rfl, ?_⟩
    rw [if_pos rfl]
    obtain ⟨r5, b5⟩ := rz.pop.popB (σ1 := σ) b2
    refine ⟨b'.slot :: stk, some w :: vs, s2, _, by simp [hl], rz.pop, q, fun t H3 b3 s3 r6 b6 q3 => ?_⟩
    obtain ⟨r7, b7⟩ := Rel.popS r6 b2
    rw [avO_slotS] at b6
    obtain ⟨y', hy', q4⟩ := get_sv hl r7 b7 q3
    obtain ⟨t', ht', q5⟩ := get_sv hl r7 b6 q4
    exact hr' en _ _ _ H3 w t y' t' _ Q r7 hy' ht' q5 fun u H' z rz q => hq u H' z s3 rz q
  · have h1 := rz.top
    cases h1
    obtain ⟨r5, b5⟩ := rz.pop.popB (σ1 := σ) b2
    exact ⟨false, rfl, by rw [if_neg Bool.false_ne_true]; exact hq _ _ _ s2 (r5.push (.bl _)) q⟩
  · exact q.elim
theorem me_chain {op op' : CmpOp} {r r' : R2m} {ma mb mc : TBm} (hr : OpM X (compareOp op) r) (hr' : OpM X (compareOp op') r') (ha : MB X a ma) (hb : MB X b mb) (hc : MB X c mc)
    (hm : lastMarks [op, op'] [b, c] = false := by with_unfolding_all rfl) : ME X (.Compare a [op, op'] [b, c] pos) (mChain r r' ma mb mc) := fun en Z tk =>
  PE.imp (pe_chain opR_any opR_any (ha en Z tk) (hb en Z tk) (hc en Z tk) hm) fun σ H Q h => chain_lift hr hr' h
theorem mt_chain {op op' : CmpOp} {r r' : R2m} {ma mb mc : TBm} (hr : OpM X (compareOp op) r) (hr' : OpM X (compareOp op') r') (ha : MB X a ma) (hb : MB X b mb) (hc : MB X c mc)
    (hm : lastMarks [op, op'] [b, c] = false := by with_unfolding_all rfl) : MT X (.Compare a [op, op'] [b, c] pos) (mTest (mChain r r' ma mb mc)) := fun en Z tk =>
  PT.imp (pt_chain opR_any opR_any (ha en Z tk) (hb en Z tk) (hc en Z tk) hm) fun σ H Q ⟨stk, vs, s, R, hl, r0, hm, hq⟩ => chain_lift hr hr' ⟨stk, vs, s, _, hl, r0, hm, fun v H' sv s' r1 q => by
    split at q
    · have h1 := r1.top
      cases h1
      exact ⟨_, rfl, hq _ H' s' r1.pop q⟩
    · exact q.elim⟩

/-! ### displays -/
/-- the values of a list of operands: none is lent -/
def valsOf : List B → (List D → Prop) → Prop
  | [], k => k []
  | .val d :: bs, k => valsOf bs fun ds => k (d :: ds)
  | .at _ :: _, _ => False
theorem valsOf_reps {K : PySem.W.Frag} {Av : Addr → Prop} {H : Hp} {σ : L2.St} : ∀ {vs : List V} {bs : List B} {k : List D → Prop}, BReps K Av H σ vs bs → valsOf bs k → ∃ ds, Reps K Av H vs ds ∧ k ds
  | _, _, _, .nil, h => ⟨[], .nil, h⟩
  | _, .val d :: bs, _, .cons b t, h => by
    obtain ⟨ds, h1, h2⟩ := valsOf_reps t h
    exact ⟨d :: ds, .cons b h1, h2⟩
  | _, .at _ :: _, _, .cons _ _, h => h.elim
def mTup (ma : TAm) : TEm := fun s Q X => ma s (fun bs s1 => bs.length ≤ 1000 ∧ valsOf bs fun ds => Q (.val (.tup ds)) s1) X
def mLst (ma : TAm) : TEm := fun s Q X => ma s (fun bs s1 => bs.length ≤ 1000 ∧ valsOf bs fun ds => Q (.own (.lst ds)) s1) X
theorem BReps.length {K : PySem.W.Frag} {Av : Addr → Prop} {H : Hp} {σ : L2.St} : ∀ {vs : List V} {bs : List B}, BReps K Av H σ vs bs → vs.length = bs.length
  | _, _, .nil => rfl
  | _, _, .cons _ t => by rw [List.length_cons, List.length_cons, BReps.length t]
theorem me_tup {x1} {ma : TAm} (h : MA X es ma) : ME X (.Tuple es x1 pos) (mTup ma) := fun en Z tk =>
  PE.imp (pe_tup (h en Z tk)) fun σ H Q ⟨stk, vs, s, R, hl, r0, hm, hq⟩ => ⟨stk, vs, s, _, hl, r0, hm, fun us H' bs s' r1 b1 ⟨hz, q⟩ => by
    obtain ⟨ds, h1, h2⟩ := valsOf_reps b1 q
    have hs : sizeLine = 16777216 := sizeLine_eq
    exact ⟨by rw [b1.length]; omega, fun p hp => hq _ _ _ s' (r1.newTup hp h1) h2⟩⟩
theorem me_lst {ma : TAm} (h : MA X es ma) : ME X (.List es pos) (mLst ma) := fun en Z tk =>
  PE.imp (pe_lst (h en Z tk)) fun σ H Q ⟨stk, vs, s, R, hl, r0, hm, hq⟩ => ⟨stk, vs, s, _, hl, r0, hm, fun us H' bs s' r1 b1 ⟨hz, q⟩ => by
    obtain ⟨ds, h1, h2⟩ := valsOf_reps b1 q
    have hs : sizeLine = 16777216 := sizeLine_eq
    exact ⟨by rw [b1.length]; omega, fun p hp => hq _ _ _ s' (r1.newOwn (o := .lst us) (w := .lst ds) hp h1) h2⟩⟩
end
end Sf

set_option maxHeartbeats 4000000
set_option autoImplicit false
/-! Sf, fifth part: slices, calls of built-ins, calls of defs. -/
namespace Sf
open PySem PySem.Spec PyProof.Rows L2

/-! ### slices -/
abbrev TOm := S → (Option Int → S → Prop) → EX → Prop
section
variable (K : PySem.W.Frag) (en : Ent) (X : EX)
def liftO (m : TOm) : TO := fun σ H Q => ∃ (stk : Loc') (vs : L2.St) (s : S) (R : Option Int → S → Prop), stk.length = vs.length ∧ Rel K en (stk ++ s.loc) s.mem (vs ++ σ) H ∧ m s R X ∧
  ∀ o H' s', Rel K en (stk ++ s'.loc) s'.mem (vs ++ σ) H' → R o s' → Q o H'
end
def MO' (X : Cx) (e : Option Expr) (m : TOm) : Prop := ∀ (en : Ent) (Z : EX), Takes X (liftW X.K en Z) → PO X e (liftO X.K en Z m)
def mNoPart : TOm := fun s Q _ => Q none s
def mPart (m : TEm) : TOm := fun s Q X => m s (fun sv s' => match sv with
  | .val (.int i) => Q (some i) s'
  | _ => False) X
theorem PO.imp {X : Cx} {e : Option Expr} {t t' : TO} (h : PO X e t) (i : ∀ σ H Q, t' σ H Q → t σ H Q) : PO X e t' := ⟨fun pins s σ H Q I q => h.run pins s σ H Q I (i _ _ _ q)⟩
section
variable {X : Cx} {e a : Expr} {lo hi : Option Expr} {pos p2 : Pos}
theorem mo_none : MO' X none mNoPart := fun en Z tk => PO.imp po_none fun σ H Q ⟨stk, vs, s, R, hl, r0, hm, hq⟩ => hq _ H s r0 hm
theorem mo_some {m : TEm} (h : ME X e m) : MO' X (some e) (mPart m) := fun en Z tk => PO.imp (po_some (h en Z tk)) fun σ H Q ⟨stk, vs, s, R, hl, r0, hm, hq⟩ => ⟨stk, vs, s, _, hl, r0, hm, fun v H' sv s' r1 q => by
  split at q
  · have h1 := r1.top
    cases h1
    exact ⟨_, rfl, hq _ H' s' r1.pop q⟩
  · exact q.elim⟩
/-- the items of l[lo:hi] -/
def cutL {α : Type} (l : List α) (lo hi : Option Int) : List α := (l.drop (HT.sIx l.length 0 lo)).take (HT.sIx l.length l.length hi - HT.sIx l.length 0 lo)
def SAny (X : Cx) : V → Option Int → Option Int → Hp → VK → Prop := fun x lo hi H Q => ∃ r0, SlR X r0 ∧ r0 x lo hi H Q
theorem slR_any : SlR X (SAny X) := fun pins s σ H x v vl vu lo hi sl Q I rx hs pl pu ⟨r0, h, q⟩ => h pins s σ H x v vl vu lo hi sl Q I rx hs pl pu q
def sliceM (m : Mem) (x : SV) (lo hi : Option Int) (k : SV → Prop) : Prop := match x with
  | .val (.str z) => z.length ≤ sizeLine ∧ k (.val (.str (cutS z lo hi)))
  | .val (.tup l) => k (.val (.tup (cutL l lo hi)))
  | .val (.scr ns) => k (.own (.lst ((cutL ns lo hi).map D.int)))
  | x => match lstOf m x with
    | some l => k (.own (.lst (cutL l lo hi)))
    | none => False
def mSl (m : TBm) (tl th : TOm) : TEm := fun s Q X => m s (fun b s1 => tl s1 (fun l s2 => th s2 (fun u s3 => s3.get b fun x => sliceM s3.mem x l u fun z => Q z s3) X) X) X
theorem Reps.cut {K : PySem.W.Frag} {Av : Addr → Prop} {H : Hp} {vs : List V} {ds : List D} (h : Reps K Av H vs ds) (lo hi : Option Int) : Reps K Av H (cutV vs lo hi) (cutL ds lo hi) := by
  unfold cutV cutL
  rw [h.length]
  exact (h.drop _).take _
theorem cutL_map {α β : Type} (f : α → β) (l : List α) (lo hi : Option Int) : cutL (l.map f) lo hi = (cutL l lo hi).map f := by
  unfold cutL
  rw [List.length_map, List.map_take, List.map_drop]
theorem cutL_whole {α : Type} {l : List α} {lo hi : Option Int} (h : HT.sIx l.length 0 lo = 0 ∧ HT.sIx l.length l.length hi = l.length) : cutL l lo hi = l := by
  unfold cutL
  rw [h.1, h.2, List.drop_zero, Nat.sub_zero, List.take_length]
theorem me_slice {m : TBm} {tl th : TOm} (he : MB X e m) (hl : MO' X lo tl) (hu : MO' X hi th) : ME X (.Subscript e (.Slice lo hi none p2) pos) (mSl m tl th) := fun en Z tk =>
  PE.imp (pe_slice slR_any (he en Z tk) (hl en Z tk) (hu en Z tk)) fun σ H Q ⟨stk, vs, s, R, hl, r0, hm, hq⟩ => ⟨stk, vs, s, _, hl, r0, hm, fun v H1 b s1 r1 b1 hm1 =>
    ⟨b.slot :: stk, some v :: vs, s1, _, by simp [hl], r1.pushB b1, hm1, fun l H2 s2 r2 hm2 => ⟨b.slot :: stk, some v :: vs, s2, _, by simp [hl], r2, hm2, fun u H3 s3 r3 hm3 => by
      obtain ⟨r4, b4⟩ := Rel.popS r3 b1
      obtain ⟨x, hx, hm4⟩ := get_sv hl r4 b4 hm3
      unfold sliceM at hm4
      split at hm4
      · cases hx
        exact ⟨_, sl_str, _, rfl, hm4.1, hq _ _ _ s3 (r4.push (.str _)) hm4.2⟩
      · rename_i ls
        obtain ⟨a, ws, rfl, h1, h2⟩ := tupOf_rep hx rfl
        have hlen := h2.length
        refine ⟨_, sl_tupA, a, ws, rfl, h1, fun hw => ?_, fun hw p hp => hq _ _ _ s3 (r4.newTup hp (h2.cut l u)) hm4⟩
        rw [cutL_whole (by rw [← hlen]; exact hw)] at hm4
        exact hq _ _ _ s3 (r4.push hx) hm4
      · rename_i ns
        cases hx with
        | scr h1 =>
          refine ⟨_, sl_list, _, ns.map V.int, rfl, h1.sq, fun p hp => hq _ _ _ s3 (r4.newOwn (o := .lst _) (w := .lst _) hp ?_) hm4⟩
          show Reps _ _ _ (cutL (ns.map V.int) l u) _
          rw [cutL_map]
          exact Reps.of_ints _
      · split at hm4
        · rename_i ls hls
          obtain ⟨a, ws, rfl, h1, h2⟩ := lstOf_rep r4 hx hls
          exact ⟨_, sl_list, a, ws, rfl, .inl (.inl h1), fun p hp => hq _ _ _ s3 (r4.newOwn (o := .lst _) (w := .lst _) hp (h2.cut l u)) hm4⟩
        · exact hm4.elim⟩⟩⟩
end

/-! ### built-ins called -/
inductive SvReps (K : PySem.W.Frag) (Av : Addr → Prop) (H : Hp) : List V → List SV → Prop
  | nil : SvReps K Av H [] []
  | cons {v : V} {x : SV} {vs : List V} {xs : List SV} : SvRep K Av H x v → SvReps K Av H vs xs → SvReps K Av H (v :: vs) (x :: xs)
def S.gets (s : S) : List B → (List SV → Prop) → Prop
  | [], k => k []
  | b :: bs, k => s.get b fun x => s.gets bs fun xs => k (x :: xs)
theorem gets_sv {K : PySem.W.Frag} {en : Ent} {stk : Loc'} {vs σ : L2.St} {s : S} {H : Hp} (hl : stk.length = vs.length) (R : Rel K en (stk ++ s.loc) s.mem (vs ++ σ) H) :
    ∀ {us : List V} {bs : List B} {k : List SV → Prop}, BReps K (AvO en (stk ++ s.loc) s.mem (vs ++ σ)) H σ us bs → s.gets bs k → ∃ xs, SvReps K (AvO en (stk ++ s.loc) s.mem (vs ++ σ)) H us xs ∧ k xs
  | _, _, _, .nil, g => ⟨[], .nil, g⟩
  | _, _, _, .cons b t, g => by
    obtain ⟨x, h1, g1⟩ := get_sv hl R b g
    obtain ⟨xs, h2, g2⟩ := gets_sv hl R t g1
    exact ⟨x :: xs, .cons h1 h2, g2⟩
abbrev RCm := Mem → List SV → (SV → Prop) → Prop
def CAny (X : Cx) (f : Value) : List V → Hp → VK → Prop := fun vs H Q => ∃ r0, CallR X f r0 ∧ r0 vs H Q
theorem callR_any {X : Cx} {f : Value} : CallR X f (CAny X f) := fun pins s σ H xs us Q I rs ⟨r0, h, q⟩ => h pins s σ H xs us Q I rs q
def CallM (X : Cx) (f : Value) (r : RCm) : Prop := ∀ (en : Ent) (l : Loc') (m : Mem) (σ : L2.St) (H : Hp) (vs : List V) (xs : List SV) (R : SV → Prop) (Q : VK), Rel X.K en l m σ H → SvReps X.K (AvO en l m σ) H vs xs →
  r m xs R → (∀ u H' z, Rel X.K en (some z :: l) m (some u :: σ) H' → R z → Q u H') → CAny X f vs H Q
def mCB (r : RCm) (ma : TAm) : TEm := fun s Q X => ma s (fun bs s1 => s1.gets bs fun xs => r s1.mem xs fun z => Q z s1) X
section
variable {X : Cx} {x : Str} {p pos : Pos} {e : Expr} {es : List Expr} {ma : TAm} {id T : String} {r : RCm}
theorem cb_lift {f : Value} (hc : CallM X f r) {en : Ent} {Z : EX} {σ : L2.St} {H : Hp} {Q : VK} (h : liftE X.K en Z (mCB r ma) σ H Q) : tCB (CAny X f) (liftA X.K en Z ma) σ H Q := by
  obtain ⟨stk, vs, s, R, hl, r0, hm, hq⟩ := h
  refine ⟨stk, vs, s, _, hl, r0, hm, fun us H' bs s' r1 b1 q => ?_⟩
  obtain ⟨xs, h1, h2⟩ := gets_sv hl r1 b1 q
  exact hc en _ _ _ H' us xs _ Q r1 h1 h2 fun u H2 z rz q2 => hq u H2 z s' rz q2
theorem me_callB (hc : CallM X (.builtin id) r) (hg : Gl X x) (hm : X.mg x = none) (hv : bootBuiltins x = some (.builtin id)) (ha : MA X (e :: es) ma) (hn : x ≠ "__name__" := by decide) (hdb : (x == ("__debug__" : Str)) = false := by decide)
    (he : starEach (e :: es) X.env = (false, eval e X.env) :: starEach es X.env := by rfl) (hpl : (backTo pos (starEach es X.env)).any (·.1) = false := by rfl) : ME X (.Call (.Name x p) (e :: es) [] pos) (mCB r ma) := fun en Z tk =>
  PE.imp (pe_callB callR_any hg hm hv (ha en Z tk) hn hdb he hpl) fun σ H Q h => cb_lift hc h
theorem me_callTy (hc : CallM X (.type T) r) (hg : Gl X x) (hm : X.mg x = none) (hv : bootBuiltins x = some (.type T)) (ha : MA X (e :: es) ma) (hn : x ≠ "__name__" := by decide) (hdb : (x == ("__debug__" : Str)) = false := by decide)
    (he : starEach (e :: es) X.env = (false, eval e X.env) :: starEach es X.env := by rfl) (hpl : (backTo pos (starEach es X.env)).any (·.1) = false := by rfl) : ME X (.Call (.Name x p) (e :: es) [] pos) (mCB r ma) := fun en Z tk =>
  PE.imp (pe_callTy callR_any hg hm hv (ha en Z tk) hn hdb he hpl) fun σ H Q h => cb_lift hc h
/-- a built-in type as a value -/
theorem me_ty {n : String} (hg : Gl X x) (hm : X.mg x = none) (hv : bootBuiltins x = some (.type n)) (hn : x ≠ "__name__" := by decide) (hd : (x == ("__debug__" : Str)) = false := by decide) : ME X (.Name x pos) (mC (.ty n)) :=
  me_const (pe_bltn hg hm hv (v := .ty n) rfl hn hd) fun _ _ _ => .ty n
/-- a module's constant -/
theorem me_gint {i : Int} {t : Tok} (hg : Gl X x) (hm : X.mg x = some (.int i t)) (hd : (x == ("__debug__" : Str)) = false := by decide) : ME X (.Name x pos) (mC (.int i)) := me_const (pe_glob hg hm (v := .int i) ⟨t, rfl⟩ hd) fun _ _ _ => .int i
theorem me_gstr {i : Str} {t : Tok} (hg : Gl X x) (hm : X.mg x = some (.str i t)) (hd : (x == ("__debug__" : Str)) = false := by decide) : ME X (.Name x pos) (mC (.str i)) := me_const (pe_glob hg hm (v := .str i) ⟨t, rfl⟩ hd) fun _ _ _ => .str i
/-- data of the written part -/
def KRep (K : PySem.W.Frag) (a : Addr) (d : D) : Prop := ∀ Av H, Rep K Av H (.ref a) d
theorem me_gtup {a : Addr} {d : D} (hg : Gl X x) (hm : X.mg x = some (.ref a)) (hk : KRep X.K a d) (hd : (x == ("__debug__" : Str)) = false := by decide) : ME X (.Name x pos) (mC d) :=
  PE_aux hg hm hk hd
where PE_aux {a : Addr} {d : D} (hg : Gl X x) (hm : X.mg x = some (.ref a)) (hk : KRep X.K a d) (hd : (x == ("__debug__" : Str)) = false) : ME X (.Name x pos) (mC d) := fun en Z tk =>
  PE.imp (pe_glob hg hm (v := .ref a) rfl hd) fun σ H Q ⟨stk, vs, s, R, hl, r0, hm, hq⟩ => hq _ H _ s (r0.push (hk _ _)) hm
/-- an own class as a value -/
theorem me_cls {C : Addr} (hg : Gl X x) (hm : X.mg x = some (.ref C)) (hd : (x == ("__debug__" : Str)) = false := by decide) : ME X (.Name x pos) (mC (.cls C)) := me_const (pe_glob hg hm (v := .ref C) rfl hd) fun _ _ _ => .cls C

def rLenM : RCm := fun m xs k => match xs with
  | [.val (.str z)] => z.length ≤ sizeLine ∧ k (.val (.int z.length))
  | [.val (.tup l)] => k (.val (.int l.length))
  | [.val (.scr l)] => k (.val (.int l.length))
  | [x] => match lstOf m x with
    | some l => k (.val (.int l.length))
    | none => False
  | _ => False
theorem SvReps.one {K : PySem.W.Frag} {Av : Addr → Prop} {H : Hp} {vs : List V} {x : SV} (h : SvReps K Av H vs [x]) : ∃ v, vs = [v] ∧ SvRep K Av H x v := by
  cases h with
  | cons h t => cases t; exact ⟨_, rfl, h⟩
theorem SvReps.two {K : PySem.W.Frag} {Av : Addr → Prop} {H : Hp} {vs : List V} {x y : SV} (h : SvReps K Av H vs [x, y]) : ∃ v w, vs = [v, w] ∧ SvRep K Av H x v ∧ SvRep K Av H y w := by
  cases h with
  | cons h t => obtain ⟨w, rfl, h2⟩ := t.one; exact ⟨_, _, rfl, h, h2⟩
theorem cm_len : CallM X (.builtin "len") rLenM := by
  intro en l m σ H vs xs R Q r hx hr hq
  unfold rLenM at hr
  split at hr
  · obtain ⟨v, rfl, hv⟩ := hx.one
    cases hv
    exact ⟨_, call_len_str, _, rfl, hr.1, hq _ _ _ (r.push (.int _)) hr.2⟩
  · obtain ⟨v, rfl, hv⟩ := hx.one
    obtain ⟨a, ws, rfl, h1, h2⟩ := tupOf_rep hv rfl
    exact ⟨_, call_len_seq, a, ws, rfl, .inr h1, hq _ _ _ (r.push (by rw [h2.length]; exact .int _)) hr⟩
  · rename_i ns
    obtain ⟨v, rfl, hv⟩ := hx.one
    cases hv with
    | scr h1 => exact ⟨_, call_len_seq, _, ns.map V.int, rfl, .inl h1.sq, hq _ _ _ (r.push (by rw [List.length_map]; exact .int _)) hr⟩
  · obtain ⟨v, rfl, hv⟩ := hx.one
    split at hr
    · rename_i ls hls
      obtain ⟨a, ws, rfl, h1, h2⟩ := lstOf_rep r hv hls
      exact ⟨_, call_len_seq, a, ws, rfl, .inl (.inl (.inl h1)), hq _ _ _ (r.push (by rw [h2.length]; exact .int _)) hr⟩
    · exact hr.elim
  · exact hr.elim
def rAbsM : RCm := fun m xs k => match xs with
  | [.val (.int i)] => k (.val (.int (if i < 0 then -i else i)))
  | _ => False
theorem cm_abs : CallM X (.builtin "abs") rAbsM := by
  intro en l m σ H vs xs R Q r hx hr hq
  unfold rAbsM at hr
  split at hr
  · obtain ⟨v, rfl, hv⟩ := hx.one
    cases hv
    exact ⟨_, call_abs, _, rfl, hq _ _ _ (r.push (.int _)) hr⟩
  · exact hr.elim
def rIntOf : RCm := fun m xs k => match xs with
  | [.val (.int i)] => k (.val (.int i))
  | [.val (.str a)] => a.length ≤ 640 ∧ ∃ n, PySem.intText? a = some n ∧ k (.val (.int n))
  | _ => False
theorem cm_int : CallM X (.type "int") rIntOf := by
  intro en l m σ H vs xs R Q r hx hr hq
  unfold rIntOf at hr
  split at hr
  · obtain ⟨v, rfl, hv⟩ := hx.one
    cases hv
    exact ⟨_, call_int1, .inl ⟨_, rfl, hq _ _ _ (r.push (.int _)) hr⟩⟩
  · obtain ⟨v, rfl, hv⟩ := hx.one
    cases hv
    obtain ⟨h1, n, h2, h3⟩ := hr
    exact ⟨_, call_int_str, _, n, rfl, h2, h1, hq _ _ _ (r.push (.int _)) h3⟩
  · exact hr.elim
def rStrOf : RCm := fun m xs k => match xs with
  | [.val (.int i)] => i.natAbs.log2 < 1920 ∧ k (.val (.str (toString i)))
  | [.val (.str a)] => k (.val (.str a))
  | _ => False
theorem cm_str : CallM X (.type "str") rStrOf := by
  intro en l m σ H vs xs R Q r hx hr hq
  unfold rStrOf at hr
  split at hr
  · obtain ⟨v, rfl, hv⟩ := hx.one
    cases hv
    exact ⟨_, call_str_int, _, rfl, hr.1, hq _ _ _ (r.push (.str _)) hr.2⟩
  · obtain ⟨v, rfl, hv⟩ := hx.one
    cases hv
    exact ⟨_, SkE.call_str_str, _, rfl, hq _ _ _ (r.push (.str _)) hr⟩
  · exact hr.elim
/-- tuple(x), list(x) -/
def rTupOf : RCm := fun m xs k => match xs with
  | [.val (.tup l)] => k (.val (.tup l))
  | [x] => match lstOf m x with
    | some l => k (.val (.tup l))
    | none => False
  | _ => False
theorem cm_tuple : CallM X (.type "tuple") rTupOf := by
  intro en l m σ H vs xs R Q r hx hr hq
  unfold rTupOf at hr
  split at hr
  · obtain ⟨v, rfl, hv⟩ := hx.one
    obtain ⟨a, ws, rfl, h1, h2⟩ := tupOf_rep hv rfl
    exact ⟨_, call_tuple_of, a, ws, rfl, .inr ⟨h1, hq _ _ _ (r.push hv) hr⟩⟩
  · obtain ⟨v, rfl, hv⟩ := hx.one
    split at hr
    · rename_i ls hls
      obtain ⟨a, ws, rfl, h1, h2⟩ := lstOf_rep r hv hls
      exact ⟨_, call_tuple_of, a, ws, rfl, .inl ⟨.inl (.inl h1), fun p hp => hq _ _ _ (r.newTup hp h2) hr⟩⟩
    · exact hr.elim
  · exact hr.elim
def rListOf : RCm := fun m xs k => match xs with
  | [.val (.tup l)] => k (.own (.lst l))
  | [.val (.scr l)] => k (.own (.lst (l.map D.int)))
  | [x] => match lstOf m x with
    | some l => k (.own (.lst l))
    | none => False
  | _ => False
theorem cm_list : CallM X (.type "list") rListOf := by
  intro en l m σ H vs xs R Q r hx hr hq
  unfold rListOf at hr
  split at hr
  · obtain ⟨v, rfl, hv⟩ := hx.one
    obtain ⟨a, ws, rfl, h1, h2⟩ := tupOf_rep hv rfl
    exact ⟨_, call_list_of, a, ws, rfl, .inr h1, fun p hp => hq _ _ _ (r.newOwn (o := .lst _) (w := .lst _) hp h2) hr⟩
  · rename_i ns
    obtain ⟨v, rfl, hv⟩ := hx.one
    cases hv with
    | scr h1 => exact ⟨_, call_list_of, _, ns.map V.int, rfl, .inl h1.sq, fun p hp => hq _ _ _ (r.newOwn (o := .lst _) (w := .lst _) hp (Reps.of_ints _)) hr⟩
  · obtain ⟨v, rfl, hv⟩ := hx.one
    split at hr
    · rename_i ls hls
      obtain ⟨a, ws, rfl, h1, h2⟩ := lstOf_rep r hv hls
      exact ⟨_, call_list_of, a, ws, rfl, .inl (.inl (.inl h1)), fun p hp => hq _ _ _ (r.newOwn (o := .lst _) (w := .lst _) hp h2) hr⟩
    · exact hr.elim
  · exact hr.elim
/-- all, any, sum, max, min of a list -/
def boolsOf : List D → Option (List Bool)
  | [] => some []
  | .bl b :: l => (boolsOf l).map (b :: ·)
  | _ :: _ => none
def intsOf : List D → Option (List Int)
  | [] => some []
  | .int i :: l => (intsOf l).map (i :: ·)
  | _ :: _ => none
theorem boolsOf_eq : ∀ {l : List D} {bs : List Bool}, boolsOf l = some bs → l = bs.map D.bl
  | [], _, h => by cases h; rfl
  | .bl b :: l, _, h => by
    simp only [boolsOf, Option.map_eq_some_iff] at h
    obtain ⟨bs, h1, rfl⟩ := h
    rw [boolsOf_eq h1]; rfl
  | .non :: _, _, h => by cases h
  | .int _ :: _, _, h => by cases h
  | .str _ :: _, _, h => by cases h
  | .tup _ :: _, _, h => by cases h
  | .lst _ :: _, _, h => by cases h
  | .dct _ _ :: _, _, h => by cases h
  | .ref _ :: _, _, h => by cases h
  | .scr _ :: _, _, h => by cases h
  | .xc _ _ _ _ _ :: _, _, h => by cases h
  | .cls _ :: _, _, h => by cases h
  | .ty _ :: _, _, h => by cases h
theorem intsOf_eq : ∀ {l : List D} {bs : List Int}, intsOf l = some bs → l = bs.map D.int
  | [], _, h => by cases h; rfl
  | .int b :: l, _, h => by
    simp only [intsOf, Option.map_eq_some_iff] at h
    obtain ⟨bs, h1, rfl⟩ := h
    rw [intsOf_eq h1]; rfl
  | .non :: _, _, h => by cases h
  | .bl _ :: _, _, h => by cases h
  | .str _ :: _, _, h => by cases h
  | .tup _ :: _, _, h => by cases h
  | .lst _ :: _, _, h => by cases h
  | .dct _ _ :: _, _, h => by cases h
  | .ref _ :: _, _, h => by cases h
  | .scr _ :: _, _, h => by cases h
  | .xc _ _ _ _ _ :: _, _, h => by cases h
  | .cls _ :: _, _, h => by cases h
  | .ty _ :: _, _, h => by cases h
def rBoolsM (f : List Bool → Bool) : RCm := fun m xs k => match xs with
  | [x] => match lstOf m x with
    | some l => match boolsOf l with
      | some bs => k (.val (.bl (f bs)))
      | none => False
    | none => False
  | _ => False
theorem cm_bools {id : String} {f : List Bool → Bool} (h : CallR X (.builtin id) (fun vs H Q => ∃ (a : Addr) (bs : List Bool), vs = [V.ref a] ∧ SqL X.K H a (bs.map V.bl) ∧ Q (.bl (f bs)) H)) : CallM X (.builtin id) (rBoolsM f) := by
  intro en l m σ H vs xs R Q r hx hr hq
  unfold rBoolsM at hr
  split at hr
  · obtain ⟨v, rfl, hv⟩ := hx.one
    split at hr
    · rename_i ls hls
      split at hr
      · rename_i bs hbs
        obtain ⟨a, ws, rfl, h1, h2⟩ := lstOf_rep r hv hls
        rw [boolsOf_eq hbs] at h2
        rw [h2.bools] at h1
        exact ⟨_, h, a, bs, rfl, .inl (.inl h1), hq _ _ _ (r.push (.bl _)) hr⟩
      · exact hr.elim
    · exact hr.elim
  · exact hr.elim
theorem cm_all (hc : X.calm = true) : CallM X (.builtin "all") (rBoolsM fun bs => bs.all _root_.id) := cm_bools (cr_all hc)
theorem cm_any (hc : X.calm = true) : CallM X (.builtin "any") (rBoolsM fun bs => bs.any _root_.id) := cm_bools (cr_any hc)
def rSumM : RCm := fun m xs k => match xs with
  | [x] => match lstOf m x with
    | some l => match intsOf l with
      | some bs => k (.val (.int bs.sum))
      | none => False
    | none => False
  | _ => False
theorem cm_sum (hc : X.calm = true) : CallM X (.builtin "sum") rSumM := by
  intro en l m σ H vs xs R Q r hx hr hq
  unfold rSumM at hr
  split at hr
  · obtain ⟨v, rfl, hv⟩ := hx.one
    split at hr
    · rename_i ls hls
      split at hr
      · rename_i bs hbs
        obtain ⟨a, ws, rfl, h1, h2⟩ := lstOf_rep r hv hls
        rw [intsOf_eq hbs] at h2
        rw [h2.ints] at h1
        exact ⟨_, cr_sum hc, a, bs, rfl, .inl (.inl h1), hq _ _ _ (r.push (.int _)) hr⟩
      · exact hr.elim
    · exact hr.elim
  · exact hr.elim
def rMax2M : RCm := fun m xs k => match xs with
  | [.val (.int i), .val (.int j)] => k (.val (.int (if j > i then j else i)))
  | _ => False
def rMin2M : RCm := fun m xs k => match xs with
  | [.val (.int i), .val (.int j)] => k (.val (.int (if j < i then j else i)))
  | _ => False
theorem cm_max2 (hc : X.calm = true) : CallM X (.builtin "max") rMax2M := by
  intro en l m σ H vs xs R Q r hx hr hq
  unfold rMax2M at hr
  split at hr
  · obtain ⟨v, w, rfl, hv, hw⟩ := hx.two
    cases hv; cases hw
    exact ⟨_, call_max2 hc, _, _, rfl, hq _ _ _ (r.push (.int _)) hr⟩
  · exact hr.elim
theorem cm_min2 (hc : X.calm = true) : CallM X (.builtin "min") rMin2M := by
  intro en l m σ H vs xs R Q r hx hr hq
  unfold rMin2M at hr
  split at hr
  · obtain ⟨v, w, rfl, hv, hw⟩ := hx.two
    cases hv; cases hw
    exact ⟨_, call_min2 hc, _, _, rfl, hq _ _ _ (r.push (.int _)) hr⟩
  · exact hr.elim

/-! ### isinstance with a built-in type -/
def tyOf (m : Mem) (sv : SV) : Option String := match sv with
  | .val .non => some "NoneType"
  | .val (.bl _) => some "bool"
  | .val (.int _) => some "int"
  | .val (.str _) => some "str"
  | .val (.tup _) => some "tuple"
  | .val (.dct _ _) => some "dict"
  | .own (.dct _ _) => some "dict"
  | sv => match lstOf m sv with
    | some _ => some "list"
    | none => none
theorem tyOf_rep {K : PySem.W.Frag} {en : Ent} {l : Loc'} {m : Mem} {σ : L2.St} {H : Hp} {v : V} {sv : SV} {t : String} (R : Rel K en l m σ H) (h : SvRep K (AvO en l m σ) H sv v) (e : tyOf m sv = some t) : TyX K H v (.type t) := by
  unfold tyOf at e
  split at e
  · cases e; cases h; exact .base .non
  · cases e; cases h; exact .base (.bl _)
  · cases e; cases h; exact .base (.int _)
  · cases e; cases h; exact .base (.str _)
  · cases e
    cases h with
    | tup h1 h2 =>
      rcases h1 with ⟨h1 | ⟨o, h1⟩, _⟩ | ⟨o, its, n, h1, h2, _⟩
      · exact .base (.tup h1)
      · exact .fTuple h1
      · exact .kTuple h1 h2
  · cases e
    cases h with
    | dct h1 _ _ =>
      rcases h1 with h1 | ⟨o, h1⟩
      · exact .base (.dK h1)
      · exact .fDict h1
  · cases e
    obtain ⟨a, rfl, o, h1, h2⟩ := h
    cases o with
    | dK kvs => exact .base (.dK h1)
    | _ => exact False.elim h2
  · split at e
    · rename_i ls hls
      cases e
      obtain ⟨a, ws, rfl, h1, h2⟩ := lstOf_rep R h hls
      exact .base (.lst h1)
    · cases e
/-- subclass of the built-in types that are asked -/
def isB (t T : String) : Option Bool := kitB t T
def rIsiM : RCm := fun m xs k => match xs with
  | [x, .val (.ty T)] => match tyOf m x with
    | some t => ∃ b, isB t T = some b ∧ k (.val (.bl b))
    | none => False
  | _ => False
theorem cm_isi : CallM X (.builtin "isinstance") rIsiM := by
  intro en l m σ H vs xs R Q r hx hr hq
  unfold rIsiM at hr
  split at hr
  · obtain ⟨v, w, rfl, hv, hw⟩ := hx.two
    cases hw
    split at hr
    · rename_i t ht
      obtain ⟨b, h1, h2⟩ := hr
      exact ⟨_, call_isi, v, _, _, _, b, rfl, .ty _, tyOf_rep r hv ht, kit_ty h1, hq _ _ _ (r.push (.bl _)) h2⟩
    · exact hr.elim
  · exact hr.elim
end
end Sf

set_option maxHeartbeats 4000000
set_option autoImplicit false
/-! Sf, sixth part: calls of defs, defs. -/
namespace Sf
open PySem PySem.Spec PyProof.Rows L2

section
variable {K : PySem.W.Frag} {en : Ent} {l : Loc'} {m : Mem} {σ : L2.St} {H H' : Hp}
theorem ownAt_set {l : Loc'} {σ : L2.St} {i : Nat} {x : Option SV} {b : Addr} (h : OwnAt (l.set i x) σ b) : OwnAt l σ b ∨ ∃ o, x = some (.own o) ∧ σ[i]? = some (some (.ref b)) := by
  obtain ⟨j, o, h1, h2⟩ := h
  by_cases e : i = j
  · subst e
    by_cases hi : i < l.length
    · rw [List.getElem?_set_self hi] at h1
      exact .inr ⟨o, by simpa using h1, h2⟩
    · rw [List.getElem?_eq_none (by simpa using hi)] at h1; cases h1
  · rw [List.getElem?_set_ne e] at h1
    exact .inl ⟨j, o, h1, h2⟩
/-- an object of a place's own is lent: it stands among the shared ones -/
theorem Rel.lend {i : Nat} {w : Own} {a : Addr} (R : Rel K en l m σ H) (hi : l[i]? = some (some (.own w))) (hσ : σ[i]? = some (some (.ref a))) :
    m a = none ∧ Rel K en (l.set i (some (.val (.ref a)))) (updM m a (.obj w)) σ H := by
  have hil := (List.getElem?_eq_some_iff.mp hi).1
  have hoa : OwnAt l σ a := ⟨i, w, hi, hσ⟩
  have hma : m a = none := by
    cases q : m a with
    | none => rfl
    | some o => exact absurd hoa (R.mem a o q).2
  refine ⟨hma, ?_⟩
  have hO : ∀ b, OwnAt (l.set i (some (.val (.ref a)))) σ b → OwnAt l σ b ∧ b ≠ a := fun b h => by
    obtain ⟨j, o, h1, h2⟩ := h
    by_cases e : i = j
    · subst e
      rw [List.getElem?_set_self hil] at h1; cases h1
    · rw [List.getElem?_set_ne e] at h1
      refine ⟨⟨j, o, h1, h2⟩, fun z => ?_⟩
      subst z
      exact e (R.sep i j w o b hi h1 hσ h2)
  have hAv : ∀ b, AvO en (l.set i (some (.val (.ref a)))) (updM m a (.obj w)) σ b → AvO en l m σ b := fun b h => by
    rcases h with h | h | h
    · exact .inl h
    · exact .inr (.inl (hO b h).1)
    · by_cases e : b = a
      · subst e; exact .inr (.inl hoa)
      · rw [updM_ne e] at h; exact .inr (.inr h)
  have T : Tr (AvO en l m σ) (AvO en (l.set i (some (.val (.ref a)))) (updM m a (.obj w)) σ) H H := fun b o h n => ⟨h, fun z => n (hAv b z)⟩
  refine R.chg (by simp [R.len]) T (fun j sv h => ?_) (fun j k o o' b h1 h2 h3 h4 => ?_) (fun b o h => ?_) (fun b h => ?_) (fun _ _ _ h => h) (fun _ _ h _ => h) (fun b h => .inl ?_)
  · by_cases e : i = j
    · subst e
      rw [List.getElem?_set_self hil] at h
      have : SV.val (.ref a) = sv := by simpa using h
      subst this
      exact ⟨_, hσ, .ref a⟩
    · rw [List.getElem?_set_ne e] at h
      obtain ⟨v, h1, h2⟩ := R.at_ j sv h
      exact ⟨v, h1, h2.tr T fun _ _ _ _ _ h => h⟩
  · have q1 : l[j]? = some (some (.own o)) := by
      by_cases e : i = j
      · subst e; rw [List.getElem?_set_self hil] at h1; cases h1
      · rwa [List.getElem?_set_ne e] at h1
    have q2 : l[k]? = some (some (.own o')) := by
      by_cases e : i = k
      · subst e; rw [List.getElem?_set_self hil] at h2; cases h2
      · rwa [List.getElem?_set_ne e] at h2
    exact R.sep j k o o' b q1 q2 h3 h4
  · by_cases e : b = a
    · subst e
      rw [updM_same] at h; cases h
      obtain ⟨v, h1, b', h2, o, h3, h4⟩ := R.at_ i _ hi
      rw [hσ] at h1; cases h1; cases h2
      exact ⟨⟨o, h3, MoIs.obj.mpr (h4.tr T)⟩, fun z => (hO _ z).2 rfl⟩
    · rw [updM_ne e] at h
      exact ⟨(R.mem b o h).1.tr T (fun _ h => h) fun _ h => h, fun z => (R.mem b o h).2 (hO b z).1⟩
  · have := R.gs b h
    refine ⟨fun z => this.1 (hO b z).1, ?_⟩
    have ne : b ≠ a := fun z => by subst z; exact this.1 hoa
    rw [updM_ne ne]; exact this.2.1
  · rcases h with h | h
    · exact .inl (hO b h).1
    · by_cases e : b = a
      · subst e; exact .inl hoa
      · rw [updM_ne e] at h; exact .inr h
/-- .. and given back -/
theorem Rel.unlend {i : Nat} {w : Own} {a : Addr} (R : Rel K en l m σ H) (hi : i < l.length) (hσ : σ[i]? = some (some (.ref a))) (hm : m a = some (.obj w)) :
    Rel K en (l.set i (some (.own w))) (delM m a) σ H := by
  have hO : ∀ b, OwnAt (l.set i (some (.own w))) σ b → OwnAt l σ b ∨ b = a := fun b h => by
    rcases ownAt_set h with h | ⟨o, _, h2⟩
    · exact .inl h
    · rw [hσ] at h2
      exact .inr (by simpa using h2.symm)
  have hna : ¬ OwnAt l σ a := (R.mem a _ hm).2
  have hAv : ∀ b, AvO en (l.set i (some (.own w))) (delM m a) σ b → AvO en l m σ b := fun b h => by
    rcases h with h | h | h
    · exact .inl h
    · rcases hO b h with h | h
      · exact .inr (.inl h)
      · subst h; exact .inr (.inr (by rw [hm]; simp))
    · by_cases e : b = a
      · subst e; exact .inr (.inr (by rw [hm]; simp))
      · rw [delM_ne e] at h; exact .inr (.inr h)
  have T : Tr (AvO en l m σ) (AvO en (l.set i (some (.own w))) (delM m a) σ) H H := fun b o h n => ⟨h, fun z => n (hAv b z)⟩
  have hown : ∀ (j : Nat) (o : Own), (l.set i (some (.own w)))[j]? = some (some (SV.own o)) → (j = i ∧ o = w) ∨ (j ≠ i ∧ l[j]? = some (some (SV.own o))) := fun j o h => by
    by_cases e : i = j
    · subst e
      rw [List.getElem?_set_self hi] at h
      have : w = o := by simpa using h
      exact .inl ⟨rfl, this.symm⟩
    · rw [List.getElem?_set_ne e] at h
      exact .inr ⟨Ne.symm e, h⟩
  refine R.chg (by simp [R.len]) T (fun j sv h => ?_) (fun j k o o' b h1 h2 h3 h4 => ?_) (fun b o h => ?_) (fun b h => ?_) (fun _ _ _ h => h) (fun _ _ h _ => h) (fun b h => .inl ?_)
  · by_cases e : i = j
    · subst e
      rw [List.getElem?_set_self hi] at h
      have : SV.own w = sv := by simpa using h
      subst this
      obtain ⟨o, h3, h4⟩ := (R.mem a _ hm).1
      exact ⟨_, hσ, a, rfl, o, h3, (MoIs.obj.mp h4).tr T⟩
    · rw [List.getElem?_set_ne e] at h
      obtain ⟨v, h1, h2⟩ := R.at_ j sv h
      exact ⟨v, h1, h2.tr T fun _ _ _ _ _ h => h⟩
  · rcases hown j o h1 with ⟨e1, _⟩ | ⟨n1, q1⟩
    · subst e1
      rw [hσ] at h3
      have ea : a = b := by simpa using h3
      subst ea
      rcases hown k o' h2 with ⟨e2, _⟩ | ⟨n2, q2⟩
      · exact e2.symm
      · exact absurd ⟨k, o', q2, h4⟩ hna
    · rcases hown k o' h2 with ⟨e2, _⟩ | ⟨n2, q2⟩
      · subst e2
        rw [hσ] at h4
        have ea : a = b := by simpa using h4
        subst ea
        exact absurd ⟨j, o, q1, h3⟩ hna
      · exact R.sep j k o o' b q1 q2 h3 h4
  · have ne : b ≠ a := fun z => by subst z; rw [delM_same] at h; cases h
    rw [delM_ne ne] at h
    refine ⟨(R.mem b o h).1.tr T (fun _ h => h) fun _ h => h, fun z => ?_⟩
    rcases hO b z with z | z
    · exact (R.mem b o h).2 z
    · exact ne z
  · have := R.gs b h
    have ne : b ≠ a := fun z => by subst z; rw [this.2.1] at hm; cases hm
    refine ⟨fun z => ?_, by rw [delM_ne ne]; exact this.2.1⟩
    rcases hO b z with z | z
    · exact this.1 z
    · exact ne z
  · rcases h with h | h
    · rcases hO b h with h | h
      · exact .inl h
      · subst h; exact .inr (by rw [hm]; simp)
    · by_cases e : b = a
      · subst e; exact .inr (by rw [hm]; simp)
      · rw [delM_ne e] at h; exact .inr h
theorem Rel.unstk : ∀ {stk : Loc'} {vs : L2.St}, stk.length = vs.length → Rel K en (stk ++ l) m (vs ++ σ) H → Rel K en l m σ H
  | [], [], _, R => R
  | _ :: stk, _ :: vs, h, R => Rel.unstk (stk := stk) (vs := vs) (by simpa using h) (Rel.pop R)
  | [], _ :: _, h, _ => by simp at h
  | _ :: _, [], h, _ => by simp at h

/-- the entry of a call: what the caller alone holds is guarded -/
def entOf (en : Ent) (l : Loc') (m : Mem) (σ : L2.St) (H : Hp) : Ent := ⟨fun b => en.G b ∨ OwnAt l σ b, fun b => m b ≠ none, H⟩
theorem ownAt_vals {ds : List D} {us : L2.St} {b : Addr} : ¬ OwnAt (ds.map fun d => some (SV.val d)) us b := by
  rintro ⟨i, o, h1, _⟩
  rw [List.getElem?_map] at h1
  cases q : ds[i]? with
  | none => rw [q] at h1; cases h1
  | some d => rw [q] at h1; cases h1
theorem Rel.enter {ds : List D} {us : List V} (R : Rel K en l m σ H) (h : Reps K (AvO en l m σ) H us ds) :
    Rel K (entOf en l m σ H) (ds.map fun d => some (.val d)) m (us.map some) H := by
  have ea : AvO (entOf en l m σ H) (ds.map fun d => some (.val d)) m (us.map some) = AvO en l m σ := by
    funext b
    refine propext ⟨fun h => ?_, fun h => ?_⟩
    · rcases h with (h | h) | h | h
      · exact .inl h
      · exact .inr (.inl h)
      · exact absurd h ownAt_vals
      · exact .inr (.inr h)
    · rcases h with h | h | h
      · exact .inl (.inl h)
      · exact .inl (.inr h)
      · exact .inr (.inr h)
  refine ⟨by simp [h.length], fun i sv hi => ?_, fun i j o o' a h1 _ _ _ => ?_, fun a o q => ?_, fun b q => ?_, fun b o q _ => q, fun b q => ?_⟩
  · rw [ea]
    rw [List.getElem?_map] at hi
    cases q : ds[i]? with
    | none => rw [q] at hi; cases hi
    | some d =>
      rw [q] at hi
      have : SV.val d = sv := by simpa using hi
      subst this
      obtain ⟨v, h1, h2⟩ := h.get q
      exact ⟨v, by rw [List.getElem?_map, h1]; rfl, h2⟩
  · rw [List.getElem?_map] at h1
    cases q : ds[i]? with
    | none => rw [q] at h1; cases h1
    | some d => rw [q] at h1; cases h1
  · rw [ea]
    exact ⟨(R.mem a o q).1, ownAt_vals⟩
  · refine ⟨ownAt_vals, ?_⟩
    rcases q with q | q
    · exact (R.gs b q).2
    · refine ⟨?_, R.own q⟩
      cases z : m b with
      | none => rfl
      | some o => exact absurd q (R.mem b o z).2
  · rcases q with q | q
    · exact absurd q ownAt_vals
    · exact .inl q
/-- behind a call: the callee's places l2 on top of the caller's -/
theorem Rel.leave {l2 : Loc'} {σ2 : L2.St} {m2 : Mem} (R : Rel K en l m σ H) (R2 : Rel K (entOf en l m σ H) l2 m2 σ2 H') : Rel K en (l2 ++ l) m2 (σ2 ++ σ) H' := by
  have hl2 : σ2.length = l2.length := R2.len
  have ownM : ∀ b, OwnAt l σ b → m b = none := fun b h => by
    cases z : m b with
    | none => rfl
    | some o => exact absurd h (R.mem b o z).2
  have hO : ∀ b, OwnAt (l2 ++ l) (σ2 ++ σ) b ↔ OwnAt l2 σ2 b ∨ OwnAt l σ b := fun b => by
    constructor
    · rintro ⟨i, o, h1, h2⟩
      by_cases hi : i < l2.length
      · rw [List.getElem?_append_left hi] at h1
        rw [List.getElem?_append_left (by omega)] at h2
        exact .inl ⟨i, o, h1, h2⟩
      · rw [List.getElem?_append_right (by omega)] at h1
        rw [List.getElem?_append_right (by omega), hl2] at h2
        exact .inr ⟨i - l2.length, o, h1, h2⟩
    · rintro (⟨i, o, h1, h2⟩ | ⟨i, o, h1, h2⟩)
      · have hi := (List.getElem?_eq_some_iff.mp h1).1
        exact ⟨i, o, by rw [List.getElem?_append_left hi]; exact h1, by rw [List.getElem?_append_left (by omega)]; exact h2⟩
      · exact ⟨l2.length + i, o, by rw [get_stk]; exact h1, by rw [← hl2, get_stk]; exact h2⟩
  have ea : AvO en (l2 ++ l) m2 (σ2 ++ σ) = AvO (entOf en l m σ H) l2 m2 σ2 := by
    funext b
    refine propext ⟨fun h => ?_, fun h => ?_⟩
    · rcases h with h | h | h
      · exact .inl (.inl h)
      · rcases (hO b).mp h with h | h
        · exact .inr (.inl h)
        · exact .inl (.inr h)
      · exact .inr (.inr h)
    · rcases h with (h | h) | h | h
      · exact .inl h
      · exact .inr (.inl ((hO b).mpr (.inr h)))
      · exact .inr (.inl ((hO b).mpr (.inl h)))
      · exact .inr (.inr h)
  -- the caller's own objects stand
  have keepOwn : ∀ b u, OwnAt l σ b → H b = some u → H' b = some u := fun b u h q => R2.keep b u q fun z => z (ownM b h)
  have T : Tr (AvO en l m σ) (AvO en (l2 ++ l) m2 (σ2 ++ σ)) H H' := fun b o h n => by
    refine ⟨R2.keep b o h fun z => n (.inr (.inr z)), fun z => ?_⟩
    rw [ea] at z
    rcases z with (z | z) | z
    · exact n (.inl z)
    · exact n (.inr (.inl z))
    · rcases R2.new b z with z | z
      · exact n (.inr (.inr z))
      · rw [show (entOf en l m σ H).H b = H b from rfl, h] at z; cases z
  refine ⟨by simp [R.len, hl2], fun i sv hi => ?_, fun i j o o' a h1 h2 h3 h4 => ?_, fun a o q => ?_, fun b q => ?_, fun b o q n => ?_, fun b q => ?_⟩
  · by_cases h : i < l2.length
    · rw [List.getElem?_append_left h] at hi
      obtain ⟨v, h1, h2⟩ := R2.at_ i sv hi
      exact ⟨v, by rw [List.getElem?_append_left (by omega)]; exact h1, by rw [ea]; exact h2⟩
    · rw [List.getElem?_append_right (by omega)] at hi
      obtain ⟨v, h1, h2⟩ := R.at_ _ sv hi
      refine ⟨v, by rw [List.getElem?_append_right (by omega), hl2]; exact h1, h2.tr T fun w a e1 e2 u q => ?_⟩
      subst e1 e2
      exact keepOwn a u ⟨_, w, hi, h1⟩ q
  · have own1 : ∀ (i : Nat) (o : Own), (l2 ++ l)[i]? = some (some (SV.own o)) → (σ2 ++ σ)[i]? = some (some (V.ref a)) → (i < l2.length ∧ l2[i]? = some (some (SV.own o)) ∧ σ2[i]? = some (some (V.ref a))) ∨ (l2.length ≤ i ∧ l[i - l2.length]? = some (some (SV.own o)) ∧ σ[i - l2.length]? = some (some (V.ref a))) := fun i o h1 h2 => by
      by_cases h : i < l2.length
      · rw [List.getElem?_append_left h] at h1
        rw [List.getElem?_append_left (by omega)] at h2
        exact .inl ⟨h, h1, h2⟩
      · rw [List.getElem?_append_right (by omega)] at h1
        rw [List.getElem?_append_right (by omega), hl2] at h2
        exact .inr ⟨by omega, h1, h2⟩
    have apart : OwnAt l2 σ2 a → OwnAt l σ a → False := fun x y => (R2.gs a (.inr y)).1 x
    rcases own1 i o h1 h3 with ⟨q1, q2, q3⟩ | ⟨q1, q2, q3⟩
    · rcases own1 j o' h2 h4 with ⟨p1, p2, p3⟩ | ⟨p1, p2, p3⟩
      · exact R2.sep i j o o' a q2 p2 q3 p3
      · exact (apart ⟨_, _, q2, q3⟩ ⟨_, _, p2, p3⟩).elim
    · rcases own1 j o' h2 h4 with ⟨p1, p2, p3⟩ | ⟨p1, p2, p3⟩
      · exact (apart ⟨_, _, p2, p3⟩ ⟨_, _, q2, q3⟩).elim
      · have := R.sep _ _ o o' a q2 p2 q3 p3
        omega
  · rw [ea]
    refine ⟨(R2.mem a o q).1, fun z => ?_⟩
    rcases (hO a).mp z with z | z
    · exact (R2.mem a o q).2 z
    · have := (R2.gs a (.inr z)).2.1
      rw [q] at this; cases this
  · have g := R2.gs b (.inl q)
    refine ⟨fun z => ?_, g.2⟩
    rcases (hO b).mp z with z | z
    · exact g.1 z
    · exact (R.gs b q).1 z
  · have q1 := R.keep b o q n
    refine R2.keep b o q1 fun z => ?_
    rcases R.new b (.inr z) with z | z
    · exact n z
    · rw [q] at z; cases z
  · rcases q with q | q
    · rcases (hO b).mp q with q | q
      · rcases R2.new b (.inl q) with z | z
        · exact R.new b (.inr z)
        · cases y : en.H b with
          | none => exact .inr rfl
          | some o =>
            by_cases n : en.M b
            · exact .inl n
            · rw [show (entOf en l m σ H).H b = H b from rfl, R.keep b o y n] at z; cases z
      · exact R.new b (.inl q)
    · rcases R2.new b (.inr q) with z | z
      · exact R.new b (.inr z)
      · cases y : en.H b with
        | none => exact .inr rfl
        | some o =>
          by_cases n : en.M b
          · exact .inl n
          · rw [show (entOf en l m σ H).H b = H b from rfl, R.keep b o y n] at z; cases z
end

/-! ### what a def promises, by data -/
abbrev SpM := List D → Mem → (SV → Mem → Prop) → (Exc → Mem → Prop) → Prop
def liftSp (K : PySem.W.Frag) (sp : SpM) : Sp := fun vs H Q E => ∃ (G : Addr → Prop) (ds : List D) (m : Mem) (R : SV → Mem → Prop) (Z : Exc → Mem → Prop),
  Rel K ⟨G, fun b => m b ≠ none, H⟩ (ds.map fun d => some (.val d)) m (vs.map some) H ∧ sp ds m R Z ∧
  (∀ v H' sv m', Rel K ⟨G, fun b => m b ≠ none, H⟩ [some sv] m' [some v] H' → R sv m' → Q v H') ∧
  ∀ cls d H' x m', Rel K ⟨G, fun b => m b ≠ none, H⟩ [] m' [] H' → ExcAt K (AvO ⟨G, fun b => m b ≠ none, H⟩ [] m' []) H' cls d x → Z x m' → E cls d H'
def back (p : Addr) (i : Nat) (s : S) (k : S → Prop) : Prop := match s.mem p with
  | some (.obj w) => k ⟨s.loc.set i (some (.own w)), delM s.mem p⟩
  | _ => False
def callW (sp : SpM) : List B → List D → S → (SV → S → Prop) → EX → Prop
  | [], acc, s, Q, X => sp acc s.mem (fun r m => Q r ⟨s.loc, m⟩) (fun x m => X x ⟨s.loc, m⟩)
  | .val d :: bs, acc, s, Q, X => callW sp bs (acc ++ [d]) s Q X
  | .at i :: bs, acc, s, Q, X => match s.loc[i]? with
    | some (some (.val d)) => callW sp bs (acc ++ [d]) s Q X
    | some (some (.own w)) => ∀ p, s.mem p = none → callW sp bs (acc ++ [.ref p]) ⟨s.loc.set i (some (.val (.ref p))), updM s.mem p (.obj w)⟩ (fun r s' => back p i s' fun s2 => Q r s2) (fun x s' => back p i s' fun s2 => X x s2)
    | _ => False
def mCall (sp : SpM) (ma : TAm) : TEm := fun s Q X => ma s (fun bs s1 => callW sp bs [] s1 Q X) X
theorem Rel.lenL {K : PySem.W.Frag} {en : Ent} {stk : Loc'} {vs σ : L2.St} {s : S} {H : Hp} (hl : stk.length = vs.length) (R : Rel K en (stk ++ s.loc) s.mem (vs ++ σ) H) : s.loc.length = σ.length := by
  have := R.len
  simp only [List.length_append] at this
  omega
theorem call_lift {K : PySem.W.Frag} {en : Ent} {sp : SpM} {stk : Loc'} {vs σ : L2.St} (hl : stk.length = vs.length) :
    ∀ (bs : List B) (us uacc : List V) (dacc : List D) (s : S) (H : Hp) (R : SV → S → Prop) (Z : EX) (Q : VK) (E : XK), Rel K en (stk ++ s.loc) s.mem (vs ++ σ) H → Reps K (AvO en (stk ++ s.loc) s.mem (vs ++ σ)) H uacc dacc →
      BReps K (AvO en (stk ++ s.loc) s.mem (vs ++ σ)) H σ us bs → callW sp bs dacc s R Z →
      (∀ v H' sv s', Rel K en (some sv :: (stk ++ s'.loc)) s'.mem (some v :: (vs ++ σ)) H' → R sv s' → Q v H') →
      (∀ cls d H' x s', Rel K en (stk ++ s'.loc) s'.mem (vs ++ σ) H' → ExcAt K (AvO en (stk ++ s'.loc) s'.mem (vs ++ σ)) H' cls d x → Z x s' → E cls d H') → liftSp K sp (uacc ++ us) H Q E
  | [], _, uacc, dacc, s, H, R, Z, Q, E, r0, ra, .nil, h, hq, he => by
    rw [List.append_nil]
    refine ⟨fun b => en.G b ∨ OwnAt (stk ++ s.loc) (vs ++ σ) b, dacc, s.mem, _, _, r0.enter ra, h, fun v H' sv m' r2 q => ?_, fun cls d H' x m' r2 hx q => ?_⟩
    · exact hq v H' sv ⟨s.loc, m'⟩ (r0.leave r2) q
    · have r3 : Rel K en (stk ++ s.loc) m' (vs ++ σ) H' := r0.leave (l2 := []) (σ2 := []) r2
      refine he cls d H' x ⟨s.loc, m'⟩ r3 ?_ q
      have ea : AvO ⟨fun b => en.G b ∨ OwnAt (stk ++ s.loc) (vs ++ σ) b, fun b => s.mem b ≠ none, H⟩ [] m' [] = AvO en (stk ++ s.loc) m' (vs ++ σ) := by
        funext b
        refine propext ⟨fun h => ?_, fun h => ?_⟩
        · rcases h with (h | h) | ⟨i, o, h, _⟩ | h
          · exact .inl h
          · exact .inr (.inl h)
          · simp at h
          · exact .inr (.inr h)
        · rcases h with h | h | h
          · exact .inl (.inl h)
          · exact .inl (.inr h)
          · exact .inr (.inr h)
      rw [ea] at hx
      exact hx
  | .val d :: bs, _, uacc, dacc, s, H, R, Z, Q, E, r0, ra, .cons (v := u) (vs := us) b t, h, hq, he => by
    have := call_lift hl bs us (uacc ++ [u]) (dacc ++ [d]) s H R Z Q E r0 (ra.append (.cons b .nil)) t h hq he
    rwa [List.append_assoc] at this
  | .at i :: bs, _, uacc, dacc, s, H, R, Z, Q, E, r0, ra, .cons (v := u) (vs := us) b t, h, hq, he => by
    have b' : σ[i]? = some (some u) := b
    unfold callW at h
    split at h
    · rename_i d hd
      obtain ⟨v, h1, h2⟩ := val_loc hl r0 hd
      rw [b'] at h1; cases h1
      have := call_lift hl bs us (uacc ++ [u]) (dacc ++ [d]) s H R Z Q E r0 (ra.append (.cons h2 .nil)) t h hq he
      rwa [List.append_assoc] at this
    · rename_i w hw
      obtain ⟨v, h1, a, e1, q1⟩ := val_loc hl r0 hw
      rw [b'] at h1; cases h1
      subst e1
      obtain ⟨hma, r1⟩ := r0.lend (i := stk.length + i) (a := a) (by rw [get_stk]; exact hw) (by rw [hl, get_stk]; exact b')
      rw [set_stk] at r1
      have T : ∀ b, AvO en (stk ++ s.loc.set i (some (.val (.ref a)))) (updM s.mem a (.obj w)) (vs ++ σ) b → AvO en (stk ++ s.loc) s.mem (vs ++ σ) b := fun b z => by
        rw [← set_stk] at z
        rcases z with z | z | z
        · exact .inl z
        · rcases ownAt_set z with z | ⟨o, z, _⟩
          · exact .inr (.inl z)
          · cases z
        · by_cases e : b = a
          · subst e
            exact .inr (.inl ⟨stk.length + i, w, by rw [get_stk]; exact hw, by rw [hl, get_stk]; exact b'⟩)
          · rw [updM_ne e] at z; exact .inr (.inr z)
      have T' : Tr (AvO en (stk ++ s.loc) s.mem (vs ++ σ)) (AvO en (stk ++ s.loc.set i (some (.val (.ref a)))) (updM s.mem a (.obj w)) (vs ++ σ)) H H := fun b o h n => ⟨h, fun z => n (T b z)⟩
      have tr : ∀ {us : List V} {bs : List B}, BReps K (AvO en (stk ++ s.loc) s.mem (vs ++ σ)) H σ us bs → BReps K (AvO en (stk ++ s.loc.set i (some (.val (.ref a)))) (updM s.mem a (.obj w)) (vs ++ σ)) H σ us bs := by
        intro us bs h
        induction h with
        | nil => exact .nil
        | @cons v b vs' bs' h1 _ ih =>
          refine .cons ?_ ih
          cases b with
          | «at» j => exact h1
          | val d => exact Rep.tr (v := v) (d := d) T' h1
      have hbk : ∀ {k : S → Prop} {s' : S} {top : Loc'} {tv : L2.St} {H' : Hp}, top.length = tv.length → Rel K en (top ++ (stk ++ s'.loc)) s'.mem (tv ++ (vs ++ σ)) H' → back a i s' k → ∃ s2, Rel K en (top ++ (stk ++ s2.loc)) s2.mem (tv ++ (vs ++ σ)) H' ∧ k s2 ∧ (∀ b, AvO en (top ++ (stk ++ s2.loc)) s2.mem (tv ++ (vs ++ σ)) b → AvO en (top ++ (stk ++ s'.loc)) s'.mem (tv ++ (vs ++ σ)) b) := by
        intro k s' top tv H' ht r2 q
        unfold back at q
        split at q
        · rename_i w' hw'
          have hlen : i < s'.loc.length := by
            have e1 := r2.len
            simp only [List.length_append] at e1
            have := (List.getElem?_eq_some_iff.mp b').1
            omega
          have e2 : (tv ++ (vs ++ σ))[top.length + (stk.length + i)]? = some (some (V.ref a)) := by
            rw [ht, get_stk, hl, get_stk]; exact b'
          have r3 := r2.unlend (i := top.length + (stk.length + i)) (a := a) (by simp only [List.length_append]; omega) e2 hw'
          rw [set_stk, set_stk] at r3
          refine ⟨_, r3, q, fun b z => ?_⟩
          rcases z with z | z | z
          · exact .inl z
          · have z' : OwnAt ((top ++ (stk ++ s'.loc)).set (top.length + (stk.length + i)) (some (.own w'))) (tv ++ (vs ++ σ)) b := by rw [set_stk, set_stk]; exact z
            rcases ownAt_set z' with z | ⟨o, _, z⟩
            · exact .inr (.inl z)
            · rw [e2] at z
              have : a = b := by simpa using z
              subst this
              exact .inr (.inr (by rw [hw']; simp))
          · by_cases e : b = a
            · subst e; exact .inr (.inr (by rw [hw']; simp))
            · have z' : delM s'.mem a b ≠ none := z
              rw [delM_ne e] at z'; exact .inr (.inr z')
        · exact q.elim
      have := call_lift hl bs us (uacc ++ [.ref a]) (dacc ++ [.ref a]) ⟨s.loc.set i (some (.val (.ref a))), updM s.mem a (.obj w)⟩ H _ _ Q E r1 ((ra.tr T').append (.cons (.ref a) .nil)) (tr t) (h a hma)
        (fun v H' sv s' r2 q => by
          obtain ⟨s2, r3, q3, _⟩ := hbk (top := [some sv]) (tv := [some v]) rfl r2 q
          exact hq v H' sv s2 r3 q3)
        (fun cls d H' x s' r2 hx q => by
          obtain ⟨s2, r3, q3, av⟩ := hbk (top := []) (tv := []) rfl r2 q
          refine he cls d H' x s2 r3 ?_ q3
          obtain ⟨e1, dd, fv, e2, e3, e4, e5, e6⟩ := hx
          exact ⟨e1, dd, fv, e2, e3, fun z => e4 (av _ z), e5, e6.tr fun b o h n => ⟨h, fun z => n (av b z)⟩⟩)
      rwa [List.append_assoc] at this
    · exact h.elim
section
variable {X : Cx} {k : Nat} {f : Addr} {fd : FuncData} {ps : List Str} {sp : SpM} {x : Str} {p pos : Pos} {e : Expr} {es : List Expr} {ma : TAm}
/-- ExcAt reads downward: fewer are to be written -/
theorem ExcAt.down {K : PySem.W.Frag} {Av Av' : Addr → Prop} {H : Hp} {cls : Value} {d : Option Addr} {x : Exc} (h : ExcAt K Av H cls d x) (i : ∀ b, Av' b → Av b) : ExcAt K Av' H cls d x := by
  obtain ⟨e1, dd, fv, e2, e3, e4, e5, e6⟩ := h
  exact ⟨e1, dd, fv, e2, e3, fun z => e4 (i _ z), e5, e6.tr fun b o h n => ⟨h, fun z => n (i b z)⟩⟩
theorem avO_unstk {en : Ent} {stk l : Loc'} {m : Mem} {vs σ : L2.St} (hl : stk.length = vs.length) : ∀ b, AvO en l m σ b → AvO en (stk ++ l) m (vs ++ σ) b := fun b h => by
  rcases h with h | ⟨i, o, h1, h2⟩ | h
  · exact .inl h
  · exact .inr (.inl ⟨stk.length + i, o, by rw [get_stk]; exact h1, by rw [hl, get_stk]; exact h2⟩)
  · exact .inr (.inr h)
theorem me_call (F : FnOk X.prog X.w X.K X.mg X.base (L2.CX X.prog X.w) k f fd ps (liftSp X.K sp)) (hr : Room k X.A) (hg : Gl X x) (hm : X.mg x = some (.ref f)) (hk : PySem.W.keepIn X.K (.ref f) = true) (hb : Binds X.K fd ps [])
    (ha : MA X (e :: es) ma) (hdb : (x == ("__debug__" : Str)) = false := by decide) (he : starEach (e :: es) X.env = (false, eval e X.env) :: starEach es X.env := by rfl) (hpl : (backTo pos (starEach es X.env)).any (·.1) = false := by rfl) :
    ME X (.Call (.Name x p) (e :: es) [] pos) (mCall sp ma) := fun en Z tk =>
  PE.imp (pe_callS (E := WE (liftW X.K en Z)) F hr hg hm hk hb (passAt tk) (ha en Z tk) hdb he hpl) fun σ H Q ⟨stk, vs, s, R, hl, r0, hm, hq⟩ =>
    ⟨stk, vs, s, _, hl, r0, hm, fun us H' bs s' r1 b1 q => call_lift (uacc := []) (dacc := []) hl bs us s' H' R Z Q _ r1 .nil b1 q hq fun cls d H2 x s2 r2 hx q2 => ⟨s2, x, r2.unstk hl, hx.down (avO_unstk hl), q2⟩⟩
end
end Sf

set_option maxHeartbeats 4000000
set_option autoImplicit false
/-! Sf, seventh part: statements, defs. -/
namespace Sf
open PySem PySem.Spec PyProof.Rows L2

/-! ### an object is written -/
section
variable {K : PySem.W.Frag} {en : Ent} {l : Loc'} {m : Mem} {σ : L2.St} {H : Hp}
theorem Rel.write {i : Nat} {w w' : Own} {a : Addr} {o : HO} (R : Rel K en l m σ H) (hi : l[i]? = some (some (.own w))) (hσ : σ[i]? = some (some (.ref a))) (h : OwnIs K (AvO en l m σ) H o w') :
    Rel K en (l.set i (some (.own w'))) m σ (upd H a o) := by
  have hil := (List.getElem?_eq_some_iff.mp hi).1
  have hoa : OwnAt l σ a := ⟨i, w, hi, hσ⟩
  have hk : ∀ b u, b ≠ a → H b = some u → upd H a o b = some u := fun b u n q => by rw [upd_ne n]; exact q
  have hown : ∀ (j : Nat) (x : Own), (l.set i (some (.own w')))[j]? = some (some (SV.own x)) → ∃ y, l[j]? = some (some (SV.own y)) := fun j x q => by
    by_cases e : i = j
    · subst e; exact ⟨w, hi⟩
    · rw [List.getElem?_set_ne e] at q; exact ⟨x, q⟩
  have hO : ∀ b, OwnAt (l.set i (some (.own w'))) σ b ↔ OwnAt l σ b := fun b => by
    constructor
    · rintro ⟨j, x, h1, h2⟩
      obtain ⟨y, q⟩ := hown j x h1
      exact ⟨j, y, q, h2⟩
    · rintro ⟨j, x, h1, h2⟩
      by_cases e : i = j
      · subst e; exact ⟨i, w', by rw [List.getElem?_set_self hil], h2⟩
      · exact ⟨j, x, by rw [List.getElem?_set_ne e]; exact h1, h2⟩
  have ea : AvO en l m σ = AvO en (l.set i (some (.own w'))) m σ := avO_congr fun b => (hO b).symm
  have ne : ∀ b, ¬ AvO en l m σ b → b ≠ a := fun b n z => by subst z; exact n (.inr (.inl hoa))
  have T : Tr (AvO en l m σ) (AvO en (l.set i (some (.own w'))) m σ) H (upd H a o) := fun b u q n => ⟨hk b u (ne b n) q, by rw [← ea]; exact n⟩
  have T2 : ∀ b, H b ≠ none → upd H a o b ≠ none := fun b q => by
    by_cases e : b = a
    · rw [e, upd_same]; simp
    · rw [upd_ne e]; exact q
  refine R.chg (by simp [R.len]) T (fun j sv q => ?_) (fun j k x x' b h1 h2 h3 h4 => ?_) (fun b x q => ?_) (fun b q => ?_) (fun b u q1 q2 => ?_) (fun b u q n => hk b u (fun z => n (by subst z; exact .inl hoa)) q) (fun b q => .inl ?_)
  · by_cases e : i = j
    · subst e
      rw [List.getElem?_set_self hil] at q
      have : SV.own w' = sv := by simpa using q
      subst this
      exact ⟨_, hσ, a, rfl, o, upd_same, h.tr T⟩
    · rw [List.getElem?_set_ne e] at q
      obtain ⟨v, h1, h2⟩ := R.at_ j sv q
      refine ⟨v, h1, h2.tr T fun x c e1 e2 u hu => hk c u (fun z => ?_) hu⟩
      subst e1 e2 z
      exact e (R.sep i j w x c hi q hσ h1)
  · obtain ⟨y, q1⟩ := hown j x h1
    obtain ⟨y', q2⟩ := hown k x' h2
    exact R.sep j k y y' b q1 q2 h3 h4
  · refine ⟨(R.mem b x q).1.tr T T2 fun u hu => hk b u (fun z => ?_) hu, fun z => (R.mem b x q).2 ((hO b).mp z)⟩
    subst z
    exact (R.mem b x q).2 hoa
  · exact ⟨fun z => (R.gs b q).1 ((hO b).mp z), (R.gs b q).2.1⟩
  · exact hk b u (fun z => by subst z; exact (R.gs b q1).1 hoa) q2
  · exact q.imp (hO b).mp id
theorem Rel.writeM {w w' : MO} {a : Addr} {o : HO} (R : Rel K en l m σ H) (hm : m a = some w) (h : MoIs K (AvO en l m σ) H o w') : Rel K en l (updM m a w') σ (upd H a o) := by
  have hk : ∀ b u, b ≠ a → H b = some u → upd H a o b = some u := fun b u n q => by rw [upd_ne n]; exact q
  have hM : ∀ b, updM m a w' b ≠ none ↔ m b ≠ none := fun b => by
    by_cases e : b = a
    · subst e; rw [updM_same, hm]; simp
    · rw [updM_ne e]
  have ea : AvO en l m σ = AvO en l (updM m a w') σ := by
    funext b
    unfold AvO
    rw [hM b]
  have hma : m a ≠ none := by rw [hm]; simp
  have T : Tr (AvO en l m σ) (AvO en l (updM m a w') σ) H (upd H a o) := fun b u q n => ⟨hk b u (fun z => by subst z; exact n (.inr (.inr hma))) q, by rw [← ea]; exact n⟩
  have T2 : ∀ b, H b ≠ none → upd H a o b ≠ none := fun b q => by
    by_cases e : b = a
    · rw [e, upd_same]; simp
    · rw [upd_ne e]; exact q
  refine R.chg R.len T (fun j sv q => ?_) R.sep (fun b x q => ?_) (fun b q => ⟨(R.gs b q).1, ?_⟩) (fun b u q1 q2 => ?_) (fun b u q n => hk b u (fun z => n (by subst z; exact .inr hma)) q) (fun b q => .inl (q.imp id (hM b).mp))
  · obtain ⟨v, h1, h2⟩ := R.at_ j sv q
    refine ⟨v, h1, h2.tr T fun x c e1 e2 u hu => hk c u (fun z => ?_) hu⟩
    subst e1 e2 z
    exact (R.mem _ _ hm).2 ⟨j, x, q, h1⟩
  · by_cases e : b = a
    · subst e
      rw [updM_same] at q; cases q
      exact ⟨⟨o, upd_same, h.tr T T2⟩, (R.mem _ _ hm).2⟩
    · rw [updM_ne e] at q
      exact ⟨(R.mem b x q).1.tr T T2 fun u hu => hk b u e hu, (R.mem b x q).2⟩
  · have := (R.gs b q).2.1
    cases z : updM m a w' b with
    | none => rfl
    | some x => exact absurd this ((hM b).mp (by rw [z]; simp))
  · exact hk b u (fun z => by subst z; exact hma (R.gs b q1).2.1) q2
theorem Rel.dropM {m' : Mem} (R : Rel K en l m σ H) (h : ∀ a o, m' a = some o → m a = some o) : Rel K en l m' σ H := by
  have hM : ∀ b, m' b ≠ none → m b ≠ none := fun b q => by
    cases z : m' b with
    | none => exact absurd z q
    | some o => rw [h b o z]; simp
  have T : Tr (AvO en l m σ) (AvO en l m' σ) H H := fun b u q n => ⟨q, fun z => n (z.imp id fun z => z.imp id (hM b))⟩
  refine R.chg R.len T (fun j sv q => ?_) R.sep (fun b x q => ?_) (fun b q => ⟨(R.gs b q).1, ?_⟩) (fun _ _ _ h => h) (fun _ _ h _ => h) (fun b q => .inl (q.imp id (hM b)))
  · obtain ⟨v, h1, h2⟩ := R.at_ j sv q
    exact ⟨v, h1, h2.tr T fun _ _ _ _ _ h => h⟩
  · exact ⟨(R.mem b x (h b x q)).1.tr T (fun _ h => h) fun _ h => h, (R.mem b x (h b x q)).2⟩
  · cases z : m' b with
    | none => rfl
    | some o => have := (R.gs b q).2.1; rw [h b o z] at this; cases this
theorem Rel.store' {x : Option SV} {y : Option V} {i : Nat} (R : Rel K en (x :: l) m (y :: σ) H) : Rel K en (l.set i x) m (σ.set i y) H := by
  by_cases hi : i < l.length
  · exact R.store hi
  · have hlen : σ.length = l.length := by simpa using R.len
    rw [List.set_eq_of_length_le (by omega), List.set_eq_of_length_le (by omega)]
    exact R.pop
theorem Rel.storeS {stk : Loc'} {vs : L2.St} {x : Option SV} {y : Option V} {i : Nat} (hl : stk.length = vs.length) (R : Rel K en (x :: (stk ++ l)) m (y :: (vs ++ σ)) H) : Rel K en (stk ++ l.set i x) m (vs ++ σ.set i y) H := by
  have := R.store' (i := stk.length + i)
  rwa [set_stk, hl, set_stk] at this
end

/-! ### blocks -/
def mNext : TSm := fun E s => E.nx s
def mSeq (a b : TSm) : TSm := fun E s => a { E with nx := fun s' => b E s' } s
def mDrop (m : TEm) : TSm := fun E s => m s (fun _ s' => E.nx s') E.ex
def mRet (m : TEm) : TSm := fun E s => m s (fun sv s' => E.rt sv s') E.ex
def mRetN : TSm := fun E s => E.rt (.val .non) s
def mIf (c : TTm) (a b : TSm) : TSm := fun E s => c s (fun k s' => if k = true then a E s' else b E s') E.ex
def mBrk : TSm := fun E s => E.bk s
def mCnt : TSm := fun E s => E.ct s
def mSet (i : Nat) (m : TEm) : TSm := fun E s => m s (fun sv s' => E.nx ⟨s'.loc.set i (some sv), s'.mem⟩) E.ex
/-- .. written no more -/
def mSetV (i : Nat) (m : TEm) : TSm := fun E s => m s (fun sv s' => E.nx ⟨s'.loc.set i (some (.val sv.frz)), s'.mem⟩) E.ex
section
variable {X : Cx} {st : Stmt} {rest : List Stmt} {e : Expr} {pos : Pos}
theorem mss_nil : MSs X [] mNext := fun en Z tk => PSs.imp pss_nil fun D σ H h0 => by
  obtain ⟨stk, vs, s, E, hl, rfl, r0, hm, h1, _⟩ := h0
  exact h1 _ _ s r0 hm
theorem mss_cons {a b : TSm} (h1 : MS X st a) (h2 : MSs X rest b) : MSs X (st :: rest) (mSeq a b) := fun en Z tk =>
  PSs.imp (pss_cons (h1 en Z tk) (h2 en Z tk)) fun D σ H ⟨stk, vs, s, E, hl, hE, r0, hm, q1, q2, q3, q4⟩ =>
    ⟨stk, vs, s, { E with nx := fun s2 => b E s2 }, hl, hE, r0, hm, fun σ2 H2 s2 r q => ⟨stk, vs, s2, E, hl, hE, r, q, q1, q2, q3, q4⟩, q2, q3, q4⟩
theorem mss_one {a : TSm} (h1 : MS X st a) : MSs X [st] a := fun en Z tk => pss_one (h1 en Z tk)
theorem ms_pass : MS X (.Pass pos) mNext := fun en Z tk => PS.imp ps_pass fun D σ H h0 => by
  obtain ⟨stk, vs, s, E, hl, rfl, r0, hm, h1, _⟩ := h0
  exact h1 _ _ s r0 hm
theorem ms_break : MS X (.Break pos) mBrk := fun en Z tk => PS.imp ps_break fun D σ H h0 => by
  obtain ⟨stk, vs, s, E, hl, rfl, r0, hm, h1, h2, h3, h4⟩ := h0
  exact h3 _ _ s r0 hm
theorem ms_continue : MS X (.Continue pos) mCnt := fun en Z tk => PS.imp ps_continue fun D σ H h0 => by
  obtain ⟨stk, vs, s, E, hl, rfl, r0, hm, h1, h2, h3, h4⟩ := h0
  exact h4 _ _ s r0 hm
theorem ms_expr {m : TEm} (he : ME X e m) (hs : swapsWith e none pos.line X.env = pure false := by rfl) : MS X (.Expr e pos) (mDrop m) := fun en Z tk =>
  PS.imp (ps_expr (he en Z tk) hs) fun D σ H h0 => by
  obtain ⟨stk, vs, s, E, hl, rfl, r0, hm, q1, _⟩ := h0
  exact ⟨stk, vs, s, _, hl, r0, hm, fun v H' sv s' r q => q1 _ _ s' r.pop q⟩
theorem ms_ret {m : TEm} (he : ME X e m) : MS X (.Return (some e) pos) (mRet m) := fun en Z tk =>
  PS.imp (ps_ret (he en Z tk)) fun D σ H h0 => by
  obtain ⟨stk, vs, s, E, hl, rfl, r0, hm, q1, q2, _⟩ := h0
  exact ⟨stk, vs, s, _, hl, r0, hm, fun v H' sv s' r q => q2 _ _ _ _ s' r q⟩
theorem ms_retN : MS X (.Return none pos) mRetN := fun en Z tk => PS.imp ps_retN fun D σ H h0 => by
  obtain ⟨stk, vs, s, E, hl, rfl, r0, hm, q1, q2, _⟩ := h0
  exact q2 _ _ _ _ s (r0.push .non) hm
theorem ms_if {c : Expr} {a b : List Stmt} {mc : TTm} {ma mb : TSm} (hc : MT X c mc) (ha : MSs X a ma) (hb : MSs X b mb) : MS X (.If c a b pos) (mIf mc ma mb) := fun en Z tk =>
  PS.imp (ps_if (hc en Z tk) (ha en Z tk) (hb en Z tk)) fun D σ H h0 => by
  obtain ⟨stk, vs, s, E, hl, rfl, r0, hm, q⟩ := h0
  exact ⟨stk, vs, s, _, hl, r0, hm, fun k H' s' r hk => by
    cases k with
    | true => exact ⟨stk, vs, s', E, hl, rfl, r, hk, q⟩
    | false => exact ⟨stk, vs, s', E, hl, rfl, r, hk, q⟩⟩
theorem ms_set {i : Nat} {m : TEm} {tg : Expr} (h : ∀ te : TE, PE X e te → PS X (.Assign [tg] e pos) (tAsg te (gName i))) (he : ME X e m) : MS X (.Assign [tg] e pos) (mSet i m) := fun en Z tk =>
  PS.imp (h _ (he en Z tk)) fun D σ H h0 => by
  obtain ⟨stk, vs, s, E, hl, rfl, r0, hm, q1, _⟩ := h0
  exact ⟨stk, vs, s, _, hl, r0, hm, fun v H' sv s' r q => q1 _ _ _ (r.storeS hl) q⟩
theorem ms_setV {i : Nat} {m : TEm} {tg : Expr} (h : ∀ te : TE, PE X e te → PS X (.Assign [tg] e pos) (tAsg te (gName i))) (he : ME X e m) : MS X (.Assign [tg] e pos) (mSetV i m) := fun en Z tk =>
  PS.imp (h _ (he en Z tk)) fun D σ H h0 => by
  obtain ⟨stk, vs, s, E, hl, rfl, r0, hm, q1, _⟩ := h0
  exact ⟨stk, vs, s, _, hl, r0, hm, fun v H' sv s' r q => q1 _ _ _ (r.frzTop.storeS hl) q⟩
/-- a, b = x, y with plain names -/
def mPar (i j : Nat) (ma : TAm) : TSm := fun E s => ma s (fun bs s1 => valsOf bs fun ds => match ds with
  | [d, d'] => E.nx ⟨(s1.loc.set i (some (.val d))).set j (some (.val d')), s1.mem⟩
  | _ => False) E.ex
theorem Rel.pushs {K : PySem.W.Frag} {en : Ent} {l : Loc'} {m : Mem} {σ : L2.St} {H : Hp} (R : Rel K en l m σ H) : ∀ {us : List V} {ds : List D}, Reps K (AvO en l m σ) H us ds → Rel K en ((ds.map fun d => some (.val d)) ++ l) m (us.map some ++ σ) H
  | _, _, .nil => R
  | _, _, .cons r t => by
    have R1 := R.pushs t
    refine Rel.push R1 ?_
    have : ∀ {us : List V} {ds : List D}, us.length = ds.length → AvO en ((ds.map fun d => some (.val d)) ++ l) m (us.map some ++ σ) = AvO en l m σ := by
      intro us
      induction us with
      | nil => intro ds h; cases ds with
        | nil => rfl
        | cons _ _ => simp at h
      | cons u us ih => intro ds h; cases ds with
        | nil => simp at h
        | cons d ds =>
          rw [← ih (ds := ds) (by simpa using h)]
          exact avO_congr fun b => ownAt_push
    rw [this t.length]
    exact r
theorem ms_par {i j : Nat} {ma : TAm} {a b : Expr} {tg rhs : Expr} (hij : i ≠ j) (h : ∀ ta : TA, PA X [a, b] ta → PS X (.Assign [tg] rhs pos) (tPar i j ta)) (ha : MA X [a, b] ma) : MS X (.Assign [tg] rhs pos) (mPar i j ma) := fun en Z tk =>
  PS.imp (h _ (ha en Z tk)) fun D σ H h0 => by
  obtain ⟨stk, vs, s, E, hl, rfl, r0, hm, q1, _⟩ := h0
  exact ⟨stk, vs, s, _, hl, r0, hm, fun us H' bs s' r b1 q => by
    obtain ⟨ds, h1, h2⟩ := valsOf_reps b1 q
    split at h2
    · rename_i d d'
      cases h1 with
      | cons p1 t1 =>
        cases t1 with
        | cons p2 t2 =>
          cases t2
          rename_i v1 v2
          refine ⟨v1, v2, rfl, q1 _ _ ⟨(s'.loc.set i (some (.val d))).set j (some (.val d')), s'.mem⟩ ?_ h2⟩
          have R2 := r.pushs (.cons p1 (.cons p2 .nil))
          have R3 : Rel X.K en (some (.val d) :: ((some (.val d') :: stk) ++ s'.loc)) s'.mem (some v1 :: ((some v2 :: vs) ++ σ)) H' := R2
          have R4 := R3.storeS (i := i) (by simp [hl])
          exact Rel.storeS (i := j) hl R4
    · exact h2.elim⟩
end

/-! ### targets -/
abbrev TGm := D → S → (S → Prop) → EX → Prop
abbrev TGsm := List D → S → (S → Prop) → EX → Prop
/-- alike but for some places -/
def Agree (ts : List Nat) (σ σ' : L2.St) : Prop := σ'.length = σ.length ∧ ∀ i : Nat, i ∉ ts → σ'[i]? = σ[i]?
theorem Agree.refl {ts : List Nat} {σ : L2.St} : Agree ts σ σ := ⟨rfl, fun _ _ => rfl⟩
theorem Agree.set {σ : L2.St} {i : Nat} {y : Option V} : Agree [i] σ (σ.set i y) := ⟨by simp, fun j h => List.getElem?_set_ne (by simpa using Ne.symm (by simpa using h))⟩
theorem Agree.trans {ts us : List Nat} {σ σ1 σ2 : L2.St} (h : Agree ts σ σ1) (h2 : Agree us σ1 σ2) : Agree (ts ++ us) σ σ2 :=
  ⟨h2.1.trans h.1, fun i n => by
    simp only [List.mem_append, not_or] at n
    rw [h2.2 i n.2, h.2 i n.1]⟩
section
variable (K : PySem.W.Frag) (en : Ent) (Z : EX)
def liftG (ts : List Nat) (g : TGm) : TG := fun v σ H Q => ∃ (stk : Loc') (vs : L2.St) (s : S) (d : D) (R : S → Prop), stk.length = vs.length ∧ Rel K en (some (.val d) :: (stk ++ s.loc)) s.mem (some v :: (vs ++ σ)) H ∧ g d s R Z ∧
  ∀ σ' H' s', Agree ts σ σ' → Rel K en (stk ++ s'.loc) s'.mem (vs ++ σ') H' → R s' → Q σ' H'
def liftGs (ts : List Nat) (g : TGsm) : TGs := fun us σ H Q => ∃ (stk : Loc') (vs : L2.St) (s : S) (ds : List D) (R : S → Prop), stk.length = vs.length ∧ us.length = ds.length ∧ Rel K en ((ds.map fun d => some (.val d)) ++ (stk ++ s.loc)) s.mem (us.map some ++ (vs ++ σ)) H ∧ g ds s R Z ∧
  ∀ σ' H' s', Agree ts σ σ' → Rel K en (stk ++ s'.loc) s'.mem (vs ++ σ') H' → R s' → Q σ' H'
end
def MG (X : Cx) (tg : Expr) (ts : List Nat) (g : TGm) : Prop := ∀ (en : Ent) (Z : EX), Takes X (liftW X.K en Z) → PG X tg (liftG X.K en Z ts g)
def MGs (X : Cx) (tgs : List Expr) (ts : List Nat) (g : TGsm) : Prop := ∀ (en : Ent) (Z : EX), Takes X (liftW X.K en Z) → PGs X tgs (liftGs X.K en Z ts g)
def gN (i : Nat) : TGm := fun d s k _ => k ⟨s.loc.set i (some (.val d)), s.mem⟩
def gsNil : TGsm := fun ds s k _ => ds = [] ∧ k s
def gsCons (g : TGm) (gs : TGsm) : TGsm := fun ds s k Z => match ds with
  | d :: r => g d s (fun s' => gs r s' k Z) Z
  | [] => False
def gT (n : Nat) (gs : TGsm) : TGm := fun d s k Z => match d with
  | .tup ds => ds.length = n ∧ gs ds s k Z
  | _ => False
section
variable {X : Cx} {e : Expr} {es : List Expr} {pos : Pos}
theorem PG.imp {tg : Expr} {t t' : TG} (h : PG X tg t) (i : ∀ v σ H Q, t' v σ H Q → t v σ H Q) : PG X tg t' := ⟨fun pins s σ H v u Q I r q => h.run pins s σ H v u Q I r (i _ _ _ _ q)⟩
theorem PGs.imp {tg : List Expr} {t t' : TGs} (h : PGs X tg t) (i : ∀ v σ H Q, t' v σ H Q → t v σ H Q) : PGs X tg t' := ⟨fun pins s σ H v u Q I r q => h.run pins s σ H v u Q I r (i _ _ _ _ q)⟩
theorem mg_name {tg : Expr} {i : Nat} (h : PG X tg (gName i)) : MG X tg [i] (gN i) := fun en Z tk => PG.imp h fun v σ H Q ⟨stk, vs, s, d, R, hl, r, hg, hq⟩ => hq _ _ _ Agree.set (r.storeS hl) hg
theorem mgs_nil : MGs X [] [] gsNil := fun en Z tk => PGs.imp pgs_nil fun us σ H Q ⟨stk, vs, s, ds, R, hl, hu, r, hg, hq⟩ => by
  obtain ⟨rfl, hg⟩ := hg
  have : us = [] := by simpa using hu
  subst this
  exact ⟨rfl, hq _ _ s Agree.refl r hg⟩
theorem mgs_cons {tg : Expr} {ts us : List Nat} {g : TGm} {gs : TGsm} (h1 : MG X tg ts g) (h2 : MGs X es us gs) (hs : (assignEach (tg :: es) X.env).map (·.2) = assign tg X.env :: (assignEach es X.env).map (·.2) := by rfl) : MGs X (tg :: es) (ts ++ us) (gsCons g gs) := fun en Z tk =>
  PGs.imp (pgs_cons (h1 en Z tk) (h2 en Z tk) hs) fun us σ H Q ⟨stk, vs, s, ds, R, hl, hu, r, hg, hq⟩ => by
    unfold gsCons at hg
    split at hg
    · rename_i d ds
      cases us with
      | nil => simp at hu
      | cons u us =>
        refine ⟨u, us, rfl, (ds.map fun d => some (.val d)) ++ stk, us.map some ++ vs, s, d, _, by simp at hu; simp [hl, hu], ?_, hg, fun σ' H' s' a1 r' q => ?_⟩
        · simp only [List.append_assoc]; exact r
        · exact ⟨stk, vs, s', ds, R, hl, by simpa using hu, by simpa only [List.append_assoc] using r', q, fun σ2 H2 s2 a2 r2 q2 => hq σ2 H2 s2 (a1.trans a2) r2 q2⟩
    · exact hg.elim
theorem mg_tup {k : Nat} {ts : List Nat} {gs : TGsm} {n : Nat} (hc : X.calm = true) (h : MGs X es ts gs) (hn : (assignEach es X.env).length = n := by rfl) (hst : (assignEach es X.env).findIdx? (·.1) = none := by rfl) : MG X (.Tuple es k pos) ts (gT n gs) := fun en Z tk =>
  PG.imp (pg_tup hc (h en Z tk) hn hst) fun v σ H Q ⟨stk, vs, s, d, R, hl, r, hg, hq⟩ => by
    unfold gT at hg
    split at hg
    · rename_i ds
      obtain ⟨hlen, hg⟩ := hg
      have r1 := r.pop
      obtain ⟨a, ws, rfl, h1, h2⟩ := tupOf_rep (sv := .val (.tup ds)) r.top rfl
      exact ⟨a, ws, rfl, h1, by rw [h2.length, hlen], stk, vs, s, ds, R, hl, h2.length, r1.pushs h2, hg, hq⟩
    · exact hg.elim
/-- target = value -/
def mAsg (m : TEm) (g : TGm) : TSm := fun E s => m s (fun sv s' => g sv.frz s' E.nx E.ex) E.ex
theorem ms_asg {tg : Expr} {ts : List Nat} {m : TEm} {g : TGm} (he : ME X e m) (hg : MG X tg ts g) (hs : swapsWithSole [tg] e pos.line X.env = pure false := by rfl) (hw : swappedStores [tg] e X.env = pure none := by rfl)
    (h1 : (assignEach [tg] X.env).map (·.2) = [assign tg X.env] := by rfl) : MS X (.Assign [tg] e pos) (mAsg m g) := fun en Z tk =>
  PS.imp (ps_asg (he en Z tk) (hg en Z tk) hs hw h1) fun D σ H h0 => by
  obtain ⟨stk, vs, s, E, hl, rfl, r0, hm, q1, _⟩ := h0
  exact ⟨stk, vs, s, _, hl, r0, hm, fun v H' sv s' r q => ⟨stk, vs, s', sv.frz, E.nx, hl, r.frzTop, q, fun σ' H' s' _ r q => q1 σ' H' s' r q⟩⟩
/-- o[i] = value, a list -/
def objW (s : S) (b : B) (f : Own → (Own → Prop) → Prop) (k : S → Prop) : Prop := match b with
  | .at i => match s.loc[i]? with
    | some (some (.own w)) => f w fun w' => k ⟨s.loc.set i (some (.own w')), s.mem⟩
    | _ => False
  | .val (.ref p) => match s.mem p with
    | some (.obj w) => f w fun w' => k ⟨s.loc, updM s.mem p (.obj w')⟩
    | _ => False
  | _ => False
def setF (i : Int) (d : D) : Own → (Own → Prop) → Prop := fun w k => match w with
  | .lst l => match ixN l.length i with
    | some j => k (.lst (l.set j d))
    | none => False
  | _ => False
def gS (mo mi : TBm) : TGm := fun d s k Z => mo s (fun bo s1 => mi s1 (fun bi s2 => s2.get bi fun x => match x with
  | .val (.int i) => objW s2 bo (setF i d) k
  | _ => False) Z) Z
theorem objW_lst {K : PySem.W.Frag} {en : Ent} {stk : Loc'} {vs σ : L2.St} {s : S} {H : Hp} {b : B} {v : V} {f : Own → (Own → Prop) → Prop} {k : S → Prop} (hl : stk.length = vs.length) (R : Rel K en (stk ++ s.loc) s.mem (vs ++ σ) H) (h : BRep K (AvO en (stk ++ s.loc) s.mem (vs ++ σ)) H σ v b) (g : objW s b f k) :
    ∃ (a : Addr) (w : Own) (k' : Own → Prop), v = .ref a ∧ OwnRep K (AvO en (stk ++ s.loc) s.mem (vs ++ σ)) H w a ∧ f w k' ∧ ∀ (o : HO) (w' : Own), OwnIs K (AvO en (stk ++ s.loc) s.mem (vs ++ σ)) H o w' → k' w' → ∃ s', Rel K en (stk ++ s'.loc) s'.mem (vs ++ σ) (upd H a o) ∧ k s' := by
  unfold objW at g
  split at g
  · rename_i i
    split at g
    · rename_i w hw
      obtain ⟨v', h1, a, e1, q⟩ := val_loc hl R hw
      have h' : σ[i]? = some (some v) := h
      rw [h1] at h'; cases h'
      subst e1
      refine ⟨a, w, _, rfl, q, g, fun o w' ho hk => ⟨⟨s.loc.set i (some (.own w')), s.mem⟩, ?_, hk⟩⟩
      have := R.write (i := stk.length + i) (w' := w') (a := a) (by rw [get_stk]; exact hw) (by rw [hl, get_stk]; exact h1) ho
      rwa [set_stk] at this
    · exact g.elim
  · rename_i p
    split at g
    · rename_i w hw
      cases h
      obtain ⟨o, h1, h2⟩ := (R.mem p _ hw).1
      exact ⟨p, w, _, rfl, ⟨o, h1, MoIs.obj.mp h2⟩, g, fun o w' ho hk => ⟨⟨s.loc, updM s.mem p (.obj w')⟩, R.writeM hw (MoIs.obj.mpr ho), hk⟩⟩
    · exact g.elim
  · exact g.elim
theorem Rel.down2 {K : PySem.W.Frag} {en : Ent} {stk l : Loc'} {m : Mem} {vs σ σ0 : L2.St} {H : Hp} {d : D} {v w : V} {b : B} (R : Rel K en ((some (.val d) :: stk) ++ l) m ((some v :: vs) ++ σ) H) (h : BRep K (AvO en ((some (.val d) :: stk) ++ l) m ((some v :: vs) ++ σ)) H σ0 w b) :
    Rel K en (stk ++ l) m (vs ++ σ) H ∧ BRep K (AvO en (stk ++ l) m (vs ++ σ)) H σ0 w b ∧ Rep K (AvO en (stk ++ l) m (vs ++ σ)) H v d := by
  have ea : AvO en (stk ++ l) m (vs ++ σ) = AvO en ((some (.val d) :: stk) ++ l) m ((some v :: vs) ++ σ) := avO_congr fun b => ownAt_push.symm
  exact ⟨Rel.pop R, by rw [ea]; exact h, Rel.top R⟩
theorem mg_sub {o i : Expr} {mo mi : TBm} (ho : MB X o mo) (hi : MB X i mi) (ha : ∀ v, assign (.Subscript o i pos) X.env v = (do
      let ov ← holding [v] (eval o X.env)
      let iv ← holding [v, ov] (eval i X.env)
      standAt pos
      holding [v, ov, iv] (setItem ov iv v)
      release [v, ov, iv] []) := by intro _; rfl) : MG X (.Subscript o i pos) [] (gS mo mi) := fun en Z tk =>
  PG.imp (pg_sub (ho en Z tk) (hi en Z tk) set_list ha) fun v σ H Q ⟨stk, vs, s, d, R, hl, r, hg, hq⟩ =>
    ⟨some (.val d) :: stk, some v :: vs, s, _, by simp [hl], r, hg, fun ov H1 bo s1 r1 b1 q1 => ⟨bo.slot :: some (.val d) :: stk, some ov :: some v :: vs, s1, _, by simp [hl], r1.pushB b1, q1, fun iv H2 bi s2 r2 b2 q2 => by
      obtain ⟨r3, b3⟩ := Rel.popS (stk := some (.val d) :: stk) (vs := some v :: vs) r2 b1
      rw [avO_slotS (stk := some (.val d) :: stk) (vs := some v :: vs)] at b2
      obtain ⟨r4, b4, rd⟩ := Rel.down2 r3 b3
      obtain ⟨_, b5, _⟩ := Rel.down2 r3 b2
      obtain ⟨x, hx, q3⟩ := get_sv hl r4 b5 q2
      split at q3
      · rename_i k
        cases hx
        obtain ⟨a, w, k', rfl, ⟨o', ho1, ho2⟩, hf, hk⟩ := objW_lst hl r4 b4 q3
        unfold setF at hf
        split at hf
        · rename_i ls
          split at hf
          · rename_i j hj
            cases o' with
            | lst us =>
              have ho3 : Reps X.K (AvO en (stk ++ s2.loc) s2.mem (vs ++ σ)) H2 us ls := ho2
              obtain ⟨s3, r5, q5⟩ := hk (.lst (us.set j v)) (.lst (ls.set j d)) (Reps.set rd j ho3) hf
              exact ⟨a, us, k, j, rfl, rfl, ho1, by rw [ho3.length]; exact hj, hq _ _ s3 Agree.refl r5 q5⟩
            | _ => exact False.elim ho2
          · exact hf.elim
        · exact hf.elim
      · exact q3.elim⟩⟩

/-! ### o.append(e) and other methods of lists -/
def appF (d : D) : Own → (Own → Prop) → Prop := fun w k => match w with
  | .lst l => l.length < sizeLine ∧ k (.lst (l ++ [d]))
  | _ => False
def isLst (m : Mem) (x : SV) : Prop := lstOf m x ≠ none
def mApp (mo : TBm) (ma : TAm) : TEm := fun s Q Z => mo s (fun bo s1 => (s1.get bo fun x => isLst s1.mem x) ∧ ma s1 (fun bs s2 => valsOf bs fun ds => match ds with
  | [d] => objW s2 bo (appF d) fun s3 => Q (.val .non) s3
  | _ => False) Z) Z
theorem me_append {o : Expr} {apos cpos : Pos} {mo : TBm} {ma : TAm} (h : ∀ to t, PE X o to → PA X (e :: es) t → PE X (.Call (.Attribute o "append" apos) (e :: es) [] cpos) (tBM X.K "list" rAppend to t)) (ho : MB X o mo) (ha : MA X (e :: es) ma) :
    ME X (.Call (.Attribute o "append" apos) (e :: es) [] cpos) (mApp mo ma) := fun en Z tk =>
  PE.imp (h _ _ (ho en Z tk) (ha en Z tk)) fun σ H Q ⟨stk, vs, s, R, hl, r0, hm, hq⟩ => ⟨stk, vs, s, _, hl, r0, hm, fun v H1 bo s1 r1 b1 ⟨hty, hm1⟩ => by
    obtain ⟨x, hx, hlx⟩ := get_sv hl r1 b1 hty
    obtain ⟨ls, hls⟩ := Option.ne_none_iff_exists'.mp hlx
    obtain ⟨a, ws, rfl, h1, h2⟩ := lstOf_rep r1 hx hls
    refine ⟨.inl ⟨rfl, ws, .inl (.inl h1)⟩, bo.slot :: stk, some (.ref a) :: vs, s1, _, by simp [hl], r1.pushB b1, hm1, fun us H2 bs s2 r2 b2 q2 => ?_⟩
    obtain ⟨r3, b3⟩ := Rel.popS r2 b1
    rw [avO_slotS] at b2
    obtain ⟨ds, p1, p2⟩ := valsOf_reps b2 q2
    split at p2
    · rename_i d
      cases p1 with
      | cons p1 t1 =>
        cases t1
        rename_i u
        obtain ⟨a', w, k', e1, ⟨o', ho1, ho2⟩, hf, hk⟩ := objW_lst hl r3 b3 p2
        cases e1
        unfold appF at hf
        split at hf
        · rename_i l'
          cases o' with
          | lst ws' =>
            have ho3 : Reps X.K (AvO en (stk ++ s2.loc) s2.mem (vs ++ σ)) H2 ws' l' := ho2
            obtain ⟨s3, r5, q5⟩ := hk (.lst (ws' ++ [u])) (.lst (l' ++ [d])) (ho3.append (.cons p1 .nil)) hf.2
            exact ⟨a, ws', u, rfl, rfl, ho1, by rw [ho3.length]; exact hf.1, hq _ _ _ s3 (r5.push .non) q5⟩
          | _ => exact False.elim ho2
        · exact hf.elim
    · exact p2.elim⟩
end
end Sf

set_option maxHeartbeats 4000000
set_option autoImplicit false
/-! Sf, eighth part: loops, comprehensions, defs. -/
namespace Sf
open PySem PySem.Spec PyProof.Rows L2

section
variable {K : PySem.W.Frag} {en : Ent} {l l' : Loc'} {m : Mem} {σ σ' : L2.St} {H : Hp}
/-- places chosen from others, each once -/
theorem Rel.perm (R : Rel K en l m σ H) (φ : Nat → Nat) (hlen : σ'.length = l'.length) (inj : ∀ (i j : Nat) (x y : SV), l'[i]? = some (some x) → l'[j]? = some (some y) → φ i = φ j → i = j)
    (h : ∀ (i : Nat) (sv : SV), l'[i]? = some (some sv) → l[φ i]? = some (some sv) ∧ σ'[i]? = σ[φ i]?) : Rel K en l' m σ' H := by
  have hO : ∀ b, OwnAt l' σ' b → OwnAt l σ b := by
    rintro b ⟨j, o, h1, h2⟩
    obtain ⟨q1, q2⟩ := h j _ h1
    exact ⟨φ j, o, q1, by rw [← q2]; exact h2⟩
  refine R.same hlen hO (fun j sv q => ?_) (fun j k o o' a h1 h2 h3 h4 => ?_)
  · obtain ⟨q1, q2⟩ := h j sv q
    obtain ⟨v, q3, q4⟩ := R.at_ _ sv q1
    exact ⟨v, by rw [q2]; exact q3, q4.tr (Rel.trSame hO) fun _ _ _ _ _ h => h⟩
  · obtain ⟨q1, q2⟩ := h j _ h1
    obtain ⟨q3, q4⟩ := h k _ h2
    rw [q2] at h3
    rw [q4] at h4
    exact inj j k _ _ h1 h2 (R.sep _ _ o o' a q1 q3 h3 h4)
/-- places below the top go -/
theorem Rel.dropMid {x : Option SV} {y : Option V} {src : Loc'} {sv : L2.St} (hl : src.length = sv.length) (R : Rel K en (x :: (src ++ l)) m (y :: (sv ++ σ)) H) : Rel K en (x :: l) m (y :: σ) H := by
  have hlen := R.len
  refine R.perm (fun i => if i = 0 then 0 else i + src.length) (by simp only [List.length_cons, List.length_append] at hlen ⊢; omega) (fun i j _ _ _ _ h => ?_) (fun i z h => ?_)
  · split at h <;> split at h <;> omega
  · cases i with
    | zero => exact ⟨by simpa using h, by simp⟩
    | succ i =>
      have e : i + 1 + src.length = (src.length + i) + 1 := by omega
      refine ⟨?_, ?_⟩
      · rw [if_neg (by omega), e, List.getElem?_cons_succ, get_stk]
        simpa using h
      · rw [if_neg (by omega), e, List.getElem?_cons_succ, List.getElem?_cons_succ, hl, get_stk]
/-- a place's content goes to the top -/
theorem Rel.stash {stk : Loc'} {vs : L2.St} {i : Nat} (hl : stk.length = vs.length) (R : Rel K en (stk ++ l) m (vs ++ σ) H) : Rel K en ((l[i]?.getD none) :: (stk ++ l.set i none)) m ((σ[i]?.getD none) :: (vs ++ σ.set i none)) H := by
  have hlen := R.len
  have hlen' : σ.length = l.length := by simp only [List.length_append] at hlen; omega
  -- a place of the new list, below the top
  have low : ∀ (j : Nat) (z : SV), (stk ++ l.set i none)[j]? = some (some z) → j ≠ stk.length + i ∧ (stk ++ l)[j]? = some (some z) ∧ (vs ++ σ.set i none)[j]? = (vs ++ σ)[j]? := fun j z h => by
    rw [← set_stk] at h
    by_cases e : stk.length + i = j
    · subst e
      by_cases hi : stk.length + i < (stk ++ l).length
      · rw [List.getElem?_set_self hi] at h; cases h
      · rw [List.getElem?_eq_none (by simpa using hi)] at h; cases h
    · rw [List.getElem?_set_ne e] at h
      refine ⟨Ne.symm e, h, ?_⟩
      rw [← set_stk, List.getElem?_set_ne (by omega)]
  refine R.perm (fun j => if j = 0 then stk.length + i else j - 1) (by simp only [List.length_cons, List.length_append, List.length_set]; omega) (fun j k x y h1 h2 h => ?_) (fun j z h => ?_)
  · cases j with
    | zero =>
      cases k with
      | zero => rfl
      | succ k =>
        obtain ⟨n, _⟩ := low k y (by simpa using h2)
        simp at h; omega
    | succ j =>
      obtain ⟨n, _⟩ := low j x (by simpa using h1)
      cases k with
      | zero => simp at h; omega
      | succ k => simp at h; omega
  · cases j with
    | zero =>
      have h' : l[i]?.getD none = some z := by simpa using h
      cases q : l[i]? with
      | none => rw [q] at h'; cases h'
      | some y =>
        rw [q] at h'
        have e : y = some z := h'
        have hi : i < σ.length := by rw [hlen']; exact (List.getElem?_eq_some_iff.mp q).1
        refine ⟨by rw [if_pos rfl, get_stk, q, e], ?_⟩
        rw [if_pos rfl, hl, get_stk, List.getElem?_eq_getElem hi]; rfl
    | succ j =>
      obtain ⟨_, q1, q2⟩ := low j z (by simpa using h)
      exact ⟨q1, q2⟩
/-- own names' places, emptied; what stood there; set again -/
def wipeL {α : Type} (l : List (Option α)) : List Nat → List (Option α)
  | [] => l
  | v :: vs => (wipeL l vs).set v none
def savedL {α : Type} (l : List (Option α)) : List Nat → List (Option α)
  | [] => []
  | v :: vs => ((wipeL l vs)[v]?.getD none) :: savedL l vs
def backL {α : Type} (l : List (Option α)) : List Nat → List (Option α) → List (Option α)
  | [], _ => l
  | v :: vs, sv => backL (l.set v (sv.headD none)) vs sv.tail
theorem wipeL_eq : ∀ (σ : L2.St) (vs : List Nat), wipeL σ vs = wipe σ vs
  | _, [] => rfl
  | σ, v :: vs => by rw [wipeL, wipe, wipeL_eq σ vs]
theorem savedL_length {α : Type} {l : List (Option α)} : ∀ vs : List Nat, (savedL l vs).length = vs.length
  | [] => rfl
  | v :: vs => by rw [savedL, List.length_cons, List.length_cons, savedL_length vs]
theorem wipeL_length {α : Type} {l : List (Option α)} : ∀ vs : List Nat, (wipeL l vs).length = l.length
  | [] => rfl
  | v :: vs => by rw [wipeL, List.length_set, wipeL_length vs]
theorem set_getD {α : Type} (l : List (Option α)) (v : Nat) : (l.set v none).set v (l[v]?.getD none) = l := by
  apply List.ext_getElem?
  intro j
  by_cases e : v = j
  · subst e
    by_cases h : v < l.length
    · rw [List.getElem?_set_self (by simpa using h), List.getElem?_eq_getElem h]; rfl
    · rw [List.getElem?_eq_none (by simpa using h), List.getElem?_eq_none (by omega)]
  · rw [List.getElem?_set_ne e, List.getElem?_set_ne e]
theorem backL_wipe {α : Type} (l : List (Option α)) : ∀ vs : List Nat, backL (wipeL l vs) vs (savedL l vs) = l
  | [] => rfl
  | v :: vs => by
    rw [backL, wipeL, savedL, List.headD_cons, List.tail_cons, set_getD]
    exact backL_wipe l vs
theorem Rel.stashes {stk : Loc'} {vs : L2.St} (hl : stk.length = vs.length) (R : Rel K en (stk ++ l) m (vs ++ σ) H) : ∀ own : List Nat, Rel K en (savedL l own ++ (stk ++ wipeL l own)) m (savedL σ own ++ (vs ++ wipeL σ own)) H
  | [] => R
  | v :: own => by
    have R1 := Rel.stashes hl R own
    rw [← List.append_assoc, ← List.append_assoc] at R1
    have R2 := Rel.stash (i := v) (by simp [savedL_length, hl]) R1
    simp only [savedL, wipeL, List.cons_append]
    rw [← List.append_assoc, ← List.append_assoc]
    exact R2
theorem Rel.unstashes {stk : Loc'} {vs : L2.St} (hl : stk.length = vs.length) : ∀ (own : List Nat) {sl : Loc'} {sσ : L2.St} {l : Loc'} {σ : L2.St}, sl.length = own.length → sσ.length = own.length → Rel K en (sl ++ (stk ++ l)) m (sσ ++ (vs ++ σ)) H → Rel K en (stk ++ backL l own sl) m (vs ++ backL σ own sσ) H
  | [], [], [], _, _, _, _, R => R
  | v :: own, x :: sl, y :: sσ, l, σ, h1, h2, R => by
    have R1 : Rel K en (x :: ((sl ++ stk) ++ l)) m (y :: ((sσ ++ vs) ++ σ)) H := by
      rw [List.append_assoc, List.append_assoc]; exact R
    have R2 := R1.storeS (i := v) (by simp only [List.length_cons] at h1 h2; simp only [List.length_append]; omega)
    rw [List.append_assoc, List.append_assoc] at R2
    exact Rel.unstashes hl own (by simpa using h1) (by simpa using h2) R2
  | _ :: _, [], _, _, _, h, _, _ => by simp at h
  | _ :: _, _ :: _, [], _, _, _, h, _ => by simp at h
  | [], _ :: _, _, _, _, h, _, _ => by simp at h
  | [], [], _ :: _, _, _, _, h, _ => by simp at h
theorem Rel.forgets {stk : Loc'} {vs : L2.St} (hl : stk.length = vs.length) (R : Rel K en (stk ++ l) m (vs ++ σ) H) : ∀ own : List Nat, Rel K en (stk ++ wipeL l own) m (vs ++ wipeL σ own) H
  | [] => R
  | v :: own => by
    have R1 := (Rel.forgets hl R own).forget (i := stk.length + v) (y := none)
    rwa [set_stk, hl, set_stk] at R1
end

/-! ### while -/
def mWhile (c : TTm) (body : TSm) : TSm := fun E s => ∃ W : Nat → S → Prop, (∃ n, W n s) ∧ ∀ n s, W n s → c s (fun b s' => if b = true then body { nx := fun s2 => ∃ n', n' < n ∧ W n' s2, ct := fun s2 => ∃ n', n' < n ∧ W n' s2, bk := E.nx, rt := E.rt, ex := E.ex } s' else E.nx s') E.ex
theorem ms_while {X : Cx} {c : Expr} {body : List Stmt} {pos : Pos} {mc : TTm} {mb : TSm} (hp : PassesOwn (model X.prog X.w) X.A X.env X.xe) (hc : MT X c mc) (hb : MSs X body mb) : MS X (.While c body [] pos) (mWhile mc mb) := fun en Z tk =>
  PS.imp (ps_while hp (hc en Z tk) (hb en Z tk)) fun D σ H h0 => by
  obtain ⟨stk, vs, s, E, hl, rfl, r0, ⟨W, ⟨n0, w0⟩, turn⟩, q1, q2, q3, q4⟩ := h0
  refine ⟨fun n σ H => ∃ s, Rel X.K en (stk ++ s.loc) s.mem (vs ++ σ) H ∧ W n s, ⟨n0, s, r0, w0⟩, fun n σ H ⟨s, r, w⟩ => ⟨stk, vs, s, _, hl, r, turn n s w, fun b H' s' r' hb' => ?_⟩⟩
  cases b with
  | false => exact q1 _ _ s' r' hb'
  | true =>
    refine ⟨fun σ' H' => ∃ s2, Rel X.K en (stk ++ s2.loc) s2.mem (vs ++ σ') H' ∧ ∃ n', n' < n ∧ W n' s2, fun σ' H' ⟨s2, r2, n', hn, w2⟩ => ⟨n', hn, s2, r2, w2⟩,
      stk, vs, s', { nx := fun s2 => ∃ n', n' < n ∧ W n' s2, ct := fun s2 => ∃ n', n' < n ∧ W n' s2, bk := E.nx, rt := E.rt, ex := E.ex }, hl, rfl, r', hb', fun σ' H' s2 r2 w2 => ⟨s2, r2, w2⟩, q2, q1, fun σ' H' s2 r2 w2 => ⟨s2, r2, w2⟩⟩

/-! ### what is walked -/
abbrev TIm := S → (List D → (S → Prop) → S → Prop) → EX → Prop
structure WalkD (K : PySem.W.Frag) (en : Ent) (J : It) (src : Loc') (sv : L2.St) (ds : List D) (wt : S → Prop) : Prop where
  go : ∀ (i : Nat) (stk : Loc') (vs : L2.St) (s : S) (σ : L2.St) (H : Hp), stk.length = vs.length → Rel K en (src ++ (stk ++ s.loc)) s.mem (sv ++ (vs ++ σ)) H → wt s → i < ds.length → J.go i H
  stop : ∀ (stk : Loc') (vs : L2.St) (s : S) (σ : L2.St) (H : Hp), stk.length = vs.length → Rel K en (src ++ (stk ++ s.loc)) s.mem (sv ++ (vs ++ σ)) H → wt s → J.stop ds.length H
  yld : ∀ (i : Nat) (d : D) (stk : Loc') (vs : L2.St) (s : S) (σ : L2.St) (H : Hp) (x : V) (H' : Hp), stk.length = vs.length → Rel K en (src ++ (stk ++ s.loc)) s.mem (sv ++ (vs ++ σ)) H → wt s → ds[i]? = some d → J.yld i H x H' →
    Rel K en (some (.val d) :: (src ++ (stk ++ s.loc))) s.mem (some x :: (sv ++ (vs ++ σ))) H'
def liftI (K : PySem.W.Frag) (en : Ent) (Z : EX) (m : TIm) : TI := fun σ H R => ∃ (stk : Loc') (vs : L2.St) (s : S) (Rm : List D → (S → Prop) → S → Prop), stk.length = vs.length ∧ Rel K en (stk ++ s.loc) s.mem (vs ++ σ) H ∧ m s Rm Z ∧
  ∀ J H' ds wt s' src sv, src.length = sv.length → Rel K en (src ++ (stk ++ s'.loc)) s'.mem (sv ++ (vs ++ σ)) H' → WalkD K en J src sv ds wt → ds.length ≤ sizeLine → Rm ds wt s' → R J H'
def MI (X : Cx) (tg iter : Expr) (m : TIm) : Prop := ∀ (en : Ent) (Z : EX), Takes X (liftW X.K en Z) → PI X tg iter (liftI X.K en Z m)
theorem PI.imp {X : Cx} {tg iter : Expr} {t t' : TI} (h : PI X tg iter t) (i : ∀ σ H R, t' σ H R → t σ H R) : PI X tg iter t' := ⟨fun pins s σ H R I q => h.run pins s σ H R I (i _ _ _ q)⟩
/-- what the invariant says may be used at the walk's start -/
theorem PI.inv {X : Cx} {tg iter : Expr} {t : TI} (h : PI X tg iter t) : PI X tg iter (fun σ H R => t σ H fun J H1 => ∀ s, HOk X.prog X.w H1 s → R J H1) := ⟨fun pins s σ H R I q => thn (h.run pins s σ H _ I q) fun v s1 q1 => thn q1 fun itv s2 hx => by
  obtain ⟨it, fp, tn, J, H', e1, I2, T, h3, h4, h5⟩ := hx
  exact ⟨it, fp, tn, J, H', e1, I2, T, h3, h4, h5 s2.heap I2.hok⟩⟩

/-! ### for -/
def forW (wt : S → Prop) (g : TGm) (body : TSm) : List D → EndsM → S → Prop
  | [], E, s => wt s ∧ E.nx s
  | d :: r, E, s => wt s ∧ g d s (fun s1 => body { nx := forW wt g body r E, ct := forW wt g body r E, bk := E.nx, rt := E.rt, ex := E.ex } s1) E.ex
def mFor (mi : TIm) (g : TGm) (body : TSm) : TSm := fun E s => mi s (fun ds wt s1 => forW wt g body ds E s1) E.ex
theorem ms_for {X : Cx} {tg iter : Expr} {body : List Stmt} {pos : Pos} {mi : TIm} {g : TGm} {mb : TSm} (hp : PassesOwn (model X.prog X.w) X.A X.env X.xe) (hc : X.calm = true) {ts : List Nat} (hi : MI X tg iter mi) (hg : MG X tg ts g) (hb : MSs X body mb)
    (hs : ∀ x, foldedSetIterable iter X.env x = pure x := by intro _; rfl) : MS X (.For tg iter body [] pos) (mFor mi g mb) := fun en Z tk =>
  PS.imp (ps_for hp hc (hi en Z tk) (hg en Z tk) (hb en Z tk) hs) fun D σ H h0 => by
  obtain ⟨stk, vs, s, E, hl, rfl, r0, hm, q1, q2, q3, q4⟩ := h0
  refine ⟨stk, vs, s, _, hl, r0, hm, fun J H1 ds wt s1 src sv hsv r1 wk hz hf => ?_⟩
  refine ⟨fun i n σ H => ∃ s, Rel X.K en (src ++ (stk ++ s.loc)) s.mem (sv ++ (vs ++ σ)) H ∧ forW wt g mb (ds.drop i) E s ∧ i ≤ ds.length ∧ n = ds.length - i, ⟨ds.length, s1, r1, hf, Nat.zero_le _, rfl⟩, ?_⟩
  rintro i n σ H ⟨s, r, hf, hi, rfl⟩
  by_cases h : i < ds.length
  · rw [List.drop_eq_getElem_cons h] at hf
    obtain ⟨hw, hg2⟩ := hf
    refine .inr ⟨wk.go i stk vs s σ H hl r hw h, fun σ' H' => ∃ s, Rel X.K en (src ++ (stk ++ s.loc)) s.mem (sv ++ (vs ++ σ')) H' ∧ forW wt g mb (ds.drop (i + 1)) E s, fun σ' H' ⟨s, r, hf⟩ => ⟨ds.length - (i + 1), by omega, s, r, hf, h, rfl⟩, fun x H' hy => ?_⟩
    have r2 := wk.yld i ds[i] stk vs s σ H x H' hl r hw (List.getElem?_eq_getElem h) hy
    refine ⟨src ++ stk, sv ++ vs, s, ds[i], _, by simp [hl, hsv], by simpa only [List.append_assoc] using r2, hg2, fun σ2 H2 s2 _ r3 hb2 => ?_⟩
    refine ⟨src ++ stk, sv ++ vs, s2, { nx := forW wt g mb (ds.drop (i + 1)) E, ct := forW wt g mb (ds.drop (i + 1)) E, bk := E.nx, rt := E.rt, ex := E.ex }, by simp [hl, hsv], rfl, r3, hb2, fun σ' H' s' r' q => ⟨s', by simpa only [List.append_assoc] using r', q⟩, fun v σ' H' x s' r' q => ?_, fun σ' H' s' r' q => ?_, fun σ' H' s' r' q => ⟨s', by simpa only [List.append_assoc] using r', q⟩⟩
    · refine q2 v σ' H' x s' ?_ q
      rw [List.append_assoc, List.append_assoc] at r'
      exact r'.dropMid hsv
    · rw [List.append_assoc, List.append_assoc] at r'
      exact q1 σ' H' s' (r'.unstk hsv) q
  · have e : i = ds.length := by omega
    subst e
    rw [List.drop_length] at hf
    exact .inl ⟨wk.stop stk vs s σ H hl r hf.1, q1 σ H s (r.unstk hsv) hf.2⟩

/-! ### comprehensions -/
def noEx : EX := fun _ _ => False
def lcW (own : List Nat) (wt : S → Prop) (g : TGm) (mt : TTm) (me : TEm) : List D → List D → S → (List D → S → Prop) → Prop
  | [], acc, s, Q => wt s ∧ Q acc s
  | d :: r, acc, s, Q => wt s ∧ g d s (fun s1 => mt s1 (fun b s2 => if b = true then me s2 (fun sv s3 => lcW own wt g mt me r (acc ++ [sv.frz]) ⟨wipeL s3.loc own, s3.mem⟩ Q) noEx else lcW own wt g mt me r acc ⟨wipeL s2.loc own, s2.mem⟩ Q) noEx) noEx
def mLc (own : List Nat) (mi : TIm) (g : TGm) (mt : TTm) (me : TEm) : TEm := fun s Q Z => mi s (fun ds wt s1 => lcW own wt g mt me ds [] ⟨wipeL s1.loc own, s1.mem⟩ (fun acc s2 => Q (.own (.lst acc)) ⟨backL s2.loc own (savedL s1.loc own), s2.mem⟩)) Z
def mYes : TTm := fun s Q _ => Q true s
theorem takes_no {X : Cx} {en : Ent} : Takes X (liftW X.K en noEx) := fun _ _ x => by
  obtain ⟨_, _, _, _, _, _, _, _, _, _, _, _, _, _, _, _, _, _, _, _, z⟩ := x
  exact z.elim
def MTs (X : Cx) (ifs : List Expr) (m : TTm) : Prop := ∀ (en : Ent) (Z : EX), Takes X (liftW X.K en Z) → PTs X ifs (liftT X.K en Z m)
theorem mts_nil {X : Cx} : MTs X [] mYes := fun en Z tk => ⟨fun pins s σ H Q I ⟨stk, vs, t, R, hl, r, hm, hq⟩ => pts_nil.run pins s σ H Q I (hq _ _ t r hm)⟩
theorem mts_one {X : Cx} {c : Expr} {m : TTm} (h : MT X c m) : MTs X [c] m := fun en Z tk => pts_one (h en Z tk)
theorem Rel.swap {K : PySem.W.Frag} {en : Ent} {a b l : Loc'} {m : Mem} {a' b' σ : L2.St} {H : Hp} (ha : a.length = a'.length) (hb : b.length = b'.length) (R : Rel K en (a ++ (b ++ l)) m (a' ++ (b' ++ σ)) H) : Rel K en (b ++ (a ++ l)) m (b' ++ (a' ++ σ)) H := by
  have hlen := R.len
  simp only [List.length_append] at hlen
  have val : ∀ {α : Type} (a b l : List α) (i : Nat), (b ++ (a ++ l))[i]? = (a ++ (b ++ l))[if i < b.length then a.length + i else if i < b.length + a.length then i - b.length else i]? := fun a b l i => by
    by_cases h1 : i < b.length
    · rw [if_pos h1, List.getElem?_append_left h1, get_stk, List.getElem?_append_left h1]
    · rw [if_neg h1, List.getElem?_append_right (by omega)]
      by_cases h2 : i < b.length + a.length
      · rw [if_pos h2, List.getElem?_append_left (by omega), List.getElem?_append_left (by omega)]
      · rw [if_neg h2, List.getElem?_append_right (by omega), List.getElem?_append_right (by omega), List.getElem?_append_right (by omega)]
        congr 1
        omega
  refine R.perm (fun i => if i < b.length then a.length + i else if i < b.length + a.length then i - b.length else i) (by simp only [List.length_append]; omega) (fun i j x y h1 h2 h => ?_) (fun i sv h => ⟨?_, ?_⟩)
  · split at h <;> split at h <;> (try split at h) <;> (try split at h) <;> omega
  · rw [← val]; exact h
  · rw [val, ← ha, ← hb]
theorem wipe_get {σ : L2.St} : ∀ {vs : List Nat} {i : Nat}, (wipe σ vs)[i]? = if i ∈ vs ∧ i < σ.length then some none else σ[i]?
  | [], i => by simp [wipe]
  | v :: vs, i => by
    unfold wipe
    rw [List.getElem?_set, wipe_length]
    by_cases e : v = i
    · subst e
      by_cases h : v < σ.length
      · simp [h]
      · simp [h]
    · rw [if_neg e, wipe_get]
      have : i ≠ v := Ne.symm e
      simp [this]
theorem Agree.wipe {ts own : List Nat} {σ σ' : L2.St} (h : Agree ts (wipe σ own) σ') (hs : ∀ i ∈ ts, i ∈ own) : L2.wipe σ' own = L2.wipe σ own := by
  apply List.ext_getElem?
  intro i
  have hl : σ'.length = σ.length := by rw [h.1, wipe_length]
  rw [wipe_get, wipe_get, hl]
  by_cases c : i ∈ own ∧ i < σ.length
  · rw [if_pos c, if_pos c]
  · rw [if_neg c, if_neg c]
    by_cases hi : i ∈ own
    · have : ¬ i < σ.length := fun z => c ⟨hi, z⟩
      rw [List.getElem?_eq_none (by omega), List.getElem?_eq_none (by omega)]
    · rw [h.2 i (fun z => hi (hs i z)), wipe_get, if_neg c]
theorem lc_lift {K : PySem.W.Frag} {en : Ent} {Z : EX} {ts : List Nat} {own : List Nat} (hts : ∀ i ∈ ts, i ∈ own) {mi : TIm} {g : TGm} {mt : TTm} {me : TEm} {σ : L2.St} {H : Hp} {Q : VK} (h : liftE K en Z (mLc own mi g mt me) σ H Q) :
    tLc (liftI K en Z mi) (liftG K en noEx ts g) (liftT K en noEx mt) (liftE K en noEx me) own σ H Q := by
  obtain ⟨stk, vs, s, R, hl, r0, hm, hq⟩ := h
  refine ⟨stk, vs, s, _, hl, r0, hm, fun J H1 ds wt s1 src sv hsv r1 wk hz hf L hL => ?_⟩
  have hsl : (savedL s1.loc own).length = (savedL σ own).length := by rw [savedL_length, savedL_length]
  let T : List D → Loc' := fun acc => (some (.own (.lst acc)) :: savedL s1.loc own) ++ stk
  let V' : L2.St := (some (.ref L) :: savedL σ own) ++ vs
  have hT : ∀ acc, (T acc).length = V'.length := fun acc => by simp [T, V', hl, hsl]
  let P : List D → S → L2.St → Hp → Prop := fun acc s σ' H => Rel K en (src ++ (T acc ++ s.loc)) s.mem (sv ++ (V' ++ σ')) H
  -- the start
  have r2 : Rel K en (savedL s1.loc own ++ (src ++ (stk ++ wipeL s1.loc own))) s1.mem (savedL σ own ++ (sv ++ (vs ++ wipeL σ own))) H1 := by
    have := Rel.stashes (stk := src ++ stk) (vs := sv ++ vs) (by simp [hl, hsv]) (by rw [List.append_assoc, List.append_assoc]; exact r1) own
    simpa only [List.append_assoc] using this
  have r3 := (r2.swap hsl hsv)
  have r4 : Rel K en ([some (.own (.lst []))] ++ (src ++ (savedL s1.loc own ++ (stk ++ wipeL s1.loc own)))) s1.mem ([some (.ref L)] ++ (sv ++ (savedL σ own ++ (vs ++ wipeL σ own)))) (upd H1 L (.lst [])) :=
    r3.newOwn (o := .lst []) (w := .lst []) hL (Reps.nil)
  have r5 : P [] ⟨wipeL s1.loc own, s1.mem⟩ (wipeL σ own) (upd H1 L (.lst [])) := by
    have := r4.swap rfl hsv
    simpa only [P, T, V', List.append_assoc, List.cons_append, List.nil_append] using this
  let F : List D → S → Prop := fun acc s2 => R (.own (.lst acc)) ⟨backL s2.loc own (savedL s1.loc own), s2.mem⟩
  refine ⟨fun i n H => ∃ acc s, P acc s (wipeL σ own) H ∧ lcW own wt g mt me (ds.drop i) acc s F ∧ acc.length ≤ i ∧ i ≤ ds.length ∧ n = ds.length - i, ⟨ds.length, [], ⟨wipeL s1.loc own, s1.mem⟩, r5, hf, Nat.le_refl _, Nat.zero_le _, rfl⟩, ?_⟩
  rintro i n H ⟨acc, s, r, hf, hacc, hi, rfl⟩
  by_cases h : i < ds.length
  · rw [List.drop_eq_getElem_cons h] at hf
    obtain ⟨hw, hg⟩ := hf
    refine .inr ⟨wk.go i (T acc) V' s _ H (hT acc) r hw h, fun H' => ∃ acc s, P acc s (wipeL σ own) H' ∧ lcW own wt g mt me (ds.drop (i + 1)) acc s F ∧ acc.length ≤ i + 1, fun H' ⟨acc, s, r, hf, ha⟩ => ⟨ds.length - (i + 1), by omega, acc, s, r, hf, ha, h, rfl⟩, fun x H' hy => ?_⟩
    have ry := wk.yld i ds[i] (T acc) V' s _ H x H' (hT acc) r hw (List.getElem?_eq_getElem h) hy
    rw [wipeL_eq] at ry
    refine ⟨src ++ T acc, sv ++ V', s, ds[i], _, by simp only [List.length_append, hT acc, hsv], by simpa only [List.append_assoc] using ry, hg, fun σ2 H2 s2 ag r6 hm2 => ⟨ag.wipe hts, ?_⟩⟩
    have ag2 := ag.wipe hts
    refine ⟨src ++ T acc, sv ++ V', s2, _, by simp only [List.length_append, hT acc, hsv], r6, hm2, fun b H3 s3 r7 hb => ?_⟩
    -- forgetting the block's own names
    have clean : ∀ {acc : List D} {s : S} {H : Hp}, Rel K en (src ++ (T acc ++ s.loc)) s.mem (sv ++ (V' ++ σ2)) H → P acc ⟨wipeL s.loc own, s.mem⟩ (wipeL σ own) H := fun {acc s H} r => by
      have q := Rel.forgets (stk := src ++ T acc) (vs := sv ++ V') (by simp only [List.length_append, hT acc, hsv]) (by simpa only [List.append_assoc] using r) own
      rw [wipeL_eq σ2, ag2, ← wipeL_eq] at q
      show Rel K en (src ++ (T acc ++ wipeL s.loc own)) s.mem (sv ++ (V' ++ wipeL σ own)) H
      simpa only [List.append_assoc] using q
    cases b with
    | false =>
      simp only [Bool.false_eq_true, if_false] at hb ⊢
      exact ⟨acc, _, clean (by simpa only [List.append_assoc] using r7), hb, by omega⟩
    | true =>
      simp only [if_true] at hb ⊢
      refine ⟨src ++ T acc, sv ++ V', s3, _, by simp only [List.length_append, hT acc, hsv], r7, hb, fun y H4 z s4 r8 hk => ?_⟩
      have r9 := r8.frzTop
      have rz : Rep K (AvO en (src ++ (T acc ++ s4.loc)) s4.mem (sv ++ (V' ++ σ2))) H4 y z.frz := by
        have q := r9.top
        rw [List.append_assoc src (T acc) s4.loc, List.append_assoc sv V' σ2] at q
        exact q
      have r10 : Rel K en (src ++ (T acc ++ s4.loc)) s4.mem (sv ++ (V' ++ σ2)) H4 := by simpa only [List.append_assoc] using r9.pop
      have hix : (src ++ (T acc ++ s4.loc))[src.length + 0]? = some (some (.own (.lst acc))) := by rw [get_stk]; rfl
      have hiv : (sv ++ (V' ++ σ2))[src.length + 0]? = some (some (.ref L)) := by rw [hsv, get_stk]; rfl
      obtain ⟨v, e1, a, e2, o, ho, hw2⟩ := r10.at_ _ _ hix
      rw [hiv] at e1; cases e1; cases e2
      cases o with
      | lst us =>
        have hw3 : Reps K (AvO en (src ++ (T acc ++ s4.loc)) s4.mem (sv ++ (V' ++ σ2))) H4 us acc := hw2
        refine ⟨us, ho, by rw [hw3.length]; omega, acc ++ [z.frz], ⟨wipeL s4.loc own, s4.mem⟩, ?_, hk, by simp only [List.length_append, List.length_cons, List.length_nil]; omega⟩
        have r11 := r10.write (w' := .lst (acc ++ [z.frz])) (o := .lst (us ++ [y])) hix hiv (hw3.append (.cons rz .nil))
        rw [set_stk] at r11
        exact clean (acc := acc ++ [z.frz]) r11
      | _ => exact False.elim hw2
  · have e : i = ds.length := by omega
    subst e
    rw [List.drop_length] at hf
    refine .inl ⟨wk.stop (T acc) V' s _ H (hT acc) r hf.1, ?_⟩
    refine hq _ H _ ⟨backL s.loc own (savedL s1.loc own), s.mem⟩ ?_ hf.2
    have e1 : Rel K en ((src ++ [some (.own (.lst acc))]) ++ (savedL s1.loc own ++ (stk ++ s.loc))) s.mem ((sv ++ [some (.ref L)]) ++ (savedL σ own ++ (vs ++ wipeL σ own))) H := by
      simpa only [P, T, V', List.append_assoc, List.cons_append, List.nil_append] using r
    have e2 := e1.swap (by simp [hsv]) hsl
    have e3 := Rel.unstashes (stk := (src ++ [some (.own (.lst acc))]) ++ stk) (vs := (sv ++ [some (.ref L)]) ++ vs) (by simp [hsv, hl]) own (savedL_length own) (savedL_length own) (by simpa only [List.append_assoc] using e2)
    rw [backL_wipe] at e3
    have e4 : Rel K en (src ++ ([some (.own (.lst acc))] ++ (stk ++ backL s.loc own (savedL s1.loc own)))) s.mem (sv ++ ([some (.ref L)] ++ (vs ++ σ))) H := by simpa only [List.append_assoc] using e3
    exact (e4.swap hsv rfl).dropMid hsv
end Sf

set_option maxHeartbeats 4000000
set_option autoImplicit false
/-! Sf, ninth part: sources of walks, comprehensions as expressions, defs. -/
namespace Sf
open PySem PySem.Spec PyProof.Rows L2

section
variable {X : Cx} {tg l : Expr}
def iAny (K : PySem.W.Frag) (te : TE) : TI := fun σ H R => te σ H fun x H1 => (∃ a, x = .ref a ∧ (∃ xs, SqL K H1 a xs) ∧ R (Itl K a) H1) ∨ (∃ a, x = .ref a ∧ (∃ xs, SqT K H1 a xs) ∧ R (Itt K a) H1) ∨ ∃ z, x = .str z ∧ R (Its z) H1
theorem pi_any {te : TE} (he : PE X l te) : PI X tg l (iAny X.K te) := by
  refine ⟨fun pins s0 σ H R I0 h0 => thn (he.run pins s0 σ H _ I0 h0) fun v s1 hx => ?_⟩
  obtain ⟨x, H1, I1, r1, q1⟩ := hx
  have one : ∀ b, b ∈ [s1.heap.objs.size] → FpOk X pins H1 b := fun b hb => by
    have eb : b = s1.heap.objs.size := by simpa using hb
    rw [eb]; exact I1.fpOk (Nat.le_refl _) (I1.hok.fresh (Nat.le_refl _))
  rcases q1 with ⟨a, rfl, ⟨xs, hs⟩, q⟩ | ⟨a, rfl, ⟨xs, hs⟩, q⟩ | ⟨z, rfl, q⟩
  · cases r1; obtain ⟨its, rv, p, _⟩ := I1.list hs
    exact wpAny_pyIter_list p.isList ⟨_, [s1.heap.objs.size], _, _, H1, rfl, I1.kept (t' := s1.toks) (fun _ _ e => Heap.get?_push_of_some _ e), turn_list a _, ⟨_, Heap.get?_push_size _ rfl, rfl, rfl⟩, one, q⟩
  · cases r1; obtain ⟨its, rv, p, _⟩ := I1.tuple hs
    exact wpAny_pyIter_tuple (show s1.heap.IsTuple a its.toArray from p) ⟨_, [s1.heap.objs.size], _, _, H1, rfl, I1.kept (t' := s1.toks) (fun _ _ e => Heap.get?_push_of_some _ e), turn_tuple a _, ⟨_, Heap.get?_push_size _ rfl, rfl, rfl⟩, one, q⟩
  · obtain ⟨t, rfl⟩ := r1
    cases ha : z.cps.all (· < 128)
    · exact wpAny_pyIter_wide ha (pi_one (tk := s1.toks) I1 _ (turn_str _ z t "str_iterator" (.inr rfl)) ⟨_, Heap.get?_push_size _ rfl, rfl, rfl⟩ q)
    · exact wpAny_pyIter_ascii ha (pi_one (tk := s1.toks) I1 _ (turn_str _ z t "str_ascii_iterator" (.inl rfl)) ⟨_, Heap.get?_push_size _ rfl, rfl, rfl⟩ q)

/-- the items of a value that is walked -/
def chars (z : Str) : List D := z.cps.toList.map fun c => D.str ⟨#[c]⟩
def walkS (s : S) (b : B) (R : List D → (S → Prop) → S → Prop) : Prop := match b with
  | .val (.lst l) => R l (fun _ => True) s
  | .val (.tup l) => R l (fun _ => True) s
  | .val (.str z) => z.length ≤ sizeLine ∧ R (chars z) (fun _ => True) s
  | .val (.ref p) => match s.mem p with
    | some (.obj (.lst l)) => R l (fun t => t.mem p = some (.obj (.lst l))) s
    | _ => False
  | _ => False
def mSeqI (m : TBm) : TIm := fun s R Z => m s (fun b s1 => walkS s1 b R) Z
section
variable {K : PySem.W.Frag} {en : Ent}
theorem walk_lst {a : Addr} {ds : List D} : WalkD K en (Itl K a) [some (.val (.lst ds))] [some (.ref a)] ds (fun _ => True) := by
  have get : ∀ {stk : Loc'} {vs : L2.St} {s : S} {σ : L2.St} {H : Hp}, Rel K en ([some (.val (.lst ds))] ++ (stk ++ s.loc)) s.mem ([some (.ref a)] ++ (vs ++ σ)) H → ∃ us, H a = some (.lst us) ∧ Reps K (AvO en (stk ++ s.loc) s.mem (vs ++ σ)) H us ds := fun {stk vs s σ H} r => by
    have := Rel.top r
    cases this with
    | lst h1 h2 h3 => exact ⟨_, h1, h3⟩
  refine ⟨fun i stk vs s σ H hl r _ hi => ?_, fun stk vs s σ H hl r _ => ?_, fun i d stk vs s σ H x H' hl r _ hd y => ?_⟩
  · obtain ⟨us, h1, h2⟩ := get r
    obtain ⟨v, hv, _⟩ := h2.get (List.getElem?_eq_getElem hi)
    exact ⟨us, v, .inl (.inl h1), hv⟩
  · obtain ⟨us, h1, h2⟩ := get r
    exact ⟨us, .inl (.inl h1), by rw [h2.length]; exact Nat.le_refl _⟩
  · obtain ⟨us, h1, h2⟩ := get r
    obtain ⟨rfl, y2⟩ := y
    obtain ⟨v, hv, rv⟩ := h2.get hd
    rw [y2 us (.inl (.inl h1))] at hv; cases hv
    have ea : AvO en (stk ++ s.loc) s.mem (vs ++ σ) = AvO en ([some (.val (.lst ds))] ++ (stk ++ s.loc)) s.mem ([some (.ref a)] ++ (vs ++ σ)) := avO_congr fun b => ownAt_push.symm
    rw [ea] at rv
    exact r.push rv
theorem walk_tupD {a : Addr} {ds : List D} : WalkD K en (Itt K a) [some (.val (.tup ds))] [some (.ref a)] ds (fun _ => True) := by
  have get : ∀ {stk : Loc'} {vs : L2.St} {s : S} {σ : L2.St} {H : Hp}, Rel K en ([some (.val (.tup ds))] ++ (stk ++ s.loc)) s.mem ([some (.ref a)] ++ (vs ++ σ)) H → ∃ us, SqT K H a us ∧ Reps K (AvO en (stk ++ s.loc) s.mem (vs ++ σ)) H us ds := fun {stk vs s σ H} r => by
    obtain ⟨a', us, e, h1, h2⟩ := tupOf_rep (sv := .val (.tup ds)) (Rel.top r) rfl
    cases e
    exact ⟨us, h1, h2⟩
  refine ⟨fun i stk vs s σ H hl r _ hi => ?_, fun stk vs s σ H hl r _ => ?_, fun i d stk vs s σ H x H' hl r _ hd y => ?_⟩
  · obtain ⟨us, h1, h2⟩ := get r
    obtain ⟨v, hv, _⟩ := h2.get (List.getElem?_eq_getElem hi)
    exact ⟨us, v, h1, hv⟩
  · obtain ⟨us, h1, h2⟩ := get r
    exact ⟨us, h1, by rw [h2.length]; exact Nat.le_refl _⟩
  · obtain ⟨us, h1, h2⟩ := get r
    obtain ⟨rfl, y2⟩ := y
    obtain ⟨v, hv, rv⟩ := h2.get hd
    rw [y2 us h1] at hv; cases hv
    have ea : AvO en (stk ++ s.loc) s.mem (vs ++ σ) = AvO en ([some (.val (.tup ds))] ++ (stk ++ s.loc)) s.mem ([some (.ref a)] ++ (vs ++ σ)) := avO_congr fun b => ownAt_push.symm
    rw [ea] at rv
    exact r.push rv
theorem walk_mem {a : Addr} {ds : List D} : WalkD K en (Itl K a) [] [] ds (fun t => t.mem a = some (.obj (.lst ds))) := by
  have get : ∀ {stk : Loc'} {vs : L2.St} {s : S} {σ : L2.St} {H : Hp}, Rel K en ([] ++ (stk ++ s.loc)) s.mem ([] ++ (vs ++ σ)) H → s.mem a = some (.obj (.lst ds)) → ∃ us, H a = some (.lst us) ∧ Reps K (AvO en (stk ++ s.loc) s.mem (vs ++ σ)) H us ds := fun {stk vs s σ H} r w => by
    obtain ⟨o, h1, h2⟩ := (r.mem a _ w).1
    cases o with
    | lst us => exact ⟨us, h1, h2⟩
    | _ => exact False.elim h2
  refine ⟨fun i stk vs s σ H hl r w hi => ?_, fun stk vs s σ H hl r w => ?_, fun i d stk vs s σ H x H' hl r w hd y => ?_⟩
  · obtain ⟨us, h1, h2⟩ := get r w
    obtain ⟨v, hv, _⟩ := h2.get (List.getElem?_eq_getElem hi)
    exact ⟨us, v, .inl (.inl h1), hv⟩
  · obtain ⟨us, h1, h2⟩ := get r w
    exact ⟨us, .inl (.inl h1), by rw [h2.length]; exact Nat.le_refl _⟩
  · obtain ⟨us, h1, h2⟩ := get r w
    obtain ⟨rfl, y2⟩ := y
    obtain ⟨v, hv, rv⟩ := h2.get hd
    rw [y2 us (.inl (.inl h1))] at hv; cases hv
    exact Rel.push r rv
theorem walk_strD {z : Str} : WalkD K en (Its z) [] [] (chars z) (fun _ => True) := by
  refine ⟨fun i stk vs s σ H hl r w hi => ?_, fun stk vs s σ H hl r w => ?_, fun i d stk vs s σ H x H' hl r w hd y => ?_⟩
  · show i < z.cps.size
    simpa [chars] using hi
  · show z.cps.size ≤ (chars z).length
    simp [chars]
  · obtain ⟨rfl, c, hc, rfl⟩ := y
    have e : d = .str ⟨#[c]⟩ := by
      simp only [chars, List.getElem?_map, Array.getElem?_toList, hc, Option.map_some, Option.some.injEq] at hd
      exact hd.symm
    subst e
    exact Rel.push r (.str _)
theorem walk_rng {lo : Int} {n : Nat} : WalkD K en (Itr lo n) [] [] ((List.range n).map fun (i : Nat) => D.int (lo + i)) (fun _ => True) := by
  refine ⟨fun i stk vs s σ H hl r w hi => ?_, fun stk vs s σ H hl r w => ?_, fun i d stk vs s σ H x H' hl r w hd y => ?_⟩
  · show i < n
    simpa using hi
  · show n ≤ _
    simp
  · obtain ⟨rfl, rfl⟩ := y
    have e : d = .int (lo + i) := by
      rw [List.getElem?_map] at hd
      cases q : (List.range n)[i]? with
      | none => rw [q] at hd; cases hd
      | some j =>
        rw [q] at hd
        have : j = i := by
          have := List.getElem?_eq_some_iff.mp q
          obtain ⟨h1, h2⟩ := this
          simpa using h2.symm
        subst this
        exact (Option.some.inj hd).symm
    subst e
    exact Rel.push r (.int _)
end
theorem mi_seq {m : TBm} (h : MB X l m) : MI X tg l (mSeqI m) := fun en Z tk =>
  PI.imp (PI.inv (pi_any (h en Z tk))) fun σ H R ⟨stk, vs, s, Rm, hl, r0, hm, hq⟩ => ⟨stk, vs, s, _, hl, r0, hm, fun v H' b s' r1 b1 q => by
    unfold walkS at q
    split at q
    · rename_i ds
      have b2 : Rep X.K (AvO en (stk ++ s'.loc) s'.mem (vs ++ σ)) H' v (.lst ds) := b1
      cases b2 with
      | @lst a us _ h1 h2 h3 =>
        refine .inl ⟨a, rfl, ⟨us, .inl (.inl h1)⟩, fun hh ok => hq _ H' ds _ s' [some (.val (.lst ds))] [some (.ref a)] rfl (r1.push b1) walk_lst ?_ q⟩
        have := (ok a _ h1).1
        rwa [h3.length] at this
    · rename_i ds
      obtain ⟨a, us, rfl, h1, h2⟩ := tupOf_rep (sv := .val (.tup ds)) b1 rfl
      refine .inr (.inl ⟨a, rfl, ⟨us, h1⟩, fun hh ok => hq _ H' ds _ s' [some (.val (.tup ds))] [some (.ref a)] rfl (r1.push b1) walk_tupD ?_ q⟩)
      rcases h1 with h1 | ⟨o, its, n, _, _, _, hz, hv⟩
      · have := (h1.ok ok).1
        rwa [h2.length] at this
      · have e1 := hv.length
        rw [Array.length_toList] at e1
        rw [← h2.length]
        exact Nat.le_trans (Nat.le_of_eq e1) hz
    · rename_i z
      have b2 : Rep X.K (AvO en (stk ++ s'.loc) s'.mem (vs ++ σ)) H' v (.str z) := b1
      cases b2
      refine .inr (.inr ⟨z, rfl, fun hh ok => hq _ H' _ _ s' [] [] rfl r1 walk_strD (by simpa [chars, Str.length] using q.1) q.2⟩)
    · rename_i p
      have b2 : Rep X.K (AvO en (stk ++ s'.loc) s'.mem (vs ++ σ)) H' v (.ref p) := b1
      cases b2
      split at q
      · rename_i ds hds
        obtain ⟨o, h1, h2⟩ := (r1.mem p _ hds).1
        cases o with
        | lst us =>
          have h3 : Reps X.K (AvO en (stk ++ s'.loc) s'.mem (vs ++ σ)) H' us ds := h2
          refine .inl ⟨p, rfl, ⟨us, .inl (.inl h1)⟩, fun hh ok => hq _ H' ds _ s' [] [] rfl r1 walk_mem ?_ q⟩
          have := (ok p _ h1).1
          rwa [h3.length] at this
        | _ => exact False.elim h2
      · exact q.elim
    · exact q.elim⟩
/-- range(n), range(a, b) -/
def rngL (a b : Int) : List D := (List.range (b - a).toNat).map fun (i : Nat) => D.int (a + i)
def mRng1 (ma : TAm) : TIm := fun s R Z => ma s (fun bs s1 => valsOf bs fun ds => match ds with
  | [.int n] => -(2 ^ 62) ≤ n ∧ n ≤ 16777216 ∧ R (rngL 0 n) (fun _ => True) s1
  | _ => False) Z
def mRng2 (ma : TAm) : TIm := fun s R Z => ma s (fun bs s1 => valsOf bs fun ds => match ds with
  | [.int a, .int b] => -(2 ^ 62) ≤ a ∧ a < 2 ^ 62 ∧ -(2 ^ 62) ≤ b ∧ b < 2 ^ 62 ∧ (b - a).toNat ≤ 16777216 ∧ R (rngL a b) (fun _ => True) s1
  | _ => False) Z
theorem mi_rng1 {a : Expr} {ma : TAm} {p pos : Pos} (hg : Gl X "range") (hm : X.mg "range" = none) (ha : MA X [a] ma) (hs : starEach [a] X.env = [(false, eval a X.env)] := by rfl) : MI X tg (.Call (.Name "range" p) [a] [] pos) (mRng1 ma) := fun en Z tk =>
  PI.imp (pi_range1 hg hm (ha en Z tk) hs) fun σ H R ⟨stk, vs, s, Rm, hl, r0, hm, hq⟩ => ⟨stk, vs, s, _, hl, r0, hm, fun us H' bs s' r1 b1 q => by
    obtain ⟨ds, h1, h2⟩ := valsOf_reps b1 q
    split at h2
    · rename_i n
      cases h1 with
      | cons p1 t1 =>
        cases t1; cases p1
        have hz : sizeLine = 16777216 := sizeLine_eq
        have e : (n - 0).toNat = n.toNat := by rw [Int.sub_zero]
        refine ⟨n, rfl, h2.1, by omega, hq (Itr 0 n.toNat) H' (rngL 0 n) _ s' [] [] rfl r1 (by unfold rngL; rw [e]; exact walk_rng) (by simp [rngL]; omega) h2.2.2⟩
    · exact h2.elim⟩
theorem mi_rng2 {a b : Expr} {ma : TAm} {p pos : Pos} (hg : Gl X "range") (hm : X.mg "range" = none) (ha : MA X [a, b] ma) (hs : starEach [a, b] X.env = [(false, eval a X.env), (false, eval b X.env)] := by rfl) (hs2 : starEach [b] X.env = [(false, eval b X.env)] := by rfl) :
    MI X tg (.Call (.Name "range" p) [a, b] [] pos) (mRng2 ma) := fun en Z tk =>
  PI.imp (pi_range2 hg hm (ha en Z tk) hs hs2) fun σ H R ⟨stk, vs, s, Rm, hl, r0, hm, hq⟩ => ⟨stk, vs, s, _, hl, r0, hm, fun us H' bs s' r1 b1 q => by
    obtain ⟨ds, h1, h2⟩ := valsOf_reps b1 q
    split at h2
    · rename_i n m
      cases h1 with
      | cons p1 t1 =>
        cases t1 with
        | cons p2 t2 =>
          cases t2; cases p1; cases p2
          have hz : sizeLine = 16777216 := sizeLine_eq
          obtain ⟨g1, g2, g3, g4, g5, g6⟩ := h2
          exact ⟨n, m, rfl, ⟨g1, g2, g3, g4⟩, hq (Itr n (m - n).toNat) H' (rngL n m) _ s' [] [] rfl r1 walk_rng (by simp [rngL]; omega) g6⟩
    · exact h2.elim⟩

/-- [elt for target in iter if ..] -/
theorem me_lc {elt iter : Expr} {ifs : List Expr} {scope : Scope} {own : List (Str × Nat)} {pos : Pos} {mi : TIm} {g : TGm} {mt : TTm} {me : TEm} {ts : List Nat} (hc : X.calm = true) (hN : X.N.Nodup) (hi : MI X tg iter mi) (ok : BlkOk X.N X.env.scope scope own)
    (hg : ∀ (s : Shared) (H : Hp) (C : Addr) (cl : List (Str × Addr)) (fp : List Addr), MG (X.blk s H scope (compEnvC scope cl C X.env) fp) tg ts g) (ht : ∀ (s : Shared) (H : Hp) (C : Addr) (cl : List (Str × Addr)) (fp : List Addr), MTs (X.blk s H scope (compEnvC scope cl C X.env) fp) ifs mt)
    (he : ∀ (s : Shared) (H : Hp) (C : Addr) (cl : List (Str × Addr)) (fp : List Addr), ME (X.blk s H scope (compEnvC scope cl C X.env) fp) elt me) (hts : ∀ i ∈ ts, i ∈ own.map (·.2)) (hs : ∀ x, foldedSetIterable iter X.env x = pure x := by intro _; rfl) :
    ME X (.ListComp elt [⟨tg, iter, ifs, 0⟩] scope pos) (mLc (own.map (·.2)) mi g mt me) := fun en Z tk =>
  PE.imp (pe_lc hc hN (hi en Z tk) ok (fun s H C cl fp => hg s H C cl fp en noEx takes_no) (fun s H C cl fp => ht s H C cl fp en noEx takes_no) (fun s H C cl fp => he s H C cl fp en noEx takes_no) hs) fun σ H Q h => lc_lift hts h
/-- name = [..] on one line -/
theorem ms_setLc {i : Nat} {y : Str} {py spos : Pos} {elt iter : Expr} {ifs : List Expr} {scope : Scope} {own : List (Str × Nat)} {pos : Pos} {mi : TIm} {g : TGm} {mt : TTm} {me : TEm} {ts : List Nat} (frz : Bool) (hc : X.calm = true) (hN : X.N.Nodup) (hy : X.N[i]? = some y) (hyl : X.env.scope.names.lookup y = some .local)
    (hsw : swapsWith (.ListComp elt [⟨tg, iter, ifs, 0⟩] scope pos) (some (.Name y py)) spos.line X.env = pure true) (hi : MI X tg iter mi) (ok : BlkOk X.N X.env.scope scope own)
    (hg : ∀ (s : Shared) (H : Hp) (C : Addr) (cl : List (Str × Addr)) (fp : List Addr), MG (X.blk s H scope (compEnvC scope cl C X.env) fp) tg ts g) (ht : ∀ (s : Shared) (H : Hp) (C : Addr) (cl : List (Str × Addr)) (fp : List Addr), MTs (X.blk s H scope (compEnvC scope cl C X.env) fp) ifs mt)
    (he : ∀ (s : Shared) (H : Hp) (C : Addr) (cl : List (Str × Addr)) (fp : List Addr), ME (X.blk s H scope (compEnvC scope cl C X.env) fp) elt me) (hts : ∀ i ∈ ts, i ∈ own.map (·.2)) (hs : ∀ x, foldedSetIterable iter X.env x = pure x := by intro _; rfl) :
    MS X (.Assign [.Name y py] (.ListComp elt [⟨tg, iter, ifs, 0⟩] scope pos) spos) (if frz then mSetV i (mLc (own.map (·.2)) mi g mt me) else mSet i (mLc (own.map (·.2)) mi g mt me)) := by
  have base : ∀ (en : Ent) (Z : EX), Takes X (liftW X.K en Z) → PS X (.Assign [.Name y py] (.ListComp elt [⟨tg, iter, ifs, 0⟩] scope pos) spos) (tAsg (liftE X.K en Z (mLc (own.map (·.2)) mi g mt me)) (gName i)) := fun en Z tk =>
    PS.imp (ps_setLc hc hN hy hyl hsw (hi en Z tk) ok (fun s H C cl fp => hg s H C cl fp en noEx takes_no) (fun s H C cl fp => ht s H C cl fp en noEx takes_no) (fun s H C cl fp => he s H C cl fp en noEx takes_no) hs) fun D σ H h => lc_lift hts h
  cases frz with
  | true =>
      refine fun en Z tk => PS.imp (base en Z tk) fun D σ H h0 => ?_
      obtain ⟨stk, vs, s, E, hl, rfl, r0, hm, q1, _⟩ := h0
      have hm : mSetV i (mLc (own.map (·.2)) mi g mt me) E s := hm
      exact ⟨stk, vs, s, _, hl, r0, hm, fun v H' sv s' r q => q1 _ _ _ (r.frzTop.storeS hl) q⟩
  | false =>
      refine fun en Z tk => PS.imp (base en Z tk) fun D σ H h0 => ?_
      obtain ⟨stk, vs, s, E, hl, rfl, r0, hm, q1, _⟩ := h0
      have hm : mSet i (mLc (own.map (·.2)) mi g mt me) E s := hm
      exact ⟨stk, vs, s, _, hl, r0, hm, fun v H' sv s' r q => q1 _ _ _ (r.storeS hl) q⟩
end

/-! ### a def keeps its promise -/
def startL (N : List Str) (ds : List D) : Loc' := (ds.map fun d => some (.val d)) ++ List.replicate (N.length - ds.length) none
theorem Rel.pad {K : PySem.W.Frag} {en : Ent} {l : Loc'} {m : Mem} {σ : L2.St} {H : Hp} (R : Rel K en l m σ H) (n : Nat) : Rel K en (l ++ List.replicate n none) m (σ ++ List.replicate n none) H := by
  have hlen := R.len
  refine R.perm (fun i => i) (by simp [hlen]) (fun i j _ _ _ _ h => h) (fun i sv h => ?_)
  have hi : i < l.length := by
    by_cases hi : i < l.length
    · exact hi
    · rw [List.getElem?_append_right (by omega), List.getElem?_replicate] at h
      split at h <;> cases h
  rw [List.getElem?_append_left hi] at h
  exact ⟨h, by rw [List.getElem?_append_left (by omega)]⟩
def le_mem (m' m : Mem) : Prop := ∀ a o, m' a = some o → m a = some o
theorem fn_m {P : Program} {w : World} {K : PySem.W.Frag} {mg : Str → Option Value} {base : Heap} {x qual : Str} {st : Stmt} {f : Addr} {fd : FuncData} {N ps : List Str} {k : Nat} {sp : SpM} {mb : TSm} (F : Fun K x qual st f fd) (Sc : FnScope N ps (defScope st))
    (len : ∀ ds m R Z, sp ds m R Z → ds.length = ps.length)
    (hb : ∀ (cdv : Value) (A : Around) (outer : List Env) (s : Shared) (H : Hp) (E : XK), Room k (A.deeper (envOfC qual (defScope st) s.heap.objs.size f cdv)) → MSs (cxOf (L2.CX P w) P w K mg base N qual (defScope st) f cdv A outer s H E) (defBody st) mb)
    (hs : ∀ ds m R Z, sp ds m R Z → mb { nx := fun s => ∃ m', le_mem m' s.mem ∧ R (.val .non) m', rt := fun sv s => ∃ m', le_mem m' s.mem ∧ R sv m', ex := fun x s => ∃ m', le_mem m' s.mem ∧ Z x m' } ⟨startL N ds, m⟩) :
    FnOk P w K mg base (L2.CX P w) (k + 1) f fd ps (liftSp K sp) := by
  have lenV : ∀ vs H Q E, liftSp K sp vs H Q E → vs.length = ps.length := fun vs H Q E h => by
    obtain ⟨G, ds, m, R, Z, r, h, _⟩ := h
    have := r.len
    simp only [List.length_map] at this
    rw [this, len _ _ _ _ h]
  refine F.okX Sc lenV fun cdv A outer s H vs Q E hr h => ?_
  obtain ⟨G, ds, m, R, Z, r, h, hq, he⟩ := h
  have hlen : vs.length = ds.length := by simpa using r.len
  let en : Ent := ⟨G, fun b => m b ≠ none, H⟩
  refine ⟨_, hb cdv A outer s H E hr en (fun x s => ∃ m', le_mem m' s.mem ∧ Z x m') ?_, [], [], ⟨startL N ds, m⟩, _, rfl, rfl, ?_, hs ds m R Z h, fun σ' H' s' r' ⟨m', hm, q⟩ => ?_, fun v σ' H' sv s' r' ⟨m', hm, q⟩ => ?_, fun σ' H' s' r' q => q, fun σ' H' s' r' q => q⟩
  · refine (takes_of rfl rfl rfl rfl).imp fun cls d σ H' hw => ?_
    obtain ⟨s', x, r', hx, m', hm, hz⟩ := hw
    have r2 : Rel K en [] m' [] H' := by
      have q := r'.dropM hm
      have q2 : Rel K en (s'.loc ++ []) m' (σ ++ []) H' := by rw [List.append_nil, List.append_nil]; exact q
      exact q2.unstk r'.len.symm
    refine he cls d H' x m' r2 (hx.down fun b z => ?_) hz
    rcases z with z | ⟨i, o, h1, _⟩ | z
    · exact .inl z
    · simp at h1
    · refine .inr (.inr ?_)
      cases q : m' b with
      | none => exact absurd q z
      | some o => rw [hm b o q]; simp
  · have := r.pad (N.length - vs.length)
    show Rel K en (startL N ds) m (L2.start N vs) H
    unfold startL L2.start
    rw [← hlen]
    exact this
  · have r2 : Rel K en (s'.loc ++ []) m' (σ' ++ []) H' := by rw [List.append_nil, List.append_nil]; exact r'.dropM hm
    exact hq .non H' (.val .non) m' ((r2.unstk r'.len.symm).push .non) q
  · have r2 : Rel K en ([some sv] ++ (s'.loc ++ [])) m' ([some v] ++ (σ' ++ [])) H' := by rw [List.append_nil, List.append_nil]; exact Rel.dropM r' hm
    have hl2 : s'.loc.length = σ'.length := by have := r'.len; simp at this; omega
    exact hq v H' sv m' (Rel.dropMid hl2 r2) q
theorem le_mem.refl {m : Mem} : le_mem m m := fun _ _ h => h
/-- the program's def of that name keeps that promise, by at most k calls one in another -/
def Has (P : Program) (w : World) (K : PySem.W.Frag) (mg : Str → Option Value) (base : Heap) (x : Str) (k : Nat) (ps : List Str) (sp : SpM) : Prop :=
  ∃ (f : Addr) (fd : FuncData), mg x = some (.ref f) ∧ PySem.W.keepIn K (.ref f) = true ∧ Binds K fd ps [] ∧ FnOk P w K mg base (L2.CX P w) k f fd ps (liftSp K sp)
theorem Has.me {X : Cx} {x : Str} {k : Nat} {ps : List Str} {sp : SpM} {p pos : Pos} {e : Expr} {es : List Expr} {ma : TAm} (h : Has X.prog X.w X.K X.mg X.base x k ps sp) (hr : Room k X.A) (hg : Gl X x)
    (ha : MA X (e :: es) ma) (hdb : (x == ("__debug__" : Str)) = false := by decide) (he : starEach (e :: es) X.env = (false, eval e X.env) :: starEach es X.env := by rfl) (hpl : (backTo pos (starEach es X.env)).any (·.1) = false := by rfl) :
    ME X (.Call (.Name x p) (e :: es) [] pos) (mCall sp ma) := by
  obtain ⟨f, fd, h1, h2, h3, h4⟩ := h
  exact me_call h4 hr hg h1 h2 h3 ha hdb he hpl
end Sf

set_option maxHeartbeats 4000000
set_option autoImplicit false
/-! Sf: own exceptions whose __init__ says super().__init__(..) and keeps its arguments. -/
namespace Sf
open PySem PySem.Spec PySem.W PySem.Calls PyProof.Rows PySem.HandSPX

/-- what the written part says of a class of exceptions at C; its __init__, of the class at D, at fI -/
structure XOk (P : Program) (K : Frag) (mg : Str → Option Value) (C fI D cc cda : Addr) (fs : List Str) : Prop where
  cls : ∃ nm q N bs bm sn sub ab col dd k0 k1 k2 k3 k5, K.lookup C = some (excClassObj nm q C N bs bm true sn sub ab col dd k0 k1 k2 k3 k5 "ValueError.__new__") ∧ refsVE bm = true
  sup : ks_superIn K C D "__init__" = some (some (.builtin "ValueError.__init__"))
  sa : findIn K (.ref C) "__setattr__" = some (some (.builtin "object.__setattr__"))
  no : ∀ f ∈ fs, findIn K (.ref C) f = some none
  iC : findIn K (.ref C) "__init__" = some (some (.ref fI))
  tI : typeIn K (.ref fI) = some (.type "function")
  kC : keepIn K (.ref C) = true
  exC : subIn K (.ref C) (.type "BaseException") = some true
  veC : subIn K (.ref C) (.type "ValueError") = some true
  tyC : typeIn K (.ref C) = some (.type "type")
  subD : mroIn K C (.ref D) = some true
  clD : ∃ cd, clsIn K D = some cd
  cell : ∃ cl cld csl, K.lookup cc = some ⟨cl, cld, .cell (some (.ref D)), csl⟩
  code : ∃ ccl cdd ccs vs file tf, K.lookup cda = some ⟨ccl, cdd, .fields vs, ccs⟩ ∧ vs[2]? = some (.str file tf) ∧ ((P.main.file : Str) == file) = true
  opq : nsIn K cStatics "thirdparty.any" = some none
  nsup : mg "super" = none
  top : (P.main.scope.names.lookup ("super" : Str)).isSome = false

section
variable {prog : Program} {w : World} {A : Around} {E : Value → Shared → Prop} {R : Result → Shared → Prop} {s : Shared} {K : Frag} {mg mb : Str → Option Value} {C fI D cc cda : Addr} {fs : List Str}
/-- super().__init__(..): the exception's arguments are laid anew -/
theorem sup_call {q : Str} {scope : Scope} {p0 p1 p2 pos : Pos} {e : Expr} {rest : List Expr} {fd : FuncData} {ar : Arg} {oc : Value} {od : Option Addr} {osl : Array (Option Value)} {body : List Stmt} {m : Str → Option Value} {L x t0 : Addr} {us : List Value} {Q : Value → Shared → Prop}
    (T : XOk prog K mg C fI D cc cda fs) (X : K.In s.heap) (G : s.heap.Ns mainGlobals mg) (B : s.heap.Ns builtinsNs mb) (hB : ∀ y : Str, y ≠ "__name__" → mb y = bootBuiltins y) (hn : s.heap.Ns L m)
    (hf : K.lookup fI = some ⟨oc, od, .func fd, osl⟩) (hp : (fd.params.posonlyargs ++ fd.params.args).head? = some ar) (hv : m ar.arg = some (.ref x)) (hx : s.heap.get? x = some (excO C t0))
    (hks : scope.names.lookup ("super" : Str) = some .globalImplicit) (hkc : scope.names.lookup ("__class__" : Str) = some .free) (hka : scope.names.lookup ar.arg = some .local) (hk : scope.kind = .function)
    (ha : ∀ (s₁ : Shared) (Q₁ : List Value → Shared → Prop), s₁.heap.Ns L m → Q₁ us s₁ → wpAny (model prog w) A (spliced (backTo pos ((false, eval e (ksEnv q scope L fI (.ref cda) cc)) :: starEach rest (ksEnv q scope L fI (.ref cda) cc)))) Q₁ E s₁) (hus : us.length ≤ sizeLine)
    (hq : ∀ h' tk t1, (∀ b o, b ≠ x → s.heap.get? b = some o → h'.get? b = some o) → h'.get? x = some (excO C t1) → Q .none { s with heap := h', toks := tk })
    (he : starEach (e :: rest) (ksEnv q scope L fI (.ref cda) cc) = (false, eval e (ksEnv q scope L fI (.ref cda) cc)) :: starEach rest (ksEnv q scope L fI (.ref cda) cc) := by rfl) (hpl : (backTo pos (starEach rest (ksEnv q scope L fI (.ref cda) cc))).any (·.1) = false := by rfl)
    {pl : Sem Bool}
    (hev : eval (.Call (.Attribute (.Call (.Name "super" p0) [] [] p1) "__init__" p2) (e :: rest) [] pos) (ksEnv q scope L fI (.ref cda) cc) = (do
      let ov ← attributeBase (.Call (.Name "super" p0) [] [] p1) "__init__" (ksEnv q scope L fI (.ref cda) cc) (eval (.Call (.Name "super" p0) [] [] p1) (ksEnv q scope L fI (.ref cda) cc))
      standAt p2.atName
      let (f, first) ← holding [ov] (getMethod ov "__init__" pl)
      callWith pos f first (backTo pos (starEach (e :: rest) (ksEnv q scope L fI (.ref cda) cc))) []) := by rfl) :
    _root_.PySem.wpAt (model prog w) A (.func body (ksEnv q scope L fI (.ref cda) cc)) (eval (.Call (.Attribute (.Call (.Name "super" p0) [] [] p1) "__init__" p2) (e :: rest) [] pos) (ksEnv q scope L fI (.ref cda) cc)) Q E s := by
  obtain ⟨cdD, hD⟩ := T.clD
  obtain ⟨cl, cld, csl, hcell⟩ := T.cell
  obtain ⟨ccl, cdd, ccs, vs, file, tf, hcode, hvs, hfile⟩ := T.code
  obtain ⟨nm, qn, N, bs, bm, sn, sub, ab, col, dd, k0, k1, k2, k3, k5, hC, hbm⟩ := T.cls
  obtain ⟨hh, g, d, t, os⟩ := s
  refine ks_wpAt_MethodCall (pl := pl) ?_ hev
  obtain ⟨oD, hD1, hD2⟩ : ∃ oD, hh.get? D = some oD ∧ oD.data = .cls cdD := by
    unfold clsIn at hD
    split at hD
    · rename_i c d cd' sl ho
      cases hD
      exact ⟨_, X _ _ ho, rfl⟩
    · cases hD
  have I : InstAt hh x (excO C t0) C none := ⟨hx, rfl, rfl, trivial⟩
  refine ks_wpAt_super_base (env := ksEnv q scope L fI (.ref cda) cc) hks hkc (by decide) rfl (X _ _ hf) rfl hp rfl (X _ _ hcode) rfl hvs hfile T.top ?_
  refine ks_loadName_global hk hks (loadGlobal_builtin (env := ksEnv q scope L fI (.ref cda) cc) G T.nsup B ((hB _ (by decide +kernel)).trans (by rfl)) ⟨rfl, ?_⟩)
  refine wpAny_loadName_free hk hkc rfl ⟨_, X _ _ hcell, rfl⟩ ?_
  refine wpAny_loadName_local hk hka hn hv ?_
  refine ks_wpAny_isType_cls hD1 hD2 ⟨rfl, ?_⟩
  refine ks_wpAny_call_super hD1 hD2 I.at_ I.cls (fun c e => by cases e) (looks_mroIn X T.subD) (fun h1 e1 kk1 => ?_)
  have X1 : K.In h1 := X.keeps kk1
  have hx1 := kk1 _ _ hx
  have I1 : InstAt h1 x (excO C t0) C none := ⟨hx1, rfl, rfl, trivial⟩
  have hI : Looks (model prog w) h1 (isInstance (.ref x) (.type "ValueError")) true := I1.type.andThen (looks_subIn X1 T.veC)
  cases hc : clsIn K C with
  | none =>
    have z := T.sup
    unfold ks_superIn at z
    rw [hc] at z
    cases z
  | some cd =>
    have z := T.sup
    unfold ks_superIn at z
    rw [hc] at z
    refine kxs_getMethod (l₀ := cd.mro) kxs_ValueError e1 (looks_opaque X1 T.opq) (fun A Q E s k q => wpAny_bind ((looks_clsIn X1 hc) A _ E s k (wpAny_pure q))) rfl X1 z hI (ks_ne X1 I1 hc) (by decide) ?_
    have kp : ∀ b o, h1.get? b = some o → (h1.push (kxs_mw "ValueError.__init__" x)).get? b = some o := fun b o e => Heap.get?_push_of_some _ e
    have hu : (h1.push (kxs_mw "ValueError.__init__" x)).get? h1.objs.size = some (kxs_mw "ValueError.__init__" x) := Heap.get?_push_at rfl rfl
    show wpAny (model prog w) A (callWith pos (.ref h1.objs.size) [] (backTo pos (starEach (e :: rest) (ksEnv q scope L fI (.ref cda) cc))) []) Q E _
    have hn2 : (h1.push (kxs_mw "ValueError.__init__" x)).Ns L m := hn.keeps fun b o e => kp _ _ (kk1 _ _ e)
    have hx2 := kp _ _ hx1
    have hC2 := kp _ _ (kk1 _ _ (X _ _ hC))
    rw [he]
    refine kxs_callWith (i := "ValueError.__init__") (x := x) (by show (false || (backTo pos (starEach rest (ksEnv q scope L fI (.ref cda) cc))).any (·.1)) = false; rw [hpl]; rfl) (evalArgs_plain ?_)
    refine ha _ _ hn2 ⟨hu, ?_⟩
    show wpAny (model prog w) A (call (.ref h1.objs.size) ([] ++ us) []) Q E _
    refine wpAny_call (codeAny_of_tree ?_)
    show wpAny _ A.in1 (callAny (.ref h1.objs.size) ⟨us, []⟩) _ _ _
    simp only [callAny]
    refine wpAny_bind (wpAny_load hu ?_)
    simp only [kxs_mw, show (Value.type "method-wrapper" == Value.type "method" || Value.type "method-wrapper" == Value.type "builtin_function_or_method" || Value.type "method-wrapper" == Value.type "method-wrapper") = true by decide, if_true]
    refine KFB.if_so (by decide) ?_
    refine wpAny_bind (check_bound_init F.excBase_ValueError.toExcCallFacts hC2 hx2 rfl ?_)
    refine wpAny_bind (wpAny_pure (wpAny_pure ?_))
    refine ⟨plainId_quiet F.excBase_ValueError.init.plain _, codeAny_builtin F.excBase_ValueError.initEntry ?_⟩
    refine exc_init_tree (cls := .ref C) (t0 := t0) (dv := none) (c2 := .none) (c3 := .none) (b4 := .bool false) hx2 hus fun h' k' e' t' => ?_
    exact hq h' _ _ (fun b o hb eb => k' b o hb (kp _ _ (kk1 _ _ eb))) e'
end
/-- the names of such an __init__ -/
structure XScope (sc : Scope) (fs : List Str) : Prop where
  kind : sc.kind = .function
  su : sc.names.lookup ("super" : Str) = some .globalImplicit
  cl : sc.names.lookup ("__class__" : Str) = some .free
  self : sc.names.lookup ("self" : Str) = some .local
  loc : ∀ f ∈ fs, sc.names.lookup f = some .local
  dbg : ∀ f ∈ fs, (f == ("__debug__" : Str)) = false
  co : sc.isCoroutine = false
  gen : sc.isGenerator = false
  nc : ∀ y ∈ sc.names, y.2 ≠ .cell
def supE (p0 p1 p2 p3 : Pos) (es : List Expr) : Expr := .Call (.Attribute (.Call (.Name "super" p0) [] [] p1) "__init__" p2) es [] p3
def keepS (f : Str) (q1 q2 q3 q4 : Pos) : Stmt := .Assign [.Attribute (.Name "self" q1) f q2] (.Name f q3) q4
/-- super().__init__(..), written on one line -/
theorem sup_ev {p0 p1 p2 p3 : Pos} {es : List Expr} {env : Env} (hp : (p2.endLine == p3.line) = true) (hf : methodCallForm es.length (backTo p3 (starEach es env)) [] = true) :
    eval (supE p0 p1 p2 p3 es) env = (do
      let ov ← attributeBase (.Call (.Name "super" p0) [] [] p1) "__init__" env (eval (.Call (.Name "super" p0) [] [] p1) env)
      standAt p2.atName
      let (f, first) ← holding [ov] (getMethod ov "__init__" (do return (← importBound (.Call (.Name "super" p0) [] [] p1) env).getD true))
      callWith p3 f first (backTo p3 (starEach es env)) []) := by
  show (do
      let ov ← attributeBase (.Call (.Name "super" p0) [] [] p1) "__init__" env (eval (.Call (.Name "super" p0) [] [] p1) env)
      standAt p2.atName
      methodCall (.Call (.Name "super" p0) [] [] p1) "__init__" p2 p3 env ov es.length (backTo p3 (starEach es env)) []) = _
  have e1 : ∀ o, methodCallPos true o env p2 p3 = pure p3 := fun o => by
    unfold methodCallPos
    rw [if_pos (by simp [hp])]
  unfold methodCall calleeOf
  rw [hf]
  simp only [e1, if_true, pure_bind]
theorem ld_self {M : Model} {A : Around} {E : Value → Shared → Prop} {s : Shared} {env : Env} {m : Str → Option Value} {x : Str} {pos : Pos} {v : Value} {Q : Value → Shared → Prop} (hk : env.scope.kind = .function) (hl : env.kindOf x = some .local) (hn : s.heap.Ns env.locals m) (hv : m x = some v) (hd : (x == ("__debug__" : Str)) = false) (h : Q v s) :
    wpAny M A (eval (.Name x pos) env) Q E s := wpAny_Name (wpAny_loadName_local hk hl hn hv h) hd
section
variable {prog : Program} {w : World} {A : Around} {R : Result → Shared → Prop} {s : Shared} {K : Frag} {mg mb : Str → Option Value} {C fI D cc cda : Addr}
/-- what such an __init__ leaves of the fresh exception at x -/
structure XEnd (h h' : Heap) (x C dx t1 : Addr) (m : Str → Option Value) : Prop where
  keep : ∀ b o, b ≠ x → h.get? b = some o → h'.get? b = some o
  obj : h'.get? x = some { cls := .ref C, dict := some dx, data := .fields #[.ref t1, .none, .none, .none, .bool false, .none] }
  big : h.objs.size ≤ dx
  ne : dx ≠ x
  ns : h'.Ns1 dx m
theorem init1 {name qual : Str} {params : Arguments} {scope : Scope} {doc pm ct oc : Value} {an od : Option Addr} {osl : Array (Option Value)} {f : Str} {ar : Arg} {p0 p1 p2 p3 p4 n1 q1 q2 q3 q4 : Pos} {x t0 : Addr} {v : Value}
    (T : XOk prog K mg C fI D cc cda [f]) (X : K.In s.heap) (G : s.heap.Ns mainGlobals mg) (B : s.heap.Ns builtinsNs mb) (hB : ∀ y : Str, y ≠ "__name__" → mb y = bootBuiltins y) (hlim : s.heap.NoLimit)
    (hf : K.lookup fI = some ⟨oc, od, .func (ksFn name qual params [.Expr (supE p0 p1 p2 p3 [.Name f n1]) p4, keepS f q1 q2 q3 q4] scope .none .none doc pm an (.ref cda) ct cc), osl⟩) (hcd : codeIn K (.ref cda) qual = true)
    (S : XScope scope [f]) (har : (params.posonlyargs ++ params.args).head? = some ar) (hself : ar.arg = "self") (hne : f ≠ "self") (hroom : A.depth < recursionLimit) (hpos : (p2.endLine == p3.line) = true)
    (hb : BindsTo s (ksFn name qual params [.Expr (supE p0 p1 p2 p3 [.Name f n1]) p4, keepS f q1 q2 q3 q4] scope .none .none doc pm an (.ref cda) ct cc) ⟨[.ref x, v], []⟩ [("self", .ref x), (f, v)])
    (hx : s.heap.get? x = some (excO C t0)) (hnx : K.lookup x = none)
    (hq : ∀ h' tk dx t1, XEnd s.heap h' x C dx t1 (fun y => if y = f then some v else none) → R (.ok (.ret .none)) { s with heap := h', toks := tk }) :
    codeAny (model prog w) A (.call (.ref fI) ⟨[.ref x, v], []⟩) R s := by
  have Sl := S.loc f (by simp)
  have Sd := S.dbg f (by simp)
  refine ks_codeAny_call_defAt (binds := [("self", .ref x), (f, v)]) hroom (X _ _ hf) rfl hlim (codeRec_of X hcd) rfl hb S.nc (fun y hy => ?_) (fun h0 hns kk => ?_) S.co S.gen S.kind
  · rcases List.mem_cons.mp hy with rfl | hy
    · exact S.self
    · rcases List.mem_cons.mp hy with rfl | hy
      · exact Sl
      · cases hy
  · have ms : (fun y : Str => [(("self" : Str), Value.ref x), (f, v)].reverse.lookup y) "self" = some (.ref x) := by
      have q : (("self" : Str) == f) = false := by simpa using Ne.symm hne
      simp [List.lookup, q]
    have mf : (fun y : Str => [(("self" : Str), Value.ref x), (f, v)].reverse.lookup y) f = some v := by simp [List.lookup]
    have X0 := X.keeps kk
    have hx0 := kk _ _ hx
    show _root_.PySem.wpAt (model prog w) (A.deeper (ksEnv qual scope s.heap.objs.size fI (.ref cda) cc)) (.func _ (ksEnv qual scope s.heap.objs.size fI (.ref cda) cc)) (execs [.Expr (supE p0 p1 p2 p3 [.Name f n1]) p4, keepS f q1 q2 q3 q4] (ksEnv qual scope s.heap.objs.size fI (.ref cda) cc)) _ _ _
    refine ks_wpAt_execs_cons (ks_wpAt_Expr_any (hi := by show interactive _ = false; unfold interactive; simp [S.kind]) ?_)
    refine sup_call (hev := sup_ev hpos rfl) (us := [v]) (mb := mb) (m := fun y => [(("self" : Str), Value.ref x), (f, v)].reverse.lookup y) T X0 (G.keeps kk) (B.keeps kk) hB hns hf har (by rw [hself]; exact ms) hx0 S.su S.cl (by rw [hself]; exact S.self) S.kind
      (fun s1 Q1 hn q => ?_) (by show 1 ≤ sizeLine; rw [sizeLine_eq]; decide) (fun h1 tk1 t1 k1 e1 => ?_)
    · show wpAny _ _ (spliced ((false, eval (.Name f n1) (ksEnv qual scope s.heap.objs.size fI (.ref cda) cc)) :: backTo p3 [])) _ _ _
      refine Calls.spliced_cons (ld_self S.kind Sl hn mf Sd ?_)
      exact Calls.spliced_nil q
    · have xL : x < s.heap.objs.size := Heap.lt_size hx
      have k1' : ∀ b o, b ≠ x → h0.get? b = some o → h1.get? b = some o := k1
      have hn1 : h1.Ns s.heap.objs.size (fun y => [(("self" : Str), Value.ref x), (f, v)].reverse.lookup y) := by
        obtain ⟨oL, es, ep, hL, r⟩ := hns
        exact ⟨oL, es, ep, k1' _ _ (Nat.ne_of_gt xL) hL, r⟩
      obtain ⟨nm, qn, N, bs, bm, sn, sub, ab, col, dd, c0, c1, c2, c3, c5, hC, hbm⟩ := T.cls
      have hcl : clsIn K C = some { name := nm, bases := bs, mro := .ref C :: bm, ns := N, qualname := qn, hasDict := true, slotNames := sn, subclasses := sub, abstract := ab, collection := col, hasDel := false } := by unfold clsIn; rw [hC] <;> rfl
      have X1 : K.In h1 := fun b o e => k1' b o (fun z => by rw [z, hnx] at e; cases e) (X0 b o e)
      show _root_.PySem.wpAt _ _ _ (execs [keepS f q1 q2 q3 q4] _) _ _ _
      refine wpAt_of_wpAny (wpAny_execs_cons (plainObj_wpAny_Assign_Attribute (ld_self S.kind Sl hn1 mf Sd (ld_self S.kind S.self hn1 ms (by decide) ?_))))
      refine set_plain X1 (ox := excO C t1) (od := none) ⟨e1, rfl, rfl, trivial⟩ T.sa ?_
      refine exc_osa X1 e1 hcl (show refsVE (.ref C :: bm) = true from hbm) rfl (T.no f (by simp)) (fun h3 tk3 dx k3 dn dne hx3 hn3 => ?_)
      show wpAny _ _ (execs _ _) _ _ _
      have z : s.heap.objs.size < h1.objs.size := hn1.lt
      exact wpAny_execs_nil (hq h3 tk3 dx t1 ⟨fun b o hb e => k3 b o hb (k1' b o hb (kk b o e)), hx3, Nat.le_of_lt (Nat.lt_of_lt_of_le z dn), dne, hn3⟩)
theorem init2 {name qual : Str} {params : Arguments} {scope : Scope} {doc pm ct oc : Value} {an od : Option Addr} {osl : Array (Option Value)} {f g : Str} {ar : Arg} {p0 p1 p2 p3 p4 n1 n2 q1 q2 q3 q4 r1 r2 r3 r4 : Pos} {x t0 : Addr} {v u : Value}
    (T : XOk prog K mg C fI D cc cda [f, g]) (X : K.In s.heap) (G : s.heap.Ns mainGlobals mg) (B : s.heap.Ns builtinsNs mb) (hB : ∀ y : Str, y ≠ "__name__" → mb y = bootBuiltins y) (hlim : s.heap.NoLimit)
    (hf : K.lookup fI = some ⟨oc, od, .func (ksFn name qual params [.Expr (supE p0 p1 p2 p3 [.Name f n1, .Name g n2]) p4, keepS f q1 q2 q3 q4, keepS g r1 r2 r3 r4] scope .none .none doc pm an (.ref cda) ct cc), osl⟩) (hcd : codeIn K (.ref cda) qual = true)
    (S : XScope scope [f, g]) (har : (params.posonlyargs ++ params.args).head? = some ar) (hself : ar.arg = "self") (hne : f ≠ "self") (hne2 : g ≠ "self") (hfg : f ≠ g) (hroom : A.depth < recursionLimit) (hpos : (p2.endLine == p3.line) = true)
    (hb : BindsTo s (ksFn name qual params [.Expr (supE p0 p1 p2 p3 [.Name f n1, .Name g n2]) p4, keepS f q1 q2 q3 q4, keepS g r1 r2 r3 r4] scope .none .none doc pm an (.ref cda) ct cc) ⟨[.ref x, v, u], []⟩ [("self", .ref x), (f, v), (g, u)])
    (hx : s.heap.get? x = some (excO C t0)) (hnx : K.lookup x = none)
    (hq : ∀ h' tk dx t1, XEnd s.heap h' x C dx t1 (fun y => if y = g then some u else if y = f then some v else none) → R (.ok (.ret .none)) { s with heap := h', toks := tk }) :
    codeAny (model prog w) A (.call (.ref fI) ⟨[.ref x, v, u], []⟩) R s := by
  have Sl := S.loc f (by simp)
  have Sd := S.dbg f (by simp)
  have Sl2 := S.loc g (by simp)
  have Sd2 := S.dbg g (by simp)
  refine ks_codeAny_call_defAt (binds := [("self", .ref x), (f, v), (g, u)]) hroom (X _ _ hf) rfl hlim (codeRec_of X hcd) rfl hb S.nc (fun y hy => ?_) (fun h0 hns kk => ?_) S.co S.gen S.kind
  · rcases List.mem_cons.mp hy with rfl | hy
    · exact S.self
    · rcases List.mem_cons.mp hy with rfl | hy
      · exact Sl
      · rcases List.mem_cons.mp hy with rfl | hy
        · exact Sl2
        · cases hy
  · have ms : (fun y : Str => [(("self" : Str), Value.ref x), (f, v), (g, u)].reverse.lookup y) "self" = some (.ref x) := by
      have q : (("self" : Str) == f) = false := by simpa using Ne.symm hne
      have q2 : (("self" : Str) == g) = false := by simpa using Ne.symm hne2
      simp [List.lookup, q, q2]
    have mf : (fun y : Str => [(("self" : Str), Value.ref x), (f, v), (g, u)].reverse.lookup y) f = some v := by
      have q : (f == g) = false := by simpa using hfg
      simp [List.lookup, q]
    have mg' : (fun y : Str => [(("self" : Str), Value.ref x), (f, v), (g, u)].reverse.lookup y) g = some u := by simp [List.lookup]
    have X0 := X.keeps kk
    have hx0 := kk _ _ hx
    show _root_.PySem.wpAt (model prog w) (A.deeper (ksEnv qual scope s.heap.objs.size fI (.ref cda) cc)) (.func _ (ksEnv qual scope s.heap.objs.size fI (.ref cda) cc)) (execs [.Expr (supE p0 p1 p2 p3 [.Name f n1, .Name g n2]) p4, keepS f q1 q2 q3 q4, keepS g r1 r2 r3 r4] (ksEnv qual scope s.heap.objs.size fI (.ref cda) cc)) _ _ _
    refine ks_wpAt_execs_cons (ks_wpAt_Expr_any (hi := by show interactive _ = false; unfold interactive; simp [S.kind]) ?_)
    refine sup_call (hev := sup_ev hpos rfl) (us := [v, u]) (mb := mb) (m := fun y => [(("self" : Str), Value.ref x), (f, v), (g, u)].reverse.lookup y) T X0 (G.keeps kk) (B.keeps kk) hB hns hf har (by rw [hself]; exact ms) hx0 S.su S.cl (by rw [hself]; exact S.self) S.kind
      (fun s1 Q1 hn q => ?_) (by show 2 ≤ sizeLine; rw [sizeLine_eq]; decide) (fun h1 tk1 t1 k1 e1 => ?_)
    · show wpAny _ _ (spliced ((false, eval (.Name f n1) (ksEnv qual scope s.heap.objs.size fI (.ref cda) cc)) :: backTo p3 [(false, eval (.Name g n2) (ksEnv qual scope s.heap.objs.size fI (.ref cda) cc))])) _ _ _
      refine Calls.spliced_cons (ld_self S.kind Sl hn mf Sd ?_)
      exact Calls.spliced_cons (ld_self S.kind Sl2 hn mg' Sd2 (Calls.spliced_nil q))
    · have xL : x < s.heap.objs.size := Heap.lt_size hx
      have k1' : ∀ b o, b ≠ x → h0.get? b = some o → h1.get? b = some o := k1
      have hn1 : h1.Ns s.heap.objs.size (fun y => [(("self" : Str), Value.ref x), (f, v), (g, u)].reverse.lookup y) := by
        obtain ⟨oL, es, ep, hL, r⟩ := hns
        exact ⟨oL, es, ep, k1' _ _ (Nat.ne_of_gt xL) hL, r⟩
      obtain ⟨nm, qn, N, bs, bm, sn, sub, ab, col, dd, c0, c1, c2, c3, c5, hC, hbm⟩ := T.cls
      have hcl : clsIn K C = some { name := nm, bases := bs, mro := .ref C :: bm, ns := N, qualname := qn, hasDict := true, slotNames := sn, subclasses := sub, abstract := ab, collection := col, hasDel := false } := by unfold clsIn; rw [hC] <;> rfl
      have X1 : K.In h1 := fun b o e => k1' b o (fun z => by rw [z, hnx] at e; cases e) (X0 b o e)
      show _root_.PySem.wpAt _ _ _ (execs [keepS f q1 q2 q3 q4, keepS g r1 r2 r3 r4] _) _ _ _
      refine wpAt_of_wpAny (wpAny_execs_cons (plainObj_wpAny_Assign_Attribute (ld_self S.kind Sl hn1 mf Sd (ld_self S.kind S.self hn1 ms (by decide) ?_))))
      refine set_plain X1 (ox := excO C t1) (od := none) ⟨e1, rfl, rfl, trivial⟩ T.sa ?_
      refine exc_osa X1 e1 hcl (show refsVE (.ref C :: bm) = true from hbm) rfl (T.no f (by simp)) (fun h3 tk3 dx k3 dn dne hx3 hn3 => ?_)
      have z : s.heap.objs.size < h1.objs.size := hn1.lt
      have X3 : K.In h3 := fun b o e => k3 b o (fun z => by rw [z, hnx] at e; cases e) (X1 b o e)
      have hn4 : h3.Ns s.heap.objs.size (fun y => [(("self" : Str), Value.ref x), (f, v), (g, u)].reverse.lookup y) := by
        obtain ⟨oL, es, ep, hL, r⟩ := hn1
        exact ⟨oL, es, ep, k3 _ _ (Nat.ne_of_gt xL) hL, r⟩
      show wpAny _ _ (execs [keepS g r1 r2 r3 r4] _) _ _ _
      refine wpAny_execs_cons (plainObj_wpAny_Assign_Attribute (ld_self S.kind Sl2 hn4 mg' Sd2 (ld_self S.kind S.self hn4 ms (by decide) ?_)))
      have hw : Within (fun y => if y = f then some v else none) [f] := fun y hy => by
        by_cases e : y = f
        · simp [e]
        · exact absurd (if_neg e) hy
      obtain ⟨oD, _, _, hoD, _, _⟩ := hn3.count hw
      refine set_plain X3 (ox := { cls := .ref C, dict := some dx, data := .fields #[.ref t1, .none, .none, .none, .bool false, .none] }) (od := some oD) ⟨hx3, rfl, rfl, hoD⟩ T.sa ?_
      refine PySem.OEX.osa_old X3 hx3 hn3 hw (by show 1 ≤ 1000; decide) hcl (show refsVE (.ref C :: bm) = true from hbm) rfl (T.no g (by simp)) (fun h5 tk5 k5 hn5 => ?_)
      show wpAny _ _ (execs _ _) _ _ _
      have old : ∀ b o, b ≠ x → s.heap.get? b = some o → h3.get? b = some o := fun b o hb e => k3 b o hb (k1' b o hb (kk b o e))
      have bd : s.heap.objs.size ≤ dx := Nat.le_of_lt (Nat.lt_of_lt_of_le z dn)
      have nd : ∀ b o, s.heap.get? b = some o → b ≠ dx := fun b o e => Nat.ne_of_lt (Nat.lt_of_lt_of_le (Heap.lt_size e) bd)
      exact wpAny_execs_nil (hq h5 tk5 dx t1 ⟨fun b o hb e => k5 b o (nd b o e) (old b o hb e), k5 _ _ (Ne.symm dne) hx3, bd, dne, hn5⟩)
end

theorem lookup_if {α : Type} (f y : Str) (v : α) (l : List (Str × α)) : List.lookup y ((f, v) :: l) = if y = f then some v else List.lookup y l := by
  by_cases h : y = f
  · subst h
    simp [List.lookup]
  · have e : (y == f) = false := by simpa using h
    rw [if_neg h]
    simp [List.lookup, e]
/-- such an __init__, as it is called -/
def XInit (P : Program) (w : World) (K : Frag) (mg : Str → Option Value) (C fI : Addr) (fs : List Str) : Prop :=
  ∀ (A : Around) (R : Result → Shared → Prop) (s : Shared) (mb : Str → Option Value) (x t0 : Addr) (us : List Value), K.In s.heap → s.heap.Ns mainGlobals mg → s.heap.Ns builtinsNs mb → (∀ y : Str, y ≠ "__name__" → mb y = bootBuiltins y) → s.heap.NoLimit →
    s.heap.get? x = some (excO C t0) → K.lookup x = none → A.depth < recursionLimit → us.length = fs.length →
    (∀ h' tk dx t1 m, XEnd s.heap h' x C dx t1 m → (∀ y, m y = (fs.zip us).lookup y) → R (.ok (.ret .none)) { s with heap := h', toks := tk }) → codeAny (model P w) A (.call (.ref fI) ⟨.ref x :: us, []⟩) R s
section
variable {P : Program} {w : World} {K : Frag} {mg : Str → Option Value} {C fI D cc cda : Addr} {name qual : Str} {params : Arguments} {scope : Scope} {doc pm ct oc : Value} {an od : Option Addr} {osl : Array (Option Value)} {f g : Str} {ar : Arg} {p0 p1 p2 p3 p4 n1 n2 q1 q2 q3 q4 r1 r2 r3 r4 : Pos}
theorem xinit1 (T : XOk P K mg C fI D cc cda [f])
    (hf : K.lookup fI = some ⟨oc, od, .func (ksFn name qual params [.Expr (supE p0 p1 p2 p3 [.Name f n1]) p4, keepS f q1 q2 q3 q4] scope .none .none doc pm an (.ref cda) ct cc), osl⟩) (hcd : codeIn K (.ref cda) qual = true)
    (S : XScope scope [f]) (har : (params.posonlyargs ++ params.args).head? = some ar) (hself : ar.arg = "self") (hne : f ≠ "self") (hpos : (p2.endLine == p3.line) = true)
    (hb : ∀ (s : Shared) (x : Addr) (v : Value), BindsTo s (ksFn name qual params [.Expr (supE p0 p1 p2 p3 [.Name f n1]) p4, keepS f q1 q2 q3 q4] scope .none .none doc pm an (.ref cda) ct cc) ⟨[.ref x, v], []⟩ [("self", .ref x), (f, v)]) : XInit P w K mg C fI [f] :=
  fun A R s mb x t0 us X G B hB hlim hx hnx hroom hl hq => by
    match us, hl with
    | [v], _ =>
      exact init1 T X G B hB hlim hf hcd S har hself hne hroom hpos (hb s x v) hx hnx fun h' tk dx t1 E => hq h' tk dx t1 _ E fun y => by
        show _ = List.lookup y [(f, v)]
        rw [lookup_if]
        rfl
theorem xinit2 (T : XOk P K mg C fI D cc cda [f, g])
    (hf : K.lookup fI = some ⟨oc, od, .func (ksFn name qual params [.Expr (supE p0 p1 p2 p3 [.Name f n1, .Name g n2]) p4, keepS f q1 q2 q3 q4, keepS g r1 r2 r3 r4] scope .none .none doc pm an (.ref cda) ct cc), osl⟩) (hcd : codeIn K (.ref cda) qual = true)
    (S : XScope scope [f, g]) (har : (params.posonlyargs ++ params.args).head? = some ar) (hself : ar.arg = "self") (hne : f ≠ "self") (hne2 : g ≠ "self") (hfg : f ≠ g) (hpos : (p2.endLine == p3.line) = true)
    (hb : ∀ (s : Shared) (x : Addr) (v u : Value), BindsTo s (ksFn name qual params [.Expr (supE p0 p1 p2 p3 [.Name f n1, .Name g n2]) p4, keepS f q1 q2 q3 q4, keepS g r1 r2 r3 r4] scope .none .none doc pm an (.ref cda) ct cc) ⟨[.ref x, v, u], []⟩ [("self", .ref x), (f, v), (g, u)]) : XInit P w K mg C fI [f, g] :=
  fun A R s mb x t0 us X G B hB hlim hx hnx hroom hl hq => by
    match us, hl with
    | [v, u], _ =>
      exact init2 T X G B hB hlim hf hcd S har hself hne hne2 hfg hroom hpos (hb s x v u) hx hnx fun h' tk dx t1 E => hq h' tk dx t1 _ E fun y => by
        show _ = List.lookup y [(f, v), (g, u)]
        rw [lookup_if, lookup_if]
        by_cases e : y = f
        · have e2 : y ≠ g := fun z => hfg (e.symm.trans z)
          simp [e, e2, hfg]
        · by_cases e2 : y = g
          · simp [e2, Ne.symm hfg]
          · simp [e, e2]
end
end Sf
namespace Sf
open PySem PySem.Spec PyProof.Rows L2
/-- a class of exceptions, to be made and raised -/
structure XMk (P : Program) (w : World) (K : PySem.W.Frag) (mg : Str → Option Value) (C : Addr) (fs : List Str) : Prop where
  init : ∃ fI D cc cda, XOk P K mg C fI D cc cda fs ∧ XInit P w K mg C fI fs
/-- C(e, ..) -/
def tMkX (C : Addr) (fs : List Str) (ta : TA) : L2.St → Hp → XK → Prop := fun σ H Q => ta σ H fun vs H1 => vs.length = fs.length ∧ vs.length ≤ 1000 ∧ ∀ d, H1 d = none → Q (.ref C) (some d) (upd H1 d (.xd (fs.zip vs)))
theorem zip_rel : ∀ {fs : List Str} {vs : List V} {us : List Value}, Vals vs us → ∀ y : Str, RelO ((fs.zip vs).lookup y) ((fs.zip us).lookup y)
  | [], _, _, _, y => by
    show RelO none none
    trivial
  | f :: fs, _, _, .nil, y => by
    show RelO none none
    trivial
  | f :: fs, _, _, .cons (l₁ := vs) (l₂ := us) r t, y => by
    show RelO (List.lookup y ((f, _) :: fs.zip vs)) (List.lookup y ((f, _) :: fs.zip us))
    by_cases e : y = f
    · subst e
      simp only [List.lookup, beq_self_eq_true]
      exact r
    · have q : (y == f) = false := by simpa using e
      simp only [List.lookup, q]
      exact zip_rel t y
section
variable {X : Cx} {C : Addr} {fs : List Str} {e : Expr} {es : List Expr} {ta : TA} {x : Str} {p pos : Pos} {k : Nat}
theorem pmk_x (T : XMk X.prog X.w X.K X.mg C fs) (hr : Room (k + 1) X.A) (hg : Gl X x) (hm : X.mg x = some (.ref C)) (ha : PA X (e :: es) ta)
    (hdb : (x == ("__debug__" : Str)) = false := by decide) (he : starEach (e :: es) X.env = (false, eval e X.env) :: starEach es X.env := by rfl) (hpl : (backTo pos (starEach es X.env)).any (·.1) = false := by rfl) :
    PMk X (.Call (.Name x p) (e :: es) [] pos) (tMkX C fs ta) := by
  obtain ⟨fI, D, cc, cda, T, FI⟩ := T.init
  intro pins s σ H Q I h
  obtain ⟨nm, q, N, bs, bm, sn, sub, ab, col, dd, k0, k1, k2, k3, k5, hC, hbm⟩ := T.cls
  refine wpAny_Call_Name_kw (ld_glob I hg hm ?_ hdb)
  refine PySem.W.callWith_K (h₀ := X.base) I.ok.mod.kin T.kC (thn (ha.run pos pins s σ H _ I h) fun us s1 hh => ?_) he hpl
  obtain ⟨vs, H1, I1, r1, hlen, hz, q1⟩ := hh
  refine ⟨I1.kIn, ?_⟩
  show wpAny _ _ (call (.ref C) us) _ _ _
  have hlim := I1.nolimit
  have X0 := I1.kIn
  have G0 := I1.ok.mod.glob.keeps I1.bk
  obtain ⟨mb, B0, hB⟩ := I1.ok.mod.blt
  have B1 := B0.keeps I1.bk
  obtain ⟨hp, g, dr, tk, os⟩ := s1
  have lus : us.length = fs.length := by rw [← Paired.length r1]; exact hlen
  have kk : ∀ b o, hp.get? b = some o → ((hp.push (PySem.W.kdv_tup us)).push (PySem.HandSPX.excO C hp.objs.size)).get? b = some o := fun b o e => Heap.get?_push_of_some _ (Heap.get?_push_of_some _ e)
  have hget : ((hp.push (PySem.W.kdv_tup us)).push (PySem.HandSPX.excO C hp.objs.size)).get? (hp.objs.size + 1) = some (PySem.HandSPX.excO C hp.objs.size) := by heap_get
  have hnx : X.K.lookup (hp.objs.size + 1) = none := by
    cases e : X.K.lookup (hp.objs.size + 1) with
    | none => rfl
    | some o =>
      have z : hp.get? (hp.objs.size + 1) = some o := X0 _ _ e
      exact absurd (Nat.lt_of_succ_lt (Heap.lt_size z)) (Nat.lt_irrefl _)
  have hus : us.length ≤ sizeLine := by
    rw [← Paired.length r1, sizeLine_eq]
    omega
  refine wpAny_call (PySem.HandSPX.call_own PySem.F.excBase_ValueError (fun Y => PySem.HandSPX.refsVE_contains Y bm hbm) (X0 _ _ hC) (PySem.W.looks_findIn X0 T.iC) (fun self => PySem.W.bind_fn X0 self T.tI) hus ?_)
  refine FI _ _ ⟨(hp.push (PySem.W.kdv_tup us)).push (PySem.HandSPX.excO C hp.objs.size), g, dr, tk, os⟩ mb _ _ us (X0.keeps kk) (G0.keeps kk) (B1.keeps kk) hB (hlim.keeps kk) hget hnx ?_ lus fun h' tk' d t1 m E hm' => ?_
  · have z := hr.dp
    show X.A.depth + 1 < recursionLimit
    omega
  · obtain ⟨k', hx, dn, dne, hns⟩ := E
    have k2 : ∀ b o, hp.get? b = some o → h'.get? b = some o := fun b o e => k' b o (Nat.ne_of_lt (Nat.lt_succ_of_lt (Heap.lt_size e))) (kk b o e)
    have dbig : hp.objs.size ≤ d := by
      have z : (hp.push (PySem.W.kdv_tup us)).objs.size + 1 ≤ d := by
        have q := dn
        rw [Heap.size_push] at q
        exact q
      rw [Heap.size_push] at z
      omega
    refine ⟨rfl, ?_⟩
    show MkP X pins σ Q (.ref (hp.objs.size + 1)) ⟨h', g, dr, tk', os⟩
    obtain ⟨G', g1, g2⟩ := restrict h' fun b => decide (b ≠ hp.objs.size + 1)
    have gk : ∀ b, b ≠ hp.objs.size + 1 → G'.get? b = h'.get? b := fun b hb => g1 b (decide_eq_true hb)
    have ge : G'.get? (hp.objs.size + 1) = none := g2 _ (by simp)
    have old' : ∀ b o, hp.get? b = some o → G'.get? b = some o := fun b o q => (gk b (Nat.ne_of_lt (Nat.lt_succ_of_lt (Heap.lt_size q)))).trans (k2 b o q)
    have ob : ObjOk X.prog X.w (upd H1 d (.xd (fs.zip vs))) G' d (.xd (fs.zip vs)) := ⟨m, hns.at (fun o q => (gk d dne).trans q), fun f => by rw [hm' f]; exact zip_rel r1 f⟩
    have J : Inv X pins σ (upd H1 d (.xd (fs.zip vs))) ⟨G', g, dr, tk', os⟩ := I1.laid (t' := tk') old' dbig ob
    refine ⟨hp.objs.size + 1, _, _, ⟨G', g, dr, tk', os⟩, _, .ref C, some d, rfl, J, fun b o q => ?_, ge, hx, ⟨rfl, rfl⟩, rfl, rfl, ?_, rfl, I1.bare, raises_own T.exC T.tyC, q1 d (I1.hok.fresh dbig)⟩
    · by_cases hb : b = hp.objs.size + 1
      · have q' : G'.get? b = some o := q
        rw [hb, ge] at q'; cases q'
      · exact (gk b hb).symm.trans q
    · rw [upd_ne (Ne.symm dne)]
      exact I1.hok.fresh (Nat.le_succ _)
end
/-- raise C(e, ..) -/
def mRaise (C : Addr) (fs : List Str) (ma : TAm) : TSm := fun E s => ma s (fun bs s1 => valsOf bs fun ds => ds.length = fs.length ∧ ds.length ≤ 1000 ∧ E.ex ⟨C, fs, ds⟩ s1) E.ex
section
variable {X : Cx} {C : Addr} {fs : List Str} {e : Expr} {es : List Expr} {ma : TAm} {x : Str} {p pos pos2 : Pos} {k : Nat}
theorem zip_fst : ∀ {fs : List Str} {vs : List V}, vs.length = fs.length → (fs.zip vs).map (·.1) = fs ∧ (fs.zip vs).map (·.2) = vs
  | [], [], _ => ⟨rfl, rfl⟩
  | f :: fs, v :: vs, h => by
    obtain ⟨h1, h2⟩ := zip_fst (fs := fs) (vs := vs) (by simpa using h)
    exact ⟨by simp [List.zip_cons_cons, h1], by simp [List.zip_cons_cons, h2]⟩
  | [], _ :: _, h => by simp at h
  | _ :: _, [], h => by simp at h
theorem ms_raise (hc : X.calm = true) (T : XMk X.prog X.w X.K X.mg C fs) (hr : Room (k + 1) X.A) (hg : Gl X x) (hm : X.mg x = some (.ref C)) (ha : MA X (e :: es) ma)
    (hdb : (x == ("__debug__" : Str)) = false := by decide) (he : starEach (e :: es) X.env = (false, eval e X.env) :: starEach es X.env := by rfl) (hpl : (backTo pos (starEach es X.env)).any (·.1) = false := by rfl) :
    MS X (.Raise (some (.Call (.Name x p) (e :: es) [] pos)) none pos2) (mRaise C fs ma) := fun en Z tk =>
  PS.imp (ps_raise hc tk (pmk_x T hr hg hm (ha en Z tk) hdb he hpl)) fun D σ H h0 => by
    obtain ⟨stk, vs, s, E, hl, rfl, r0, hm, _⟩ := h0
    refine ⟨stk, vs, s, _, hl, r0, hm, fun us H' bs s' r1 b1 q => ?_⟩
    obtain ⟨ds, h1, h2, h3, h4⟩ := valsOf_reps b1 q
    have hlen := h1.length
    refine ⟨by omega, by omega, fun d hd => ?_⟩
    have r2 := r1.unstk hl
    have h1' : Reps X.K (AvO en s'.loc s'.mem σ) H' us ds := h1.tr fun b o h n => ⟨h, fun z => n (avO_unstk hl b z)⟩
    refine ⟨s', ⟨C, fs, ds⟩, r2.ext hd, ⟨rfl, d, fs.zip us, rfl, upd_same, r2.fresh hd, (zip_fst (by omega)).1, ?_⟩, h4⟩
    rw [(zip_fst (fs := fs) (vs := us) (by omega)).2]
    exact h1'.tr (r2.trUp hd)
end
end Sf

set_option maxHeartbeats 4000000
set_option autoImplicit false
/-! Sf: try with several clauses, each holding the error by a name; what a suite reads of it. -/
namespace Sf
open PySem PySem.Spec PyProof.Rows L2
abbrev SuT := Addr → Value → Option Addr → TS
/-- the clauses, one after the other: the class, the name's slot, the suite -/
def wHs (K : PySem.W.Frag) (Wo : WX) (D : Ends) : List (Value × Nat × SuT) → WX
  | [] => Wo
  | (c, i, ts) :: r => fun cl d σ H => ∃ b, PySem.W.exmOne K cl c = some b ∧
    (b = true → ∀ a, H a = none → ts a cl d ⟨fun τ G => D.nx (τ.set i none) G, D.rt, fun τ G => D.bk (τ.set i none) G, fun τ G => D.ct (τ.set i none) G⟩ (σ.set i (some (.ref a))) H) ∧ (b = false → wHs K Wo D r cl d σ H)
inductive HsOk (X : Cx) : List ExceptHandler → List (Value × Nat × SuT) → Prop
  | nil : HsOk X [] []
  | cons {x n : Str} {c : Value} {i : Nat} {ts : SuT} {b0 : Stmt} {su : List Stmt} {np po : Pos} {hds : List ExceptHandler} {l : List (Value × Nat × SuT)} (hN : X.N.Nodup) (hi : X.N[i]? = some n) (hk : X.env.kindOf n = some .local) (hc : Names X x c)
      (hsu : ∀ (a : Addr) (oe : Obj) (cl : Value) (d : Option Addr) (pn : List (Addr × Obj)), Zc cl d oe → (∃ vs, oe.data = .fields vs) → PSs (X.suite a ((a, oe) :: pn)) (b0 :: su) (ts a cl d)) (r : HsOk X hds l) :
      HsOk X (.ExceptHandler (some (.Name x np)) (some n) (b0 :: su) po :: hds) ((c, i, ts) :: l)
section
variable {X : Cx} {body : List Stmt} {h0 : ExceptHandler} {hds : List ExceptHandler} {l : List (Value × Nat × SuT)} {pos : Pos} {tb : WX → TS} {Wo : WX}
theorem ps_try_hs (hs : X.stack = X.env :: X.outer) (hf : X.env.frame = some X.env.locals) (tk : Takes X Wo)
    (hb : ∀ (W : WX) (pn : List (Addr × Obj)) (xe : Value → Shared → Prop), Takes (X.tr pn xe) W → PassesOwn (model X.prog X.w) X.A X.env xe → PSs (X.tr pn xe) body (tb W)) (hh : HsOk X (h0 :: hds) l) :
    PS X (.Try body (h0 :: hds) [] [] pos) (fun D σ H => tb (wHs X.K Wo D l) D σ H) := by
  refine ⟨fun pins s σ H D I h => ?_⟩
  have ok := I.ok
  have fr : X.A.frames = some (X.env :: X.outer) := by rw [ok.frames, hs]
  refine wpAny_Try_except (wpAny_mono ((hb (wHs X.K Wo D l) (X.pn ++ pins) (fun e s1 => wpAny (model X.prog X.w) X.A (noteFrame e X.env) (fun _ s2 => wpAny (model X.prog X.w) X.A (setFlight e none) (fun _ s3 =>
    wpAny (model X.prog X.w) X.A (handleBy e X.env (h0 :: hds)) (SP X pins D) X.xe s3) X.xe s2) X.xe s1) (fun u s1 xx => ?_) PassesOwn.looking).run [] s σ H D (I.toTry _) h) (fun f s1 q => ?_) (fun e s1 q => q))
  · obtain ⟨a, B, sI, pi, σ1, H1, cl, d, rfl, J0, nb, up, sky, na, os, ag, w⟩ := xx
    have J : Inv X pins σ1 H1 sI := J0.ofTry ok
    have sky1 : Sky B (X.env :: X.outer) a (Zc cl d) X.env.locals s1.heap := by rw [← hs]; exact sky
    show wpAny (model X.prog X.w) X.A (noteFrame (.ref a) X.env) _ _ _
    refine Sky.land Zc.steady fr hf sky1 fun h3 fl3 up3 => ?_
    have J3 : Inv X pins σ1 H1 { s1 with heap := h3 } := J.landed nb fl3.1 (up.trans up3) os ag
    obtain ⟨o3, v3, he3, hz3, hd3⟩ := fl3.there
    have nfr : a ∉ frs (X.env :: X.outer) := fun hm => by
      obtain ⟨_, o', e', hnf⟩ := fl3.2.2.1.mem hm
      rw [he3] at e'
      cases e'
      exact hnf _ hd3
    have nL : a ≠ X.env.locals := fun z => nfr (List.mem_filterMap.mpr ⟨X.env, List.mem_cons_self, by rw [hf, z]⟩)
    have nF : a ∉ X.fs := fun hm => by
      obtain ⟨e, he, q⟩ := List.mem_filterMap.mp hm
      exact nfr (List.mem_filterMap.mpr ⟨e, List.mem_cons_of_mem _ he, q⟩)
    have S3 := J3.suite he3 hd3 na nL nF
    have go : ∀ {hd' : List ExceptHandler} {l' : List (Value × Nat × SuT)}, HsOk X hd' l' → wHs X.K Wo D l' cl d σ1 H1 → wpAny (model X.prog X.w) X.A (handleBy (.ref a) X.env hd') (SP X pins D) X.xe { s1 with heap := h3 } := by
      intro hd' l' hk
      induction hk with
      | nil =>
        intro w
        obtain ⟨_, _, _, oe, vs, T, _, _, he, _, hd, h1, _⟩ := id fl3
        refine wpAny_handleBy_nil ?_
        unfold PySem.passOn
        refine wpAny_bind (wpAny_field he hd h1 ?_)
        rw [if_neg (show ¬ ((Value.ref T == Value.none) = true) from by simp)]
        have fin : wpAny (model X.prog X.w) X.A (setFlight (.ref a) X.env.frame) (fun _ s4 => wpAny (model X.prog X.w) X.A (throw (.ref a) : Sem Flow) (SP X pins D) X.xe s4) X.xe { s1 with heap := h3 } := by
          rw [hf]
          exact HandSPX.setFlight_upZ fl3 fun h4 hh4 up4 => wpAny_throw (tk _ _ ⟨a, B, sI, pins, σ1, H1, cl, d, rfl, J, nb, (up.trans up3).trans up4, .inr (.inr (by rw [hs]; exact hh4)), na, os, ag, w⟩)
        first | exact wpAny_bind (wpAny_pure (wpAny_bind fin)) | exact wpAny_bind fin
      | @cons x n c i ts b0 su np po hd2 l2 hN hi hk hc hsu r ih =>
        intro w
        obtain ⟨b, hb1, hyes, hno⟩ := w
        refine wpAny_handleBy_cons (codeAny_handlers_test ?_) (by intro q; cases q)
        have LM := PySem.W.exm_one (M := model X.prog X.w) (J3.kIn) (fun A Q E s k q => wpAny_typeOf_ref (k _ _ he3) (by rw [hz3.1]; exact q)) hb1
        have test : ∀ {Q : Value → Shared → Prop} {E : Value → Shared → Prop}, Q c { s1 with heap := h3 } → wpAny (model X.prog X.w) (X.A.mark (some (.ref a))) (eval (.Name x np) X.env) Q E { s1 with heap := h3 } := fun {Q E} q => by
          obtain ⟨hg, hdb, hm | ⟨hm, hv, hnn⟩⟩ := hc
          · exact ld_glob (X := X.suite a ((a, o3) :: (X.pn ++ pins))) S3 hg hm q hdb
          · exact ld_blt (X := X.suite a ((a, o3) :: (X.pn ++ pins))) S3 hg hm hv q hnn hdb
        refine test (LM.here ?_)
        cases b with
        | false => exact ih (hno rfl)
        | true =>
          refine codeAny_handlers_suite_as (HandSPX.lands_againZ fl3 fun h4 fl4 up4 => ?_)
          have J4 : Inv X pins σ1 H1 { s1 with heap := h4 } := J.landed nb fl4.1 ((up.trans up3).trans up4) os ag
          obtain ⟨o4, v4, he4, hz4, hd4⟩ := fl4.there
          refine store_ok (X := X.suite a ((a, o4) :: (X.pn ++ pins))) (v := .ref a) (J4.suite he4 hd4 na nL nF) hN hi (.inl hk) rfl (fun s5 S5 => ?_) (.inr hk)
          refine wpAny_mono ((hsu a o4 cl d (X.pn ++ pins) hz4 ⟨_, hd4⟩).run [] s5 _ H1 _ S5 (hyes rfl a na)) (fun f s6 q => ?_) (fun _ _ z => False.elim z)
          have fin : ∀ {σ6 : L2.St} {H6 : Hp} {Q : Shared → Prop}, Inv (X.suite a ((a, o4) :: (X.pn ++ pins))) [] σ6 H6 s6 → (∀ s7, Inv X pins (σ6.set i none) H6 s7 → Q s7) →
              wpAny (model X.prog X.w) X.A (do bindName X.env n .none; unbindBehindTheSuite X.env n po) (fun _ s7 => Q s7) X.xe s6 := fun {σ6 H6 Q} S6 hq => gone_ok (S6.unsuite ok) hN hi hk hq
          cases f with
          | next =>
            obtain ⟨σ6, H6, S6, q6⟩ := q
            exact fin S6 fun s7 J7 => ⟨_, _, J7, q6⟩
          | brk =>
            obtain ⟨σ6, H6, S6, q6⟩ := q
            exact fin S6 fun s7 J7 => ⟨_, _, J7, q6⟩
          | cont =>
            obtain ⟨σ6, H6, S6, q6⟩ := q
            exact fin S6 fun s7 J7 => ⟨_, _, J7, q6⟩
          | ret u =>
            obtain ⟨v6, σ6, H6, S6, r6, q6⟩ := q
            exact fin S6 fun s7 J7 => ⟨_, _, _, J7, r6, q6⟩
    exact go hh w
  · cases f with
    | next =>
      obtain ⟨τ, G, J1, z⟩ := q
      exact wpAny_execs_nil ⟨τ, G, J1.ofTry ok, z⟩
    | brk =>
      obtain ⟨τ, G, J1, z⟩ := q
      exact ⟨τ, G, J1.ofTry ok, z⟩
    | cont =>
      obtain ⟨τ, G, J1, z⟩ := q
      exact ⟨τ, G, J1.ofTry ok, z⟩
    | ret u =>
      obtain ⟨v, τ, G, J1, r, z⟩ := q
      exact ⟨v, τ, G, J1.ofTry ok, r, z⟩
end

/-! ### by data -/
abbrev SuM := Addr → Addr → Addr → TSm
/-- the clauses: the class, the name's slot, the suite (the error's object, its class, its dict) -/
def mHs (K : PySem.W.Frag) (E : EndsM) : List (Addr × Nat × SuM) → EX
  | [] => E.ex
  | (C, i, ms) :: r => fun x s => ∃ b, PySem.W.exmOne K (.ref x.cls) (.ref C) = some b ∧
    (b = true → ∀ a dd, ms a x.cls dd ⟨fun t => E.nx { t with loc := t.loc.set i none }, E.rt, fun t => E.bk { t with loc := t.loc.set i none }, fun t => E.ct { t with loc := t.loc.set i none }, fun _ _ => False⟩ { s with loc := s.loc.set i (some (.val (.xc a x.cls dd x.ks x.l))) }) ∧ (b = false → mHs K E r x s)
def mTry (K : PySem.W.Frag) (mb : TSm) (l : List (Addr × Nat × SuM)) : TSm := fun E s => mb { E with ex := mHs K E l } s
/-- the exception that a suite holds -/
structure PinX (X : Cx) (a C dd : Addr) : Prop where
  pin : ∃ oe, (a, oe) ∈ X.pn ∧ Zc (.ref C) (some dd) oe ∧ ∃ vs, oe.data = .fields vs
inductive MHs (X : Cx) : List ExceptHandler → List (Addr × Nat × SuM) → Prop
  | nil : MHs X [] []
  | cons {x n : Str} {C : Addr} {i : Nat} {ms : SuM} {b0 : Stmt} {su : List Stmt} {np po : Pos} {hds : List ExceptHandler} {l : List (Addr × Nat × SuM)} (hN : X.N.Nodup) (hi : X.N[i]? = some n) (hk : X.env.kindOf n = some .local)
      (hg : Gl X x) (hdb : (x == ("__debug__" : Str)) = false) (hm : X.mg x = some (.ref C))
      (hsu : ∀ (a Ce dd : Addr) (pn : List (Addr × Obj)), PinX (X.suite a pn) a Ce dd → MSs (X.suite a pn) (b0 :: su) (ms a Ce dd)) (r : MHs X hds l) :
      MHs X (.ExceptHandler (some (.Name x np)) (some n) (b0 :: su) po :: hds) ((C, i, ms) :: l)
/-- the clauses' suites at the layer below -/
def lowHs (X : Cx) (en : Ent) : List (Addr × Nat × SuM) → List (Value × Nat × SuT)
  | [] => []
  | (C, i, ms) :: r => (.ref C, i, fun a cl d D σ H => ∃ Ce dd, cl = .ref Ce ∧ d = some dd ∧ liftS X.K en (fun _ _ => False) (ms a Ce dd) D σ H) :: lowHs X en r
theorem hs_low {X : Cx} (en : Ent) : ∀ {hds : List ExceptHandler} {l : List (Addr × Nat × SuM)}, MHs X hds l → HsOk X hds (lowHs X en l)
  | _, _, .nil => .nil
  | _, _, .cons hN hi hk hg hdb hm hsu r => .cons hN hi hk ⟨hg, hdb, .inl hm⟩ (fun a oe cl d pn hz hv => ⟨fun pins s σ H D I ⟨Ce, dd, e1, e2, q⟩ => by
      subst e1 e2
      exact (hsu a Ce dd ((a, oe) :: pn) ⟨oe, List.mem_cons_self, hz, hv⟩ en (fun _ _ => False) fun u s' z => by
        obtain ⟨_, _, _, _, _, _, _, _, _, _, _, _, _, _, _, _, _, _, _, _, z⟩ := z
        exact z.elim).run pins s σ H D I q⟩) (hs_low en r)
theorem Rel.wipe {K : PySem.W.Frag} {en : Ent} {stk l : Loc'} {m : Mem} {vs σ : L2.St} {H : Hp} {i : Nat} (hl : stk.length = vs.length) (R : Rel K en (stk ++ l) m (vs ++ σ) H) : Rel K en (stk ++ l.set i none) m (vs ++ σ.set i none) H := by
  have := R.forget (i := stk.length + i) (y := none)
  rwa [set_stk, hl, set_stk] at this

/-- the frame's places alone, what lies on top of them guarded -/
def entU (en : Ent) (stk : Loc') (vs : L2.St) (l : Loc') (m : Mem) (σ : L2.St) (H : Hp) : Ent := ⟨fun b => en.G b ∨ OwnAt stk vs b, fun b => m b ≠ none ∨ OwnAt l σ b, H⟩
section
variable {K : PySem.W.Frag} {en : Ent} {stk l l2 : Loc'} {m m2 : Mem} {vs σ σ2 : L2.St} {H H' : Hp}
theorem ownAt_app (hl : stk.length = vs.length) (b : Addr) : OwnAt (stk ++ l) (vs ++ σ) b ↔ OwnAt stk vs b ∨ OwnAt l σ b := by
  constructor
  · rintro ⟨i, o, h1, h2⟩
    by_cases hi : i < stk.length
    · rw [List.getElem?_append_left hi] at h1
      rw [List.getElem?_append_left (by omega)] at h2
      exact .inl ⟨i, o, h1, h2⟩
    · rw [List.getElem?_append_right (by omega)] at h1
      rw [List.getElem?_append_right (by omega), ← hl] at h2
      exact .inr ⟨i - stk.length, o, h1, h2⟩
  · rintro (⟨i, o, h1, h2⟩ | ⟨i, o, h1, h2⟩)
    · have hi := (List.getElem?_eq_some_iff.mp h1).1
      exact ⟨i, o, by rw [List.getElem?_append_left hi]; exact h1, by rw [List.getElem?_append_left (by omega)]; exact h2⟩
    · exact ⟨stk.length + i, o, by rw [get_stk]; exact h1, by rw [hl, get_stk]; exact h2⟩
theorem Rel.apart (hl : stk.length = vs.length) (R : Rel K en (stk ++ l) m (vs ++ σ) H) {b : Addr} (h1 : OwnAt stk vs b) (h2 : OwnAt l σ b) : False := by
  obtain ⟨i, o, q1, q2⟩ := h1
  obtain ⟨j, o', q3, q4⟩ := h2
  have hi := (List.getElem?_eq_some_iff.mp q1).1
  have := R.sep i (stk.length + j) o o' b (by rw [List.getElem?_append_left hi]; exact q1) (by rw [get_stk]; exact q3) (by rw [List.getElem?_append_left (by omega)]; exact q2) (by rw [hl, get_stk]; exact q4)
  omega
theorem Rel.under (hl : stk.length = vs.length) (R : Rel K en (stk ++ l) m (vs ++ σ) H) : Rel K (entU en stk vs l m σ H) l m σ H := by
  have ea : AvO (entU en stk vs l m σ H) l m σ = AvO en (stk ++ l) m (vs ++ σ) := by
    funext b
    refine propext ⟨fun h => ?_, fun h => ?_⟩
    · rcases h with (h | h) | h | h
      · exact .inl h
      · exact .inr (.inl ((ownAt_app hl b).mpr (.inl h)))
      · exact .inr (.inl ((ownAt_app hl b).mpr (.inr h)))
      · exact .inr (.inr h)
    · rcases h with h | h | h
      · exact .inl (.inl h)
      · rcases (ownAt_app hl b).mp h with h | h
        · exact .inl (.inr h)
        · exact .inr (.inl h)
      · exact .inr (.inr h)
  have hlen := R.len
  simp only [List.length_append] at hlen
  refine ⟨by omega, fun i sv hi => ?_, fun i j o o' a h1 h2 h3 h4 => ?_, fun a o q => ?_, fun b q => ?_, fun b o q _ => q, fun b q => .inl ?_⟩
  · rw [ea]
    obtain ⟨v, h1, h2⟩ := R.at_ (stk.length + i) sv (by rw [get_stk]; exact hi)
    exact ⟨v, by rwa [hl, get_stk] at h1, h2⟩
  · have := R.sep (stk.length + i) (stk.length + j) o o' a (by rw [get_stk]; exact h1) (by rw [get_stk]; exact h2) (by rw [hl, get_stk]; exact h3) (by rw [hl, get_stk]; exact h4)
    omega
  · rw [ea]
    exact ⟨(R.mem a o q).1, fun z => (R.mem a o q).2 ((ownAt_app hl a).mpr (.inr z))⟩
  · rcases q with q | q
    · have g := R.gs b q
      exact ⟨fun z => g.1 ((ownAt_app hl b).mpr (.inr z)), g.2⟩
    · refine ⟨fun z => R.apart hl q z, ?_, R.own ((ownAt_app hl b).mpr (.inl q))⟩
      cases z : m b with
      | none => rfl
      | some o => exact absurd ((ownAt_app hl b).mpr (.inl q)) (R.mem b o z).2
  · rcases q with q | q
    · exact .inr q
    · exact .inl q
/-- .. and with what lies on top again -/
theorem Rel.over (hl : stk.length = vs.length) (R : Rel K en (stk ++ l) m (vs ++ σ) H) (R2 : Rel K (entU en stk vs l m σ H) l2 m2 σ2 H') : Rel K en (stk ++ l2) m2 (vs ++ σ2) H' := by
  have hl2 : σ2.length = l2.length := R2.len
  have hO : ∀ b, OwnAt (stk ++ l2) (vs ++ σ2) b ↔ OwnAt stk vs b ∨ OwnAt l2 σ2 b := ownAt_app hl
  have ea : AvO en (stk ++ l2) m2 (vs ++ σ2) = AvO (entU en stk vs l m σ H) l2 m2 σ2 := by
    funext b
    refine propext ⟨fun h => ?_, fun h => ?_⟩
    · rcases h with h | h | h
      · exact .inl (.inl h)
      · rcases (hO b).mp h with h | h
        · exact .inl (.inr h)
        · exact .inr (.inl h)
      · exact .inr (.inr h)
    · rcases h with (h | h) | h | h
      · exact .inl h
      · exact .inr (.inl ((hO b).mpr (.inl h)))
      · exact .inr (.inl ((hO b).mpr (.inr h)))
      · exact .inr (.inr h)
  have old : ∀ b, (m b ≠ none ∨ OwnAt l σ b) → OwnAt (stk ++ l) (vs ++ σ) b ∨ m b ≠ none := fun b h => by
    rcases h with h | h
    · exact .inr h
    · exact .inl ((ownAt_app hl b).mpr (.inr h))
  have keepOwn : ∀ b u, OwnAt stk vs b → H b = some u → H' b = some u := fun b u h q => R2.keep b u q fun z => by
    rcases z with z | z
    · cases y : m b with
      | none => exact z y
      | some o => exact (R.mem b o y).2 ((ownAt_app hl b).mpr (.inl h))
    · exact R.apart hl h z
  have T : Tr (AvO en (stk ++ l) m (vs ++ σ)) (AvO en (stk ++ l2) m2 (vs ++ σ2)) H H' := fun b o h n => by
    refine ⟨R2.keep b o h fun z => n (.inr (old b z)), fun z => ?_⟩
    rw [ea] at z
    rcases z with (z | z) | z
    · exact n (.inl z)
    · exact n (.inr (.inl ((ownAt_app hl b).mpr (.inl z))))
    · rcases R2.new b z with z | z
      · exact n (.inr (old b z))
      · rw [show (entU en stk vs l m σ H).H b = H b from rfl, h] at z; cases z
  have fromNew : ∀ b, (OwnAt (stk ++ l) (vs ++ σ) b ∨ m b ≠ none) ∨ H b = none → en.M b ∨ en.H b = none := fun b h => by
    rcases h with h | h
    · exact R.new b h
    · cases y : en.H b with
      | none => exact .inr rfl
      | some o =>
        by_cases n : en.M b
        · exact .inl n
        · rw [R.keep b o y n] at h; cases h
  refine ⟨by simp [hl, hl2], fun i sv hi => ?_, fun i j o o' a h1 h2 h3 h4 => ?_, fun a o q => ?_, fun b q => ?_, fun b o q n => ?_, fun b q => ?_⟩
  · by_cases h : i < stk.length
    · rw [List.getElem?_append_left h] at hi
      obtain ⟨v, h1, h2⟩ := R.at_ i sv (by rw [List.getElem?_append_left h]; exact hi)
      rw [List.getElem?_append_left (by omega)] at h1
      refine ⟨v, by rw [List.getElem?_append_left (by omega)]; exact h1, h2.tr T fun w a e1 e2 u q => ?_⟩
      subst e1 e2
      exact keepOwn a u ⟨_, w, hi, h1⟩ q
    · rw [List.getElem?_append_right (by omega)] at hi
      obtain ⟨v, h1, h2⟩ := R2.at_ _ sv hi
      exact ⟨v, by rw [List.getElem?_append_right (by omega), ← hl]; exact h1, by rw [ea]; exact h2⟩
  · have own1 : ∀ (i : Nat) (o : Own), (stk ++ l2)[i]? = some (some (SV.own o)) → (vs ++ σ2)[i]? = some (some (V.ref a)) → (i < stk.length ∧ stk[i]? = some (some (SV.own o)) ∧ vs[i]? = some (some (V.ref a))) ∨ (stk.length ≤ i ∧ l2[i - stk.length]? = some (some (SV.own o)) ∧ σ2[i - stk.length]? = some (some (V.ref a))) := fun i o h1 h2 => by
      by_cases h : i < stk.length
      · rw [List.getElem?_append_left h] at h1
        rw [List.getElem?_append_left (by omega)] at h2
        exact .inl ⟨h, h1, h2⟩
      · rw [List.getElem?_append_right (by omega)] at h1
        rw [List.getElem?_append_right (by omega), ← hl] at h2
        exact .inr ⟨by omega, h1, h2⟩
    have apart : OwnAt l2 σ2 a → OwnAt stk vs a → False := fun x y => (R2.gs a (.inr y)).1 x
    rcases own1 i o h1 h3 with ⟨q1, q2, q3⟩ | ⟨q1, q2, q3⟩
    · rcases own1 j o' h2 h4 with ⟨p1, p2, p3⟩ | ⟨p1, p2, p3⟩
      · exact R.sep i j o o' a (by rw [List.getElem?_append_left q1]; exact q2) (by rw [List.getElem?_append_left p1]; exact p2) (by rw [List.getElem?_append_left (by omega)]; exact q3) (by rw [List.getElem?_append_left (by omega)]; exact p3)
      · exact (apart ⟨_, _, p2, p3⟩ ⟨_, _, q2, q3⟩).elim
    · rcases own1 j o' h2 h4 with ⟨p1, p2, p3⟩ | ⟨p1, p2, p3⟩
      · exact (apart ⟨_, _, q2, q3⟩ ⟨_, _, p2, p3⟩).elim
      · have := R2.sep _ _ o o' a q2 p2 q3 p3
        omega
  · rw [ea]
    refine ⟨(R2.mem a o q).1, fun z => ?_⟩
    rcases (hO a).mp z with z | z
    · have := (R2.gs a (.inr z)).2.1
      rw [q] at this; cases this
    · exact (R2.mem a o q).2 z
  · have g := R2.gs b (.inl q)
    refine ⟨fun z => ?_, g.2⟩
    rcases (hO b).mp z with z | z
    · exact (R.gs b q).1 ((ownAt_app hl b).mpr (.inl z))
    · exact g.1 z
  · have q1 := R.keep b o q n
    refine R2.keep b o q1 fun z => ?_
    rcases R.new b (old b z) with z | z
    · exact n z
    · rw [q] at z; cases z
  · refine fromNew b ?_
    rcases q with q | q
    · rcases (hO b).mp q with q | q
      · exact .inl (.inl ((ownAt_app hl b).mpr (.inl q)))
      · rcases R2.new b (.inl q) with z | z
        · exact .inl (old b z)
        · exact .inr z
    · rcases R2.new b (.inr q) with z | z
      · exact .inl (old b z)
      · exact .inr z
/-- a result above the frame's places: what lay on top comes between -/
theorem Rel.overTop {sv : SV} {v : V} (hl : stk.length = vs.length) (R : Rel K en (stk ++ l) m (vs ++ σ) H) (R2 : Rel K (entU en stk vs l m σ H) (some sv :: l2) m2 (some v :: σ2) H') : Rel K en (some sv :: (stk ++ l2)) m2 (some v :: (vs ++ σ2)) H' :=
  Rel.swap (a := stk) (b := [some sv]) (a' := vs) (b' := [some v]) hl rfl (R.over hl R2)
end
section
variable {X : Cx} {body : List Stmt} {h0 : ExceptHandler} {hds : List ExceptHandler} {l : List (Addr × Nat × SuM)} {pos : Pos} {mb : TSm}
theorem hs_lift (en : Ent) (E : EndsM) (D : Ends) (W : WX) (hn : ∀ σ H s, Rel X.K en s.loc s.mem σ H → E.nx s → D.nx σ H) (hr : ∀ v σ H sv s, Rel X.K en (some sv :: s.loc) s.mem (some v :: σ) H → E.rt sv s → D.rt v H)
    (hb : ∀ σ H s, Rel X.K en s.loc s.mem σ H → E.bk s → D.bk σ H) (hc : ∀ σ H s, Rel X.K en s.loc s.mem σ H → E.ct s → D.ct σ H) (he : ∀ cl d σ H, liftW X.K en E.ex cl d σ H → W cl d σ H) :
    ∀ (l : List (Addr × Nat × SuM)) (cl : Value) (d : Option Addr) (σ : L2.St) (H : Hp), liftW X.K en (mHs X.K E l) cl d σ H → wHs X.K W D (lowHs X en l) cl d σ H
  | [], cl, d, σ, H, h => he cl d σ H h
  | (C, i, ms) :: r, cl, d, σ, H, ⟨s, x, R, hx, b, hb1, hy, hno⟩ => by
    obtain ⟨e1, dd, fv, e2, e3, e4, e5, e6⟩ := hx
    subst e1 e2
    refine ⟨b, hb1, fun eb a na => ?_, fun eb => hs_lift en E D W hn hr hb hc he r _ _ σ H ⟨s, x, R, ⟨rfl, dd, fv, rfl, e3, e4, e5, e6⟩, hno eb⟩⟩
    refine ⟨x.cls, dd, rfl, rfl, [], [], _, _, rfl, rfl, ?_, hy eb a dd, fun τ G t rt q => ?_, fun v τ G sv t rt q => hr v τ G sv t rt q, fun τ G t rt q => ?_, fun τ G t rt q => ?_⟩
    · have rx : Rep X.K (AvO en s.loc s.mem σ) H (.ref a) (.xc a x.cls dd x.ks x.l) := by
        rw [← e5]
        exact .xc e3 e4 e6
      by_cases hi : i < s.loc.length
      · exact (R.push rx).store hi
      · have hlen := R.len
        show Rel X.K en (s.loc.set i _) s.mem (σ.set i _) H
        rw [List.set_eq_of_length_le (by omega), List.set_eq_of_length_le (by omega)]
        exact R
    · exact hn _ _ { t with loc := t.loc.set i none } (rt.wipe (stk := []) (vs := []) rfl) q
    · exact hb _ _ { t with loc := t.loc.set i none } (rt.wipe (stk := []) (vs := []) rfl) q
    · exact hc _ _ { t with loc := t.loc.set i none } (rt.wipe (stk := []) (vs := []) rfl) q
theorem ms_try (hs : X.stack = X.env :: X.outer) (hf : X.env.frame = some X.env.locals)
    (hb : ∀ (pn : List (Addr × Obj)) (xe : Value → Shared → Prop), PassesOwn (model X.prog X.w) X.A X.env xe → MSs (X.tr pn xe) body mb) (hh : MHs X (h0 :: hds) l) : MS X (.Try body (h0 :: hds) [] [] pos) (mTry X.K mb l) := fun en Z tk => by
  refine ⟨fun pins s σ H D I h => ?_⟩
  obtain ⟨stk, vs, sm, E, hl, rfl, r0, hm, hn, hr, hbk, hct⟩ := h
  -- the frame's places alone
  have rU := r0.under hl
  have tkU : Takes X (liftW X.K en E.ex) := tk
  have tkU' : Takes X (liftW X.K (entU en stk vs sm.loc sm.mem σ H) E.ex) := tk.imp fun cl d τ G ⟨t, x, rt, ⟨e1, dd, fv, e2, e3, e4, e5, e6⟩, q⟩ => by
    have r1 := r0.over hl rt
    have av : ∀ b, AvO en t.loc t.mem τ b → AvO (entU en stk vs sm.loc sm.mem σ H) t.loc t.mem τ b := fun b z => by
      rcases z with z | z | z
      · exact .inl (.inl z)
      · exact .inr (.inl z)
      · exact .inr (.inr z)
    exact ⟨t, x, r1.unstk hl, ⟨e1, dd, fv, e2, e3, fun z => e4 (av _ z), e5, e6.tr fun b o h n => ⟨h, fun z => n (av b z)⟩⟩, q⟩
  have key := ps_try_hs (tb := fun W D τ G => ∃ (en' : Ent) (Z' : EX), (∀ cl d σ H, liftW X.K en' Z' cl d σ H → W cl d σ H) ∧ liftS X.K en' Z' mb D τ G) (pos := pos) hs hf tkU' (fun W pn xe tkb hp => ⟨fun pins s σ H D I ⟨en', Z', hi, q⟩ =>
    (hb pn xe hp en' Z' (tkb.imp hi)).run pins s σ H D I q⟩) (hs_low (entU en stk vs sm.loc sm.mem σ H) hh)
  refine key.run pins s σ H D I ⟨entU en stk vs sm.loc sm.mem σ H, mHs X.K E l, ?_, ?_⟩
  · exact hs_lift _ E D _ (fun τ G t rt q => hn τ G t (r0.over hl rt) q) (fun v τ G sv t rt q => hr v τ G sv t (r0.overTop hl rt) q) (fun τ G t rt q => hbk τ G t (r0.over hl rt) q) (fun τ G t rt q => hct τ G t (r0.over hl rt) q) (fun _ _ _ _ q => q) l
  · exact ⟨[], [], sm, { E with ex := mHs X.K E l }, rfl, rfl, rU, hm, fun τ G t rt q => hn τ G t (r0.over hl rt) q, fun v τ G sv t rt q => hr v τ G sv t (r0.overTop hl rt) q, fun τ G t rt q => hbk τ G t (r0.over hl rt) q, fun τ G t rt q => hct τ G t (r0.over hl rt) q⟩
end
end Sf

set_option maxHeartbeats 4000000
set_option autoImplicit false
/-! Sf: what a suite reads of its error: e.f, isinstance(e, C); a def that asks it. -/
namespace Sf
open PySem PySem.Spec PyProof.Rows L2

/-- what a class of errors must be for that: f is a field of its instances (and none of the class) -/
def xfB (K : PySem.W.Frag) (C : Addr) (f : Str) : Bool := L2.xfB K C && decide (PySem.W.findIn K (.ref C) f = some none)
def xiB (K : PySem.W.Frag) (C : Addr) : Bool :=
  (PySem.W.clsIn K C).isSome && decide (PySem.W.findIn K (.ref C) "__getattribute__" = some (some (.builtin "BaseException.__getattribute__"))) && decide (PySem.W.findIn K (.ref C) "__getattr__" = some none) &&
  decide (PySem.W.subIn K (.ref C) (.type "BaseException") = some true) && decide (PySem.W.findIn K (.ref C) "__class__" = some (some (.builtin "object.__class__"))) &&
  decide (PySem.W.specialIn K (.builtin "object.__class__") "__get__" = some (some (.builtin "getset_descriptor.__get__"))) && decide (PySem.W.takesIn K (.builtin "object.__class__") = some true) && decide (PySem.W.mroIn K C (.type "object") = some true)
theorem PinX.suite {X : Cx} {a a' C dd : Addr} {pn : List (Addr × Obj)} {oe : Obj} (h : (a', oe) ∈ pn) (hz : Zc (.ref C) (some dd) oe) (hv : ∃ vs, oe.data = .fields vs) : PinX (X.suite a pn) a' C dd := ⟨oe, h, hz, hv⟩
/-- isinstance(e, c) -/
def rIsX (K : PySem.W.Frag) (a C dd : Addr) : List V → Hp → VK → Prop := fun xs H Q => ∃ (c : V) (cv : Value) (b : Bool) (fs : List (Str × V)), xs = [.ref a, c] ∧ (∀ u, RelV c u → u = cv) ∧ xiB K C = true ∧ PySem.W.kitOne K (.ref C) cv = some b ∧ H dd = some (.xd fs) ∧ Q (.bl b) H
theorem call_isX {X : Cx} {a C dd : Addr} (P : PinX X a C dd) : CallR X (.builtin "isinstance") (rIsX X.K a C dd) := by
  intro pins s σ H xs us Q I r h
  obtain ⟨c, cv, b, fs, rfl, hcv, hB, e, hd, q⟩ := h
  obtain ⟨oe, hp, ⟨z1, z2⟩, vs, hv⟩ := P.pin
  cases r with
  | cons rx rr =>
    cases rr with
    | cons rt rr =>
      cases rr
      cases rx
      have ec := hcv _ rt
      subst ec
      have hx : ObjOk X.prog X.w H s.heap dd (.xd fs) := I.hok dd _ hd
      obtain ⟨mA, hns, _⟩ := hx
      obtain ⟨od, ho, _⟩ := lookIn_ns hns
      have J : PySem.W.InstAt s.heap a oe C (some od) := ⟨(I.pin (a, oe) (List.mem_append_left _ hp)).1, z1, by unfold PySem.W.notCls; rw [hv] <;> rfl, by rw [z2]; exact ho⟩
      unfold xiB at hB
      simp only [Bool.and_eq_true, decide_eq_true_eq] at hB
      obtain ⟨⟨⟨⟨⟨⟨⟨h1, h2⟩, h3⟩, h4⟩, h5⟩, h6⟩, h7⟩, h8⟩ := hB
      exact PySem.W.kia_one (PySem.W.kitx_exc h1 h2 h3 h4 h5 h6 h7 h8) I.kIn J e (fun z => nomatch z) fun tk => ⟨.bl b, H, I.kept (t' := tk) fun _ _ z => z, rfl, q⟩
/-- e.f -/
def tXfld (K : PySem.W.Frag) (a C dd : Addr) (f : Str) (te : TE) : TE := fun σ H Q => te σ H fun x H1 => x = .ref a ∧ xfB K C f = true ∧ ∃ (fs : List (Str × V)) (v : V), H1 dd = some (.xd fs) ∧ fs.lookup f = some v ∧ Q v H1
theorem pe_xfld {X : Cx} {a C dd : Addr} {e : Expr} {te : TE} {pos : Pos} {n : Str} (P : PinX X a C dd) (he : PE X e te) (hb : attributeBase e n X.env (eval e X.env) = eval e X.env := by rfl) :
    PE X (.Attribute e n pos) (tXfld X.K a C dd n te) := by
  refine ⟨fun pins s σ H Q I h => ?_⟩
  obtain ⟨oe, hp, ⟨z1, z2⟩, vs, hv⟩ := P.pin
  refine attr_of hb (thn (he.run pins s σ H _ I h) fun u s1 hh => ?_)
  obtain ⟨x, H1, I1, rx, ex, hB, fs, v, ea, l, q⟩ := hh
  subst ex
  obtain rfl : u = Value.ref a := rx
  unfold xfB at hB
  obtain ⟨hB1, hB2⟩ := Bool.and_eq_true_iff.mp hB
  have T := xfB_ok hB1
  have hno : PySem.W.findIn X.K (.ref C) n = some none := of_decide_eq_true hB2
  have hx : ObjOk X.prog X.w H1 s1.heap dd (.xd fs) := I1.hok dd _ ea
  obtain ⟨mA, hns, hr⟩ := hx
  obtain ⟨od, ho, hl⟩ := lookIn_ns hns
  obtain ⟨u, hu, ru⟩ := RelO.some_of (v := v) (o := mA n) (by rw [← l]; exact hr n)
  have J : PySem.W.InstAt s1.heap a oe C (some od) := ⟨(I1.pin (a, oe) (List.mem_append_left _ hp)).1, z1, by unfold PySem.W.notCls; rw [hv] <;> rfl, by rw [z2]; exact ho⟩
  exact HandSPX.exc_get I1.kIn J T.ga T.gg T.exC (PySem.W.findObj_own T.hdC hno rfl (by rw [hl, hu])) (handed_of ru) ⟨v, H1, I1.tok _, ru, q⟩

/-! ### by data -/
def fldOf : List Str → List D → Str → Option D
  | k :: ks, d :: l, f => if f = k then some d else fldOf ks l f
  | _, _, _ => none
theorem fld_rep {K : PySem.W.Frag} {Av : Addr → Prop} {H : Hp} : ∀ {fv : List (Str × V)} {ds : List D} {f : Str} {d : D}, Reps K Av H (fv.map (·.2)) ds → fldOf (fv.map (·.1)) ds f = some d → ∃ v, fv.lookup f = some v ∧ Rep K Av H v d
  | [], _, f, d, _, e => by cases e
  | (k, v) :: fv, _, f, d, .cons r t, e => by
    show ∃ u, List.lookup f ((k, v) :: fv) = some u ∧ _
    rw [lookup_if]
    by_cases q : f = k
    · rw [if_pos q]
      have e' : (if f = k then some _ else fldOf (fv.map (·.1)) _ f) = some d := e
      rw [if_pos q] at e'
      cases e'
      exact ⟨v, rfl, r⟩
    · rw [if_neg q]
      have e' : (if f = k then some _ else fldOf (fv.map (·.1)) _ f) = some d := e
      rw [if_neg q] at e'
      exact fld_rep t e'
/-- e.f of the suite's error -/
def mXf (K : PySem.W.Frag) (a C dd : Addr) (f : Str) (mb : TBm) : TEm := fun s Q X => mb s (fun b s1 => s1.get b fun sv => ∃ ks l d, sv = .val (.xc a C dd ks l) ∧ xfB K C f = true ∧ fldOf ks l f = some d ∧ Q (.val d) s1) X
section
variable {X : Cx} {a C dd : Addr} {e : Expr} {es : List Expr} {mb : TBm} {n x c : Str} {p p' pos : Pos}
theorem me_xf (P : PinX X a C dd) (he : MB X e mb) (hb : attributeBase e n X.env (eval e X.env) = eval e X.env := by rfl) : ME X (.Attribute e n pos) (mXf X.K a C dd n mb) := fun en Z tk =>
  PE.imp (pe_xfld P (he en Z tk) hb) fun σ H Q ⟨stk, vs, s, R, hl, r0, hm, hq⟩ => ⟨stk, vs, s, _, hl, r0, hm, fun v H' b s' r1 b1 g => by
    obtain ⟨sv, hs, ks, l, d, rfl, hB, hf, q⟩ := get_sv hl r1 b1 g
    cases hs with
    | xc e1 e2 e3 =>
      obtain ⟨u, hu, ru⟩ := fld_rep e3 hf
      exact ⟨rfl, hB, _, u, e1, hu, hq u H' (.val d) s' (r1.push ru) q⟩⟩
end
def clsV : D → Option Value
  | .cls C => some (.ref C)
  | .ty n => some (.type n)
  | _ => none
theorem clsV_rep {K : PySem.W.Frag} {Av : Addr → Prop} {H : Hp} {v : V} {d : D} {c : Value} (r : Rep K Av H v d) (h : clsV d = some c) : ∀ u, RelV v u → u = c := by
  cases r with
  | cls C =>
    cases h
    exact fun u h => h
  | ty n =>
    cases h
    exact fun u h => h
  | _ => cases h
/-- isinstance(e, c) of the suite's error -/
def mIsX (K : PySem.W.Frag) (a C dd : Addr) (ma : TAm) : TEm := fun s Q X => ma s (fun bs s1 => s1.gets bs fun xs => ∃ ks l c cv r, xs = [.val (.xc a C dd ks l), .val c] ∧ xiB K C = true ∧ clsV c = some cv ∧ PySem.W.kitOne K (.ref C) cv = some r ∧ Q (.val (.bl r)) s1) X
section
variable {X : Cx} {a C dd : Addr} {e : Expr} {es : List Expr} {ma : TAm} {p pos : Pos}
theorem me_isX (P : PinX X a C dd) (hg : Gl X "isinstance") (hm : X.mg "isinstance" = none) (ha : MA X (e :: es) ma)
    (he : starEach (e :: es) X.env = (false, eval e X.env) :: starEach es X.env := by rfl) (hpl : (backTo pos (starEach es X.env)).any (·.1) = false := by rfl) : ME X (.Call (.Name "isinstance" p) (e :: es) [] pos) (mIsX X.K a C dd ma) := fun en Z tk =>
  PE.imp (pe_callB (call_isX P) hg hm (by rfl) (ha en Z tk) (by decide) (by decide) he hpl) fun σ H Q ⟨stk, vs, s, R, hl, r0, hm, hq⟩ => ⟨stk, vs, s, _, hl, r0, hm, fun us H' bs s' r1 b1 g => by
    obtain ⟨xs, h1, ks, l, c, cv, r, rfl, hB, hc, hk, q⟩ := gets_sv hl r1 b1 g
    obtain ⟨v, w, rfl, hv, hw⟩ := h1.two
    cases hv with
    | xc e1 e2 e3 => exact ⟨w, cv, r, _, rfl, clsV_rep hw hc, hB, hk, e1, hq _ _ (.val (.bl r)) s' (r1.push (.bl r)) q⟩⟩
end

/-! ### a def that is called in a suite, the error in its hands -/
structure FnP (P : Program) (w : World) (K : PySem.W.Frag) (mg : Str → Option Value) (base : Heap) (k : Nat) (f : Addr) (fd : FuncData) (ps : List Str) (sp : Addr → Addr → Addr → SpM) : Prop where
  len : ∀ a C dd ds m R Z, sp a C dd ds m R Z → ds.length = ps.length
  run : ∀ (A : Around) (outer : List Env) (s : Shared) (H : Hp) (args : Args) (us : List Value) (vs : List V) (Q : VK) (a C dd : Addr) (oe : Obj), L2H.RoomH k A → L2H.PinOk outer H s (a, oe) → Zc (.ref C) (some dd) oe → (∃ vs, oe.data = .fields vs) →
    Env0 P w K mg base A outer s H → BindsTo s fd args (ps.zip us) → Vals vs us → liftSp K (sp a C dd) vs H Q (fun _ _ _ => False) → codeAny (model P w) A (.call (.ref f) args) (CR (L2.CX P w) outer P w H s Q (fun _ _ _ => False)) s
theorem fn_p {P : Program} {w : World} {K : PySem.W.Frag} {mg : Str → Option Value} {base : Heap} {x qual : Str} {st : Stmt} {f : Addr} {fd : FuncData} {N ps : List Str} {k : Nat} {sp : Addr → Addr → Addr → SpM} {mb : SuM} (F : Fun K x qual st f fd) (Sc : FnScope N ps (defScope st))
    (len : ∀ a C dd ds m R Z, sp a C dd ds m R Z → ds.length = ps.length)
    (hb : ∀ (cdv : Value) (A : Around) (outer : List Env) (s : Shared) (H : Hp) (p : Addr × Obj) (a C dd : Addr), PinX (L2H.cxH (L2.CX P w) P w K mg base N qual (defScope st) f cdv A outer s H (fun _ _ _ => False) p) a C dd → L2H.RoomH k (A.deeper (envOfC qual (defScope st) s.heap.objs.size f cdv)) →
      MSs (L2H.cxH (L2.CX P w) P w K mg base N qual (defScope st) f cdv A outer s H (fun _ _ _ => False) p) (defBody st) (mb a C dd))
    (hs : ∀ a C dd ds m R Z, sp a C dd ds m R Z → mb a C dd { nx := fun s => ∃ m', le_mem m' s.mem ∧ R (.val .non) m', rt := fun sv s => ∃ m', le_mem m' s.mem ∧ R sv m', ex := fun _ _ => False } ⟨startL N ds, m⟩) :
    FnP P w K mg base (k + 1) f fd ps sp := by
  refine ⟨len, fun A outer s H args us vs Q a C dd oe hr hpin hz hv e0 hbd r hsp => ?_⟩
  obtain ⟨oc, od, kV, doc, pm, an, cdv, ct, osl, rfl, lk, hcd⟩ := F.ex
  obtain ⟨G, ds, m, R, Z, r0, hsp, hq, _⟩ := hsp
  have hlen : vs.length = ds.length := by simpa using r0.len
  have hl : vs.length = ps.length := by rw [hlen]; exact len _ _ _ _ _ _ _ hsp
  have KX : K.In s.heap := e0.mod.kin.keeps fun b o e => (e0.bs b o e).1
  have lim : s.heap.NoLimit := e0.mod.nolimit.keeps fun b o e => (e0.bs b o e).1
  have kind : ∀ y ∈ ps.zip us, (defScope st).names.lookup y.1 = some .local ∨ ((defScope st).names.lookup y.1 = some .cell ∧ ((cellsFrom (s.heap.objs.size + 1) (defScope st).names []).lookup y.1).isSome = true) := fun ⟨n, v⟩ hy =>
    (Sc.par n (List.of_mem_zip hy).1).imp id fun q => ⟨q, PySem.W.cellsFrom_some _ _ _ (.inl q)⟩
  refine codeAny_call_function hr.depth (KX _ _ lk) rfl Sc.co Sc.gen rfl (PySem.W.codeRec_of KX hcd) (hbd _ _ _ _ (wpAny_newFunctionEnv_cells Sc.kind kind fun env he s1 x => ?_))
  subst he
  refine ⟨lim.keeps x.toInCall.keep, codeAny_func ?_⟩
  have I : Inv (L2H.cxH (L2.CX P w) P w K mg base N qual (defScope st) f cdv A outer s H (fun _ _ _ => False) (a, oe)) [] (L2.start N vs) H s1 := L2H.inv_startH Sc hpin e0 hl r x
  have ht := hb cdv A outer s H (a, oe) a C dd ⟨oe, List.mem_cons_self, hz, hv⟩ (hr.deeper _)
  let en : Ent := ⟨G, fun b => m b ≠ none, H⟩
  have hq' := ht en (fun _ _ => False) fun u s' z => by
    obtain ⟨_, _, _, _, _, _, _, _, _, _, _, _, _, _, _, _, _, _, _, _, z⟩ := z
    exact z.elim
  refine wpAny_mono (hq'.run [] s1 (L2.start N vs) H { nx := fun _ H' => Q .non H', rt := Q } I ⟨[], [], ⟨startL N ds, m⟩, _, rfl, rfl, ?_, hs a C dd ds m R Z hsp, fun σ' H' s' r' ⟨m', hm, q⟩ => ?_, fun v σ' H' sv s' r' ⟨m', hm, q⟩ => ?_, fun σ' H' s' r' q => q, fun σ' H' s' r' q => q⟩) (fun fl s' hs => ?_) fun e s' hs => hs
  · have := r0.pad (N.length - vs.length)
    show Rel K en (startL N ds) m (L2.start N vs) H
    unfold startL L2.start
    rw [← hlen]
    exact this
  · have r2 : Rel K en (s'.loc ++ []) m' (σ' ++ []) H' := by rw [List.append_nil, List.append_nil]; exact r'.dropM hm
    exact hq .non H' (.val .non) m' ((r2.unstk r'.len.symm).push .non) q
  · have r2 : Rel K en ([some sv] ++ (s'.loc ++ [])) m' ([some v] ++ (σ' ++ [])) H' := by rw [List.append_nil, List.append_nil]; exact Rel.dropM r' hm
    have hl2 : s'.loc.length = σ'.length := by have := r'.len; simp at this; omega
    exact hq v H' sv m' (Rel.dropMid hl2 r2) q
  · have fin : ∀ {σ' : L2.St} {H' : Hp} {v : V} {u : Value}, Inv (L2H.cxH (L2.CX P w) P w K mg base N qual (defScope st) f cdv A outer s H (fun _ _ _ => False) (a, oe)) [] σ' H' s' → RelV v u → Q v H' → CE outer P w H s Q u s' :=
      fun {σ' H' v u} J rv q => ⟨v, H', J.os, J.bare, J.base, J.hok, rv, q⟩
    cases fl with
    | ret u =>
      obtain ⟨v, σ', H', J, rv, q⟩ := hs
      exact fin J rv q
    | next =>
      obtain ⟨σ', H', J, q⟩ := hs
      exact fin (v := V.non) (u := Value.none) J rfl q
    | brk =>
      obtain ⟨_, _, _, q⟩ := hs
      exact False.elim q
    | cont =>
      obtain ⟨_, _, _, q⟩ := hs
      exact False.elim q
section
variable {X : Cx} {a C dd : Addr} {k : Nat} {f : Addr} {fd : FuncData} {ps : List Str} {sp : Addr → Addr → Addr → SpM} {x : Str} {p pos : Pos} {e : Expr} {es : List Expr} {ma : TAm}
theorem run_fnP {pins : List (Addr × Obj)} {σ : L2.St} {H : Hp} {s : Shared} {Q : VK} {us : List Value} {vs : List V} (P : PinX X a C dd) (F : FnP X.prog X.w X.K X.mg X.base k f fd ps sp) (hr : L2H.RoomH k X.A) (hb : Binds X.K fd ps [])
    (I : Inv X pins σ H s) (r : Vals vs us) (h : liftSp X.K (sp a C dd) vs H Q (fun _ _ _ => False)) : wpAny (model X.prog X.w) X.A (call (.ref f) us) (EP X pins σ Q) X.xe s := by
  obtain ⟨oe, hp, hz, hv⟩ := P.pin
  have hl : us.length = ps.length := by
    obtain ⟨G, ds, m, R, Z, r0, h, _⟩ := h
    have := r0.len
    simp only [List.length_map] at this
    rw [← r.length, this, F.len _ _ _ _ _ _ _ h]
  have b := hb s us I.kIn (by rw [List.append_nil]; exact hl)
  rw [List.append_nil] at b
  have P1 := I.pin (a, oe) (List.mem_append_left _ hp)
  have hpin : L2H.PinOk X.stack H s (a, oe) := ⟨P1.1, P1.2.1, fun hm => (List.mem_cons.mp (I.stkSub a hm)).elim P1.2.2.1 P1.2.2.2.1, P1.2.2.2.2⟩
  refine wpAny_call (codeAny_mono (F.run X.A X.stack s H ⟨us, []⟩ us vs Q a C dd oe hr hpin hz hv I.env0 b r h) fun r s' hq => ?_)
  cases r with
  | error e =>
    obtain ⟨_, _, _, _, _, _, _, _, _, _, _, _, z⟩ := hq
    exact z.elim
  | ok fl =>
    cases fl with
    | ret u => exact I.after hq
    | next => exact False.elim hq
    | brk => exact False.elim hq
    | cont => exact False.elim hq
/-- such a call -/
def mCallN (sp : SpM) (ma : TAm) : TEm := fun s Q X => ma s (fun bs s1 => callW sp bs [] s1 Q (fun _ _ => False)) X
theorem me_callP (P : PinX X a C dd) (F : FnP X.prog X.w X.K X.mg X.base k f fd ps sp) (hr : L2H.RoomH k X.A) (hg : Gl X x) (hm : X.mg x = some (.ref f)) (hk : PySem.W.keepIn X.K (.ref f) = true) (hb : Binds X.K fd ps [])
    (ha : MA X (e :: es) ma) (hdb : (x == ("__debug__" : Str)) = false := by decide) (he : starEach (e :: es) X.env = (false, eval e X.env) :: starEach es X.env := by rfl) (hpl : (backTo pos (starEach es X.env)).any (·.1) = false := by rfl) :
    ME X (.Call (.Name x p) (e :: es) [] pos) (mCallN (sp a C dd) ma) := fun en Z tk => by
  refine ⟨fun pins s σ H Q I h => ?_⟩
  obtain ⟨stk, vs, sm, R, hl, r0, hm', hq⟩ := h
  refine wpAny_Call_Name_kw (ld_glob I hg hm ?_ hdb)
  refine PySem.W.callWith_K (h₀ := X.base) I.ok.mod.kin hk (thn ((ha en Z tk).run pos pins s σ H (fun us H1 => liftSp X.K (sp a C dd) us H1 Q (fun _ _ _ => False)) I ⟨stk, vs, sm, _, hl, r0, hm', fun us H' bs s' r1 b1 q => ?_⟩) fun us s1 ⟨vs, H1, I1, r, q⟩ => ⟨I1.kIn, ?_⟩) he hpl
  · exact call_lift (uacc := []) (dacc := []) hl bs us s' H' R (fun _ _ => False) Q (fun _ _ _ => False) r1 .nil b1 q hq fun _ _ _ _ _ _ _ q => q
  · exact run_fnP P F hr hb I1 r q
end
end Sf

set_option maxHeartbeats 4000000
set_option autoImplicit false
/-! Sf: defs where the guards of repr and the frames of _pylong are known; the law's head. -/
namespace Sf
open PySem PySem.Spec PyProof.Rows L2

/-- room for k calls one in another; no repr runs around; a huge quotient may be asked -/
structure Rm (P : Program) (k : Nat) (A : Around) (base : Heap) : Prop where
  r : Room k A
  g : A.guards = some []
  seer : base.NoSeer
  tree : P.given.tree = none
theorem Rm.mono {P : Program} {j k : Nat} {A : Around} {base : Heap} (h : Rm P k A base) (e : j ≤ k) : Rm P j A base := ⟨h.r.mono e, h.g, h.seer, h.tree⟩
theorem Rm.deeper {P : Program} {k : Nat} {A : Around} {base : Heap} (h : Rm P (k + 1) A base) (env : Env) : Rm P k (A.deeper env) base := ⟨h.r.deeper env, h.g, h.seer, h.tree⟩
theorem Rm.units {P : Program} {k : Nat} {A : Around} {base : Heap} (h : Rm P k A base) : A.units + 64 < cLine := by have := h.r.un; omega
theorem Rm.un65 {P : Program} {k : Nat} {A : Around} {base : Heap} (h : Rm P k A base) : A.units + 65 < cLine := by have := h.r.un; omega
theorem Rm.un190 {P : Program} {k : Nat} {A : Around} {base : Heap} (h : Rm P k A base) : A.units + 190 < cLine := by have := h.r.un; omega

/-- what a def promises there -/
structure FnG (P : Program) (w : World) (K : PySem.W.Frag) (mg : Str → Option Value) (base : Heap) (k : Nat) (f : Addr) (fd : FuncData) (ps : List Str) (sp : SpM) : Prop where
  len : ∀ ds m R Z, sp ds m R Z → ds.length = ps.length
  run : ∀ (A : Around) (outer : List Env) (s : Shared) (H : Hp) (args : Args) (us : List Value) (vs : List V) (Q : VK) (E : XK), Rm P k A base → Env0 P w K mg base A outer s H → BindsTo s fd args (ps.zip us) → Vals vs us → liftSp K sp vs H Q E →
    codeAny (model P w) A (.call (.ref f) args) (CR (L2.CX P w) outer P w H s Q E) s
theorem FnG.mono {P : Program} {w : World} {K : PySem.W.Frag} {mg : Str → Option Value} {base : Heap} {j k : Nat} {f : Addr} {fd : FuncData} {ps : List Str} {sp : SpM} (F : FnG P w K mg base j f fd ps sp) (h : j ≤ k) : FnG P w K mg base k f fd ps sp :=
  ⟨F.len, fun A outer s H args us vs Q E hr => F.run A outer s H args us vs Q E (hr.mono h)⟩
theorem liftSp_len {K : PySem.W.Frag} {sp : SpM} {n : Nat} (len : ∀ ds m R Z, sp ds m R Z → ds.length = n) {vs : List V} {H : Hp} {Q : VK} {E : XK} (h : liftSp K sp vs H Q E) : vs.length = n := by
  obtain ⟨G, ds, m, R, Z, r, h, _⟩ := h
  have := r.len
  simp only [List.length_map] at this
  rw [this, len _ _ _ _ h]
theorem fn_g {P : Program} {w : World} {K : PySem.W.Frag} {mg : Str → Option Value} {base : Heap} {x qual : Str} {st : Stmt} {f : Addr} {fd : FuncData} {N ps : List Str} {k : Nat} {sp : SpM} {mb : TSm} (F : Fun K x qual st f fd) (Sc : FnScope N ps (defScope st))
    (len : ∀ ds m R Z, sp ds m R Z → ds.length = ps.length)
    (hb : ∀ (cdv : Value) (A : Around) (outer : List Env) (s : Shared) (H : Hp) (E : XK), Rm P k (A.deeper (envOfC qual (defScope st) s.heap.objs.size f cdv)) base → MSs (cxOf (L2.CX P w) P w K mg base N qual (defScope st) f cdv A outer s H E) (defBody st) mb)
    (hs : ∀ ds m R Z, sp ds m R Z → mb { nx := fun s => ∃ m', le_mem m' s.mem ∧ R (.val .non) m', rt := fun sv s => ∃ m', le_mem m' s.mem ∧ R sv m', ex := fun x s => ∃ m', le_mem m' s.mem ∧ Z x m' } ⟨startL N ds, m⟩) :
    FnG P w K mg base (k + 1) f fd ps sp := by
  refine ⟨len, fun A outer s H args us vs Q E hr e0 hbd r hsp => ?_⟩
  obtain ⟨oc, od, kV, doc, pm, an, cdv, ct, osl, rfl, lk, hcd⟩ := F.ex
  have hl : vs.length = ps.length := liftSp_len len hsp
  obtain ⟨G, ds, m, R, Z, r0, hsp, hq, he⟩ := hsp
  have hlen : vs.length = ds.length := by simpa using r0.len
  have KX : K.In s.heap := e0.mod.kin.keeps fun b o e => (e0.bs b o e).1
  have lim : s.heap.NoLimit := e0.mod.nolimit.keeps fun b o e => (e0.bs b o e).1
  have kind : ∀ y ∈ ps.zip us, (defScope st).names.lookup y.1 = some .local ∨ ((defScope st).names.lookup y.1 = some .cell ∧ ((cellsFrom (s.heap.objs.size + 1) (defScope st).names []).lookup y.1).isSome = true) := fun ⟨n, v⟩ hy =>
    (Sc.par n (List.of_mem_zip hy).1).imp id fun q => ⟨q, PySem.W.cellsFrom_some _ _ _ (.inl q)⟩
  refine codeAny_call_function hr.r.depth (KX _ _ lk) rfl Sc.co Sc.gen rfl (PySem.W.codeRec_of KX hcd) (hbd _ _ _ _ (wpAny_newFunctionEnv_cells Sc.kind kind fun env he s1 x => ?_))
  subst he
  refine ⟨lim.keeps x.toInCall.keep, codeAny_func ?_⟩
  have I : Inv (cxOf (L2.CX P w) P w K mg base N qual (defScope st) f cdv A outer s H E) [] (L2.start N vs) H s1 := inv_start Sc hr.r.hd e0 hl r x
  let en : Ent := ⟨G, fun b => m b ≠ none, H⟩
  have ht := hb cdv A outer s H E (hr.deeper _) en (fun x s => ∃ m', le_mem m' s.mem ∧ Z x m') ((takes_of rfl rfl rfl rfl).imp fun cls d σ H' hw => by
    obtain ⟨s', x, r', hx, m', hm, hz⟩ := hw
    have r2 : Rel K en [] m' [] H' := by
      have q := r'.dropM hm
      have q2 : Rel K en (s'.loc ++ []) m' (σ ++ []) H' := by rw [List.append_nil, List.append_nil]; exact q
      exact q2.unstk r'.len.symm
    refine he cls d H' x m' r2 (hx.down fun b z => ?_) hz
    rcases z with z | ⟨i, o, h1, _⟩ | z
    · exact .inl z
    · simp at h1
    · refine .inr (.inr ?_)
      cases q : m' b with
      | none => exact absurd q z
      | some o => rw [hm b o q]; simp)
  refine wpAny_mono (ht.run [] s1 (L2.start N vs) H { nx := fun _ H' => Q .non H', rt := Q } I ⟨[], [], ⟨startL N ds, m⟩, _, rfl, rfl, ?_, hs ds m R Z hsp, fun σ' H' s' r' ⟨m', hm, q⟩ => ?_, fun v σ' H' sv s' r' ⟨m', hm, q⟩ => ?_, fun σ' H' s' r' q => q, fun σ' H' s' r' q => q⟩) (fun fl s' hs => ?_) fun e s' hs => hs
  · have := r0.pad (N.length - vs.length)
    show Rel K en (startL N ds) m (L2.start N vs) H
    unfold startL L2.start
    rw [← hlen]
    exact this
  · have r2 : Rel K en (s'.loc ++ []) m' (σ' ++ []) H' := by rw [List.append_nil, List.append_nil]; exact r'.dropM hm
    exact hq .non H' (.val .non) m' ((r2.unstk r'.len.symm).push .non) q
  · have r2 : Rel K en ([some sv] ++ (s'.loc ++ [])) m' ([some v] ++ (σ' ++ [])) H' := by rw [List.append_nil, List.append_nil]; exact Rel.dropM r' hm
    have hl2 : s'.loc.length = σ'.length := by have := r'.len; simp at this; omega
    exact hq v H' sv m' (Rel.dropMid hl2 r2) q
  · have fin : ∀ {σ' : L2.St} {H' : Hp} {v : V} {u : Value}, Inv (cxOf (L2.CX P w) P w K mg base N qual (defScope st) f cdv A outer s H E) [] σ' H' s' → RelV v u → Q v H' → CE outer P w H s Q u s' :=
      fun {σ' H' v u} J rv q => ⟨v, H', J.os, J.bare, J.base, J.hok, rv, q⟩
    cases fl with
    | ret u =>
      obtain ⟨v, σ', H', J, rv, q⟩ := hs
      exact fin J rv q
    | next =>
      obtain ⟨σ', H', J, q⟩ := hs
      exact fin (v := V.non) (u := Value.none) J rfl q
    | brk =>
      obtain ⟨_, _, _, q⟩ := hs
      exact False.elim q
    | cont =>
      obtain ⟨_, _, _, q⟩ := hs
      exact False.elim q
/-- the program's def of that name keeps that promise, by at most k calls one in another -/
def Gas (P : Program) (w : World) (K : PySem.W.Frag) (mg : Str → Option Value) (base : Heap) (x : Str) (k : Nat) (ps : List Str) (sp : SpM) : Prop :=
  ∃ (f : Addr) (fd : FuncData), mg x = some (.ref f) ∧ PySem.W.keepIn K (.ref f) = true ∧ Binds K fd ps [] ∧ FnG P w K mg base k f fd ps sp
section
variable {X : Cx} {k : Nat} {f : Addr} {fd : FuncData} {ps : List Str} {sp : SpM} {x : Str} {p pos : Pos} {e : Expr} {es : List Expr} {ma : TAm}
theorem run_fnG {pins : List (Addr × Obj)} {σ : L2.St} {H : Hp} {s : Shared} {Q : VK} {E : XK} {us : List Value} {vs : List V} (F : FnG X.prog X.w X.K X.mg X.base k f fd ps sp) (hr : Rm X.prog k X.A X.base) (hb : Binds X.K fd ps []) (hx : PassesAt (L2.CX X.prog X.w) X σ E)
    (I : Inv X pins σ H s) (r : Vals vs us) (h : liftSp X.K sp vs H Q E) : wpAny (model X.prog X.w) X.A (call (.ref f) us) (EP X pins σ Q) X.xe s := by
  have hl : us.length = ps.length := by rw [← r.length]; exact liftSp_len F.len h
  have b := hb s us I.kIn (by rw [List.append_nil]; exact hl)
  rw [List.append_nil] at b
  refine wpAny_call (codeAny_mono (F.run X.A X.stack s H ⟨us, []⟩ us vs Q E hr I.env0 b r h) fun r s' hq => ?_)
  cases r with
  | error er => exact hx pins H s er s' I hq
  | ok fl => cases fl with
    | ret u => exact I.after hq
    | next => exact hq.elim
    | brk => exact hq.elim
    | cont => exact hq.elim
theorem Gas.me (h : Gas X.prog X.w X.K X.mg X.base x k ps sp) (hr : Rm X.prog k X.A X.base) (hg : Gl X x)
    (ha : MA X (e :: es) ma) (hdb : (x == ("__debug__" : Str)) = false := by decide) (he : starEach (e :: es) X.env = (false, eval e X.env) :: starEach es X.env := by rfl) (hpl : (backTo pos (starEach es X.env)).any (·.1) = false := by rfl) :
    ME X (.Call (.Name x p) (e :: es) [] pos) (mCall sp ma) := fun en Z tk => by
  obtain ⟨f, fd, hm, hk, hb, F⟩ := h
  refine ⟨fun pins s σ H Q I h => ?_⟩
  obtain ⟨stk, vs, sm, R, hl, r0, hm', hq⟩ := h
  refine wpAny_Call_Name_kw (ld_glob I hg hm ?_ hdb)
  refine PySem.W.callWith_K (h₀ := X.base) I.ok.mod.kin hk (thn ((ha en Z tk).run pos pins s σ H (fun us H1 => liftSp X.K sp us H1 Q (WE (liftW X.K en Z) σ)) I ⟨stk, vs, sm, _, hl, r0, hm', fun us H' bs s' r1 b1 q => ?_⟩) fun us s1 ⟨vs, H1, I1, r, q⟩ => ⟨I1.kIn, ?_⟩) he hpl
  · exact call_lift (uacc := []) (dacc := []) hl bs us s' H' R Z Q _ r1 .nil b1 q hq fun cls d H2 x s2 r2 hx q2 => ⟨s2, x, r2.unstk hl, hx.down (avO_unstk hl), q2⟩
  · exact run_fnG F hr hb (passAt tk σ) I1 r q
end

section
variable {X : Cx} {k : Nat} {sp : SpM} {x : Str} {p pos : Pos}
/-- a call without arguments -/
theorem Gas.me0 (h : Gas X.prog X.w X.K X.mg X.base x k [] sp) (hr : Rm X.prog k X.A X.base) (hg : Gl X x) (hdb : (x == ("__debug__" : Str)) = false := by decide) : ME X (.Call (.Name x p) [] [] pos) (mCall sp mNil) := fun en Z tk => by
  obtain ⟨f, fd, hm, hk, hb, F⟩ := h
  refine ⟨fun pins s σ H Q I h => ?_⟩
  obtain ⟨stk, vs, sm, R, hl, r0, hm', hq⟩ := h
  refine wpAny_Call_Name_kw (ld_glob I hg hm ?_ hdb)
  refine PySem.W.callWith_K0 I.kIn hk ?_
  refine run_fnG (vs := []) (us := []) F hr hb (passAt tk σ) I .nil ?_
  exact call_lift (uacc := []) (dacc := []) hl [] [] sm H R Z Q _ r0 .nil .nil hm' hq fun cls d H2 x s2 r2 hx q2 => ⟨s2, x, r2.unstk hl, hx.down (avO_unstk hl), q2⟩
end
theorem Rm.hot {P : Program} {j k : Nat} {A : Around} {base : Heap} (h : Rm P k A base) (e : j ≤ k) (x : Option Value) : L2H.RoomH j (A.mark x) := L2H.RoomH.mono ⟨h.r.dp, h.r.un⟩ e

/-! ### the law's head -/
theorem law_sp {K : PySem.W.Frag} {H : Hp} {a : Addr} {ns : List Int} {sp : SpM} (hS : SqL K H a (ns.map V.int)) (h : sp [.scr ns] (fun _ => none) (fun sv _ => sv = .val (.bl true)) (fun _ _ => False)) : liftSp K sp [.ref a] H (fun v _ => v = .bl true) (fun _ _ _ => False) := by
  have nOwn : ∀ b, ¬ OwnAt [some (SV.val (.scr ns))] [some (V.ref a)] b := fun b z => (ownAt_vals (ds := [.scr ns]) (us := [some (V.ref a)])) z
  have nAv : ∀ b, ¬ AvO ⟨fun _ => False, fun b => (fun _ => none : Mem) b ≠ none, H⟩ [some (SV.val (.scr ns))] (fun _ => none) [some (V.ref a)] b := fun b z => by
    rcases z with z | z | z
    · exact z
    · exact nOwn b z
    · exact z rfl
  refine ⟨fun _ => False, [.scr ns], fun _ => none, _, _, ⟨rfl, fun i sv hi => ?_, fun i j o o' b h1 _ _ _ => ?_, (fun b o q => by cases q), (fun b q => False.elim q), fun b o q _ => q, fun b q => ?_⟩, h, fun v H' sv m' r q => ?_, fun _ _ _ _ _ _ _ q => q⟩
  · cases i with
    | zero =>
      have : SV.val (.scr ns) = sv := by simpa using hi
      subst this
      exact ⟨_, rfl, .scr (hS.imp (fun q => ⟨q, nAv a⟩) id)⟩
    | succ i => simp at hi
  · cases i with
    | zero => simp at h1
    | succ i => simp at h1
  · rcases q with q | q
    · exact absurd q (nOwn b)
    · exact absurd rfl q
  · subst q
    have t := r.top
    cases t
    rfl
theorem seer_hid {h g : Heap} (x : h.NoSeer) (k : ∀ b o es ep, h.get? b = some o → o.data = .dict es ep → g.get? b = some o) (k2 : ∀ b o, h.get? b = some o → o.cls = .type "module" → g.get? b = some o) : g.NoSeer := by
  have ns : ∀ {a : Addr} {m : Str → Option Value}, h.Ns a m → g.Ns a m := fun {a m} ⟨o, es, ep, e, d, r⟩ => ⟨o, es, ep, k _ _ _ _ e d, d, r⟩
  obtain ⟨mc, a, b⟩ := x.statics
  obtain ⟨mm, a2, b2⟩ := x.mods
  obtain ⟨mb, a3, b3⟩ := x.imp
  obtain ⟨mg, bm, ob, a4, b4, c4, d4, e4⟩ := x.main
  exact ⟨⟨mc, ns a, b⟩, ⟨mm, ns a2, b2⟩, ⟨mb, ns a3, b3⟩, ⟨mg, bm, ob, ns a4, b4, k2 _ _ c4 d4, d4, e4⟩⟩
/-- the law's def is called with the script -/
theorem law_callG {P : Program} {w : World} {K : PySem.W.Frag} {mg mb : Str → Option Value} {k : Nat} {fa a : Addr} {fd : FuncData} {x : Str} {sp : SpM} {t : Shared} {vs : List Value} {ns : List Int}
    (KX : K.In t.heap) (hns : t.heap.Ns mainGlobals mg) (hb : t.heap.Ns builtinsNs mb) (hbb : ∀ x : Str, x ≠ "__name__" → mb x = bootBuiltins x) (hlim : t.heap.NoLimit) (hseer : t.heap.NoSeer) (htree : P.given.tree = none) (hg : t.gens = #[])
    (ha : t.heap.get? a = some { cls := .type "list", data := .seq vs.toArray }) (hi : IntsAre vs ns) (hl : ns.length ≤ sizeLine) (hr : Room k callerA)
    (F : ∀ base : Heap, K.In base → base.Ns mainGlobals mg → FnG P w K mg base k fa fd [x] sp) (hbind : ∀ (s : Shared) (u : Value), BindsTo s fd ⟨[u], []⟩ [(x, u)])
    (hsp : sp [.scr ns] (fun _ => none) (fun sv _ => sv = .val (.bl true)) (fun _ _ => False)) :
    codeAny (model P w) callerA (.call (.ref fa) ⟨[.ref a], []⟩) (fun r s' => r = .ok (.ret (.bool true)) ∧ OldK t.heap s'.heap ∧ s'.os = t.os ∧ AllBare s'.gens) t := by
  have core : ∀ H : Hp, Only H → SqL K H a (ns.map V.int) → HOk P w H t.heap → (∀ b, H b ≠ none → b = a) → (H a ≠ none → K.lookup a = none) → codeAny (model P w) callerA (.call (.ref fa) ⟨[.ref a], []⟩) (fun r s' => r = .ok (.ret (.bool true)) ∧ OldK t.heap s'.heap ∧ s'.os = t.os ∧ AllBare s'.gens) t := by
    intro H hO hS hok hA hK
    have isA : ∀ {b : Addr}, b ≠ a → H b = none := fun {b} n => by
      cases q : H b with
      | none => rfl
      | some u => exact absurd (hA b (by rw [q]; simp)) n
    have stay : ∀ {b : Addr} {o : Obj}, t.heap.get? b = some o → b ≠ a → (hidT t.heap H).get? b = some o := fun e n => hidT_get e (isA n)
    have neD : ∀ (b : Addr) (o : Obj) (es : Array DictEntry) (ep : Nat), t.heap.get? b = some o → o.data = .dict es ep → b ≠ a := fun b o es ep e d z => by
      subst z
      rw [ha] at e
      cases e
      have d' : Data.seq vs.toArray _ = Data.dict es ep := d
      cases d'
    have neM : ∀ (b : Addr) (o : Obj), t.heap.get? b = some o → o.cls = .type "module" → b ≠ a := fun b o e d z => by
      subst z
      rw [ha] at e
      cases e
      have d' : Value.type "list" = Value.type "module" := d
      exact absurd d' (by decide)
    have nsK : ∀ {b : Addr} {m : Str → Option Value}, t.heap.Ns b m → (hidT t.heap H).Ns b m := fun {b m} ⟨o, es, ep, e, d, r⟩ => ⟨o, es, ep, stay e (neD _ _ _ _ e d), d, r⟩
    have hKb : K.In (hidT t.heap H) := fun b o e => hidT_get (KX b o e) (by
      cases q : H b with
      | none => rfl
      | some u =>
        have z := hA b (by rw [q]; simp)
        subst z
        rw [hK (by rw [q]; simp)] at e
        cases e)
    obtain ⟨mc, l1, l2⟩ := hlim
    have hM : Mod K mg (hidT t.heap H) := ⟨hKb, nsK hns, ⟨mb, nsK hb, hbb⟩, ⟨mc, nsK l1, l2⟩⟩
    have e0 : Env0 P w K mg (hidT t.heap H) callerA [] t H := ⟨rfl, hM, fun b o e => of_hidT e, Nat.le_of_eq (hidT_size _ _), trivial, fun b hb => absurd (show b ∈ ([] : List Addr) from hb) (by simp), hok, .of_eq hg⟩
    have hm : Rm P k callerA (hidT t.heap H) := ⟨hr, rfl, seer_hid hseer (fun b o es ep e d => stay e (neD b o es ep e d)) (fun b o e d => stay e (neM b o e d)), htree⟩
    refine codeAny_mono ((F _ hKb (nsK hns)).run callerA [] t H ⟨[.ref a], []⟩ [.ref a] [.ref a] _ _ hm e0 (hbind t (.ref a)) (.cons rfl .nil) (law_sp hS hsp)) fun r s' h => ?_
    cases r with
    | error e =>
      obtain ⟨_, _, _, _, _, _, _, _, _, _, _, _, z⟩ := h
      exact z.elim
    | ok fl => cases fl with
      | next => exact h.elim
      | brk => exact h.elim
      | cont => exact h.elim
      | ret u =>
        obtain ⟨v, H', os, bare, un, hok', r', q⟩ := h
        have q' : v = .bl true := q
        subst q'
        obtain rfl : u = Value.bool true := r'
        refine ⟨rfl, OldK.of_keep fun b o e => ?_, os, bare⟩
        rcases hO b with q | ⟨ob, xs, z⟩
        · exact un.keep b o e q (fun z => absurd (show b ∈ ([] : List Addr) from z) (by simp)) (by simp)
        · obtain ⟨e1, _⟩ := hok b _ z
          obtain ⟨e2, _⟩ := hok' b _ (un.frzs b ob _ z)
          rw [e] at e1
          cases e1
          exact e2
  have rv := vals_ints hi
  have lenV := hi.length
  cases hk : K.lookup a with
  | some o =>
    have e := KX a o hk
    rw [ha] at e
    cases e
    exact core (fun _ => none) (fun _ => .inl rfl) (.inr ⟨_, vs.toArray, _, hk, rfl, rfl, rfl, by rw [List.size_toArray, lenV]; exact hl, by simpa using rv⟩) (fun b u z => by have z' : (none : Option HO) = some u := z; cases z') (fun b z => absurd rfl z) fun z => absurd rfl z
  | none =>
    refine core (fun b => if b = a then some (.frz { cls := .type "list", data := .seq vs.toArray } (.lst (ns.map V.int))) else none) (fun b => ?_) (.inl (.inr ⟨{ cls := .type "list", data := .seq vs.toArray }, if_pos rfl⟩)) (fun b u z => ?_) (fun b z => ?_) fun _ => hk
    · by_cases q : b = a
      · exact .inr ⟨_, _, if_pos q⟩
      · exact .inl (if_neg q)
    · by_cases q : b = a
      · have z' := (if_pos q).symm.trans z
        cases z'
        subst q
        exact ⟨ha, by rw [List.length_map]; exact hl, vs, _, rv, ha⟩
      · have z' := (if_neg q).symm.trans z
        cases z'
    · by_cases q : b = a
      · exact q
      · exact absurd (if_neg q) z
theorem walk_g {l : PySem.W.OpenLaw} {n k : Nat} {q : Program} {loose : List Str} {XP : (Str → Option Value) → Heap → Prop} {YP : World → Heap → Prop} {d : DefRec} {x : Str}
    (hn : l.most = some n) (hn2 : n ≤ sizeLine) (hdf : d.params.defaults = []) (hr : Room k callerA) (himp : importsNone q = true) (htree : l.prog.given.tree = none)
    (F : ∀ (w : World) (mg : Str → Option Value) (fa : Addr) (h : Heap), YP w h → h.Ns mainGlobals mg → mg d.name = some (.ref fa) →
      ∃ (K : PySem.W.Frag) (fd : FuncData) (sp : SpM), K.In h ∧ (∀ (s : Shared) (u : Value), BindsTo s fd ⟨[u], []⟩ [(x, u)]) ∧
        (∀ (ns : List Int), ns.length ≤ n → (∀ z ∈ ns, Builtin.Int.intBits z ≤ 1048576) → sp [.scr ns] (fun _ => none) (fun sv _ => sv = .val (.bl true)) (fun _ _ => False)) ∧
        ∀ base : Heap, K.In base → base.Ns mainGlobals mg → FnG l.prog w K mg base k fa fd [x] sp) :
    PySem.W.WalkO q loose XP YP l.row.toRowW d [] (fun f vs => PySem.call f vs) := by
  refine Att.attach_callB hn hdf fun w s₀ s₁ mg mb fa o pm cd doc a vs ns G Y ho hd hcd hmg hobj hints hlen hbits hg => ?_
  obtain ⟨K, fd, sp, KX, hb, hsp, hF⟩ := F w mg fa _ Y G.T.g hmg
  exact law_callG KX G.T.g G.T.b G.T.builtins G.T.nolimit (G.T.seer himp) htree hg hobj hints (Nat.le_trans hlen hn2) hr hF hb (hsp ns hlen hbits)
theorem walk_gK {l : PySem.W.OpenLaw} {n k : Nat} {q : Program} {loose : List Str} {XP : (Str → Option Value) → Heap → Prop} {YP : World → Heap → Prop} {d : DefRec} {K : Params → PySem.W.Frag} {x : Str} {sp : SpM}
    (hn : l.most = some n) (hn2 : n ≤ sizeLine) (hdf : d.params.defaults = []) (hr : Room k callerA) (himp : importsNone q = true) (htree : l.prog.given.tree = none) (hY : ∀ (w : World) (h : Heap), YP w h → (K w.params).In h)
    (F : ∀ (w : World) (mg : Str → Option Value) (fa : Addr) (h : Heap), (K w.params).In h → h.Ns mainGlobals mg → mg d.name = some (.ref fa) →
      ∃ fd : FuncData, (∀ (s : Shared) (u : Value), BindsTo s fd ⟨[u], []⟩ [(x, u)]) ∧ ∀ base : Heap, (K w.params).In base → base.Ns mainGlobals mg → FnG l.prog w (K w.params) mg base k fa fd [x] sp)
    (hsp : ∀ (ns : List Int), ns.length ≤ n → (∀ z ∈ ns, Builtin.Int.intBits z ≤ 1048576) → sp [.scr ns] (fun _ => none) (fun sv _ => sv = .val (.bl true)) (fun _ _ => False)) :
    PySem.W.WalkO q loose XP YP l.row.toRowW d [] (fun f vs => PySem.call f vs) :=
  walk_g hn hn2 hdf hr himp htree fun w mg fa h Y G hmg => by
    obtain ⟨fd, h1, h2⟩ := F w mg fa h (hY w h Y) G hmg
    exact ⟨K w.params, fd, sp, hY w h Y, h1, hsp, h2⟩
end Sf

set_option maxHeartbeats 4000000
set_option autoImplicit false
/-! Sf: repr of plain data. -/
namespace Sf
open PySem PySem.Spec PyProof.Rows L2
section
variable {prog : Program} {w : World} {A : Around} {E : Value → Shared → Prop} {s : Shared}
theorem repr_reads : ∀ {v : Value} {d : PyData} {as : List Addr} {Q : Value → Shared → Prop}, Reads s.heap v d as → d.showable = true → (d.hasDict = true → sysModules ∉ as) → d.shown.length ≤ sizeLine → A.guards = some [] → A.units + d.depth + 2 < cLine → d.hasDict = false →
    (∀ h' u tk, (∀ b o, s.heap.get? b = some o → h'.get? b = some o) → Q (.str d.shown u) { s with heap := h', toks := tk }) → wpAny (model prog w) A (call (.builtin "repr") [v]) Q E s
  | _, _, _, Q, .none, _, _, _, _, _, _, hQ => by
    simp only [PyData.shown] at hQ
    exact P.repr_of_none (hQ s.heap _ _ fun _ _ e => e)
  | _, _, _, Q, .bool b, _, _, _, _, _, _, hQ => by
    simp only [PyData.shown] at hQ
    exact P.repr_of_bool (hQ s.heap _ _ fun _ _ e => e)
  | _, _, _, Q, .int i t, hs, _, _, _, _, _, hQ => by
    simp only [PyData.shown] at hQ
    exact P.repr_of_int (by simpa [PyData.showable] using hs) (hQ s.heap _ _ fun _ _ e => e)
  | _, _, _, Q, .str x t, _, _, hz, _, _, _, hQ => by
    simp only [PyData.shown] at hQ hz
    exact P.repr_of_str (hQ s.heap _ _ fun _ _ e => e) hz
  | _, _, _, Q, .list (a := a) (vs := vs) (xs := xs) h1 h2 h3 h4, hs, hsm, hz, hg, hu, hd, hQ => by
    have hz' : (listText (PyData.shownAll xs)).length ≤ sizeLine := by simpa only [PyData.shown] using hz
    obtain ⟨bs, hb, hk⟩ := ReprAllK.of_readsAll (prog := prog) (w := w) h4 (by simpa [PyData.showable] using hs) (fun hx hm => hsm (by simpa [PyData.hasDict] using hx) (List.mem_cons_of_mem _ hm)) (fun t ht => Nat.le_trans (listText_mem_le ht) hz')
    have r : Reads s.heap (.ref a) (.list xs) _ := .list h1 h2 h3 h4
    have hna : a ∉ bs := not_mem_of_deeper r (by simp only [PyData.depth]; omega) hb
    simp only [PyData.depth] at hu
    simp only [PyData.shown] at hQ
    obtain ⟨l⟩ := vs
    cases l with
    | nil =>
      have h4' : ReadsAll s.heap [] xs _ := h4
      cases h4'
      simp only [PyData.shownAll, listText_nil] at hQ
      exact call_repr_slot (by omega) ⟨_, h1, h2⟩ F.slot_list_repr.toG (call_list_repr_empty ⟨_, h1, h2⟩ h1 h3 ⟨_, _, rfl, hQ s.heap _ _ fun _ _ e => e⟩)
    | cons x l =>
      exact call_repr_slot (by omega) ⟨_, h1, h2⟩ F.slot_list_repr.toG (call_list_reprK h1 h2 h3 hna (by simpa using hk.length_eq) (fun i y e => hk.item i y (by simpa using e)) (A := A.in1) hg (fun b _ => Clear.nil b) (by show A.units + 1 + _ < cLine; omega) (fun _ _ e => e) (fun h' u tk hk' => ⟨_, _, rfl, hQ h' u tk hk'⟩) hz')
  | _, _, _, Q, .tuple (a := a) (xs := xs) h1 h2 h3 h4, hs, hsm, hz, hg, hu, hd, hQ => by
    have hz' : (tupleText (PyData.shownAll xs)).length ≤ sizeLine := by simpa only [PyData.shown] using hz
    obtain ⟨bs, hb, hk⟩ := ReprAllK.of_readsAll (prog := prog) (w := w) h4 (by simpa [PyData.showable] using hs) (fun hx => hsm (by simpa [PyData.hasDict] using hx)) (fun t ht => Nat.le_trans (tupleText_mem_le ht) hz')
    have r : Reads s.heap (.ref a) (.tuple xs) _ := .tuple h1 h2 h3 h4
    have hna : a ∉ bs := not_mem_of_deeper r (by simp only [PyData.depth]; omega) hb
    simp only [PyData.depth] at hu
    simp only [PyData.shown] at hQ
    exact call_repr_slot (by omega) ⟨_, h1, h2⟩ F.slot_tuple_repr (call_tuple_reprK h1 h2 h3 hna hk (A := A.in1) hg (fun b _ => Clear.nil b) (by show A.units + 1 + _ < cLine; omega) (fun _ _ e => e) (fun h' u tk hk' => ⟨_, _, rfl, hQ h' u tk hk'⟩) hz')
  | _, _, _, Q, .dict h1 h2 h3 h4 h5, hs, hsm, hz, hg, hu, hd, hQ => by simp [PyData.hasDict] at hd
end
/-- repr of data: its text -/
def rReprD (K : PySem.W.Frag) : List V → Hp → VK → Prop := fun xs H Q => ∃ x d, xs = [x] ∧ Dp K H x d ∧ d.canLay0 = true ∧ d.depth ≤ 61 ∧ d.showable = true ∧ d.shown.length ≤ sizeLine ∧ Q (.str d.shown) H
theorem call_reprD {X : Cx} (hg : X.A.guards = some []) (hu : X.A.units + 64 < cLine) : CallR X (.builtin "repr") (rReprD X.K) := by
  intro pins s σ H xs us Q I r h
  obtain ⟨x, d, rfl, hd, hl, hp, hs, hz, q⟩ := h
  cases r with
  | cons rx rr =>
    cases rr
    obtain ⟨as, r1⟩ := Dp.reads I d x _ hd rx
    have nd := PyData.hasDict_of_canLay d hl
    exact repr_reads r1 hs (fun z => by rw [nd] at z; cases z) hz hg (by omega) nd fun h' u tk k => ⟨.str _, H, I.kept (t' := tk) k, ⟨u, rfl⟩, q⟩
/-- the text of data -/
def D.txt (d : D) : Str := d.py.shown
def D.shows (d : D) : Prop := D.okd 60 d = true ∧ d.py.showable = true ∧ d.py.shown.length ≤ sizeLine
def rReprM : RCm := fun m xs k => match xs with
  | [x] => match datOf m x with
    | some d => d.shows ∧ k (.val (.str d.txt))
    | none => False
  | _ => False
theorem cm_repr {X : Cx} (hg : X.A.guards = some []) (hu : X.A.units + 64 < cLine) : CallM X (.builtin "repr") rReprM := by
  intro en l m σ H vs xs R Q r hx hr1 hq
  unfold rReprM at hr1
  split at hr1
  · rename_i x
    split at hr1
    · rename_i d hd
      obtain ⟨⟨o, hs, hz⟩, hk⟩ := hr1
      cases hx with
      | cons hv hn =>
        cases hn
        have sh := okd_shape 60 d o
        exact ⟨_, call_reprD hg hu, _, d.py, rfl, datOf_dp r hv hd o, sh.1, by omega, hs, hz, hq _ _ _ (r.push (.str _)) hk⟩
    · exact hr1.elim
  · exact hr1.elim
end Sf
namespace Sf
open PySem PySem.Spec PyProof.Rows L2
/-- the classes of errors of the program -/
structure Xs where
  FrameError : Addr
  ReasonError : Addr
  CheckError : Addr
  ArgumentError : Addr
  PaperError : Addr
  TooMany : Addr
  SiteError : Addr
  TextError : Addr
  LogError : Addr
  CommandError : Addr
/-- a def that is called in a suite, the error in its hands -/
def GasP (P : Program) (w : World) (K : PySem.W.Frag) (mg : Str → Option Value) (base : Heap) (x : Str) (k : Nat) (ps : List Str) (sp : Addr → Addr → Addr → SpM) : Prop :=
  ∃ (f : Addr) (fd : FuncData), mg x = some (.ref f) ∧ PySem.W.keepIn K (.ref f) = true ∧ Binds K fd ps [] ∧ FnP P w K mg base k f fd ps sp
theorem GasP.me {X : Cx} {a C dd : Addr} {k : Nat} {ps : List Str} {sp : Addr → Addr → Addr → SpM} {x : Str} {p pos : Pos} {e : Expr} {es : List Expr} {ma : TAm} (h : GasP X.prog X.w X.K X.mg X.base x k ps sp) (P : PinX X a C dd) (hr : L2H.RoomH k X.A) (hg : Gl X x)
    (ha : MA X (e :: es) ma) (hdb : (x == ("__debug__" : Str)) = false := by decide) (he : starEach (e :: es) X.env = (false, eval e X.env) :: starEach es X.env := by rfl) (hpl : (backTo pos (starEach es X.env)).any (·.1) = false := by rfl) :
    ME X (.Call (.Name x p) (e :: es) [] pos) (mCallN (sp a C dd) ma) := by
  obtain ⟨f, fd, h1, h2, h3, h4⟩ := h
  exact me_callP P h4 hr hg h1 h2 h3 ha hdb he hpl
end Sf

set_option maxHeartbeats 4000000
set_option autoImplicit false
/-! Sf, evaluation: what the readings are on written forms. -/
namespace Sf
open PySem PySem.Spec PyProof.Rows L2

section
variable {m : Mem} {s : S} {k : SV → Prop} {R : SV → Prop} {Q : SV → S → Prop} {Z : EX} {kb : Bool → Prop}
theorem get_val {d : D} : s.get (.val d) k = k (.val d) := rfl
theorem gets_nil {k : List SV → Prop} : s.gets [] k = k [] := rfl
theorem gets_cons {b : B} {bs : List B} {k : List SV → Prop} : s.gets (b :: bs) k = s.get b fun x => s.gets bs fun xs => k (x :: xs) := rfl
theorem frz_val {d : D} : (SV.val d).frz = d := rfl
theorem frz_lst {l : List D} : (SV.own (.lst l)).frz = .lst l := rfl
theorem frz_olst {l : List D} : (Own.lst l).frz = .lst l := rfl
theorem vals_nil {k : List D → Prop} : valsOf [] k = k [] := rfl
theorem vals_val {d : D} {bs : List B} {k : List D → Prop} : valsOf (.val d :: bs) k = valsOf bs fun ds => k (d :: ds) := rfl
-- mAt, mVar, mMove by what stands there
theorem at_val {loc : Loc'} {i : Nat} {d : D} {Q : B → S → Prop} (h : loc[i]? = some (some (.val d))) : mAt i ⟨loc, m⟩ Q Z = Q (.val d) ⟨loc, m⟩ := by unfold mAt; dsimp only; rw [h]
theorem at_own {loc : Loc'} {i : Nat} {w : Own} {Q : B → S → Prop} (h : loc[i]? = some (some (.own w))) : mAt i ⟨loc, m⟩ Q Z = Q (.at i) ⟨loc, m⟩ := by unfold mAt; dsimp only; rw [h]
theorem get_own {loc : Loc'} {i : Nat} {w : SV} (h : loc[i]? = some (some w)) : S.get ⟨loc, m⟩ (.at i) k = k w := by unfold S.get; dsimp only; rw [h]
theorem var_val {loc : Loc'} {i : Nat} {d : D} (h : loc[i]? = some (some (.val d))) : mVar i ⟨loc, m⟩ Q Z = Q (.val d) ⟨loc, m⟩ := by unfold mVar; dsimp only; rw [h]
theorem var_own {loc : Loc'} {i : Nat} {w : Own} (h : loc[i]? = some (some (.own w))) : mVar i ⟨loc, m⟩ Q Z = Q (.val w.frz) ⟨loc.set i (some (.val w.frz)), m⟩ := by unfold mVar; dsimp only; rw [h]
theorem move_val {loc : Loc'} {i : Nat} {d : D} (h : loc[i]? = some (some (.val d))) : mMove i ⟨loc, m⟩ Q Z = Q (.val d) ⟨loc, m⟩ := by unfold mMove; dsimp only; rw [h]
theorem move_own {loc : Loc'} {i : Nat} {w : Own} (h : loc[i]? = some (some (.own w))) : mMove i ⟨loc, m⟩ Q Z = Q (.own w) ⟨loc.set i none, m⟩ := by unfold mMove; dsimp only; rw [h]
-- operations
theorem add_int {i j : Int} : rAddM m (.val (.int i)) (.val (.int j)) k = k (.val (.int (i + j))) := rfl
theorem add_str {i j : Str} : rAddM m (.val (.str i)) (.val (.str j)) k = (i.length + j.length ≤ sizeLine ∧ k (.val (.str (i ++ j)))) := rfl
theorem add_tup {a b : List D} : rAddM m (.val (.tup a)) (.val (.tup b)) k = (a.length + b.length ≤ sizeLine ∧ k (.val (.tup (a ++ b)))) := rfl
theorem add_ll {a b : List D} : rAddM m (.val (.lst a)) (.val (.lst b)) k = (a.length + b.length ≤ sizeLine ∧ k (.own (.lst (a ++ b)))) := rfl
theorem add_ol {a b : List D} : rAddM m (.own (.lst a)) (.val (.lst b)) k = (a.length + b.length ≤ sizeLine ∧ k (.own (.lst (a ++ b)))) := rfl
theorem add_lo {a b : List D} : rAddM m (.val (.lst a)) (.own (.lst b)) k = (a.length + b.length ≤ sizeLine ∧ k (.own (.lst (a ++ b)))) := rfl
theorem add_oo {a b : List D} : rAddM m (.own (.lst a)) (.own (.lst b)) k = (a.length + b.length ≤ sizeLine ∧ k (.own (.lst (a ++ b)))) := rfl
theorem sub_int {i j : Int} : rSubM m (.val (.int i)) (.val (.int j)) k = (True ∧ k (.val (.int (i - j)))) := rfl
theorem mul_int' {i j : Int} : rMulM m (.val (.int i)) (.val (.int j)) k = (CMulB i j ∧ k (.val (.int (i * j)))) := rfl
theorem mul_tup {a : List D} {j : Int} : rMulM m (.val (.tup a)) (.val (.int j)) k = (a ≠ [] ∧ 2 ≤ j ∧ j ≤ 1000 ∧ a.length ≤ 1000 ∧ k (.val (.tup (List.replicate j.toNat a).flatten))) := rfl
theorem mul_lst {a : List D} {j : Int} : rMulM m (.val (.lst a)) (.val (.int j)) k = (-(2 ^ 63) ≤ j ∧ j < 2 ^ 63 ∧ a.length * j.toNat ≤ sizeLine ∧ k (.own (.lst (List.replicate j.toNat a).flatten))) := rfl
theorem div_int {i j : Int} : rDivM m (.val (.int i)) (.val (.int j)) k = (CDivB i j ∧ k (.val (.int (i.fdiv j)))) := rfl
theorem mod_int {i j : Int} : rModM m (.val (.int i)) (.val (.int j)) k = (j ≠ 0 ∧ k (.val (.int (i.fmod j)))) := rfl
theorem pow_int {i j : Int} : rPowM m (.val (.int i)) (.val (.int j)) k = (CPow i j ∧ k (.val (.int (i ^ j.toNat)))) := rfl
theorem shl_int {i j : Int} : rShlM m (.val (.int i)) (.val (.int j)) k = (CPow i j ∧ k (.val (.int (i * 2 ^ j.toNat)))) := rfl
theorem shr_int {i j : Int} : rShrM m (.val (.int i)) (.val (.int j)) k = ((0 ≤ j) ∧ k (.val (.int (i / 2 ^ j.toNat)))) := rfl
theorem and_int' {i j : Int} : rAndM m (.val (.int i)) (.val (.int j)) k = (True ∧ k (.val (.int (Builtin.bitAnd i j)))) := rfl
theorem lt_int' {i j : Int} : rLtM m (.val (.int i)) (.val (.int j)) k = k (.val (.bl (decide (i < j)))) := rfl
theorem le_int' {i j : Int} : rLeM m (.val (.int i)) (.val (.int j)) k = k (.val (.bl (decide (i ≤ j)))) := rfl
theorem gt_int' {i j : Int} : rGtM m (.val (.int i)) (.val (.int j)) k = k (.val (.bl (decide (j < i)))) := rfl
theorem ge_int' {i j : Int} : rGeM m (.val (.int i)) (.val (.int j)) k = k (.val (.bl (decide (j ≤ i)))) := rfl
theorem lt_str' {i j : Str} : rLtM m (.val (.str i)) (.val (.str j)) k = k (.val (.bl (decide (i.cps.toList < j.cps.toList)))) := rfl
theorem le_str' {i j : Str} : rLeM m (.val (.str i)) (.val (.str j)) k = k (.val (.bl (!decide (j.cps.toList < i.cps.toList)))) := rfl
theorem eq_int' {neg : Bool} {i j : Int} : rEqM neg m (.val (.int i)) (.val (.int j)) k = k (.val (.bl ((i == j) != neg))) := by
  refine propext ⟨fun h => h.2.2, fun h => ⟨rfl, rfl, h⟩⟩
/-- data that may be compared as it stands -/
def D.cmpd : D → Bool
  | .ref _ => false
  | _ => true
theorem lstOf_val {d : D} (h : d.cmpd = true) : datOf m (.val d) = some d := by cases d <;> first | rfl | cases h
theorem eq_val {neg : Bool} {d e : D} (hd : D.okd 60 d = true) (he : D.okd 60 e = true) : rEqM neg m (.val d) (.val e) k = k (.val (.bl (D.eqv d e != neg))) := by
  have h1 : datOf m (.val d) = some d := lstOf_val (by cases d <;> first | rfl | cases hd)
  have h2 : datOf m (.val e) = some e := lstOf_val (by cases e <;> first | rfl | cases he)
  unfold rEqM
  rw [h1, h2]
  split
  · rename_i a b e1 e2
    cases e1
    cases e2
    show k (.val (.bl ((a == b) != neg))) = k (.val (.bl (PyData.eqv (.str a) (.str b) != neg)))
    rw [PyData.eqv]
  · rename_i d' e' _ e1 e2
    cases e1
    cases e2
    exact propext ⟨fun h => h.2.2, fun h => ⟨hd, he, h⟩⟩
  · rename_i n
    exact (n _ _ rfl rfl).elim
theorem eq_str' {neg : Bool} {a b : Str} : rEqM neg m (.val (.str a)) (.val (.str b)) k = k (.val (.bl ((a == b) != neg))) := rfl
theorem is_non {neg : Bool} {x : SV} : rIsM neg m x (.val .non) k = k (.val (.bl (isNonM x != neg))) := rfl
-- subscripts
theorem ix_tup' {l : List D} {i : Int} : rIxM m (.val (.tup l)) (.val (.int i)) k = match atI l i with | some d => k (.val d) | none => False := rfl
theorem ix_lst' {l : List D} {i : Int} : rIxM m (.val (.lst l)) (.val (.int i)) k = match atI l i with | some d => k (.val d) | none => False := rfl
theorem ix_own' {l : List D} {i : Int} : rIxM m (.own (.lst l)) (.val (.int i)) k = match atI l i with | some d => k (.val d) | none => False := rfl
theorem ix_str' {a : Str} {i : Int} : rIxM m (.val (.str a)) (.val (.int i)) k = (a.length ≤ sizeLine ∧ ∃ c, atI a.cps.toList i = some c ∧ k (.val (.str ⟨#[c]⟩))) := rfl
theorem ix_ref' {p : Addr} {l : List D} {i : Int} (h : m p = some (.obj (.lst l))) : rIxM m (.val (.ref p)) (.val (.int i)) k = match atI l i with | some d => k (.val d) | none => False := by
  have e : lstOf m (.val (.ref p)) = some l := by unfold lstOf; dsimp only; rw [h]
  show (match lstOf m (.val (.ref p)) with | some l => (match L2.atI l i with | some d => k (.val d) | none => False) | none => False) = _
  rw [e]
theorem at0 {α : Type} {a : α} {l : List α} : atI (a :: l) 0 = some a := by
  unfold atI ixN
  rw [if_pos (Int.le_refl 0), if_pos (by rw [List.length_cons]; omega)]; rfl
theorem at1 {α : Type} {a b : α} {l : List α} : atI (a :: b :: l) 1 = some b := by
  unfold atI ixN
  rw [if_pos (by decide), if_pos (by simp only [List.length_cons]; omega)]; rfl
theorem at2 {α : Type} {a b c : α} {l : List α} : atI (a :: b :: c :: l) 2 = some c := by
  unfold atI ixN
  rw [if_pos (by decide), if_pos (by simp only [List.length_cons]; omega)]; rfl
theorem at3 {α : Type} {a b c d : α} {l : List α} : atI (a :: b :: c :: d :: l) 3 = some d := by
  unfold atI ixN
  rw [if_pos (by decide), if_pos (by simp only [List.length_cons]; omega)]; rfl
theorem at_nat {α : Type} {l : List α} {i : Int} {d : α} (h0 : 0 ≤ i) (h : l[i.toNat]? = some d) : atI l i = some d := by
  have := atI_nat (xs := l) (j := i.toNat) h
  rwa [Int.toNat_of_nonneg h0] at this
-- truth
theorem tru_non : truM m (.val .non) kb = kb false := rfl
theorem tru_bl {b : Bool} : truM m (.val (.bl b)) kb = kb b := rfl
theorem tru_int {i : Int} : truM m (.val (.int i)) kb = kb (i != 0) := rfl
theorem tru_str {y : Str} : truM m (.val (.str y)) kb = (y.length ≤ sizeLine ∧ kb ((y.length : Int) != 0)) := rfl
theorem tru_tup {l : List D} : truM m (.val (.tup l)) kb = kb (!l.isEmpty) := rfl
theorem tru_lst {l : List D} : truM m (.val (.lst l)) kb = kb (!l.isEmpty) := rfl
theorem tru_own {l : List D} : truM m (.own (.lst l)) kb = kb (!l.isEmpty) := rfl
-- built-ins
theorem len_tup {l : List D} : rLenM m [.val (.tup l)] k = k (.val (.int l.length)) := rfl
theorem len_lst {l : List D} : rLenM m [.val (.lst l)] k = k (.val (.int l.length)) := rfl
theorem len_own {l : List D} : rLenM m [.own (.lst l)] k = k (.val (.int l.length)) := rfl
theorem len_scr {l : List Int} : rLenM m [.val (.scr l)] k = k (.val (.int l.length)) := rfl
theorem len_str' {z : Str} : rLenM m [.val (.str z)] k = (z.length ≤ sizeLine ∧ k (.val (.int z.length))) := rfl
theorem abs_int {i : Int} : rAbsM m [.val (.int i)] k = k (.val (.int (if i < 0 then -i else i))) := rfl
theorem int_int {i : Int} : rIntOf m [.val (.int i)] k = k (.val (.int i)) := rfl
theorem str_int {i : Int} : rStrOf m [.val (.int i)] k = (i.natAbs.log2 < 1920 ∧ k (.val (.str (toString i)))) := rfl
theorem str_str {i : Str} : rStrOf m [.val (.str i)] k = k (.val (.str i)) := rfl
theorem tup_tup {l : List D} : rTupOf m [.val (.tup l)] k = k (.val (.tup l)) := rfl
theorem tup_lst {l : List D} : rTupOf m [.val (.lst l)] k = k (.val (.tup l)) := rfl
theorem tup_own {l : List D} : rTupOf m [.own (.lst l)] k = k (.val (.tup l)) := rfl
theorem list_tup {l : List D} : rListOf m [.val (.tup l)] k = k (.own (.lst l)) := rfl
theorem list_lst {l : List D} : rListOf m [.val (.lst l)] k = k (.own (.lst l)) := rfl
theorem list_own {l : List D} : rListOf m [.own (.lst l)] k = k (.own (.lst l)) := rfl
theorem list_scr {l : List Int} : rListOf m [.val (.scr l)] k = k (.own (.lst (l.map D.int))) := rfl
theorem bools_of {f : List Bool → Bool} {l : List Bool} : rBoolsM f m [.val (.lst (l.map D.bl))] k = k (.val (.bl (f l))) := by
  have h : ∀ l : List Bool, boolsOf (l.map D.bl) = some l := fun l => by
    induction l with
    | nil => rfl
    | cons b l ih => rw [List.map_cons, boolsOf, ih]; rfl
  unfold rBoolsM lstOf
  dsimp only
  rw [h]
theorem sum_of {l : List Int} : rSumM m [.val (.lst (l.map D.int))] k = k (.val (.int l.sum)) := by
  have h : ∀ l : List Int, intsOf (l.map D.int) = some l := fun l => by
    induction l with
    | nil => rfl
    | cons b l ih => rw [List.map_cons, intsOf, ih]; rfl
  unfold rSumM lstOf
  dsimp only
  rw [h]
theorem max2_int {i j : Int} : rMax2M m [.val (.int i), .val (.int j)] k = k (.val (.int (if j > i then j else i))) := rfl
theorem min2_int {i j : Int} : rMin2M m [.val (.int i), .val (.int j)] k = k (.val (.int (if j < i then j else i))) := rfl
/-- the type of plain data -/
def D.ty' : D → Option String
  | .non => some "NoneType"
  | .bl _ => some "bool"
  | .int _ => some "int"
  | .str _ => some "str"
  | .tup _ => some "tuple"
  | .lst _ => some "list"
  | .dct _ _ => some "dict"
  | _ => none
theorem isB_ii : isB "int" "int" = some true := by decide +kernel
theorem isB_bi : isB "bool" "int" = some true := by decide +kernel
theorem isB_bb : isB "bool" "bool" = some true := by decide +kernel
theorem isB_ib : isB "int" "bool" = some false := by decide +kernel
theorem isB_is : isB "int" "str" = some false := by decide +kernel
theorem isB_it : isB "int" "tuple" = some false := by decide +kernel
theorem isB_bs : isB "bool" "str" = some false := by decide +kernel
theorem isB_bt : isB "bool" "tuple" = some false := by decide +kernel
theorem isB_si : isB "str" "int" = some false := by decide +kernel
theorem isB_sb : isB "str" "bool" = some false := by decide +kernel
theorem isB_ss : isB "str" "str" = some true := by decide +kernel
theorem isB_st : isB "str" "tuple" = some false := by decide +kernel
theorem isB_ti : isB "tuple" "int" = some false := by decide +kernel
theorem isB_tb : isB "tuple" "bool" = some false := by decide +kernel
theorem isB_ts : isB "tuple" "str" = some false := by decide +kernel
theorem isB_tt : isB "tuple" "tuple" = some true := by decide +kernel
theorem isB_li : isB "list" "int" = some false := by decide +kernel
theorem isB_lb : isB "list" "bool" = some false := by decide +kernel
theorem isB_ls : isB "list" "str" = some false := by decide +kernel
theorem isB_lt : isB "list" "tuple" = some false := by decide +kernel
theorem isB_ni : isB "NoneType" "int" = some false := by decide +kernel
theorem isB_nb : isB "NoneType" "bool" = some false := by decide +kernel
theorem isB_ns : isB "NoneType" "str" = some false := by decide +kernel
theorem isB_nt : isB "NoneType" "tuple" = some false := by decide +kernel
def D.isInt : D → Bool
  | .int _ => true
  | .bl _ => true
  | _ => false
def D.isBl : D → Bool
  | .bl _ => true
  | _ => false
def D.isStr : D → Bool
  | .str _ => true
  | _ => false
def D.isTup : D → Bool
  | .tup _ => true
  | _ => false
/-- plain data: none, bools, ints, texts, tuples, lists -/
def D.pl : D → Bool
  | .non => true
  | .bl _ => true
  | .int _ => true
  | .str _ => true
  | .tup _ => true
  | .lst _ => true
  | _ => false
theorem isi_ {d : D} {T : String} {b : Bool} {t : String} (h1 : tyOf m (.val d) = some t) (h2 : isB t T = some b) : rIsiM m [.val d, .val (.ty T)] k = k (.val (.bl b)) := by
  show (match tyOf m (.val d) with | some t => ∃ b, isB t T = some b ∧ k (.val (.bl b)) | none => False) = _
  rw [h1]
  refine propext ⟨fun ⟨b', e, q⟩ => ?_, fun q => ⟨b, h2, q⟩⟩
  rw [h2] at e; cases e; exact q
theorem isi_int {d : D} (h : d.pl = true) : rIsiM m [.val d, .val (.ty "int")] k = k (.val (.bl d.isInt)) := by
  cases d <;> first | exact isi_ rfl isB_ni | exact isi_ rfl isB_bi | exact isi_ rfl isB_ii | exact isi_ rfl isB_si | exact isi_ rfl isB_ti | exact isi_ rfl isB_li | exact nomatch h
theorem isi_bool {d : D} (h : d.pl = true) : rIsiM m [.val d, .val (.ty "bool")] k = k (.val (.bl d.isBl)) := by
  cases d <;> first | exact isi_ rfl isB_nb | exact isi_ rfl isB_bb | exact isi_ rfl isB_ib | exact isi_ rfl isB_sb | exact isi_ rfl isB_tb | exact isi_ rfl isB_lb | exact nomatch h
theorem isi_str {d : D} (h : d.pl = true) : rIsiM m [.val d, .val (.ty "str")] k = k (.val (.bl d.isStr)) := by
  cases d <;> first | exact isi_ rfl isB_ns | exact isi_ rfl isB_bs | exact isi_ rfl isB_is | exact isi_ rfl isB_ss | exact isi_ rfl isB_ts | exact isi_ rfl isB_ls | exact nomatch h
theorem isi_tuple {d : D} (h : d.pl = true) : rIsiM m [.val d, .val (.ty "tuple")] k = k (.val (.bl d.isTup)) := by
  cases d <;> first | exact isi_ rfl isB_nt | exact isi_ rfl isB_bt | exact isi_ rfl isB_it | exact isi_ rfl isB_st | exact isi_ rfl isB_tt | exact isi_ rfl isB_lt | exact nomatch h
-- calls
theorem call_nil {sp : SpM} {acc : List D} : callW sp [] acc s Q Z = sp acc s.mem (fun r m => Q r ⟨s.loc, m⟩) (fun x m => Z x ⟨s.loc, m⟩) := rfl
theorem call_val {sp : SpM} {d : D} {bs : List B} {acc : List D} : callW sp (.val d :: bs) acc s Q Z = callW sp bs (acc ++ [d]) s Q Z := rfl
theorem call_own {sp : SpM} {i : Nat} {w : Own} {bs : List B} {acc : List D} {loc : Loc'} (h : loc[i]? = some (some (.own w))) :
    callW sp (.at i :: bs) acc ⟨loc, m⟩ Q Z = ∀ p, m p = none → callW sp bs (acc ++ [.ref p]) ⟨loc.set i (some (.val (.ref p))), updM m p (.obj w)⟩ (fun r s' => back p i s' fun s2 => Q r s2) (fun x s' => back p i s' fun s2 => Z x s2) := by
  show (match loc[i]? with | some (some (.val d)) => _ | some (some (.own w)) => _ | _ => _) = _
  rw [h]
theorem bool_ite {b : Bool} {P Q : Prop} : (if b = true then P else Q) = if b = true then P else Q := rfl
/-- what is wanted of a def -/
def endsF (R : SV → Mem → Prop) (Z : Exc → Mem → Prop) : EndsM := { nx := fun s => ∃ m', le_mem m' s.mem ∧ R (.val .non) m', rt := fun sv s => ∃ m', le_mem m' s.mem ∧ R sv m', ex := fun x s => ∃ m', le_mem m' s.mem ∧ Z x m' }
end
end Sf

set_option maxHeartbeats 4000000
set_option autoImplicit false
/-! Sf, evaluation: the readings applied, head first. -/
namespace Sf
open PySem PySem.Spec PyProof.Rows L2
universe u
/-- what holds a term's reading back -/
inductive Tag {α : Sort u} (a : α) : Type where
  | mk : Tag a
def held (P : Prop) (_ : Tag P) : Prop := P
def fewer : List B → Nat → Prop → Prop
  | _, 0, _ => False
  | [], _ + 1, P => P
  | _ :: bs, n + 1, P => fewer bs n P
theorem fewer_nil {n : Nat} {P : Prop} : fewer [] (n + 1) P = P := rfl
theorem fewer_cons {n : Nat} {b : B} {bs : List B} {P : Prop} : fewer (b :: bs) (n + 1) P = fewer bs n P := rfl
theorem fewer_eq : ∀ (bs : List B) (n : Nat) (P : Prop), fewer bs (n + 1) P = (bs.length ≤ n ∧ P)
  | [], n, P => by simp [fewer]
  | b :: bs, 0, P => by simp [fewer]
  | b :: bs, n + 1, P => by
    rw [fewer_cons, fewer_eq bs n P]
    simp
section
variable {s : S} {m : Mem} {loc : Loc'} {E : EndsM} {Q : SV → S → Prop} {QB : B → S → Prop} {QA : List B → S → Prop} {QT : Bool → S → Prop} {QO : Option Int → S → Prop} {R : List D → (S → Prop) → S → Prop} {Z : EX} {a b : TSm} {e e' : TEm} {c c' : TTm} {ma mb mc : TBm} {as : TAm} {i j : Nat} {d : D} {r r' : R2m} {rc : RCm} {sp : SpM} {g : TGm} {gs : TGsm} {k : S → Prop}
theorem x_next : mNext E s = E.nx s := rfl
theorem x_seq : mSeq a b E s = a { E with nx := fun s' => b E s' } s := rfl
theorem x_drop : mDrop e E s = e s (fun _ s' => E.nx s') E.ex := rfl
theorem x_ret : mRet e E s = e s (fun sv s' => E.rt sv s') E.ex := rfl
theorem x_retN : mRetN E s = E.rt (.val .non) s := rfl
theorem x_if : mIf c a b E s = c s (fun k s' => if k = true then a E s' else b E s') E.ex := rfl
theorem x_brk : mBrk E s = E.bk s := rfl
theorem x_cnt : mCnt E s = E.ct s := rfl
theorem x_set : mSet i e E s = e s (fun sv s' => E.nx ⟨s'.loc.set i (some sv), s'.mem⟩) E.ex := rfl
theorem x_setV : mSetV i e E s = e s (fun sv s' => E.nx ⟨s'.loc.set i (some (.val sv.frz)), s'.mem⟩) E.ex := rfl
theorem x_asg : mAsg e g E s = e s (fun sv s' => g sv.frz s' E.nx E.ex) E.ex := rfl
theorem x_gN : gN i d ⟨loc, m⟩ k Z = k ⟨loc.set i (some (.val d)), m⟩ := rfl
theorem x_gnil {ds : List D} : gsNil ds s k Z = (ds = [] ∧ k s) := rfl
theorem x_gcons {ds : List D} : gsCons g gs (d :: ds) s k Z = g d s (fun s' => gs ds s' k Z) Z := rfl
theorem x_gT {n : Nat} {ds : List D} : gT n gs (.tup ds) s k Z = (ds.length = n ∧ gs ds s k Z) := rfl
theorem x_C : mC d s Q Z = Q (.val d) s := rfl
theorem x_frz : mFrz e s QB Z = e s (fun sv s' => QB (.val sv.frz) s') Z := rfl
theorem x_nil : mNil s QA Z = QA [] s := rfl
theorem x_cons : mCons ma as s QA Z = ma s (fun b s1 => as s1 (fun bs s2 => QA (b :: bs) s2) Z) Z := rfl
theorem x_op2 : mOp2 r ma mb s Q Z = ma s (fun b1 s1 => mb s1 (fun b2 s2 => s2.get b1 fun x => s2.get b2 fun y => r s2.mem x y fun z => Q z s2) Z) Z := rfl
theorem x_chain : mChain r r' ma mb mc s Q Z = ma s (fun b1 s1 => mb s1 (fun b2 s2 => s2.get b1 fun x => s2.get b2 fun y => r s2.mem x y fun z => match z with
  | .val (.bl true) => mc s2 (fun b3 s3 => s3.get b2 fun y => s3.get b3 fun w => r' s3.mem y w fun z => Q z s3) Z
  | .val (.bl false) => Q (.val (.bl false)) s2
  | _ => False) Z) Z := rfl
theorem x_test : mTest e s QT Z = e s (fun sv s' => match sv with
  | .val (.bl b) => QT b s'
  | _ => False) Z := rfl
theorem x_tru : mTru ma s QT Z = ma s (fun b s1 => s1.get b fun sv => truM s1.mem sv fun k => QT k s1) Z := rfl
theorem x_not : mNot c s QT Z = c s (fun b s' => QT (!b) s') Z := rfl
theorem x_and : mAnd c c' s QT Z = c s (fun b s' => if b = true then c' s' QT Z else QT false s') Z := rfl
theorem x_or : mOr c c' s QT Z = c s (fun b s' => if b = true then QT true s' else c' s' QT Z) Z := rfl
theorem x_ifE : mIfE c e e' s Q Z = c s (fun b s' => if b = true then e s' Q Z else e' s' Q Z) Z := rfl
theorem x_andV : mAndV e e' s Q Z = e s (fun sv s' => match sv with
  | .val (.bl b) => if b = true then e' s' Q Z else Q (.val (.bl false)) s'
  | _ => False) Z := by unfold mAndV; rfl
theorem x_orV : mOrV e e' s Q Z = e s (fun sv s' => match sv with
  | .val (.bl b) => if b = true then Q (.val (.bl true)) s' else e' s' Q Z
  | _ => False) Z := by unfold mOrV; rfl
theorem x_notV : mNotV c s Q Z = c s (fun b s' => Q (.val (.bl (!b))) s') Z := rfl
theorem x_neg : mNeg e s Q Z = e s (fun sv s' => match sv with
  | .val (.int i) => Q (.val (.int (-i))) s'
  | _ => False) Z := by unfold mNeg; rfl
theorem x_tup : mTup as s Q Z = as s (fun bs s1 => fewer bs 1001 (valsOf bs fun ds => Q (.val (.tup ds)) s1)) Z := by
  unfold mTup
  simp only [fewer_eq]
theorem x_lst : mLst as s Q Z = as s (fun bs s1 => fewer bs 1001 (valsOf bs fun ds => Q (.own (.lst ds)) s1)) Z := by
  unfold mLst
  simp only [fewer_eq]
theorem x_callE {acc : List D} : callW sp [] acc ⟨loc, m⟩ Q Z = sp acc m (fun r m => held (Q r ⟨loc, m⟩) .mk) (fun x m => held (Z x ⟨loc, m⟩) .mk) := rfl
theorem x_sub {i j : Int} {kk : SV → Prop} : rSubM m (.val (.int i)) (.val (.int j)) kk = kk (.val (.int (i - j))) := propext ⟨fun h => h.2, fun h => ⟨trivial, h⟩⟩
theorem x_cb : mCB rc as s Q Z = as s (fun bs s1 => s1.gets bs fun xs => rc s1.mem xs fun z => Q z s1) Z := rfl
theorem x_call : mCall sp as s Q Z = as s (fun bs s1 => callW sp bs [] s1 Q Z) Z := rfl
theorem x_callN : mCallN sp as s Q Z = as s (fun bs s1 => callW sp bs [] s1 Q (fun _ _ => False)) Z := rfl
theorem x_at : mAt i ⟨loc, m⟩ QB Z = match loc[i]? with
  | some (some (.val d)) => QB (.val d) ⟨loc, m⟩
  | some (some (.own _)) => QB (.at i) ⟨loc, m⟩
  | _ => False := rfl
theorem x_var : mVar i ⟨loc, m⟩ Q Z = match loc[i]? with
  | some (some (.val d)) => Q (.val d) ⟨loc, m⟩
  | some (some (.own w)) => Q (.val w.frz) ⟨loc.set i (some (.val w.frz)), m⟩
  | _ => False := rfl
theorem x_move : mMove i ⟨loc, m⟩ Q Z = match loc[i]? with
  | some (some (.val d)) => Q (.val d) ⟨loc, m⟩
  | some (some (.own w)) => Q (.own w) ⟨loc.set i none, m⟩
  | _ => False := rfl
theorem x_getv {k : SV → Prop} : s.get (.val d) k = k (.val d) := rfl
theorem x_geta {k : SV → Prop} : S.get ⟨loc, m⟩ (.at i) k = match loc[i]? with
  | some (some sv) => k sv
  | _ => False := rfl
theorem x_noP : mNoPart s QO Z = QO none s := rfl
theorem x_part : mPart e s QO Z = e s (fun sv s' => match sv with
  | .val (.int i) => QO (some i) s'
  | _ => False) Z := by unfold mPart; rfl
theorem x_sl {tl th : TOm} : mSl ma tl th s Q Z = ma s (fun b s1 => tl s1 (fun l s2 => th s2 (fun u s3 => s3.get b fun x => sliceM s3.mem x l u fun z => Q z s3) Z) Z) Z := rfl
theorem x_for {mi : TIm} : mFor mi g a E s = mi s (fun ds wt s1 => held (forW wt g a ds E s1) .mk) E.ex := rfl
theorem x_lc {own : List Nat} {mi : TIm} {mt : TTm} : mLc own mi g mt e s Q Z = mi s (fun ds wt s1 => held (lcW own wt g mt e ds [] ⟨wipeL s1.loc own, s1.mem⟩ (fun acc s2 => Q (.own (.lst acc)) ⟨backL s2.loc own (savedL s1.loc own), s2.mem⟩)) .mk) Z := rfl
theorem x_yes : mYes s QT Z = QT true s := rfl
theorem x_seqI : mSeqI ma s R Z = ma s (fun b s1 => walkS s1 b R) Z := rfl
theorem x_wl {l : List D} : walkS s (.val (.lst l)) R = R l (fun _ => True) s := rfl
theorem x_wt {l : List D} : walkS s (.val (.tup l)) R = R l (fun _ => True) s := rfl
theorem x_ws {z : Str} : walkS s (.val (.str z)) R = (z.length ≤ sizeLine ∧ R (chars z) (fun _ => True) s) := rfl
theorem x_rng1 : mRng1 as s R Z = as s (fun bs s1 => valsOf bs fun ds => match ds with
  | [.int n] => -(2 ^ 62) ≤ n ∧ n ≤ 16777216 ∧ R (rngL 0 n) (fun _ => True) s1
  | _ => False) Z := by unfold mRng1; rfl
theorem x_rng2 : mRng2 as s R Z = as s (fun bs s1 => valsOf bs fun ds => match ds with
  | [.int a, .int b] => -(2 ^ 62) ≤ a ∧ a < 2 ^ 62 ∧ -(2 ^ 62) ≤ b ∧ b < 2 ^ 62 ∧ (b - a).toNat ≤ 16777216 ∧ R (rngL a b) (fun _ => True) s1
  | _ => False) Z := by unfold mRng2; rfl
theorem x_app : mApp ma as s Q Z = ma s (fun bo s1 => (s1.get bo fun x => isLst s1.mem x) ∧ as s1 (fun bs s2 => valsOf bs fun ds => match ds with
  | [d] => objW s2 bo (appF d) fun s3 => Q (.val .non) s3
  | _ => False) Z) Z := by unfold mApp; rfl
theorem x_isl {l : List D} : isLst m (.own (.lst l)) = True := by
  refine eq_true ?_
  unfold isLst lstOf
  simp
theorem x_objA {f : Own → (Own → Prop) → Prop} : objW ⟨loc, m⟩ (.at i) f k = match loc[i]? with
    | some (some (.own w)) => f w fun w' => k ⟨loc.set i (some (.own w')), m⟩
    | _ => False := rfl
theorem x_objR {f : Own → (Own → Prop) → Prop} {p : Addr} {w : Own} (h : m p = some (.obj w)) : objW ⟨loc, m⟩ (.val (.ref p)) f k = f w fun w' => k ⟨loc, updM m p (.obj w')⟩ := by
  show (match m p with
    | some (.obj w) => f w fun w' => k ⟨loc, updM m p (.obj w')⟩
    | _ => False) = _
  rw [h]
theorem x_appF {l : List D} {kk : Own → Prop} : appF d (.lst l) kk = (l.length < sizeLine ∧ kk (.lst (l ++ [d]))) := rfl
theorem x_setF {l : List D} {n : Int} {kk : Own → Prop} : setF n d (.lst l) kk = match ixN l.length n with
    | some j => kk (.lst (l.set j d))
    | none => False := rfl
theorem x_gS : gS ma mb d s k Z = ma s (fun bo s1 => mb s1 (fun bi s2 => s2.get bi fun x => match x with
  | .val (.int i) => objW s2 bo (setF i d) k
  | _ => False) Z) Z := by unfold gS; rfl
theorem x_par {n : Nat} : mPar i n as E s = as s (fun bs s1 => valsOf bs fun ds => match ds with
  | [d1, d2] => E.nx ⟨(s1.loc.set i (some (.val d1))).set n (some (.val d2)), s1.mem⟩
  | _ => False) E.ex := by unfold mPar; rfl
theorem x_raise {C : Addr} {fs : List Str} : mRaise C fs as E s = as s (fun bs s1 => valsOf bs fun ds => ds.length = fs.length ∧ ds.length ≤ 1000 ∧ E.ex ⟨C, fs, ds⟩ s1) E.ex := rfl
theorem x_try {K : PySem.W.Frag} {l : List (Addr × Nat × SuM)} : mTry K a l E s = a { E with ex := mHs K E l } s := rfl
theorem sl_scr {ns : List Int} {lo hi : Option Int} {kk : SV → Prop} : sliceM m (.val (.scr ns)) lo hi kk = kk (.own (.lst ((cutL ns lo hi).map D.int))) := rfl
theorem sl_str' {z : Str} {lo hi : Option Int} {kk : SV → Prop} : sliceM m (.val (.str z)) lo hi kk = (z.length ≤ sizeLine ∧ kk (.val (.str (cutS z lo hi)))) := rfl
theorem sl_tup' {l : List D} {lo hi : Option Int} {kk : SV → Prop} : sliceM m (.val (.tup l)) lo hi kk = kk (.val (.tup (cutL l lo hi))) := rfl
theorem sl_lst' {l : List D} {lo hi : Option Int} {kk : SV → Prop} : sliceM m (.val (.lst l)) lo hi kk = kk (.own (.lst (cutL l lo hi))) := rfl
theorem sl_own' {l : List D} {lo hi : Option Int} {kk : SV → Prop} : sliceM m (.own (.lst l)) lo hi kk = kk (.own (.lst (cutL l lo hi))) := rfl
theorem cut_to {α : Type} {l : List α} {n : Nat} : cutL l none (some (n : Int)) = l.take n := by
  unfold cutL
  rw [HT.sIx_none, HT.sIx_nat]
  simp only [List.drop_zero, Nat.sub_zero]
  rw [Nat.min_comm, ← List.take_take]
  exact List.take_of_length_le (by rw [List.length_take]; omega)
theorem cut_from {α : Type} {l : List α} {n : Nat} : cutL l (some (n : Int)) none = l.drop n := by
  unfold cutL
  rw [HT.sIx_none, HT.sIx_nat]
  by_cases h : n ≤ l.length
  · rw [Nat.min_eq_left h]
    exact List.take_of_length_le (by rw [List.length_drop]; omega)
  · rw [Nat.min_eq_right (by omega), List.drop_of_length_le (by omega), List.drop_of_length_le (by omega)]
    simp
theorem eq_iF {i j : Int} {kk : SV → Prop} : rEqM false m (.val (.int i)) (.val (.int j)) kk = kk (.val (.bl (decide (i = j)))) := by
  rw [eq_int', Bool.bne_false]
  congr
theorem eq_iT {i j : Int} {kk : SV → Prop} : rEqM true m (.val (.int i)) (.val (.int j)) kk = kk (.val (.bl (decide (¬ i = j)))) := by
  rw [eq_int', Bool.bne_true]
  congr 3
  by_cases h : i = j
  · simp [h]
  · simp [h]
theorem eq_sF {a b : Str} {kk : SV → Prop} : rEqM false m (.val (.str a)) (.val (.str b)) kk = kk (.val (.bl (decide (a = b)))) := by
  rw [eq_str', Bool.bne_false]
  congr
theorem eq_sT {a b : Str} {kk : SV → Prop} : rEqM true m (.val (.str a)) (.val (.str b)) kk = kk (.val (.bl (decide (¬ a = b)))) := by
  rw [eq_str', Bool.bne_true]
  congr 3
  by_cases h : a = b
  · simp [h]
  · simp [h]
/-- isinstance of the suite's error -/
def isXW (K : PySem.W.Frag) (a C dd : Addr) (xs : List SV) (kk : Bool → Prop) : Prop := ∃ ks l c cv r, xs = [.val (.xc a C dd ks l), .val c] ∧ xiB K C = true ∧ clsV c = some cv ∧ PySem.W.kitOne K (.ref C) cv = some r ∧ kk r
theorem x_isX {K : PySem.W.Frag} {a C dd : Addr} : mIsX K a C dd as s Q Z = as s (fun bs s1 => s1.gets bs fun xs => isXW K a C dd xs fun r => Q (.val (.bl r)) s1) Z := rfl
theorem isXW_cls {K : PySem.W.Frag} {a C dd C' : Addr} {ks : List Str} {l : List D} {kk : Bool → Prop} {r : Bool} (h1 : xiB K C = true) (h2 : PySem.W.kitOne K (.ref C) (.ref C') = some r) : isXW K a C dd [.val (.xc a C dd ks l), .val (.cls C')] kk = kk r := by
  refine propext ⟨fun ⟨ks', l', c, cv, r', e1, e2, e3, e4, q⟩ => ?_, fun q => ⟨ks, l, _, _, r, rfl, h1, rfl, h2, q⟩⟩
  cases e1
  cases e3
  rw [h2] at e4
  cases e4
  exact q
theorem isXW_ty {K : PySem.W.Frag} {a C dd : Addr} {n : String} {ks : List Str} {l : List D} {kk : Bool → Prop} {r : Bool} (h1 : xiB K C = true) (h2 : PySem.W.kitOne K (.ref C) (.type n) = some r) : isXW K a C dd [.val (.xc a C dd ks l), .val (.ty n)] kk = kk r := by
  refine propext ⟨fun ⟨ks', l', c, cv, r', e1, e2, e3, e4, q⟩ => ?_, fun q => ⟨ks, l, _, _, r, rfl, h1, rfl, h2, q⟩⟩
  cases e1
  cases e3
  rw [h2] at e4
  cases e4
  exact q
/-- a field of the suite's error -/
def xfW (K : PySem.W.Frag) (a C dd : Addr) (f : Str) (x : SV) (kk : SV → Prop) : Prop := ∃ ks l d, x = .val (.xc a C dd ks l) ∧ xfB K C f = true ∧ fldOf ks l f = some d ∧ kk (.val d)
theorem x_xf {K : PySem.W.Frag} {a C dd : Addr} {f : Str} : mXf K a C dd f ma s Q Z = ma s (fun b s1 => s1.get b fun sv => xfW K a C dd f sv fun z => Q z s1) Z := rfl
theorem xfW_of {K : PySem.W.Frag} {a C dd : Addr} {f : Str} {ks : List Str} {l : List D} {kk : SV → Prop} {d : D} (h1 : xfB K C f = true) (h2 : fldOf ks l f = some d) : xfW K a C dd f (.val (.xc a C dd ks l)) kk = kk (.val d) := by
  refine propext ⟨fun ⟨ks', l', d', e1, e2, e3, q⟩ => ?_, fun q => ⟨ks, l, d, rfl, h1, h2, q⟩⟩
  cases e1
  rw [h2] at e3
  cases e3
  exact q
/-- a clause that takes the error -/
theorem hs_yes {K : PySem.W.Frag} {C : Addr} {ms : SuM} {l : List (Addr × Nat × SuM)} {x : Exc} (h : PySem.W.exmOne K (.ref x.cls) (.ref C) = some true)
    (q : ∀ a dd, ms a x.cls dd ⟨fun t => E.nx { t with loc := t.loc.set i none }, E.rt, fun t => E.bk { t with loc := t.loc.set i none }, fun t => E.ct { t with loc := t.loc.set i none }, fun _ _ => False⟩ { s with loc := s.loc.set i (some (.val (.xc a x.cls dd x.ks x.l))) }) : mHs K E ((C, i, ms) :: l) x s :=
  ⟨true, h, fun _ => q, fun z => Bool.noConfusion z⟩
theorem hs_no {K : PySem.W.Frag} {C : Addr} {ms : SuM} {l : List (Addr × Nat × SuM)} {x : Exc} (h : PySem.W.exmOne K (.ref x.cls) (.ref C) = some false) (q : mHs K E l x s) : mHs K E ((C, i, ms) :: l) x s :=
  ⟨false, h, fun z => Bool.noConfusion z, fun _ => q⟩
theorem repr_lst {l : List D} {kk : SV → Prop} (h : (D.lst l).shows) : rReprM m [.val (.lst l)] kk = kk (.val (.str (D.lst l).txt)) := propext ⟨fun z => z.2, fun z => ⟨h, z⟩⟩
theorem repr_tup {l : List D} {kk : SV → Prop} (h : (D.tup l).shows) : rReprM m [.val (.tup l)] kk = kk (.val (.str (D.tup l).txt)) := propext ⟨fun z => z.2, fun z => ⟨h, z⟩⟩
theorem x_callA {bs : List B} {acc : List D} : callW sp (.at i :: bs) acc ⟨loc, m⟩ Q Z = match loc[i]? with
    | some (some (.val d)) => callW sp bs (acc ++ [d]) ⟨loc, m⟩ Q Z
    | some (some (.own w)) => ∀ p, m p = none → callW sp bs (acc ++ [.ref p]) ⟨loc.set i (some (.val (.ref p))), updM m p (.obj w)⟩ (fun r s' => back p i s' fun s2 => Q r s2) (fun x s' => back p i s' fun s2 => Z x s2)
    | _ => False := rfl
theorem x_back {p : Addr} {k : S → Prop} : back p i ⟨loc, m⟩ k = match m p with
    | some (.obj w) => k ⟨loc.set i (some (.own w)), delM m p⟩
    | _ => False := rfl
theorem x_wipe0 {α : Type} {l : List (Option α)} : wipeL l [] = l := rfl
theorem x_wipe {α : Type} {l : List (Option α)} {v : Nat} {own : List Nat} : wipeL l (v :: own) = (wipeL l own).set v none := rfl
theorem x_ix0 {n : Nat} : ixN (n + 1) 0 = some 0 := by
  unfold ixN
  rw [if_pos (Int.le_refl 0), if_pos (by omega)]; rfl
theorem log2_lt {n p : Nat} (h : n < 2 ^ p) (hp : 0 < p) : n.log2 < p := by
  by_cases hn : n = 0
  · subst hn
    simpa using hp
  · exact (Nat.log2_lt hn).mpr h
theorem cmulP {i j : Int} (p q : Nat) (hi : i.natAbs < 2 ^ p) (hj : j.natAbs < 2 ^ q) (hp : 0 < p) (hq : 0 < q) (h : p + q ≤ 134000000) : CMulB i j := by
  unfold CMulB
  have h1 := log2_lt hi hp
  have h2 := log2_lt hj hq
  omega
/-- factors below 2^64 -/
theorem cmul64 {i j : Int} (h1 : -18446744073709551616 < i) (h2 : i < 18446744073709551616) (h3 : -18446744073709551616 < j) (h4 : j < 18446744073709551616) : CMulB i j :=
  cmulP 64 64 (by omega) (by omega) (by decide) (by decide) (by decide)
theorem cdiv64 {i j : Int} (h0 : j ≠ 0) (h3 : -18446744073709551616 < j) (h4 : j < 18446744073709551616) : CDivB i j :=
  ⟨h0, Nat.lt_trans (log2_lt (p := 64) (by omega) (by decide)) (by decide)⟩
end
/-! ### loops and comprehensions by an invariant -/
section
variable {wt : S → Prop} {g : TGm} {body : TSm} {E : EndsM} {own : List Nat} {mt : TTm} {me : TEm}
/-- the invariant: what is left of the items, the state -/
theorem for_inv (I : List D → S → Prop) (hw : ∀ r s, I r s → wt s) (hs : ∀ d r s (k : S → Prop), I (d :: r) s → (∀ s', I r s' → k s') → g d s (fun s1 => body { nx := k, ct := k, bk := E.nx, rt := E.rt, ex := E.ex } s1) E.ex) (he : ∀ s, I [] s → E.nx s) :
    ∀ ds s, I ds s → forW wt g body ds E s
  | [], s, h => ⟨hw _ _ h, he s h⟩
  | d :: r, s, h => ⟨hw _ _ h, hs d r s _ h fun s' h' => for_inv I hw hs he r s' h'⟩
/-- the items are alike, the state is -/
theorem for_all (I : S → Prop) (C : D → Prop) (hw : ∀ s, I s → wt s) (hs : ∀ d s (k : S → Prop), C d → I s → (∀ s', I s' → k s') → g d s (fun s1 => body { nx := k, ct := k, bk := E.nx, rt := E.rt, ex := E.ex } s1) E.ex) (he : ∀ s, I s → E.nx s)
    (ds : List D) (hc : ∀ d ∈ ds, C d) (s : S) (h : I s) : forW wt g body ds E s :=
  for_inv (fun r s => I s ∧ ∀ d ∈ r, C d) (fun r s h => hw s h.1) (fun d r s k h hk => hs d s k (h.2 d List.mem_cons_self) h.1 fun s' h' => hk s' ⟨h', fun x hx => h.2 x (List.mem_cons_of_mem _ hx)⟩) (fun s h => he s h.1) ds s ⟨h, hc⟩
/-- the items 0, 1, .. below n of a range -/
theorem for_rng (n : Nat) (I : Nat → S → Prop) (hw : ∀ i s, I i s → wt s) (hs : ∀ i s (k : S → Prop), i < n → I i s → (∀ s', I (i + 1) s' → k s') → g (.int (i : Int)) s (fun s1 => body { nx := k, ct := k, bk := E.nx, rt := E.rt, ex := E.ex } s1) E.ex) (he : ∀ s, I n s → E.nx s)
    (s : S) (h : I 0 s) : forW wt g body (rngL 0 (n : Int)) E s := by
  have e : rngL 0 (n : Int) = (List.range' 0 n).map fun i => D.int (i : Nat) := by
    unfold rngL
    rw [← List.range_eq_range']
    simp
  rw [e]
  have key : ∀ (m i : Nat), i + m = n → ∀ s, I i s → forW wt g body ((List.range' i m).map fun i => D.int (i : Nat)) E s := by
    intro m
    induction m with
    | zero =>
      intro i hi s h
      have : i = n := by omega
      subst this
      exact ⟨hw _ _ h, he s h⟩
    | succ m ih =>
      intro i hi s h
      rw [List.range'_succ, List.map_cons]
      exact ⟨hw _ _ h, hs i s _ (by omega) h fun s' h' => ih (i + 1) (by omega) s' h'⟩
  exact key n 0 (by omega) s h
theorem lc_inv {Q : List D → S → Prop} (I : List D → List D → S → Prop) (hw : ∀ r acc s, I r acc s → wt s)
    (hs : ∀ d r acc s (k : List D → S → Prop), I (d :: r) acc s → (∀ acc' s', I r acc' s' → k acc' s') →
      g d s (fun s1 => mt s1 (fun b s2 => if b = true then me s2 (fun sv s3 => k (acc ++ [sv.frz]) ⟨wipeL s3.loc own, s3.mem⟩) noEx else k acc ⟨wipeL s2.loc own, s2.mem⟩) noEx) noEx) (he : ∀ acc s, I [] acc s → Q acc s) :
    ∀ ds acc s, I ds acc s → lcW own wt g mt me ds acc s Q
  | [], acc, s, h => ⟨hw _ _ _ h, he acc s h⟩
  | d :: r, acc, s, h => ⟨hw _ _ _ h, hs d r acc s (fun acc' s' => lcW own wt g mt me r acc' s' Q) h fun acc' s' h' => lc_inv I hw hs he r acc' s' h'⟩
/-- the state stays: each item gives what f tells -/
theorem lc_of {Q : List D → S → Prop} (f : D → Option D) (s : S) (hw : wt s) (ds : List D)
    (hs : ∀ d ∈ ds, ∀ acc (k : List D → S → Prop), k (acc ++ (f d).toList) s → g d s (fun s1 => mt s1 (fun b s2 => if b = true then me s2 (fun sv s3 => k (acc ++ [sv.frz]) ⟨wipeL s3.loc own, s3.mem⟩) noEx else k acc ⟨wipeL s2.loc own, s2.mem⟩) noEx) noEx)
    (hQ : Q (ds.filterMap f) s) : lcW own wt g mt me ds [] s Q := by
  refine lc_inv (fun r acc t => t = s ∧ (∀ d ∈ r, d ∈ ds) ∧ acc ++ r.filterMap f = ds.filterMap f) (fun _ _ _ h => by rw [h.1]; exact hw) (fun d r acc t k h hk => ?_) (fun acc t h => ?_) ds [] s ⟨rfl, fun _ h => h, rfl⟩
  · obtain ⟨rfl, h1, h2⟩ := h
    refine hs d (h1 d List.mem_cons_self) acc k (hk _ _ ⟨rfl, fun x hx => h1 x (List.mem_cons_of_mem _ hx), ?_⟩)
    rw [← h2]
    cases e : f d with
    | none => simp [List.filterMap_cons, e]
    | some x => simp [List.filterMap_cons, e]
  · obtain ⟨rfl, _, h2⟩ := h
    have : acc = ds.filterMap f := by simpa using h2
    rw [this]
    exact hQ
end
end Sf

set_option maxHeartbeats 4000000
set_option autoImplicit false
/-! Sf: a class of errors, from what the written part says. -/
namespace Sf
open PySem PySem.Spec PySem.W PySem.Calls PyProof.Rows PySem.HandSPX
/-- the names of such an __init__, checked -/
def xscB (sc : Scope) (fs : List Str) : Bool :=
  (match sc.kind with | .function => true | _ => false) && sc.names.lookup ("super" : Str) == some .globalImplicit && sc.names.lookup ("__class__" : Str) == some .free && sc.names.lookup ("self" : Str) == some .local &&
  fs.all (fun f => sc.names.lookup f == some .local && !(f == ("__debug__" : Str))) && !sc.isCoroutine && !sc.isGenerator && sc.names.all fun y => y.2 != .cell
theorem xsc_ok {sc : Scope} {fs : List Str} (h : xscB sc fs = true) : XScope sc fs := by
  unfold xscB at h
  simp only [Bool.and_eq_true, Bool.not_eq_true', beq_iff_eq, List.all_eq_true, bne_iff_ne] at h
  obtain ⟨⟨⟨⟨⟨⟨⟨h1, h2⟩, h3⟩, h4⟩, h5⟩, h6⟩, h7⟩, h8⟩ := h
  refine ⟨?_, h2, h3, h4, fun f hf => (h5 f hf).1, fun f hf => (h5 f hf).2, h6, h7, fun y hy => h8 y hy⟩
  revert h1
  cases sc.kind <;> simp
section
variable {P : Program} {w : World} {K : Frag} {h : Heap} {mg : Str → Option Value} {C fI D cc cda N : Addr} {nm q : Str} {bs bm : List Value} {sn : List Str} {sub : List Value} {ab : Bool} {col : Option Bool} {dd : Option Addr} {m0 m1 m2 m3 m5 : Option Value}
  {qual : Str} {params : Arguments} {scope : Scope} {doc pm ct oc : Value} {an od : Option Addr} {osl : Array (Option Value)} {f g : Str} {ar : Arg} {p0 p1 p2 p3 p4 n1 n2 q1 q2 q3 q4 r1 r2 r3 r4 : Pos} {cl ccl : Value} {cld cdd : Option Addr} {csl ccs : Array (Option Value)} {vs : Array Value} {file : Str} {tf : Tok}
theorem xok_mk {fs : List Str} (X : K.In h) (G : h.Ns mainGlobals mg) (xL : K.lookup C = some (excClassObj nm q C N bs bm true sn sub ab col dd m0 m1 m2 m3 m5 "ValueError.__new__")) (xv : refsVE bm = true) (su : ks_superIn K C D "__init__" = some (some (.builtin "ValueError.__init__")))
    (sa : findIn K (.ref C) "__setattr__" = some (some (.builtin "object.__setattr__"))) (no : ∀ f ∈ fs, findIn K (.ref C) f = some none) (iC : findIn K (.ref C) "__init__" = some (some (.ref fI))) (tI : typeIn K (.ref fI) = some (.type "function"))
    (kC : keepIn K (.ref C) = true) (eC : subIn K (.ref C) (.type "BaseException") = some true) (vC : subIn K (.ref C) (.type "ValueError") = some true) (tC : typeIn K (.ref C) = some (.type "type")) (sD : mroIn K C (.ref D) = some true) (iD : isClsIn K D = true)
    (lc : K.lookup cc = some ⟨cl, cld, .cell (some (.ref D)), csl⟩) (ld : K.lookup cda = some ⟨ccl, cdd, .fields vs, ccs⟩) (hv : vs[2]? = some (.str file tf)) (hf : ((P.main.file : Str) == file) = true) (op : nsIn K cStatics "thirdparty.any" = some none) (ns : nsIn K mainGlobals "super" = some none)
    (top : (P.main.scope.names.lookup ("super" : Str)).isSome = false) : XOk P K mg C fI D cc cda fs :=
  ⟨⟨nm, q, N, bs, bm, sn, sub, ab, col, dd, m0, m1, m2, m3, m5, xL, xv⟩, su, sa, no, iC, tI, kC, eC, vC, tC, sD, Option.isSome_iff_exists.mp iD, ⟨cl, cld, csl, lc⟩, ⟨ccl, cdd, ccs, vs, file, tf, ld, hv, hf⟩, op, mg_none_of X G ns, top⟩
theorem xmk1 (T : XOk P K mg C fI D cc cda [f])
    (lf : K.lookup fI = some ⟨oc, od, .func (ksFn "__init__" qual params [.Expr (.Call (.Attribute (.Call (.Name "super" p0) [] [] p1) "__init__" p2) [.Name f n1] [] p3) p4, .Assign [.Attribute (.Name "self" q1) f q2] (.Name f q3) q4] scope .none .none doc pm an (.ref cda) ct cc), osl⟩) (cd : codeIn K (.ref cda) qual = true)
    (S : xscB scope [f] = true) (har : (params.posonlyargs ++ params.args).head? = some ar) (hself : ar.arg = "self") (hne : f ≠ "self") (hpos : (p2.endLine == p3.line) = true)
    (hb : ∀ (s : Shared) (x : Addr) (v : Value), BindsTo s (ksFn "__init__" qual params [.Expr (supE p0 p1 p2 p3 [.Name f n1]) p4, keepS f q1 q2 q3 q4] scope .none .none doc pm an (.ref cda) ct cc) ⟨[.ref x, v], []⟩ [("self", .ref x), (f, v)]) : XMk P w K mg C [f] :=
  ⟨fI, D, cc, cda, T, xinit1 T lf cd (xsc_ok S) har hself hne hpos hb⟩
theorem xmk2 (T : XOk P K mg C fI D cc cda [f, g])
    (lf : K.lookup fI = some ⟨oc, od, .func (ksFn "__init__" qual params [.Expr (.Call (.Attribute (.Call (.Name "super" p0) [] [] p1) "__init__" p2) [.Name f n1, .Name g n2] [] p3) p4, .Assign [.Attribute (.Name "self" q1) f q2] (.Name f q3) q4, .Assign [.Attribute (.Name "self" r1) g r2] (.Name g r3) r4] scope .none .none doc pm an (.ref cda) ct cc), osl⟩) (cd : codeIn K (.ref cda) qual = true)
    (S : xscB scope [f, g] = true) (har : (params.posonlyargs ++ params.args).head? = some ar) (hself : ar.arg = "self") (hne : f ≠ "self") (hne2 : g ≠ "self") (hfg : f ≠ g) (hpos : (p2.endLine == p3.line) = true)
    (hb : ∀ (s : Shared) (x : Addr) (v u : Value), BindsTo s (ksFn "__init__" qual params [.Expr (supE p0 p1 p2 p3 [.Name f n1, .Name g n2]) p4, keepS f q1 q2 q3 q4, keepS g r1 r2 r3 r4] scope .none .none doc pm an (.ref cda) ct cc) ⟨[.ref x, v, u], []⟩ [("self", .ref x), (f, v), (g, u)]) : XMk P w K mg C [f, g] :=
  ⟨fI, D, cc, cda, T, xinit2 T lf cd (xsc_ok S) har hself hne hne2 hfg hpos hb⟩
end
end Sf

set_option autoImplicit false
namespace K00
open PySem PySem.Spec PyProof.Rows L2 Sf
/-- the drawn numbers -/
def Drs (l : List D) : Prop := ∃ ns : List Int, l = ns.map D.int ∧ ∀ z ∈ ns, 0 ≤ z ∧ z < 2 ^ 40
def sp_draws : SpM := fun ds m R _ => ∃ ns : List Int, ds = [.scr ns] ∧ (∀ z ∈ ns, z.natAbs.log2 < 2000000) ∧ ∀ l, Drs l → R (.own (.lst l)) m
def sp_more : SpM := fun ds m R _ => ∃ (l : List D) (q : Int), ds = [.lst l, .int q] ∧ Drs l ∧ 0 ≤ q ∧ q < 2 ^ 40 ∧ ∀ r : Int, 0 ≤ r → r < 2 ^ 40 → R (.val (.int r)) m
def sp_take : SpM := fun ds m R _ => ∃ (l : List D) (p : Addr) (q n : Int), ds = [.lst l, .ref p, .int n] ∧ Drs l ∧ m p = some (.obj (.lst [.int q])) ∧ 0 ≤ q ∧ q < 2 ^ 40 ∧ 0 < n ∧ ∀ r : Int, 0 ≤ r → r < n → R (.val (.int r)) (updM m p (.obj (.lst [.int (q + 1)])))
def sp_one : SpM := fun ds m R _ => ∃ (rows l : List D) (p : Addr) (q : Int), ds = [.lst rows, .lst l, .ref p] ∧ Drs l ∧ m p = some (.obj (.lst [.int q])) ∧ 0 ≤ q ∧ q < 2 ^ 40 ∧ rows ≠ [] ∧ ∀ d ∈ rows, R (.val d) (updM m p (.obj (.lst [.int (q + 1)])))
def sp_limits : SpM := fun ds m R _ => ds = [] ∧ R (.val (.bl true)) m
/-- the error of kind k -/
def errOf (c : Xs) (k : Int) (one other : D) : Exc :=
  if k = 0 then ⟨c.ArgumentError, ["reason"], [one]⟩ else if k = 1 then ⟨c.CheckError, ["reason"], [one]⟩ else if k = 2 then ⟨c.PaperError, ["reason"], [one]⟩ else if k = 3 then ⟨c.SiteError, ["reason"], [one]⟩
  else if k = 4 then ⟨c.TooMany, ["reason"], [one]⟩ else if k = 5 then ⟨c.TextError, ["at"], [one]⟩ else if k = 6 then ⟨c.LogError, ["number", "reason"], [one, other]⟩ else ⟨c.CommandError, ["line"], [one]⟩
def sp_raise (_ : PySem.W.Frag) (c : Xs) : SpM := fun ds m _ Z => ∃ (k : Int) (one other : D), ds = [.int k, one, other] ∧ Z (errOf c k one other) m
/-- what the classes are to each other -/
def kinds (c : Xs) : List Addr := [c.ArgumentError, c.CheckError, c.PaperError, c.SiteError, c.TooMany, c.TextError, c.LogError, c.CommandError]
def sp_kinds (K : PySem.W.Frag) (c : Xs) : Addr → Addr → Addr → SpM := fun a Ce dd ds m R _ => ∃ (i : Nat) (ks : List Str) (l : List D), ds = [.xc a Ce dd ks l] ∧ (kinds c)[i]? = some Ce ∧ R (.own (.lst ((List.range 8).map fun j => .bl (j == i)))) m
def sp_caught : SpM := fun ds m R _ => ∃ (k : Nat) (one other : D), ds = [.int k, one, other] ∧ k < 8 ∧ R (.own (.lst ((List.range 8).map fun j => .bl (j == k)))) m
def sp_fields : SpM := fun ds m R _ => ∃ (k : Nat) (one other : D), ds = [.int k, one, other] ∧ k < 8 ∧ R (.val (.tup (if k = 6 then [one, other] else [one]))) m
def sp_law : SpM := fun ds m R _ => ∃ ns : List Int, ds = [.scr ns] ∧ (∀ z ∈ ns, z.natAbs.log2 < 2000000) ∧ R (.val (.bl true)) m
end K00

set_option maxHeartbeats 4000000
set_option autoImplicit false
namespace K00
open PySem PySem.Spec PyProof.Rows L2 Sf
def topS (i : Nat) : Stmt := PySem.Challenge.pw_standsfirm_k00_errors_and_limits.main.body.getD i (.Pass ⟨0, 0, 0, 0⟩)
abbrev st__law_draws : Stmt := topS 40
abbrev N__law_draws : List Str := ["script", "draws", "cell", "rest", "k", "mixed"]
theorem sc__law_draws : FnScope N__law_draws ["script"] (defScope st__law_draws) := ⟨rfl, rfl, rfl, by decide +kernel, rfl, by decide +kernel, by decide +kernel⟩
def m__law_draws : TSm := (mSeq (mSet 1 (mLst mNil))
  (mSeq (mFor (mSeqI (mFrz (mSl (mAt 0) mNoPart (mPart (mC (.int 63)))))) (gN 2)
  (mSeq (mSetV 3 (mCB rAbsM (mCons (mAt 2) mNil)))
  (mIf (mTest (mOp2 rGeM (mAt 3) (mFrz (mOp2 rPowM (mFrz (mC (.int 10))) (mFrz (mC (.int 18)))))))
  (mFor (mRng1 (mCons (mFrz (mC (.int 60))) mNil)) (gN 4)
  (mIf (mTest (mOp2 rGtM (mAt 3) (mFrz (mC (.int 0)))))
  (mSeq (mDrop (mApp (mAt 1) (mCons (mFrz (mOp2 rModM (mFrz (mCB rIntOf (mCons (mAt 3) mNil))) (mFrz (mC (.int 1009))))) mNil)))
  (mSetV 3 (mOp2 rDivM (mAt 3) (mFrz (mC (.int 1009))))))
  mNext))
  (mSeq (mSetV 5 (mOp2 rModM (mFrz (mCB rIntOf (mCons (mFrz (mOp2 rAddM (mFrz (mOp2 rMulM (mAt 3) (mFrz (mC (.int 48271))))) (mFrz (mC (.int 11))))) mNil))) (mFrz (mC (.int 2147483647)))))
  (mFor (mRng1 (mCons (mFrz (mC (.int 12))) mNil)) (gN 4)
  (mSeq (mSetV 5 (mOp2 rModM (mFrz (mCB rIntOf (mCons (mFrz (mOp2 rAddM (mFrz (mOp2 rAddM (mFrz (mOp2 rMulM (mAt 5) (mFrz (mC (.int 16807))))) (mFrz (mOp2 rMulM (mFrz (mC (.int 69621))) (mAt 4))))) (mFrz (mC (.int 5))))) mNil))) (mFrz (mC (.int 2147483629)))))
  (mDrop (mApp (mAt 1) (mCons (mFrz (mOp2 rDivM (mAt 5) (mFrz (mC (.int 1009))))) mNil)))))))))
  (mRet (mMove 1))))
theorem d__law_draws {P : Program} {w : World} {K : PySem.W.Frag} {mg : Str → Option Value} {base : Heap} (z_abs : mg (Str.ofString "abs") = none) (z_int : mg (Str.ofString "int") = none) (z_range : mg (Str.ofString "range") = none) (f : Addr) (cdv : Value) (A : Around) (outer : List Env) (s : Shared) (H : Hp) (E : XK)
    (hr : Rm P 0 (A.deeper (envOfC (Str.ofString "_law_draws") (defScope st__law_draws) s.heap.objs.size f cdv)) base) : MSs (cxOf (L2.CX P w) P w K mg base N__law_draws (Str.ofString "_law_draws") (defScope st__law_draws) f cdv A outer s H E) (defBody st__law_draws) (m__law_draws) :=
  have sc := sc__law_draws
  (mss_cons (ms_set (i := 1) (fun _ he => ps_set sc.nd rfl (by first | exact .inl rfl | exact .inr rfl) he) (me_lst ma_nil))
  (mss_cons (ms_for (passes_of rfl) rfl (mi_seq (mb_frz (me_slice (mb_at (pv 0)) mo_none (mo_some me_int)))) (mg_name (pg_name (i := 2) sc.nd rfl (by first | exact .inl rfl | exact .inr rfl)))
  (mss_cons (ms_setV (i := 3) (fun _ he => ps_set sc.nd rfl (by first | exact .inl rfl | exact .inr rfl) he) (me_callB cm_abs (by rfl) z_abs boot_abs (ma_cons (mb_at (pv 2)) ma_nil)))
  (mss_one (ms_if (mt_cmp om_ge (mb_at (pv 3)) (mb_frz (me_op om_pow (mb_frz me_int) (mb_frz me_int))) (nomark _))
  (mss_one (ms_for (passes_of rfl) rfl (mi_rng1 (by rfl) z_range (ma_cons (mb_frz me_int) ma_nil)) (mg_name (pg_name (i := 4) sc.nd rfl (by first | exact .inl rfl | exact .inr rfl)))
  (mss_one (ms_if (mt_cmp om_gt (mb_at (pv 3)) (mb_frz me_int) (nomark _))
  (mss_cons (ms_expr (me_append (fun _ _ ho ha => pe_bm PySem.F.plainAttrs_list PySem.F.slot_list_append PySem.F.type_list_append mt_append ho ha) (mb_at (pv 1)) (ma_cons (mb_frz (me_op om_mod (mb_frz (me_callTy cm_int (by rfl) z_int boot_int (ma_cons (mb_at (pv 3)) ma_nil))) (mb_frz me_int))) ma_nil)))
  (mss_one (ms_setV (i := 3) (fun _ he => ps_set sc.nd rfl (by first | exact .inl rfl | exact .inr rfl) he) (me_op om_div (mb_at (pv 3)) (mb_frz me_int)))))
  mss_nil))))
  (mss_cons (ms_setV (i := 5) (fun _ he => ps_set sc.nd rfl (by first | exact .inl rfl | exact .inr rfl) he) (me_op om_mod (mb_frz (me_callTy cm_int (by rfl) z_int boot_int (ma_cons (mb_frz (me_op om_add (mb_frz (me_op om_mul (mb_at (pv 3)) (mb_frz me_int))) (mb_frz me_int))) ma_nil))) (mb_frz me_int)))
  (mss_one (ms_for (passes_of rfl) rfl (mi_rng1 (by rfl) z_range (ma_cons (mb_frz me_int) ma_nil)) (mg_name (pg_name (i := 4) sc.nd rfl (by first | exact .inl rfl | exact .inr rfl)))
  (mss_cons (ms_setV (i := 5) (fun _ he => ps_set sc.nd rfl (by first | exact .inl rfl | exact .inr rfl) he) (me_op om_mod (mb_frz (me_callTy cm_int (by rfl) z_int boot_int (ma_cons (mb_frz (me_op om_add (mb_frz (me_op om_add (mb_frz (me_op om_mul (mb_at (pv 5)) (mb_frz me_int))) (mb_frz (me_op om_mul (mb_frz me_int) (mb_at (pv 4)))))) (mb_frz me_int))) ma_nil))) (mb_frz me_int)))
  (mss_one (ms_expr (me_append (fun _ _ ho ha => pe_bm PySem.F.plainAttrs_list PySem.F.slot_list_append PySem.F.type_list_append mt_append ho ha) (mb_at (pv 1)) (ma_cons (mb_frz (me_op om_div (mb_at (pv 5)) (mb_frz me_int))) ma_nil))))))))))))
  (mss_one (ms_ret (me_move (pv 1))))))
abbrev st__law_more : Stmt := topS 41
abbrev N__law_more : List Str := ["draws", "place", "mixed", "k"]
theorem sc__law_more : FnScope N__law_more ["draws", "place"] (defScope st__law_more) := ⟨rfl, rfl, rfl, by decide +kernel, rfl, by decide +kernel, by decide +kernel⟩
def m__law_more : TSm := (mSeq (mSetV 2 (mOp2 rModM (mFrz (mCB rIntOf (mCons (mFrz (mOp2 rAddM (mFrz (mOp2 rAddM (mFrz (mOp2 rMulM (mAt 1) (mFrz (mC (.int 48271))))) (mFrz (mCB rLenM (mCons (mAt 0) mNil))))) (mFrz (mC (.int 11))))) mNil))) (mFrz (mC (.int 2147483629)))))
  (mSeq (mFor (mRng1 (mCons (mFrz (mC (.int 3))) mNil)) (gN 3)
  (mSeq (mIf (mTru (mAt 0))
  (mSetV 2 (mOp2 rAddM (mAt 2) (mFrz (mOp2 rIxM (mAt 0) (mFrz (mOp2 rModM (mFrz (mCB rIntOf (mCons (mFrz (mOp2 rAddM (mFrz (mOp2 rMulM (mAt 1) (mFrz (mOp2 rAddM (mAt 3) (mFrz (mC (.int 5))))))) (mAt 3))) mNil))) (mFrz (mCB rLenM (mCons (mAt 0) mNil)))))))))
  mNext)
  (mSetV 2 (mOp2 rModM (mFrz (mCB rIntOf (mCons (mFrz (mOp2 rAddM (mFrz (mOp2 rAddM (mFrz (mOp2 rMulM (mAt 2) (mFrz (mC (.int 16807))))) (mFrz (mOp2 rMulM (mFrz (mC (.int 69621))) (mAt 3))))) (mFrz (mC (.int 5))))) mNil))) (mFrz (mC (.int 2147483629)))))))
  (mRet (mOp2 rDivM (mAt 2) (mFrz (mC (.int 1009)))))))
theorem d__law_more {P : Program} {w : World} {K : PySem.W.Frag} {mg : Str → Option Value} {base : Heap} (z_int : mg (Str.ofString "int") = none) (z_len : mg (Str.ofString "len") = none) (z_range : mg (Str.ofString "range") = none) (f : Addr) (cdv : Value) (A : Around) (outer : List Env) (s : Shared) (H : Hp) (E : XK)
    (hr : Rm P 0 (A.deeper (envOfC (Str.ofString "_law_more") (defScope st__law_more) s.heap.objs.size f cdv)) base) : MSs (cxOf (L2.CX P w) P w K mg base N__law_more (Str.ofString "_law_more") (defScope st__law_more) f cdv A outer s H E) (defBody st__law_more) (m__law_more) :=
  have sc := sc__law_more
  (mss_cons (ms_setV (i := 2) (fun _ he => ps_set sc.nd rfl (by first | exact .inl rfl | exact .inr rfl) he) (me_op om_mod (mb_frz (me_callTy cm_int (by rfl) z_int boot_int (ma_cons (mb_frz (me_op om_add (mb_frz (me_op om_add (mb_frz (me_op om_mul (mb_at (pv 1)) (mb_frz me_int))) (mb_frz (me_callB cm_len (by rfl) z_len PySem.boot_len (ma_cons (mb_at (pv 0)) ma_nil))))) (mb_frz me_int))) ma_nil))) (mb_frz me_int)))
  (mss_cons (ms_for (passes_of rfl) rfl (mi_rng1 (by rfl) z_range (ma_cons (mb_frz me_int) ma_nil)) (mg_name (pg_name (i := 3) sc.nd rfl (by first | exact .inl rfl | exact .inr rfl)))
  (mss_cons (ms_if (mt_tru (mb_at (pv 0)))
  (mss_one (ms_setV (i := 2) (fun _ he => ps_set sc.nd rfl (by first | exact .inl rfl | exact .inr rfl) he) (me_op om_add (mb_at (pv 2)) (mb_frz (ix_lift (mb_at (pv 0)) (mb_frz (me_op om_mod (mb_frz (me_callTy cm_int (by rfl) z_int boot_int (ma_cons (mb_frz (me_op om_add (mb_frz (me_op om_mul (mb_at (pv 1)) (mb_frz (me_op om_add (mb_at (pv 3)) (mb_frz me_int))))) (mb_at (pv 3)))) ma_nil))) (mb_frz (me_callB cm_len (by rfl) z_len PySem.boot_len (ma_cons (mb_at (pv 0)) ma_nil))))) (fun _ _ => rfl))))))
  mss_nil)
  (mss_one (ms_setV (i := 2) (fun _ he => ps_set sc.nd rfl (by first | exact .inl rfl | exact .inr rfl) he) (me_op om_mod (mb_frz (me_callTy cm_int (by rfl) z_int boot_int (ma_cons (mb_frz (me_op om_add (mb_frz (me_op om_add (mb_frz (me_op om_mul (mb_at (pv 2)) (mb_frz me_int))) (mb_frz (me_op om_mul (mb_frz me_int) (mb_at (pv 3)))))) (mb_frz me_int))) ma_nil))) (mb_frz me_int))))))
  (mss_one (ms_ret (me_op om_div (mb_at (pv 2)) (mb_frz me_int))))))
abbrev st__law_take : Stmt := topS 42
abbrev N__law_take : List Str := ["draws", "at", "many", "place"]
theorem sc__law_take : FnScope N__law_take ["draws", "at", "many"] (defScope st__law_take) := ⟨rfl, rfl, rfl, by decide +kernel, rfl, by decide +kernel, by decide +kernel⟩
def m__law_take : TSm := (mSeq (mSetV 3 (mOp2 rIxM (mAt 1) (mFrz (mC (.int 0)))))
  (mSeq (mAsg (mOp2 rAddM (mAt 3) (mFrz (mC (.int 1)))) (gS (mAt 1) (mFrz (mC (.int 0)))))
  (mRet (mOp2 rModM (mFrz (mCB rIntOf (mCons (mFrz (mIfE (mTest (mOp2 rLtM (mAt 3) (mFrz (mCB rLenM (mCons (mAt 0) mNil))))) (mOp2 rIxM (mAt 0) (mAt 3)) (mCall sp_more (mCons (mAt 0) (mCons (mAt 3) mNil))))) mNil))) (mAt 2)))))
theorem d__law_take {P : Program} {w : World} {K : PySem.W.Frag} {mg : Str → Option Value} {base : Heap} (h__law_more : Gas P w K mg base (Str.ofString "_law_more") 1 ["draws", "place"] sp_more) (z_int : mg (Str.ofString "int") = none) (z_len : mg (Str.ofString "len") = none) (f : Addr) (cdv : Value) (A : Around) (outer : List Env) (s : Shared) (H : Hp) (E : XK)
    (hr : Rm P 1 (A.deeper (envOfC (Str.ofString "_law_take") (defScope st__law_take) s.heap.objs.size f cdv)) base) : MSs (cxOf (L2.CX P w) P w K mg base N__law_take (Str.ofString "_law_take") (defScope st__law_take) f cdv A outer s H E) (defBody st__law_take) (m__law_take) :=
  have sc := sc__law_take
  (mss_cons (ms_setV (i := 3) (fun _ he => ps_set sc.nd rfl (by first | exact .inl rfl | exact .inr rfl) he) (ix_lift (mb_at (pv 1)) (mb_frz me_int) (fun _ _ => rfl)))
  (mss_cons (ms_asg (me_op om_add (mb_at (pv 3)) (mb_frz me_int)) (mg_sub (mb_at (pv 1)) (mb_frz me_int)))
  (mss_one (ms_ret (me_op om_mod (mb_frz (me_callTy cm_int (by rfl) z_int boot_int (ma_cons (mb_frz (me_ife (mt_cmp om_lt (mb_at (pv 3)) (mb_frz (me_callB cm_len (by rfl) z_len PySem.boot_len (ma_cons (mb_at (pv 0)) ma_nil))) (nomark _)) (ix_lift (mb_at (pv 0)) (mb_at (pv 3)) (fun _ _ => rfl)) (h__law_more.me (hr.mono (by decide)) (by rfl) (ma_cons (mb_at (pv 0)) (ma_cons (mb_at (pv 3)) ma_nil))))) ma_nil))) (mb_at (pv 2)))))))
abbrev st__law_one : Stmt := topS 43
abbrev N__law_one : List Str := ["rows", "draws", "at"]
theorem sc__law_one : FnScope N__law_one ["rows", "draws", "at"] (defScope st__law_one) := ⟨rfl, rfl, rfl, by decide +kernel, rfl, by decide +kernel, by decide +kernel⟩
def m__law_one : TSm := (mRet (mOp2 rIxM (mAt 0) (mFrz (mCall sp_take (mCons (mAt 1) (mCons (mAt 2) (mCons (mFrz (mCB rLenM (mCons (mAt 0) mNil))) mNil)))))))
theorem d__law_one {P : Program} {w : World} {K : PySem.W.Frag} {mg : Str → Option Value} {base : Heap} (h__law_take : Gas P w K mg base (Str.ofString "_law_take") 2 ["draws", "at", "many"] sp_take) (z_len : mg (Str.ofString "len") = none) (f : Addr) (cdv : Value) (A : Around) (outer : List Env) (s : Shared) (H : Hp) (E : XK)
    (hr : Rm P 2 (A.deeper (envOfC (Str.ofString "_law_one") (defScope st__law_one) s.heap.objs.size f cdv)) base) : MSs (cxOf (L2.CX P w) P w K mg base N__law_one (Str.ofString "_law_one") (defScope st__law_one) f cdv A outer s H E) (defBody st__law_one) (m__law_one) :=
  have sc := sc__law_one
  (mss_one (ms_ret (ix_lift (mb_at (pv 0)) (mb_frz (h__law_take.me (hr.mono (by decide)) (by rfl) (ma_cons (mb_at (pv 1)) (ma_cons (mb_at (pv 2)) (ma_cons (mb_frz (me_callB cm_len (by rfl) z_len PySem.boot_len (ma_cons (mb_at (pv 0)) ma_nil))) ma_nil))))) (fun _ _ => rfl))))
abbrev st__law_limits_right : Stmt := topS 44
abbrev N__law_limits_right : List Str := ["told", "due"]
theorem sc__law_limits_right : FnScope N__law_limits_right [] (defScope st__law_limits_right) := ⟨rfl, rfl, rfl, by decide +kernel, rfl, by decide +kernel, by decide +kernel⟩
def m__law_limits_right : TSm := (mSeq (mSetV 0 (mLst (mCons (mFrz (mC (.int 12))) (mCons (mFrz (mC (.int 30))) (mCons (mFrz (mC (.int 1000))) (mCons (mFrz (mC (.int 12))) (mCons (mFrz (mC (.int 1000000))) (mCons (mFrz (mC (.int 6000))) (mCons (mFrz (mC (.int 1000000000))) (mCons (mFrz (mC (.int 12))) (mCons (mFrz (mC (.int 1000000))) (mCons (mFrz (mC (.int 8))) mNil))))))))))))
  (mSeq (mSetV 0 (mOp2 rAddM (mAt 0) (mFrz (mLst (mCons (mFrz (mC (.int 8))) (mCons (mFrz (mC (.int 3))) (mCons (mFrz (mC (.int 12))) (mCons (mFrz (mC (.int 12))) (mCons (mFrz (mC (.int 60))) (mCons (mFrz (mC (.int 3))) (mCons (mFrz (mC (.int 12))) (mCons (mFrz (mC (.int 10))) (mCons (mFrz (mC (.int 20))) (mCons (mFrz (mC (.int 200))) mNil))))))))))))))
  (mSeq (mSetV 0 (mOp2 rAddM (mAt 0) (mFrz (mLst (mCons (mFrz (mC (.int 200))) (mCons (mFrz (mC (.int 3))) (mCons (mFrz (mC (.int 100))) (mCons (mFrz (mC (.int 60))) (mCons (mFrz (mC (.int 8))) (mCons (mFrz (mC (.int 8))) (mCons (mFrz (mC (.int 8))) (mCons (mFrz (mC (.int 12))) mNil))))))))))))
  (mSeq (mSetV 1 (mLst (mCons (mFrz (mC (.int 12))) (mCons (mFrz (mC (.int 30))) (mCons (mFrz (mC (.int 1000))) (mCons (mFrz (mC (.int 12))) (mCons (mFrz (mC (.int 1000000))) (mCons (mFrz (mC (.int 6000))) (mCons (mFrz (mC (.int 1000000000))) (mCons (mFrz (mC (.int 12))) (mCons (mFrz (mC (.int 1000000))) (mCons (mFrz (mC (.int 8))) (mCons (mFrz (mC (.int 8))) (mCons (mFrz (mC (.int 3))) (mCons (mFrz (mC (.int 12))) (mCons (mFrz (mC (.int 12))) (mCons (mFrz (mC (.int 60))) (mCons (mFrz (mC (.int 3))) (mCons (mFrz (mC (.int 12))) (mCons (mFrz (mC (.int 10))) (mCons (mFrz (mC (.int 20))) (mCons (mFrz (mC (.int 200))) (mCons (mFrz (mC (.int 200))) (mCons (mFrz (mC (.int 3))) (mCons (mFrz (mC (.int 100))) (mCons (mFrz (mC (.int 60))) (mCons (mFrz (mC (.int 8))) (mCons (mFrz (mC (.int 8))) (mCons (mFrz (mC (.int 8))) (mCons (mFrz (mC (.int 12))) mNil))))))))))))))))))))))))))))))
  (mRet (mOp2 (rEqM false) (mFrz (mCB rReprM (mCons (mAt 0) mNil))) (mFrz (mCB rReprM (mCons (mAt 1) mNil)))))))))
theorem d__law_limits_right {P : Program} {w : World} {K : PySem.W.Frag} {mg : Str → Option Value} {base : Heap} (z_repr : mg (Str.ofString "repr") = none) {t_MAX_AWAY : Tok} (g_MAX_AWAY : mg (Str.ofString "MAX_AWAY") = some (.int 3 t_MAX_AWAY)) {t_MAX_BARS : Tok} (g_MAX_BARS : mg (Str.ofString "MAX_BARS") = some (.int 30 t_MAX_BARS)) {t_MAX_BLOCKS : Tok} (g_MAX_BLOCKS : mg (Str.ofString "MAX_BLOCKS") = some (.int 12 t_MAX_BLOCKS)) {t_MAX_BRACES : Tok} (g_MAX_BRACES : mg (Str.ofString "MAX_BRACES") = some (.int 60 t_MAX_BRACES)) {t_MAX_CASES : Tok} (g_MAX_CASES : mg (Str.ofString "MAX_CASES") = some (.int 8 t_MAX_CASES)) {t_MAX_COST : Tok} (g_MAX_COST : mg (Str.ofString "MAX_COST") = some (.int 1000000 t_MAX_COST)) {t_MAX_CRANES : Tok} (g_MAX_CRANES : mg (Str.ofString "MAX_CRANES") = some (.int 8 t_MAX_CRANES)) {t_MAX_DEPTH : Tok} (g_MAX_DEPTH : mg (Str.ofString "MAX_DEPTH") = some (.int 100 t_MAX_DEPTH)) {t_MAX_DIGITS : Tok} (g_MAX_DIGITS : mg (Str.ofString "MAX_DIGITS") = some (.int 60 t_MAX_DIGITS)) {t_MAX_FORCE : Tok} (g_MAX_FORCE : mg (Str.ofString "MAX_FORCE") = some (.int 1000000 t_MAX_FORCE)) {t_MAX_JOBS : Tok} (g_MAX_JOBS : mg (Str.ofString "MAX_JOBS") = some (.int 10 t_MAX_JOBS)) {t_MAX_JOINTS : Tok} (g_MAX_JOINTS : mg (Str.ofString "MAX_JOINTS") = some (.int 12 t_MAX_JOINTS)) {t_MAX_KEPT : Tok} (g_MAX_KEPT : mg (Str.ofString "MAX_KEPT") = some (.int 8 t_MAX_KEPT)) {t_MAX_LENGTH : Tok} (g_MAX_LENGTH : mg (Str.ofString "MAX_LENGTH") = some (.int 200 t_MAX_LENGTH)) {t_MAX_LIFTS : Tok} (g_MAX_LIFTS : mg (Str.ofString "MAX_LIFTS") = some (.int 8 t_MAX_LIFTS)) {t_MAX_LINES : Tok} (g_MAX_LINES : mg (Str.ofString "MAX_LINES") = some (.int 12 t_MAX_LINES)) {t_MAX_LOADS : Tok} (g_MAX_LOADS : mg (Str.ofString "MAX_LOADS") = some (.int 12 t_MAX_LOADS)) {t_MAX_LOG : Tok} (g_MAX_LOG : mg (Str.ofString "MAX_LOG") = some (.int 200 t_MAX_LOG)) {t_MAX_NAME : Tok} (g_MAX_NAME : mg (Str.ofString "MAX_NAME") = some (.int 12 t_MAX_NAME)) {t_MAX_NUMBER : Tok} (g_MAX_NUMBER : mg (Str.ofString "MAX_NUMBER") = some (.int 1000000000 t_MAX_NUMBER)) {t_MAX_PIECES : Tok} (g_MAX_PIECES : mg (Str.ofString "MAX_PIECES") = some (.int 20 t_MAX_PIECES)) {t_MAX_PLACE : Tok} (g_MAX_PLACE : mg (Str.ofString "MAX_PLACE") = some (.int 1000 t_MAX_PLACE)) {t_MAX_PROPS : Tok} (g_MAX_PROPS : mg (Str.ofString "MAX_PROPS") = some (.int 3 t_MAX_PROPS)) {t_MAX_ROWS : Tok} (g_MAX_ROWS : mg (Str.ofString "MAX_ROWS") = some (.int 12 t_MAX_ROWS)) {t_MAX_SIDE : Tok} (g_MAX_SIDE : mg (Str.ofString "MAX_SIDE") = some (.int 3 t_MAX_SIDE)) {t_MAX_STRONG : Tok} (g_MAX_STRONG : mg (Str.ofString "MAX_STRONG") = some (.int 12 t_MAX_STRONG)) {t_MAX_TEXT : Tok} (g_MAX_TEXT : mg (Str.ofString "MAX_TEXT") = some (.int 6000 t_MAX_TEXT)) {t_MAX_VAULT : Tok} (g_MAX_VAULT : mg (Str.ofString "MAX_VAULT") = some (.int 8 t_MAX_VAULT)) (f : Addr) (cdv : Value) (A : Around) (outer : List Env) (s : Shared) (H : Hp) (E : XK)
    (hr : Rm P 0 (A.deeper (envOfC (Str.ofString "_law_limits_right") (defScope st__law_limits_right) s.heap.objs.size f cdv)) base) : MSs (cxOf (L2.CX P w) P w K mg base N__law_limits_right (Str.ofString "_law_limits_right") (defScope st__law_limits_right) f cdv A outer s H E) (defBody st__law_limits_right) (m__law_limits_right) :=
  have sc := sc__law_limits_right
  (mss_cons (ms_setV (i := 0) (fun _ he => ps_set sc.nd rfl (by first | exact .inl rfl | exact .inr rfl) he) (me_lst (ma_cons (mb_frz (me_gint (by rfl) g_MAX_JOINTS)) (ma_cons (mb_frz (me_gint (by rfl) g_MAX_BARS)) (ma_cons (mb_frz (me_gint (by rfl) g_MAX_PLACE)) (ma_cons (mb_frz (me_gint (by rfl) g_MAX_NAME)) (ma_cons (mb_frz (me_gint (by rfl) g_MAX_FORCE)) (ma_cons (mb_frz (me_gint (by rfl) g_MAX_TEXT)) (ma_cons (mb_frz (me_gint (by rfl) g_MAX_NUMBER)) (ma_cons (mb_frz (me_gint (by rfl) g_MAX_ROWS)) (ma_cons (mb_frz (me_gint (by rfl) g_MAX_COST)) (ma_cons (mb_frz (me_gint (by rfl) g_MAX_CASES)) ma_nil))))))))))))
  (mss_cons (ms_setV (i := 0) (fun _ he => ps_set sc.nd rfl (by first | exact .inl rfl | exact .inr rfl) he) (me_op om_add (mb_at (pv 0)) (mb_frz (me_lst (ma_cons (mb_frz (me_gint (by rfl) g_MAX_KEPT)) (ma_cons (mb_frz (me_gint (by rfl) g_MAX_AWAY)) (ma_cons (mb_frz (me_gint (by rfl) g_MAX_STRONG)) (ma_cons (mb_frz (me_gint (by rfl) g_MAX_LINES)) (ma_cons (mb_frz (me_gint (by rfl) g_MAX_BRACES)) (ma_cons (mb_frz (me_gint (by rfl) g_MAX_PROPS)) (ma_cons (mb_frz (me_gint (by rfl) g_MAX_BLOCKS)) (ma_cons (mb_frz (me_gint (by rfl) g_MAX_JOBS)) (ma_cons (mb_frz (me_gint (by rfl) g_MAX_PIECES)) (ma_cons (mb_frz (me_gint (by rfl) g_MAX_LENGTH)) ma_nil))))))))))))))
  (mss_cons (ms_setV (i := 0) (fun _ he => ps_set sc.nd rfl (by first | exact .inl rfl | exact .inr rfl) he) (me_op om_add (mb_at (pv 0)) (mb_frz (me_lst (ma_cons (mb_frz (me_gint (by rfl) g_MAX_LOG)) (ma_cons (mb_frz (me_gint (by rfl) g_MAX_SIDE)) (ma_cons (mb_frz (me_gint (by rfl) g_MAX_DEPTH)) (ma_cons (mb_frz (me_gint (by rfl) g_MAX_DIGITS)) (ma_cons (mb_frz (me_gint (by rfl) g_MAX_CRANES)) (ma_cons (mb_frz (me_gint (by rfl) g_MAX_LIFTS)) (ma_cons (mb_frz (me_gint (by rfl) g_MAX_VAULT)) (ma_cons (mb_frz (me_gint (by rfl) g_MAX_LOADS)) ma_nil))))))))))))
  (mss_cons (ms_setV (i := 1) (fun _ he => ps_set sc.nd rfl (by first | exact .inl rfl | exact .inr rfl) he) (me_lst (ma_cons (mb_frz me_int) (ma_cons (mb_frz me_int) (ma_cons (mb_frz me_int) (ma_cons (mb_frz me_int) (ma_cons (mb_frz me_int) (ma_cons (mb_frz me_int) (ma_cons (mb_frz me_int) (ma_cons (mb_frz me_int) (ma_cons (mb_frz me_int) (ma_cons (mb_frz me_int) (ma_cons (mb_frz me_int) (ma_cons (mb_frz me_int) (ma_cons (mb_frz me_int) (ma_cons (mb_frz me_int) (ma_cons (mb_frz me_int) (ma_cons (mb_frz me_int) (ma_cons (mb_frz me_int) (ma_cons (mb_frz me_int) (ma_cons (mb_frz me_int) (ma_cons (mb_frz me_int) (ma_cons (mb_frz me_int) (ma_cons (mb_frz me_int) (ma_cons (mb_frz me_int) (ma_cons (mb_frz me_int) (ma_cons (mb_frz me_int) (ma_cons (mb_frz me_int) (ma_cons (mb_frz me_int) (ma_cons (mb_frz me_int) ma_nil))))))))))))))))))))))))))))))
  (mss_one (ms_ret (me_cmp (om_eq hr.units) (mb_frz (me_callB (cm_repr hr.g hr.units) (by rfl) z_repr boot_repr (ma_cons (mb_at (pv 0)) ma_nil))) (mb_frz (me_callB (cm_repr hr.g hr.units) (by rfl) z_repr boot_repr (ma_cons (mb_at (pv 1)) ma_nil))) (nomark _))))))))
abbrev st__law_raise : Stmt := topS 45
abbrev N__law_raise : List Str := ["k", "one", "other"]
theorem sc__law_raise : FnScope N__law_raise ["k", "one", "other"] (defScope st__law_raise) := ⟨rfl, rfl, rfl, by decide +kernel, rfl, by decide +kernel, by decide +kernel⟩
def m__law_raise (K : PySem.W.Frag) (c : Xs) : TSm := (mSeq (mIf (mTest (mOp2 (rEqM false) (mAt 0) (mFrz (mC (.int 0)))))
  (mRaise c.ArgumentError [(Str.ofString "reason")] (mCons (mFrz (mVar 1)) mNil))
  mNext)
  (mSeq (mIf (mTest (mOp2 (rEqM false) (mAt 0) (mFrz (mC (.int 1)))))
  (mRaise c.CheckError [(Str.ofString "reason")] (mCons (mFrz (mVar 1)) mNil))
  mNext)
  (mSeq (mIf (mTest (mOp2 (rEqM false) (mAt 0) (mFrz (mC (.int 2)))))
  (mRaise c.PaperError [(Str.ofString "reason")] (mCons (mFrz (mVar 1)) mNil))
  mNext)
  (mSeq (mIf (mTest (mOp2 (rEqM false) (mAt 0) (mFrz (mC (.int 3)))))
  (mRaise c.SiteError [(Str.ofString "reason")] (mCons (mFrz (mVar 1)) mNil))
  mNext)
  (mSeq (mIf (mTest (mOp2 (rEqM false) (mAt 0) (mFrz (mC (.int 4)))))
  (mRaise c.TooMany [(Str.ofString "reason")] (mCons (mFrz (mVar 1)) mNil))
  mNext)
  (mSeq (mIf (mTest (mOp2 (rEqM false) (mAt 0) (mFrz (mC (.int 5)))))
  (mRaise c.TextError [(Str.ofString "at")] (mCons (mFrz (mVar 1)) mNil))
  mNext)
  (mSeq (mIf (mTest (mOp2 (rEqM false) (mAt 0) (mFrz (mC (.int 6)))))
  (mRaise c.LogError [(Str.ofString "number"), (Str.ofString "reason")] (mCons (mFrz (mVar 1)) (mCons (mFrz (mVar 2)) mNil)))
  mNext)
  (mRaise c.CommandError [(Str.ofString "line")] (mCons (mFrz (mVar 1)) mNil)))))))))
theorem d__law_raise (c : Xs) {P : Program} {w : World} {K : PySem.W.Frag} {mg : Str → Option Value} {base : Heap} (g_ArgumentError : mg (Str.ofString "ArgumentError") = some (.ref c.ArgumentError)) (g_CheckError : mg (Str.ofString "CheckError") = some (.ref c.CheckError)) (g_CommandError : mg (Str.ofString "CommandError") = some (.ref c.CommandError)) (g_LogError : mg (Str.ofString "LogError") = some (.ref c.LogError)) (g_PaperError : mg (Str.ofString "PaperError") = some (.ref c.PaperError)) (g_SiteError : mg (Str.ofString "SiteError") = some (.ref c.SiteError)) (g_TextError : mg (Str.ofString "TextError") = some (.ref c.TextError)) (g_TooMany : mg (Str.ofString "TooMany") = some (.ref c.TooMany)) (x_ArgumentError : XMk P w K mg c.ArgumentError [(Str.ofString "reason")]) (x_CheckError : XMk P w K mg c.CheckError [(Str.ofString "reason")]) (x_CommandError : XMk P w K mg c.CommandError [(Str.ofString "line")]) (x_LogError : XMk P w K mg c.LogError [(Str.ofString "number"), (Str.ofString "reason")]) (x_PaperError : XMk P w K mg c.PaperError [(Str.ofString "reason")]) (x_SiteError : XMk P w K mg c.SiteError [(Str.ofString "reason")]) (x_TextError : XMk P w K mg c.TextError [(Str.ofString "at")]) (x_TooMany : XMk P w K mg c.TooMany [(Str.ofString "reason")]) (f : Addr) (cdv : Value) (A : Around) (outer : List Env) (s : Shared) (H : Hp) (E : XK)
    (hr : Rm P 1 (A.deeper (envOfC (Str.ofString "_law_raise") (defScope st__law_raise) s.heap.objs.size f cdv)) base) : MSs (cxOf (L2.CX P w) P w K mg base N__law_raise (Str.ofString "_law_raise") (defScope st__law_raise) f cdv A outer s H E) (defBody st__law_raise) (m__law_raise K c) :=
  have sc := sc__law_raise
  (mss_cons (ms_if (mt_cmp (om_eq hr.units) (mb_at (pv 0)) (mb_frz me_int) (nomark _))
  (mss_one (ms_raise (k := 0) rfl x_ArgumentError (hr.r.mono (by decide)) (by rfl) g_ArgumentError (ma_cons (mb_frz (me_var (pv 1))) ma_nil)))
  mss_nil)
  (mss_cons (ms_if (mt_cmp (om_eq hr.units) (mb_at (pv 0)) (mb_frz me_int) (nomark _))
  (mss_one (ms_raise (k := 0) rfl x_CheckError (hr.r.mono (by decide)) (by rfl) g_CheckError (ma_cons (mb_frz (me_var (pv 1))) ma_nil)))
  mss_nil)
  (mss_cons (ms_if (mt_cmp (om_eq hr.units) (mb_at (pv 0)) (mb_frz me_int) (nomark _))
  (mss_one (ms_raise (k := 0) rfl x_PaperError (hr.r.mono (by decide)) (by rfl) g_PaperError (ma_cons (mb_frz (me_var (pv 1))) ma_nil)))
  mss_nil)
  (mss_cons (ms_if (mt_cmp (om_eq hr.units) (mb_at (pv 0)) (mb_frz me_int) (nomark _))
  (mss_one (ms_raise (k := 0) rfl x_SiteError (hr.r.mono (by decide)) (by rfl) g_SiteError (ma_cons (mb_frz (me_var (pv 1))) ma_nil)))
  mss_nil)
  (mss_cons (ms_if (mt_cmp (om_eq hr.units) (mb_at (pv 0)) (mb_frz me_int) (nomark _))
  (mss_one (ms_raise (k := 0) rfl x_TooMany (hr.r.mono (by decide)) (by rfl) g_TooMany (ma_cons (mb_frz (me_var (pv 1))) ma_nil)))
  mss_nil)
  (mss_cons (ms_if (mt_cmp (om_eq hr.units) (mb_at (pv 0)) (mb_frz me_int) (nomark _))
  (mss_one (ms_raise (k := 0) rfl x_TextError (hr.r.mono (by decide)) (by rfl) g_TextError (ma_cons (mb_frz (me_var (pv 1))) ma_nil)))
  mss_nil)
  (mss_cons (ms_if (mt_cmp (om_eq hr.units) (mb_at (pv 0)) (mb_frz me_int) (nomark _))
  (mss_one (ms_raise (k := 0) rfl x_LogError (hr.r.mono (by decide)) (by rfl) g_LogError (ma_cons (mb_frz (me_var (pv 1))) (ma_cons (mb_frz (me_var (pv 2))) ma_nil))))
  mss_nil)
  (mss_one (ms_raise (k := 0) rfl x_CommandError (hr.r.mono (by decide)) (by rfl) g_CommandError (ma_cons (mb_frz (me_var (pv 1))) ma_nil))))))))))
abbrev st__law_kinds : Stmt := topS 46
abbrev N__law_kinds : List Str := ["e", "plain"]
theorem sc__law_kinds : FnScope N__law_kinds ["e"] (defScope st__law_kinds) := ⟨rfl, rfl, rfl, by decide +kernel, rfl, by decide +kernel, by decide +kernel⟩
def m__law_kinds (K : PySem.W.Frag) (c : Xs) : SuM := fun a Ce dd => (mSeq (mSetV 1 (mLst (mCons (mFrz (mIsX K a Ce dd (mCons (mAt 0) (mCons (mFrz (mC (.cls c.ArgumentError))) mNil)))) (mCons (mFrz (mIsX K a Ce dd (mCons (mAt 0) (mCons (mFrz (mC (.cls c.CheckError))) mNil)))) (mCons (mFrz (mIsX K a Ce dd (mCons (mAt 0) (mCons (mFrz (mC (.cls c.PaperError))) mNil)))) (mCons (mFrz (mIsX K a Ce dd (mCons (mAt 0) (mCons (mFrz (mC (.cls c.SiteError))) mNil)))) (mCons (mFrz (mIsX K a Ce dd (mCons (mAt 0) (mCons (mFrz (mC (.cls c.TooMany))) mNil)))) mNil)))))))
  (mRet (mOp2 rAddM (mAt 1) (mFrz (mLst (mCons (mFrz (mIsX K a Ce dd (mCons (mAt 0) (mCons (mFrz (mC (.cls c.TextError))) mNil)))) (mCons (mFrz (mIsX K a Ce dd (mCons (mAt 0) (mCons (mFrz (mC (.cls c.LogError))) mNil)))) (mCons (mFrz (mIsX K a Ce dd (mCons (mAt 0) (mCons (mFrz (mC (.cls c.CommandError))) mNil)))) mNil))))))))
theorem d__law_kinds (c : Xs) {P : Program} {w : World} {K : PySem.W.Frag} {mg : Str → Option Value} {base : Heap} (z_isinstance : mg (Str.ofString "isinstance") = none) (g_ArgumentError : mg (Str.ofString "ArgumentError") = some (.ref c.ArgumentError)) (g_CheckError : mg (Str.ofString "CheckError") = some (.ref c.CheckError)) (g_CommandError : mg (Str.ofString "CommandError") = some (.ref c.CommandError)) (g_LogError : mg (Str.ofString "LogError") = some (.ref c.LogError)) (g_PaperError : mg (Str.ofString "PaperError") = some (.ref c.PaperError)) (g_SiteError : mg (Str.ofString "SiteError") = some (.ref c.SiteError)) (g_TextError : mg (Str.ofString "TextError") = some (.ref c.TextError)) (g_TooMany : mg (Str.ofString "TooMany") = some (.ref c.TooMany)) (f : Addr) (cdv : Value) (A : Around) (outer : List Env) (s : Shared) (H : Hp) (p : Addr × Obj) (a Ce dd : Addr)
    (PX : PinX (L2H.cxH (L2.CX P w) P w K mg base N__law_kinds (Str.ofString "_law_kinds") (defScope st__law_kinds) f cdv A outer s H (fun _ _ _ => False) p) a Ce dd) (hr : L2H.RoomH 0 (A.deeper (envOfC (Str.ofString "_law_kinds") (defScope st__law_kinds) s.heap.objs.size f cdv))) :
    MSs (L2H.cxH (L2.CX P w) P w K mg base N__law_kinds (Str.ofString "_law_kinds") (defScope st__law_kinds) f cdv A outer s H (fun _ _ _ => False) p) (defBody st__law_kinds) (m__law_kinds K c a Ce dd) :=
  have sc := sc__law_kinds
  (mss_cons (ms_setV (i := 1) (fun _ he => ps_set sc.nd rfl (by first | exact .inl rfl | exact .inr rfl) he) (me_lst (ma_cons (mb_frz (me_isX PX (by rfl) z_isinstance (ma_cons (mb_at (pv 0)) (ma_cons (mb_frz (me_cls (by rfl) g_ArgumentError)) ma_nil)))) (ma_cons (mb_frz (me_isX PX (by rfl) z_isinstance (ma_cons (mb_at (pv 0)) (ma_cons (mb_frz (me_cls (by rfl) g_CheckError)) ma_nil)))) (ma_cons (mb_frz (me_isX PX (by rfl) z_isinstance (ma_cons (mb_at (pv 0)) (ma_cons (mb_frz (me_cls (by rfl) g_PaperError)) ma_nil)))) (ma_cons (mb_frz (me_isX PX (by rfl) z_isinstance (ma_cons (mb_at (pv 0)) (ma_cons (mb_frz (me_cls (by rfl) g_SiteError)) ma_nil)))) (ma_cons (mb_frz (me_isX PX (by rfl) z_isinstance (ma_cons (mb_at (pv 0)) (ma_cons (mb_frz (me_cls (by rfl) g_TooMany)) ma_nil)))) ma_nil)))))))
  (mss_one (ms_ret (me_op om_add (mb_at (pv 1)) (mb_frz (me_lst (ma_cons (mb_frz (me_isX PX (by rfl) z_isinstance (ma_cons (mb_at (pv 0)) (ma_cons (mb_frz (me_cls (by rfl) g_TextError)) ma_nil)))) (ma_cons (mb_frz (me_isX PX (by rfl) z_isinstance (ma_cons (mb_at (pv 0)) (ma_cons (mb_frz (me_cls (by rfl) g_LogError)) ma_nil)))) (ma_cons (mb_frz (me_isX PX (by rfl) z_isinstance (ma_cons (mb_at (pv 0)) (ma_cons (mb_frz (me_cls (by rfl) g_CommandError)) ma_nil)))) ma_nil)))))))))
abbrev st__law_caught : Stmt := topS 47
abbrev N__law_caught : List Str := ["k", "one", "other", "e"]
theorem sc__law_caught : FnScope N__law_caught ["k", "one", "other"] (defScope st__law_caught) := ⟨rfl, rfl, rfl, by decide +kernel, rfl, by decide +kernel, by decide +kernel⟩
def m__law_caught (K : PySem.W.Frag) (c : Xs) : TSm := (mSeq (mTry K (mDrop (mCall (sp_raise K c) (mCons (mAt 0) (mCons (mAt 1) (mCons (mAt 2) mNil)))))
  [(c.FrameError, 3, fun a Ce dd => (mRet (mIfE (mTru (mFrz (mIsX K a Ce dd (mCons (mAt 3) (mCons (mFrz (mC (.ty "ValueError"))) mNil))))) (mCallN (sp_kinds K c a Ce dd) (mCons (mAt 3) mNil)) (mLst mNil))))])
  (mRet (mLst mNil)))
theorem d__law_caught (c : Xs) {P : Program} {w : World} {K : PySem.W.Frag} {mg : Str → Option Value} {base : Heap} (h__law_raise : Gas P w K mg base (Str.ofString "_law_raise") 2 ["k", "one", "other"] (sp_raise K c)) (z_ValueError : mg (Str.ofString "ValueError") = none) (z_isinstance : mg (Str.ofString "isinstance") = none) (g_FrameError : mg (Str.ofString "FrameError") = some (.ref c.FrameError)) (h__law_kinds : GasP P w K mg base (Str.ofString "_law_kinds") 1 ["e"] (sp_kinds K c)) (f : Addr) (cdv : Value) (A : Around) (outer : List Env) (s : Shared) (H : Hp) (E : XK)
    (hr : Rm P 2 (A.deeper (envOfC (Str.ofString "_law_caught") (defScope st__law_caught) s.heap.objs.size f cdv)) base) : MSs (cxOf (L2.CX P w) P w K mg base N__law_caught (Str.ofString "_law_caught") (defScope st__law_caught) f cdv A outer s H E) (defBody st__law_caught) (m__law_caught K c) :=
  have sc := sc__law_caught
  (mss_cons (ms_try rfl rfl (fun _ _ _ => (mss_one (ms_expr (h__law_raise.me (hr.mono (by decide)) (by rfl) (ma_cons (mb_at (pv 0)) (ma_cons (mb_at (pv 1)) (ma_cons (mb_at (pv 2)) ma_nil)))))))
  (MHs.cons (i := 3) sc.nd rfl rfl (by rfl) (by decide) g_FrameError (fun a Ce dd pn PX => (mss_one (ms_ret (me_ife (mt_tru (mb_frz (me_isX PX (by rfl) z_isinstance (ma_cons (mb_at (pv 3)) (ma_cons (mb_frz (me_ty (by rfl) z_ValueError (by rfl))) ma_nil))))) (h__law_kinds.me PX (hr.hot (by decide) _) (by rfl) (ma_cons (mb_at (pv 3)) ma_nil)) (me_lst ma_nil))))) MHs.nil))
  (mss_one (ms_ret (me_lst ma_nil))))
abbrev st__law_fields : Stmt := topS 48
abbrev N__law_fields : List Str := ["k", "one", "other", "e"]
theorem sc__law_fields : FnScope N__law_fields ["k", "one", "other"] (defScope st__law_fields) := ⟨rfl, rfl, rfl, by decide +kernel, rfl, by decide +kernel, by decide +kernel⟩
def m__law_fields (K : PySem.W.Frag) (c : Xs) : TSm := (mSeq (mTry K (mDrop (mCall (sp_raise K c) (mCons (mAt 0) (mCons (mAt 1) (mCons (mAt 2) mNil)))))
  [(c.ArgumentError, 3, fun a Ce dd => (mRet (mTup (mCons (mFrz (mXf K a Ce dd (Str.ofString "reason") (mAt 3))) mNil)))),
  (c.CheckError, 3, fun a Ce dd => (mRet (mTup (mCons (mFrz (mXf K a Ce dd (Str.ofString "reason") (mAt 3))) mNil)))),
  (c.PaperError, 3, fun a Ce dd => (mRet (mTup (mCons (mFrz (mXf K a Ce dd (Str.ofString "reason") (mAt 3))) mNil)))),
  (c.SiteError, 3, fun a Ce dd => (mRet (mTup (mCons (mFrz (mXf K a Ce dd (Str.ofString "reason") (mAt 3))) mNil)))),
  (c.TooMany, 3, fun a Ce dd => (mRet (mTup (mCons (mFrz (mXf K a Ce dd (Str.ofString "reason") (mAt 3))) mNil)))),
  (c.TextError, 3, fun a Ce dd => (mRet (mTup (mCons (mFrz (mXf K a Ce dd (Str.ofString "at") (mAt 3))) mNil)))),
  (c.LogError, 3, fun a Ce dd => (mRet (mTup (mCons (mFrz (mXf K a Ce dd (Str.ofString "number") (mAt 3))) (mCons (mFrz (mXf K a Ce dd (Str.ofString "reason") (mAt 3))) mNil))))),
  (c.CommandError, 3, fun a Ce dd => (mRet (mTup (mCons (mFrz (mXf K a Ce dd (Str.ofString "line") (mAt 3))) mNil))))])
  (mRet (mC .non)))
theorem d__law_fields (c : Xs) {P : Program} {w : World} {K : PySem.W.Frag} {mg : Str → Option Value} {base : Heap} (h__law_raise : Gas P w K mg base (Str.ofString "_law_raise") 2 ["k", "one", "other"] (sp_raise K c)) (g_ArgumentError : mg (Str.ofString "ArgumentError") = some (.ref c.ArgumentError)) (g_CheckError : mg (Str.ofString "CheckError") = some (.ref c.CheckError)) (g_CommandError : mg (Str.ofString "CommandError") = some (.ref c.CommandError)) (g_LogError : mg (Str.ofString "LogError") = some (.ref c.LogError)) (g_PaperError : mg (Str.ofString "PaperError") = some (.ref c.PaperError)) (g_SiteError : mg (Str.ofString "SiteError") = some (.ref c.SiteError)) (g_TextError : mg (Str.ofString "TextError") = some (.ref c.TextError)) (g_TooMany : mg (Str.ofString "TooMany") = some (.ref c.TooMany)) (f : Addr) (cdv : Value) (A : Around) (outer : List Env) (s : Shared) (H : Hp) (E : XK)
    (hr : Rm P 2 (A.deeper (envOfC (Str.ofString "_law_fields") (defScope st__law_fields) s.heap.objs.size f cdv)) base) : MSs (cxOf (L2.CX P w) P w K mg base N__law_fields (Str.ofString "_law_fields") (defScope st__law_fields) f cdv A outer s H E) (defBody st__law_fields) (m__law_fields K c) :=
  have sc := sc__law_fields
  (mss_cons (ms_try rfl rfl (fun _ _ _ => (mss_one (ms_expr (h__law_raise.me (hr.mono (by decide)) (by rfl) (ma_cons (mb_at (pv 0)) (ma_cons (mb_at (pv 1)) (ma_cons (mb_at (pv 2)) ma_nil)))))))
  (MHs.cons (i := 3) sc.nd rfl rfl (by rfl) (by decide) g_ArgumentError (fun a Ce dd pn PX => (mss_one (ms_ret (me_tup (ma_cons (mb_frz (me_xf PX (mb_at (pv 3)))) ma_nil))))) (MHs.cons (i := 3) sc.nd rfl rfl (by rfl) (by decide) g_CheckError (fun a Ce dd pn PX => (mss_one (ms_ret (me_tup (ma_cons (mb_frz (me_xf PX (mb_at (pv 3)))) ma_nil))))) (MHs.cons (i := 3) sc.nd rfl rfl (by rfl) (by decide) g_PaperError (fun a Ce dd pn PX => (mss_one (ms_ret (me_tup (ma_cons (mb_frz (me_xf PX (mb_at (pv 3)))) ma_nil))))) (MHs.cons (i := 3) sc.nd rfl rfl (by rfl) (by decide) g_SiteError (fun a Ce dd pn PX => (mss_one (ms_ret (me_tup (ma_cons (mb_frz (me_xf PX (mb_at (pv 3)))) ma_nil))))) (MHs.cons (i := 3) sc.nd rfl rfl (by rfl) (by decide) g_TooMany (fun a Ce dd pn PX => (mss_one (ms_ret (me_tup (ma_cons (mb_frz (me_xf PX (mb_at (pv 3)))) ma_nil))))) (MHs.cons (i := 3) sc.nd rfl rfl (by rfl) (by decide) g_TextError (fun a Ce dd pn PX => (mss_one (ms_ret (me_tup (ma_cons (mb_frz (me_xf PX (mb_at (pv 3)))) ma_nil))))) (MHs.cons (i := 3) sc.nd rfl rfl (by rfl) (by decide) g_LogError (fun a Ce dd pn PX => (mss_one (ms_ret (me_tup (ma_cons (mb_frz (me_xf PX (mb_at (pv 3)))) (ma_cons (mb_frz (me_xf PX (mb_at (pv 3)))) ma_nil)))))) (MHs.cons (i := 3) sc.nd rfl rfl (by rfl) (by decide) g_CommandError (fun a Ce dd pn PX => (mss_one (ms_ret (me_tup (ma_cons (mb_frz (me_xf PX (mb_at (pv 3)))) ma_nil))))) MHs.nil)))))))))
  (mss_one (ms_ret me_non)))
abbrev st_law : Stmt := topS 49
abbrev N_law : List Str := ["script", "draws", "at", "values", "k", "one", "other", "j"]
theorem sc_law : FnScope N_law ["script"] (defScope st_law) := ⟨rfl, rfl, rfl, by decide +kernel, rfl, by decide +kernel, by decide +kernel⟩
def m_law : TSm := (mSeq (mSetV 1 (mCall sp_draws (mCons (mAt 0) mNil)))
  (mSeq (mSet 2 (mLst (mCons (mFrz (mC (.int 0))) mNil)))
  (mSeq (mIf (mNot (mTru (mFrz (mCall sp_limits mNil))))
  (mRet (mC (.bl false)))
  mNext)
  (mSeq (mSetV 3 (mLst (mCons (mFrz (mC (.str (Str.ofString "load")))) (mCons (mFrz (mC (.str (Str.ofString "")))) (mCons (mFrz (mC (.str (Str.ofString "form")))) (mCons (mFrz (mC (.int 0))) (mCons (mFrz (mC (.int 17))) (mCons (mFrz (mNeg (mC (.int 3)))) (mCons (mFrz (mC .non)) (mCons (mFrz (mTup (mCons (mFrz (mC (.str (Str.ofString "a")))) (mCons (mFrz (mC (.int 5))) mNil)))) (mCons (mFrz (mC (.str (Str.ofString "a line")))) (mCons (mFrz (mC (.bl true))) mNil))))))))))))
  (mSeq (mFor (mRng1 (mCons (mFrz (mC (.int 8))) mNil)) (gN 4)
  (mSeq (mPar 5 6 (mCons (mFrz (mCall sp_one (mCons (mAt 3) (mCons (mAt 1) (mCons (mAt 2) mNil))))) (mCons (mFrz (mCall sp_one (mCons (mAt 3) (mCons (mAt 1) (mCons (mAt 2) mNil))))) mNil)))
  (mSeq (mIf (mTest (mOp2 (rEqM true) (mFrz (mCall sp_caught (mCons (mAt 4) (mCons (mAt 5) (mCons (mAt 6) mNil))))) (mFrz (mLc [7] (mRng1 (mCons (mFrz (mC (.int 8))) mNil)) (gN 7) mYes (mOp2 (rEqM false) (mAt 7) (mAt 4))))))
  (mRet (mC (.bl false)))
  mNext)
  (mIf (mTest (mOp2 (rEqM true) (mFrz (mCB rReprM (mCons (mFrz (mCall sp_fields (mCons (mAt 4) (mCons (mAt 5) (mCons (mAt 6) mNil))))) mNil))) (mFrz (mCB rReprM (mCons (mFrz (mIfE (mTest (mOp2 (rEqM false) (mAt 4) (mFrz (mC (.int 6))))) (mTup (mCons (mFrz (mVar 5)) (mCons (mFrz (mVar 6)) mNil))) (mTup (mCons (mFrz (mVar 5)) mNil)))) mNil)))))
  (mRet (mC (.bl false)))
  mNext))))
  (mRet (mC (.bl true))))))))
theorem d_law {P : Program} {w : World} {K : PySem.W.Frag} {mg : Str → Option Value} {base : Heap} (h__law_caught : Gas P w K mg base (Str.ofString "_law_caught") 3 ["k", "one", "other"] sp_caught) (h__law_draws : Gas P w K mg base (Str.ofString "_law_draws") 1 ["script"] sp_draws) (h__law_fields : Gas P w K mg base (Str.ofString "_law_fields") 3 ["k", "one", "other"] sp_fields) (h__law_limits_right : Gas P w K mg base (Str.ofString "_law_limits_right") 1 [] sp_limits) (h__law_one : Gas P w K mg base (Str.ofString "_law_one") 3 ["rows", "draws", "at"] sp_one) (z_range : mg (Str.ofString "range") = none) (z_repr : mg (Str.ofString "repr") = none) (f : Addr) (cdv : Value) (A : Around) (outer : List Env) (s : Shared) (H : Hp) (E : XK)
    (hr : Rm P 3 (A.deeper (envOfC (Str.ofString "law") (defScope st_law) s.heap.objs.size f cdv)) base) : MSs (cxOf (L2.CX P w) P w K mg base N_law (Str.ofString "law") (defScope st_law) f cdv A outer s H E) (defBody st_law) (m_law) :=
  have sc := sc_law
  (mss_cons (ms_setV (i := 1) (fun _ he => ps_set sc.nd rfl (by first | exact .inl rfl | exact .inr rfl) he) (h__law_draws.me (hr.mono (by decide)) (by rfl) (ma_cons (mb_at (pv 0)) ma_nil)))
  (mss_cons (ms_set (i := 2) (fun _ he => ps_set sc.nd rfl (by first | exact .inl rfl | exact .inr rfl) he) (me_lst (ma_cons (mb_frz me_int) ma_nil)))
  (mss_cons (ms_if (mt_not (mt_tru (mb_frz (h__law_limits_right.me0 (hr.mono (by decide)) (by rfl)))))
  (mss_one (ms_ret me_bl))
  mss_nil)
  (mss_cons (ms_setV (i := 3) (fun _ he => ps_set sc.nd rfl (by first | exact .inl rfl | exact .inr rfl) he) (me_lst (ma_cons (mb_frz me_str) (ma_cons (mb_frz me_str) (ma_cons (mb_frz me_str) (ma_cons (mb_frz me_int) (ma_cons (mb_frz me_int) (ma_cons (mb_frz (me_neg me_int)) (ma_cons (mb_frz me_non) (ma_cons (mb_frz (me_tup (ma_cons (mb_frz me_str) (ma_cons (mb_frz me_int) ma_nil)))) (ma_cons (mb_frz me_str) (ma_cons (mb_frz me_bl) ma_nil))))))))))))
  (mss_cons (ms_for (passes_of rfl) rfl (mi_rng1 (by rfl) z_range (ma_cons (mb_frz me_int) ma_nil)) (mg_name (pg_name (i := 4) sc.nd rfl (by first | exact .inl rfl | exact .inr rfl)))
  (mss_cons (ms_par (i := 5) (j := 6) (by decide) (fun _ ha => ps_par rfl sc.nd rfl rfl (by decide) rfl rfl ha rfl) (ma_cons (mb_frz (h__law_one.me (hr.mono (by decide)) (by rfl) (ma_cons (mb_at (pv 3)) (ma_cons (mb_at (pv 1)) (ma_cons (mb_at (pv 2)) ma_nil))))) (ma_cons (mb_frz (h__law_one.me (hr.mono (by decide)) (by rfl) (ma_cons (mb_at (pv 3)) (ma_cons (mb_at (pv 1)) (ma_cons (mb_at (pv 2)) ma_nil))))) ma_nil)))
  (mss_cons (ms_if (mt_cmp (om_ne hr.units) (mb_frz (h__law_caught.me (hr.mono (by decide)) (by rfl) (ma_cons (mb_at (pv 4)) (ma_cons (mb_at (pv 5)) (ma_cons (mb_at (pv 6)) ma_nil))))) (mb_frz (me_lc (own := [(Str.ofString "j", 7)]) rfl sc.nd (mi_rng1 (by rfl) z_range (ma_cons (mb_frz me_int) ma_nil)) (blkOk_by (N := N_law) (sc := defScope st_law) (by decide +kernel)) (fun _ _ _ _ _ => (mg_name (pg_name (i := 7) sc.nd rfl (by first | exact .inl rfl | exact .inr rfl)))) (fun _ _ _ _ _ => mts_nil) (fun _ _ _ _ _ => (me_cmp (om_eq hr.units) (mb_at (pv 7)) (mb_at (pv 4)) (nomark _))) (by decide))) (nomark _))
  (mss_one (ms_ret me_bl))
  mss_nil)
  (mss_one (ms_if (mt_cmp (om_ne hr.units) (mb_frz (me_callB (cm_repr hr.g hr.units) (by rfl) z_repr boot_repr (ma_cons (mb_frz (h__law_fields.me (hr.mono (by decide)) (by rfl) (ma_cons (mb_at (pv 4)) (ma_cons (mb_at (pv 5)) (ma_cons (mb_at (pv 6)) ma_nil))))) ma_nil))) (mb_frz (me_callB (cm_repr hr.g hr.units) (by rfl) z_repr boot_repr (ma_cons (mb_frz (me_ife (mt_cmp (om_eq hr.units) (mb_at (pv 4)) (mb_frz me_int) (nomark _)) (me_tup (ma_cons (mb_frz (me_var (pv 5))) (ma_cons (mb_frz (me_var (pv 6))) ma_nil))) (me_tup (ma_cons (mb_frz (me_var (pv 5))) ma_nil)))) ma_nil))) (nomark _))
  (mss_one (ms_ret me_bl))
  mss_nil)))))
  (mss_one (ms_ret me_bl)))))))
end K00

set_option maxHeartbeats 4000000
set_option autoImplicit false
open Sf L2 in
local macro_rules | `(tactic| walk_at "sx") => `(tactic| ((try unfold Sf.held); simp -implicitDefEqProofs -dsimp only [↓x_next, ↓x_seq, ↓x_drop, ↓x_ret, ↓x_retN, ↓x_if, ↓x_brk, ↓x_cnt, ↓x_set, ↓x_setV, ↓x_asg, ↓x_gN, ↓x_gnil, ↓x_gcons, ↓x_gT, ↓x_C, ↓x_frz, ↓x_nil, ↓x_cons, ↓x_op2, ↓x_chain, ↓x_test, ↓x_tru, ↓x_not, ↓x_and, ↓x_or, ↓x_ifE, ↓x_andV, ↓x_orV, ↓x_notV, ↓x_neg, ↓x_tup, ↓x_lst, ↓x_cb, ↓x_call, ↓x_callN, ↓x_at, ↓x_var, ↓x_move, ↓x_getv, ↓x_geta, ↓x_noP, ↓x_part, ↓x_sl, ↓x_for, ↓x_lc, ↓x_yes, ↓x_seqI, ↓x_wl, ↓x_wt, ↓x_ws, ↓x_rng1, ↓x_rng2, ↓x_app, ↓x_isl, ↓x_objA, ↓x_appF, ↓x_setF, ↓x_gS, ↓x_par, ↓x_raise, ↓x_try,
  ↓gets_nil, ↓gets_cons, ↓frz_val, ↓frz_lst, ↓frz_olst, ↓vals_nil, ↓vals_val, ↓add_int, ↓add_str, ↓add_tup, ↓add_ll, ↓add_ol, ↓add_lo, ↓add_oo, ↓x_sub, ↓mul_int', ↓div_int, ↓mod_int, ↓pow_int, ↓lt_int', ↓le_int', ↓gt_int', ↓ge_int', ↓eq_iF, ↓eq_iT, ↓eq_sF, ↓eq_sT, ↓x_isX, ↓x_xf, ↓ix_tup', ↓ix_lst', ↓ix_own', ↓at0, ↓at1, ↓at2, ↓tru_non, ↓tru_bl, ↓tru_int, ↓tru_tup, ↓tru_lst, ↓tru_own, ↓len_tup, ↓len_lst, ↓len_own, ↓len_scr, ↓abs_int, ↓int_int, ↓tup_tup, ↓tup_lst, ↓tup_own, ↓list_tup, ↓list_lst, ↓list_own, ↓x_callE, ↓fewer_nil, ↓fewer_cons, ↓reduceIte, ↓call_val, ↓x_callA, ↓x_back, updM_same, updM_updM, x_wipe0, x_wipe, savedL, backL, Option.getD_some, Option.getD_none, List.headD_cons, List.tail_cons, ↓x_ix0, ↓sl_scr, ↓sl_str', ↓sl_tup', ↓sl_lst', ↓sl_own',
  List.getElem?_cons_zero, List.getElem?_cons_succ, List.set_cons_zero, List.set_cons_succ, Nat.reduceAdd, Nat.reduceLeDiff, Nat.zero_add, List.nil_append, List.cons_append, List.length_cons, List.length_nil, true_and, and_true, Bool.not_true, Bool.not_false, if_true, if_false, decide_eq_true_eq, Bool.true_eq_false, Bool.false_eq_true]))
namespace K00
open PySem PySem.Spec PyProof.Rows L2 Sf
theorem get_mem {l : List D} {r : Int} (h0 : 0 ≤ r) (h1 : r < l.length) : ∃ d, l[r.toNat]? = some d ∧ d ∈ l := by
  have h : r.toNat < l.length := by omega
  exact ⟨l[r.toNat], List.getElem?_eq_getElem h, List.getElem_mem h⟩
theorem drs_get {l : List D} (h : Drs l) {r : Int} (h0 : 0 ≤ r) (h1 : r < l.length) : ∃ z : Int, atI l r = some (.int z) ∧ 0 ≤ z ∧ z < 2 ^ 40 := by
  obtain ⟨ns, rfl, hn⟩ := h
  obtain ⟨d, h2, h3⟩ := get_mem h0 h1
  obtain ⟨z, hz, rfl⟩ := List.mem_map.mp h3
  exact ⟨z, at_nat h0 h2, hn z hz⟩
theorem p_one (ds : List D) (m : Mem) (R : SV → Mem → Prop) (Z : Exc → Mem → Prop) (h : sp_one ds m R Z) : m__law_one (endsF R Z) ⟨startL N__law_one ds, m⟩ := by
  obtain ⟨rows, l, p, q, rfl, hl, hm, h0, h1, hr, hR⟩ := h
  show m__law_one (endsF R Z) ⟨[some (.val (.lst rows)), some (.val (.lst l)), some (.val (.ref p))], m⟩
  unfold m__law_one endsF
  walk_at "sx"
  have hlen : 0 < rows.length := List.length_pos_iff.mpr hr
  refine ⟨l, p, q, rows.length, rfl, hl, hm, h0, h1, by omega, fun r r0 r1 => ?_⟩
  obtain ⟨d, h2, h3⟩ := get_mem r0 r1
  walk_at "sx"
  rw [at_nat r0 h2]
  exact ⟨_, le_mem.refl, hR d h3⟩
theorem p_take (ds : List D) (m : Mem) (R : SV → Mem → Prop) (Z : Exc → Mem → Prop) (h : sp_take ds m R Z) : m__law_take (endsF R Z) ⟨startL N__law_take ds, m⟩ := by
  obtain ⟨l, p, q, n, rfl, hl, hm, h0, h1, hn, hR⟩ := h
  show m__law_take (endsF R Z) ⟨[some (.val (.lst l)), some (.val (.ref p)), some (.val (.int n)), none], m⟩
  unfold m__law_take endsF
  walk_at "sx"
  rw [ix_ref' hm]
  walk_at "sx"
  rw [x_objR hm]
  walk_at "sx"
  have fin : ∀ z : Int, z.fmod n < n ∧ 0 ≤ z.fmod n := fun z => ⟨Int.fmod_lt_of_pos z hn, Int.fmod_nonneg_of_pos z hn⟩
  split
  · rename_i hq
    obtain ⟨z, hz, z0, z1⟩ := drs_get hl h0 hq
    rw [hz]
    walk_at "sx"
    exact ⟨by omega, _, le_mem.refl, hR _ (fin z).2 (fin z).1⟩
  · refine ⟨l, q, rfl, hl, h0, h1, fun r r0 r1 => ?_⟩
    walk_at "sx"
    exact ⟨by omega, _, le_mem.refl, hR _ (fin r).2 (fin r).1⟩
theorem fmodB (z n : Int) (hn : 0 < n) : 0 ≤ z.fmod n ∧ z.fmod n < n := ⟨Int.fmod_nonneg_of_pos z hn, Int.fmod_lt_of_pos z hn⟩
theorem fdivB (z n : Int) (hz : 0 ≤ z) (hn : 0 < n) : 0 ≤ z.fdiv n ∧ z.fdiv n ≤ z := by
  rw [Int.fdiv_eq_ediv_of_nonneg z (by omega)]
  exact ⟨Int.ediv_nonneg hz (by omega), Int.ediv_le_self n hz⟩
theorem p_more (ds : List D) (m : Mem) (R : SV → Mem → Prop) (Z : Exc → Mem → Prop) (h : sp_more ds m R Z) : m__law_more (endsF R Z) ⟨startL N__law_more ds, m⟩ := by
  obtain ⟨l, q, rfl, hl, h0, h1, hR⟩ := h
  show m__law_more (endsF R Z) ⟨[some (.val (.lst l)), some (.val (.int q)), none, none], m⟩
  unfold m__law_more endsF
  walk_at "sx"
  refine ⟨cmul64 (by omega) (by omega) (by decide) (by decide), by decide, by decide, by decide, ?_⟩
  obtain ⟨a0, a1⟩ := fmodB (q * 48271 + ↑l.length + 11) 2147483629 (by decide)
  refine for_rng 3 (fun _ s => ∃ (x : Int) (y : Option SV), s = ⟨[some (.val (.lst l)), some (.val (.int q)), some (.val (.int x)), y], m⟩ ∧ 0 ≤ x ∧ x < 2147483629) (fun _ _ _ => trivial) (fun i s k hi hI hk => ?_) (fun s hI => ?_) _ ⟨_, _, rfl, a0, a1⟩
  · obtain ⟨x, y, rfl, x0, x1⟩ := hI
    walk_at "sx"
    by_cases he : l = []
    · subst he
      simp only [List.isEmpty_nil, Bool.not_true, Bool.false_eq_true, if_false]
      refine ⟨cmul64 (by omega) (by omega) (by decide) (by decide), cmul64 (by decide) (by decide) (by omega) (by omega), by decide, hk _ ⟨_, _, rfl, ?_⟩⟩
      exact fmodB _ _ (by decide)
    · have hlen : 0 < l.length := List.length_pos_iff.mpr he
      have e : l.isEmpty = false := by simpa using he
      rw [e]
      simp only [Bool.not_false, if_true]
      obtain ⟨b0, b1⟩ := fmodB (q * (↑i + 5) + ↑i) (l.length : Int) (by omega)
      obtain ⟨z, hz, z0, z1⟩ := drs_get hl b0 b1
      refine ⟨cmul64 (by omega) (by omega) (by omega) (by omega), by omega, ?_⟩
      rw [hz]
      walk_at "sx"
      refine ⟨cmul64 (by omega) (by omega) (by decide) (by decide), cmul64 (by decide) (by decide) (by omega) (by omega), by decide, hk _ ⟨_, _, rfl, ?_⟩⟩
      exact fmodB _ _ (by decide)
  · obtain ⟨x, y, rfl, x0, x1⟩ := hI
    walk_at "sx"
    have b := fdivB x 1009 x0 (by decide)
    exact ⟨cdiv64 (by decide) (by decide) (by decide), _, le_mem.refl, hR _ b.1 (by omega)⟩
theorem drs_app {l : List D} {z : Int} (h : Drs l) (h0 : 0 ≤ z) (h1 : z < 2 ^ 40) : Drs (l ++ [.int z]) := by
  obtain ⟨ns, rfl, hn⟩ := h
  refine ⟨ns ++ [z], by simp, fun y hy => ?_⟩
  rcases List.mem_append.mp hy with hy | hy
  · exact hn y hy
  · have : y = z := by simpa using hy
    subst this
    exact ⟨h0, h1⟩
theorem sizeLine_big {n : Nat} (h : n ≤ 100000) : n < sizeLine := by rw [sizeLine_eq]; omega
theorem p_draws (ds : List D) (m : Mem) (R : SV → Mem → Prop) (Z : Exc → Mem → Prop) (h : sp_draws ds m R Z) : m__law_draws (endsF R Z) ⟨startL N__law_draws ds, m⟩ := by
  obtain ⟨ns, rfl, hn, hR⟩ := h
  show m__law_draws (endsF R Z) ⟨[some (.val (.scr ns)), none, none, none, none, none], m⟩
  unfold m__law_draws endsF
  walk_at "sx"
  rw [show cutL ns none (some 63) = ns.take 63 from cut_to (n := 63)]
  refine for_inv (fun r s => ∃ (l : List D) (y2 y3 y4 y5 : Option SV), s = ⟨[some (.val (.scr ns)), some (.own (.lst l)), y2, y3, y4, y5], m⟩ ∧ Drs l ∧ l.length + 60 * r.length ≤ 3780 ∧ ∀ d ∈ r, ∃ z : Int, d = .int z) (fun _ _ _ => trivial) (fun d r s k hI hk => ?_) (fun s hI => ?_) _ _
    ⟨[], none, none, none, none, rfl, ⟨[], rfl, fun z hz => by cases hz⟩, by rw [List.length_map, List.length_take, List.length_nil]; omega, fun d hd => by
      obtain ⟨z, _, rfl⟩ := List.mem_map.mp hd
      exact ⟨z, rfl⟩⟩
  · obtain ⟨l, y2, y3, y4, y5, rfl, hl, hlen, hr⟩ := hI
    obtain ⟨z, rfl⟩ := hr d List.mem_cons_self
    rw [List.length_cons] at hlen
    have hr' := fun d hd => hr d (List.mem_cons_of_mem _ hd)
    walk_at "sx"
    refine ⟨⟨by decide, by decide, by decide⟩, ?_⟩
    have ha : (0 : Int) ≤ (if z < 0 then -z else z) := by split <;> omega
    revert ha
    generalize (if z < 0 then -z else z) = a
    intro ha
    by_cases hc : (10 : Int) ^ (18 : Int).toNat ≤ a
    · rw [if_pos hc]
      refine ⟨by decide, by decide, ?_⟩
      refine for_rng 60 (fun i s => ∃ (l' : List D) (x : Int) (y : Option SV), s = ⟨[some (.val (.scr ns)), some (.own (.lst l')), some (.val (.int z)), some (.val (.int x)), y, y5], m⟩ ∧ Drs l' ∧ l'.length ≤ l.length + i ∧ 0 ≤ x) (fun _ _ _ => trivial) (fun i s k2 hi hI hk2 => ?_) (fun s hI => ?_) _ ⟨l, a, y4, rfl, hl, by omega, ha⟩
      · obtain ⟨l', x, y, rfl, hl', hlen', hx⟩ := hI
        walk_at "sx"
        by_cases h0 : 0 < x
        · rw [if_pos h0]
          have b1 := fmodB x 1009 (by decide)
          have b2 := fdivB x 1009 hx (by decide)
          exact ⟨by decide, sizeLine_big (by omega), cdiv64 (by decide) (by decide) (by decide), hk2 _ ⟨_, _, _, rfl, drs_app hl' b1.1 (by omega), by rw [List.length_append, List.length_singleton]; omega, b2.1⟩⟩
        · rw [if_neg h0]
          exact hk2 _ ⟨_, _, _, rfl, hl', by omega, hx⟩
      · obtain ⟨l', x, y, rfl, hl', hlen', hx⟩ := hI
        exact hk _ ⟨_, _, _, _, _, rfl, hl', by omega, hr'⟩
    · rw [if_neg hc]
      have hc' : a < 10 ^ 18 := by
        have e : (10 : Int) ^ (18 : Int).toNat = 10 ^ 18 := rfl
        omega
      refine ⟨cmul64 (by omega) (by omega) (by decide) (by decide), by decide, by decide, by decide, ?_⟩
      have c0 := fmodB (a * 48271 + 11) 2147483647 (by decide)
      refine for_rng 12 (fun i s => ∃ (l' : List D) (x : Int) (y : Option SV), s = ⟨[some (.val (.scr ns)), some (.own (.lst l')), some (.val (.int z)), some (.val (.int a)), y, some (.val (.int x))], m⟩ ∧ Drs l' ∧ l'.length ≤ l.length + i ∧ 0 ≤ x ∧ x < 2147483647) (fun _ _ _ => trivial) (fun i s k2 hi hI hk2 => ?_) (fun s hI => ?_) _ ⟨l, _, y4, rfl, hl, by omega, c0⟩
      · obtain ⟨l', x, y, rfl, hl', hlen', x0, x1⟩ := hI
        walk_at "sx"
        have c1 := fmodB (x * 16807 + 69621 * ↑i + 5) 2147483629 (by decide)
        have b2 := fdivB _ 1009 c1.1 (by decide)
        refine ⟨cmul64 (by omega) (by omega) (by decide) (by decide), cmul64 (by decide) (by decide) (by omega) (by omega), by decide, cdiv64 (by decide) (by decide) (by decide), sizeLine_big (by omega), hk2 _ ⟨_, _, _, rfl, drs_app hl' b2.1 (by omega), by rw [List.length_append, List.length_singleton]; omega, by omega, by omega⟩⟩
      · obtain ⟨l', x, y, rfl, hl', hlen', x0, x1⟩ := hI
        exact hk _ ⟨_, _, _, _, _, rfl, hl', by omega, hr'⟩
  · obtain ⟨l, y2, y3, y4, y5, rfl, hl, hlen, hr⟩ := hI
    walk_at "sx"
    exact ⟨_, le_mem.refl, hR l hl⟩
end K00

set_option maxHeartbeats 4000000
set_option autoImplicit false
open Sf L2 in
local macro_rules | `(tactic| walk_at "sx") => `(tactic| ((try unfold Sf.held); simp -implicitDefEqProofs -dsimp only [↓x_next, ↓x_seq, ↓x_drop, ↓x_ret, ↓x_retN, ↓x_if, ↓x_brk, ↓x_cnt, ↓x_set, ↓x_setV, ↓x_asg, ↓x_gN, ↓x_gnil, ↓x_gcons, ↓x_gT, ↓x_C, ↓x_frz, ↓x_nil, ↓x_cons, ↓x_op2, ↓x_chain, ↓x_test, ↓x_tru, ↓x_not, ↓x_and, ↓x_or, ↓x_ifE, ↓x_andV, ↓x_orV, ↓x_notV, ↓x_neg, ↓x_tup, ↓x_lst, ↓x_cb, ↓x_call, ↓x_callN, ↓x_at, ↓x_var, ↓x_move, ↓x_getv, ↓x_geta, ↓x_noP, ↓x_part, ↓x_sl, ↓x_for, ↓x_lc, ↓x_yes, ↓x_seqI, ↓x_wl, ↓x_wt, ↓x_ws, ↓x_rng1, ↓x_rng2, ↓x_app, ↓x_isl, ↓x_objA, ↓x_appF, ↓x_setF, ↓x_gS, ↓x_par, ↓x_raise, ↓x_try,
  ↓gets_nil, ↓gets_cons, ↓frz_val, ↓frz_lst, ↓frz_olst, ↓vals_nil, ↓vals_val, ↓add_int, ↓add_str, ↓add_tup, ↓add_ll, ↓add_ol, ↓add_lo, ↓add_oo, ↓x_sub, ↓mul_int', ↓div_int, ↓mod_int, ↓pow_int, ↓lt_int', ↓le_int', ↓gt_int', ↓ge_int', ↓eq_iF, ↓eq_iT, ↓eq_sF, ↓eq_sT, ↓x_isX, ↓x_xf, ↓ix_tup', ↓ix_lst', ↓ix_own', ↓at0, ↓at1, ↓at2, ↓tru_non, ↓tru_bl, ↓tru_int, ↓tru_tup, ↓tru_lst, ↓tru_own, ↓len_tup, ↓len_lst, ↓len_own, ↓len_scr, ↓abs_int, ↓int_int, ↓tup_tup, ↓tup_lst, ↓tup_own, ↓list_tup, ↓list_lst, ↓list_own, ↓x_callE, ↓fewer_nil, ↓fewer_cons, ↓reduceIte, ↓call_val, ↓x_callA, ↓x_back, updM_same, updM_updM, x_wipe0, x_wipe, savedL, backL, Option.getD_some, Option.getD_none, List.headD_cons, List.tail_cons, ↓x_ix0, ↓sl_scr, ↓sl_str', ↓sl_tup', ↓sl_lst', ↓sl_own',
  List.getElem?_cons_zero, List.getElem?_cons_succ, List.set_cons_zero, List.set_cons_succ, Nat.reduceAdd, Nat.reduceLeDiff, Nat.zero_add, List.nil_append, List.cons_append, List.length_cons, List.length_nil, true_and, and_true, Bool.not_true, Bool.not_false, if_true, if_false, decide_eq_true_eq, Bool.true_eq_false, Bool.false_eq_true]))
namespace K00
open PySem PySem.Spec PyProof.Rows L2 Sf
/-- what the law needs to know of the classes -/
structure Kn (K : PySem.W.Frag) (c : Xs) : Prop where
  xi : ∀ (i : Nat) (C : Addr), (kinds c)[i]? = some C → xiB K C = true
  kit : ∀ (i j : Nat) (C C' : Addr), (kinds c)[i]? = some C → (kinds c)[j]? = some C' → PySem.W.kitOne K (.ref C) (.ref C') = some (j == i)
  exm : ∀ (i j : Nat) (C C' : Addr), (kinds c)[i]? = some C → (kinds c)[j]? = some C' → PySem.W.exmOne K (.ref C) (.ref C') = some (j == i)
  exF : ∀ (i : Nat) (C : Addr), (kinds c)[i]? = some C → PySem.W.exmOne K (.ref C) (.ref c.FrameError) = some true
  ve : ∀ (i : Nat) (C : Addr), (kinds c)[i]? = some C → PySem.W.kitOne K (.ref C) (.type "ValueError") = some true
  f0 : xfB K c.ArgumentError "reason" = true
  f1 : xfB K c.CheckError "reason" = true
  f2 : xfB K c.PaperError "reason" = true
  f3 : xfB K c.SiteError "reason" = true
  f4 : xfB K c.TooMany "reason" = true
  f5 : xfB K c.TextError "at" = true
  f6 : xfB K c.LogError "number" = true
  f6b : xfB K c.LogError "reason" = true
  f7 : xfB K c.CommandError "line" = true
theorem shows_of {d : D} (h : (D.okd 60 d && d.py.showable && decide (d.py.shown.length ≤ 16777216)) = true) : d.shows := by
  rw [Bool.and_eq_true, Bool.and_eq_true] at h
  exact ⟨h.1.1, h.1.2, by rw [sizeLine_eq]; exact of_decide_eq_true h.2⟩
theorem p_limits (ds : List D) (m : Mem) (R : SV → Mem → Prop) (Z : Exc → Mem → Prop) (h : sp_limits ds m R Z) : m__law_limits_right (endsF R Z) ⟨startL N__law_limits_right ds, m⟩ := by
  obtain ⟨rfl, hR⟩ := h
  show m__law_limits_right (endsF R Z) ⟨[none, none], m⟩
  unfold m__law_limits_right endsF
  walk_at "sx"
  refine ⟨by rw [sizeLine_eq]; decide, by rw [sizeLine_eq]; decide, ?_⟩
  have sh : (D.lst [D.int 12, D.int 30, D.int 1000, D.int 12, D.int 1000000, D.int 6000, D.int 1000000000, D.int 12, D.int 1000000, D.int 8, D.int 8, D.int 3, D.int 12, D.int 12, D.int 60, D.int 3, D.int 12, D.int 10, D.int 20, D.int 200, D.int 200, D.int 3, D.int 100, D.int 60, D.int 8, D.int 8, D.int 8, D.int 12]).shows := shows_of (by decide +kernel)
  rw [repr_lst sh]
  walk_at "sx"
  rw [repr_lst sh]
  walk_at "sx"
  exact ⟨_, le_mem.refl, by simpa using hR⟩
theorem p_raise (K : PySem.W.Frag) (c : Xs) (ds : List D) (m : Mem) (R : SV → Mem → Prop) (Z : Exc → Mem → Prop) (h : sp_raise K c ds m R Z) : m__law_raise K c (endsF R Z) ⟨startL N__law_raise ds, m⟩ := by
  obtain ⟨k, one, other, rfl, hZ⟩ := h
  show m__law_raise K c (endsF R Z) ⟨[some (.val (.int k)), some (.val one), some (.val other)], m⟩
  unfold m__law_raise endsF
  walk_at "sx"
  unfold errOf at hZ
  revert hZ
  repeat' split
  all_goals exact fun hZ => ⟨_, le_mem.refl, hZ⟩
theorem p_kinds (K : PySem.W.Frag) (c : Xs) (hK : Kn K c) (a Ce dd : Addr) (ds : List D) (m : Mem) (R : SV → Mem → Prop) (Z : Exc → Mem → Prop) (h : sp_kinds K c a Ce dd ds m R Z) : m__law_kinds K c a Ce dd { nx := fun s => ∃ m', le_mem m' s.mem ∧ R (.val .non) m', rt := fun sv s => ∃ m', le_mem m' s.mem ∧ R sv m', ex := fun _ _ => False } ⟨startL N__law_kinds ds, m⟩ := by
  obtain ⟨i, ks, l, rfl, hi, hR⟩ := h
  show m__law_kinds K c a Ce dd _ ⟨[some (.val (.xc a Ce dd ks l)), none], m⟩
  unfold m__law_kinds
  walk_at "sx"
  have hx := hK.xi i Ce hi
  have k0 := hK.kit i 0 Ce c.ArgumentError hi rfl
  have k1 := hK.kit i 1 Ce c.CheckError hi rfl
  have k2 := hK.kit i 2 Ce c.PaperError hi rfl
  have k3 := hK.kit i 3 Ce c.SiteError hi rfl
  have k4 := hK.kit i 4 Ce c.TooMany hi rfl
  have k5 := hK.kit i 5 Ce c.TextError hi rfl
  have k6 := hK.kit i 6 Ce c.LogError hi rfl
  have k7 := hK.kit i 7 Ce c.CommandError hi rfl
  simp only [isXW_cls hx k0, isXW_cls hx k1, isXW_cls hx k2, isXW_cls hx k3, isXW_cls hx k4, isXW_cls hx k5, isXW_cls hx k6, isXW_cls hx k7]
  exact ⟨by rw [sizeLine_eq]; decide, _, le_mem.refl, hR⟩
theorem kind_at (c : Xs) (k : Nat) (hk : k < 8) (one other : D) : (kinds c)[k]? = some (errOf c k one other).cls := by
  match k, hk with
  | 0, _ => rfl
  | 1, _ => rfl
  | 2, _ => rfl
  | 3, _ => rfl
  | 4, _ => rfl
  | 5, _ => rfl
  | 6, _ => rfl
  | 7, _ => rfl
theorem p_caught (K : PySem.W.Frag) (c : Xs) (hK : Kn K c) (ds : List D) (m : Mem) (R : SV → Mem → Prop) (Z : Exc → Mem → Prop) (h : sp_caught ds m R Z) : m__law_caught K c (endsF R Z) ⟨startL N__law_caught ds, m⟩ := by
  obtain ⟨k, one, other, rfl, hk, hR⟩ := h
  show m__law_caught K c (endsF R Z) ⟨[some (.val (.int k)), some (.val one), some (.val other), none], m⟩
  unfold m__law_caught endsF
  walk_at "sx"
  have hi := kind_at c k hk one other
  refine ⟨k, one, other, rfl, ?_⟩
  walk_at "sx"
  refine hs_yes (hK.exF k _ hi) fun a dd => ?_
  walk_at "sx"
  rw [isXW_ty (hK.xi k _ hi) (hK.ve k _ hi)]
  walk_at "sx"
  refine ⟨k, _, _, rfl, hi, ?_⟩
  walk_at "sx"
  exact ⟨_, le_mem.refl, hR⟩
theorem p_fields (K : PySem.W.Frag) (c : Xs) (hK : Kn K c) (ds : List D) (m : Mem) (R : SV → Mem → Prop) (Z : Exc → Mem → Prop) (h : sp_fields ds m R Z) : m__law_fields K c (endsF R Z) ⟨startL N__law_fields ds, m⟩ := by
  obtain ⟨k, one, other, rfl, hk, hR⟩ := h
  show m__law_fields K c (endsF R Z) ⟨[some (.val (.int k)), some (.val one), some (.val other), none], m⟩
  unfold m__law_fields endsF
  walk_at "sx"
  refine ⟨k, one, other, rfl, ?_⟩
  walk_at "sx"
  have no : ∀ (i j : Nat) (C C' : Addr), (kinds c)[i]? = some C → (kinds c)[j]? = some C' → j ≠ i → PySem.W.exmOne K (.ref C) (.ref C') = some false := fun i j C C' h1 h2 n => by
    rw [hK.exm i j C C' h1 h2, beq_eq_false_iff_ne.mpr n]
  have yes : ∀ (i : Nat) (C : Addr), (kinds c)[i]? = some C → PySem.W.exmOne K (.ref C) (.ref C) = some true := fun i C h1 => by
    rw [hK.exm i i C C h1 h1, beq_self_eq_true]
  match k, hk with
  | 0, _ =>
    refine hs_yes (yes 0 _ rfl) fun a dd => ?_
    walk_at "sx"
    show xfW K a c.ArgumentError dd _ (.val (.xc a c.ArgumentError dd ["reason"] [one])) _
    rw [xfW_of (d := one) hK.f0 rfl]
    exact ⟨_, le_mem.refl, hR⟩
  | 1, _ =>
    refine hs_no (no 1 0 _ _ rfl rfl (by decide)) (hs_yes (yes 1 _ rfl) fun a dd => ?_)
    walk_at "sx"
    show xfW K a c.CheckError dd _ (.val (.xc a c.CheckError dd ["reason"] [one])) _
    rw [xfW_of (d := one) hK.f1 rfl]
    exact ⟨_, le_mem.refl, hR⟩
  | 2, _ =>
    refine hs_no (no 2 0 _ _ rfl rfl (by decide)) (hs_no (no 2 1 _ _ rfl rfl (by decide)) (hs_yes (yes 2 _ rfl) fun a dd => ?_))
    walk_at "sx"
    show xfW K a c.PaperError dd _ (.val (.xc a c.PaperError dd ["reason"] [one])) _
    rw [xfW_of (d := one) hK.f2 rfl]
    exact ⟨_, le_mem.refl, hR⟩
  | 3, _ =>
    refine hs_no (no 3 0 _ _ rfl rfl (by decide)) (hs_no (no 3 1 _ _ rfl rfl (by decide)) (hs_no (no 3 2 _ _ rfl rfl (by decide)) (hs_yes (yes 3 _ rfl) fun a dd => ?_)))
    walk_at "sx"
    show xfW K a c.SiteError dd _ (.val (.xc a c.SiteError dd ["reason"] [one])) _
    rw [xfW_of (d := one) hK.f3 rfl]
    exact ⟨_, le_mem.refl, hR⟩
  | 4, _ =>
    refine hs_no (no 4 0 _ _ rfl rfl (by decide)) (hs_no (no 4 1 _ _ rfl rfl (by decide)) (hs_no (no 4 2 _ _ rfl rfl (by decide)) (hs_no (no 4 3 _ _ rfl rfl (by decide)) (hs_yes (yes 4 _ rfl) fun a dd => ?_))))
    walk_at "sx"
    show xfW K a c.TooMany dd _ (.val (.xc a c.TooMany dd ["reason"] [one])) _
    rw [xfW_of (d := one) hK.f4 rfl]
    exact ⟨_, le_mem.refl, hR⟩
  | 5, _ =>
    refine hs_no (no 5 0 _ _ rfl rfl (by decide)) (hs_no (no 5 1 _ _ rfl rfl (by decide)) (hs_no (no 5 2 _ _ rfl rfl (by decide)) (hs_no (no 5 3 _ _ rfl rfl (by decide)) (hs_no (no 5 4 _ _ rfl rfl (by decide)) (hs_yes (yes 5 _ rfl) fun a dd => ?_)))))
    walk_at "sx"
    show xfW K a c.TextError dd _ (.val (.xc a c.TextError dd ["at"] [one])) _
    rw [xfW_of (d := one) hK.f5 rfl]
    exact ⟨_, le_mem.refl, hR⟩
  | 6, _ =>
    refine hs_no (no 6 0 _ _ rfl rfl (by decide)) (hs_no (no 6 1 _ _ rfl rfl (by decide)) (hs_no (no 6 2 _ _ rfl rfl (by decide)) (hs_no (no 6 3 _ _ rfl rfl (by decide)) (hs_no (no 6 4 _ _ rfl rfl (by decide)) (hs_no (no 6 5 _ _ rfl rfl (by decide)) (hs_yes (yes 6 _ rfl) fun a dd => ?_))))))
    walk_at "sx"
    show xfW K a c.LogError dd _ (.val (.xc a c.LogError dd ["number", "reason"] [one, other])) fun z => xfW K a c.LogError dd _ (.val (.xc a c.LogError dd ["number", "reason"] [one, other])) _
    rw [xfW_of (d := one) hK.f6 rfl, xfW_of (d := other) hK.f6b rfl]
    exact ⟨_, le_mem.refl, hR⟩
  | 7, _ =>
    refine hs_no (no 7 0 _ _ rfl rfl (by decide)) (hs_no (no 7 1 _ _ rfl rfl (by decide)) (hs_no (no 7 2 _ _ rfl rfl (by decide)) (hs_no (no 7 3 _ _ rfl rfl (by decide)) (hs_no (no 7 4 _ _ rfl rfl (by decide)) (hs_no (no 7 5 _ _ rfl rfl (by decide)) (hs_no (no 7 6 _ _ rfl rfl (by decide)) (hs_yes (yes 7 _ rfl) fun a dd => ?_)))))))
    walk_at "sx"
    show xfW K a c.CommandError dd _ (.val (.xc a c.CommandError dd ["line"] [one])) _
    rw [xfW_of (d := one) hK.f7 rfl]
    exact ⟨_, le_mem.refl, hR⟩
abbrev vals : List D := [D.str (Str.ofString "load"), D.str (Str.ofString ""), D.str (Str.ofString "form"), D.int 0, D.int 17, D.int (-3), D.non, D.tup [D.str (Str.ofString "a"), D.int 5], D.str (Str.ofString "a line"), D.bl true]
theorem vals1 : (vals.all fun a => (D.okd 60 (.tup [a]) && (D.tup [a]).py.showable && decide ((D.tup [a]).py.shown.length ≤ 16777216))) = true := by decide +kernel
theorem vals2 : (vals.all fun a => vals.all fun b => (D.okd 60 (.tup [a, b]) && (D.tup [a, b]).py.showable && decide ((D.tup [a, b]).py.shown.length ≤ 16777216))) = true := by decide +kernel
theorem shows1 {a : D} (h : a ∈ vals) : (D.tup [a]).shows := shows_of (List.all_eq_true.mp vals1 a h)
theorem shows2 {a b : D} (h : a ∈ vals) (h2 : b ∈ vals) : (D.tup [a, b]).shows := shows_of (List.all_eq_true.mp (List.all_eq_true.mp vals2 a h) b h2)
theorem del_up {m : Mem} {p : Addr} {o : MO} (h : m p = none) : delM (updM m p o) p = m := delM_updM h
theorem bls_eq (k : Nat) (hk : k < 8) : (rngL 0 8).filterMap (fun d => match d with
    | .int j => some (D.bl (decide (j = (k : Int))))
    | _ => none) = (List.range 8).map fun j => D.bl (j == k) := by
  match k, hk with
  | 0, _ => rfl
  | 1, _ => rfl
  | 2, _ => rfl
  | 3, _ => rfl
  | 4, _ => rfl
  | 5, _ => rfl
  | 6, _ => rfl
  | 7, _ => rfl
theorem bls_ok (k : Nat) (hk : k < 8) : D.okd 60 (.lst ((List.range 8).map fun j => D.bl (j == k))) = true ∧ D.eqv (.lst ((List.range 8).map fun j => D.bl (j == k))) (.lst ((List.range 8).map fun j => D.bl (j == k))) = true := by
  match k, hk with
  | 0, _ => decide
  | 1, _ => decide
  | 2, _ => decide
  | 3, _ => decide
  | 4, _ => decide
  | 5, _ => decide
  | 6, _ => decide
  | 7, _ => decide
theorem p_law (ds : List D) (m : Mem) (R : SV → Mem → Prop) (Z : Exc → Mem → Prop) (h : sp_law ds m R Z) : m_law (endsF R Z) ⟨startL N_law ds, m⟩ := by
  obtain ⟨ns, rfl, hn, hR⟩ := h
  show m_law (endsF R Z) ⟨[some (.val (.scr ns)), none, none, none, none, none, none, none], m⟩
  unfold m_law endsF
  walk_at "sx"
  refine ⟨ns, rfl, hn, fun l hl => ?_⟩
  walk_at "sx"
  refine ⟨rfl, ?_⟩
  walk_at "sx"
  refine ⟨by decide, by decide, ?_⟩
  refine for_rng 8 (fun i s => ∃ (q : Int) (y4 y5 y6 y7 : Option SV), s = ⟨[some (.val (.scr ns)), some (.val (.lst l)), some (.own (.lst [.int q])), some (.val (.lst vals)), y4, y5, y6, y7], m⟩ ∧ 0 ≤ q ∧ q ≤ 2 * i) (fun _ _ _ => trivial) (fun i s k hi hI hk => ?_) (fun s hI => ?_) _ ⟨0, none, none, none, none, rfl, by decide, by decide⟩
  · obtain ⟨q, y4, y5, y6, y7, rfl, q0, q1⟩ := hI
    walk_at "sx"
    intro p hp
    refine ⟨vals, l, p, q, rfl, hl, updM_same, q0, by omega, by decide, fun one h1 => ?_⟩
    walk_at "sx"
    rw [del_up hp]
    intro p2 hp2
    refine ⟨vals, l, p2, q + 1, rfl, hl, updM_same, by omega, by omega, by decide, fun other h2 => ?_⟩
    walk_at "sx"
    rw [del_up hp2]
    refine ⟨i, one, other, rfl, hi, ?_⟩
    walk_at "sx"
    refine ⟨by decide, by decide, lc_of (fun d => match d with
      | .int j => some (D.bl (decide (j = (i : Int))))
      | _ => none) ⟨[some (.val (.scr ns)), some (.val (.lst l)), some (.own (.lst [.int (q + 1 + 1)])), some (.val (.lst vals)), some (.val (.int i)), some (.val one), some (.val other), none], m⟩ trivial _ (fun d hd acc k2 hk2 => ?_) ?_⟩
    · obtain ⟨j, hj, rfl⟩ := List.mem_map.mp hd
      walk_at "sx"
      exact hk2
    · rw [bls_eq i hi]
      obtain ⟨o1, o2⟩ := bls_ok i hi
      walk_at "sx"
      rw [eq_val o1 o1, o2]
      walk_at "sx"
      refine ⟨i, one, other, rfl, hi, ?_⟩
      by_cases h6 : i = 6
      · subst h6
        walk_at "sx"
        simp only [show ((6 : Nat) : Int) = 6 from rfl, if_true]
        rw [repr_tup (shows2 h1 h2)]
        rw [repr_tup (shows2 h1 h2)]
        walk_at "sx"
        simp only [not_true, decide_false, Bool.false_eq_true, if_false]
        exact hk _ ⟨_, _, _, _, _, rfl, by omega, by omega⟩
      · have h6' : ¬ ((i : Int) = 6) := by omega
        walk_at "sx"
        simp only [h6, h6', if_false]
        rw [repr_tup (shows1 h1)]
        rw [repr_tup (shows1 h1)]
        walk_at "sx"
        simp only [not_true, decide_false, Bool.false_eq_true, if_false]
        exact hk _ ⟨_, _, _, _, _, rfl, by omega, by omega⟩
  · obtain ⟨q, y4, y5, y6, y7, rfl, q0, q1⟩ := hI
    walk_at "sx"
    exact ⟨_, le_mem.refl, hR⟩
end K00

set_option maxHeartbeats 4000000
set_option autoImplicit false
namespace K00
open PySem PySem.Spec PyProof.Rows L2 Sf
/-- what the law needs to know of the classes, checked -/
def knB (K : PySem.W.Frag) (c : Xs) : Bool := (List.range 8).all (fun i => match (kinds c)[i]? with
    | some C => xiB K C && decide (PySem.W.exmOne K (.ref C) (.ref c.FrameError) = some true) && decide (PySem.W.kitOne K (.ref C) (.type "ValueError") = some true) && (List.range 8).all (fun j => match (kinds c)[j]? with
      | some C' => decide (PySem.W.kitOne K (.ref C) (.ref C') = some (j == i)) && decide (PySem.W.exmOne K (.ref C) (.ref C') = some (j == i))
      | none => true)
    | none => true) && xfB K c.ArgumentError "reason" && xfB K c.CheckError "reason" && xfB K c.PaperError "reason" && xfB K c.SiteError "reason" && xfB K c.TooMany "reason" && xfB K c.TextError "at" && xfB K c.LogError "number" && xfB K c.LogError "reason" && xfB K c.CommandError "line"
theorem kn_of {K : PySem.W.Frag} {c : Xs} (h : knB K c = true) : Kn K c := by
  unfold knB at h
  simp only [Bool.and_eq_true] at h
  obtain ⟨⟨⟨⟨⟨⟨⟨⟨⟨h, f0⟩, f1⟩, f2⟩, f3⟩, f4⟩, f5⟩, f6⟩, f6b⟩, f7⟩ := h
  rw [List.all_eq_true] at h
  have lt : ∀ {i : Nat} {C : Addr}, (kinds c)[i]? = some C → i ∈ List.range 8 := fun {i C} e => List.mem_range.mpr (List.getElem?_eq_some_iff.mp e).1
  have one := fun (i : Nat) (C : Addr) (e : (kinds c)[i]? = some C) => h i (lt e)
  refine ⟨fun i C e => ?_, fun i j C C' e e' => ?_, fun i j C C' e e' => ?_, fun i C e => ?_, fun i C e => ?_, f0, f1, f2, f3, f4, f5, f6, f6b, f7⟩
  · have z := one i C e
    rw [e] at z
    simp only [Bool.and_eq_true] at z
    exact z.1.1.1
  · have z := one i C e
    rw [e] at z
    simp only [Bool.and_eq_true, List.all_eq_true] at z
    have y := z.2 j (lt e')
    rw [e'] at y
    simp only [Bool.and_eq_true, decide_eq_true_eq] at y
    exact y.1
  · have z := one i C e
    rw [e] at z
    simp only [Bool.and_eq_true, List.all_eq_true] at z
    have y := z.2 j (lt e')
    rw [e'] at y
    simp only [Bool.and_eq_true, decide_eq_true_eq] at y
    exact y.2
  · have z := one i C e
    rw [e] at z
    simp only [Bool.and_eq_true, decide_eq_true_eq] at z
    exact z.1.1.2
  · have z := one i C e
    rw [e] at z
    simp only [Bool.and_eq_true, decide_eq_true_eq] at z
    exact z.1.2
theorem log_of {z : Int} (h : Builtin.Int.intBits z ≤ 1048576) : z.natAbs.log2 < 2000000 := by
  unfold Builtin.Int.intBits at h
  split at h
  · rename_i e
    have e0 : z = 0 := by simpa using e
    subst e0
    decide
  · omega
theorem go (ns : List Int) (hb : ∀ z ∈ ns, Builtin.Int.intBits z ≤ 1048576) : sp_law [.scr ns] (fun _ => none) (fun sv _ => sv = .val (.bl true)) (fun _ _ => False) := ⟨ns, rfl, fun z hz => log_of (hb z hz), rfl⟩
theorem all_mk {P : Program} {w : World} {K : PySem.W.Frag} {h : Heap} {mg : Str → Option Value} {fa : Addr} (X : K.In h) (G : h.Ns mainGlobals mg) (hfa : mg "law" = some (.ref fa))
    {f1 : Addr} {od1 an1 : Option Addr} {sl1 : Array (Option Value)} {oc1 kV1 dc1 pm1 cd1 ct1 : Value}
    {f2 : Addr} {od2 an2 : Option Addr} {sl2 : Array (Option Value)} {oc2 kV2 dc2 pm2 cd2 ct2 : Value}
    {f3 : Addr} {od3 an3 : Option Addr} {sl3 : Array (Option Value)} {oc3 kV3 dc3 pm3 cd3 ct3 : Value}
    {f4 : Addr} {od4 an4 : Option Addr} {sl4 : Array (Option Value)} {oc4 kV4 dc4 pm4 cd4 ct4 : Value}
    {f5 : Addr} {od5 an5 : Option Addr} {sl5 : Array (Option Value)} {oc5 kV5 dc5 pm5 cd5 ct5 : Value}
    {f6 : Addr} {od6 an6 : Option Addr} {sl6 : Array (Option Value)} {oc6 kV6 dc6 pm6 cd6 ct6 : Value}
    {f7 : Addr} {od7 an7 : Option Addr} {sl7 : Array (Option Value)} {oc7 kV7 dc7 pm7 cd7 ct7 : Value}
    {f8 : Addr} {od8 an8 : Option Addr} {sl8 : Array (Option Value)} {oc8 kV8 dc8 pm8 cd8 ct8 : Value}
    {f9 : Addr} {od9 an9 : Option Addr} {sl9 : Array (Option Value)} {oc9 kV9 dc9 pm9 cd9 ct9 : Value}
    {f10 : Addr} {od10 an10 : Option Addr} {sl10 : Array (Option Value)} {oc10 kV10 dc10 pm10 cd10 ct10 : Value}
    {t_MAX_AWAY : Tok}
    {t_MAX_BARS : Tok}
    {t_MAX_BLOCKS : Tok}
    {t_MAX_BRACES : Tok}
    {t_MAX_CASES : Tok}
    {t_MAX_COST : Tok}
    {t_MAX_CRANES : Tok}
    {t_MAX_DEPTH : Tok}
    {t_MAX_DIGITS : Tok}
    {t_MAX_FORCE : Tok}
    {t_MAX_JOBS : Tok}
    {t_MAX_JOINTS : Tok}
    {t_MAX_KEPT : Tok}
    {t_MAX_LENGTH : Tok}
    {t_MAX_LIFTS : Tok}
    {t_MAX_LINES : Tok}
    {t_MAX_LOADS : Tok}
    {t_MAX_LOG : Tok}
    {t_MAX_NAME : Tok}
    {t_MAX_NUMBER : Tok}
    {t_MAX_PIECES : Tok}
    {t_MAX_PLACE : Tok}
    {t_MAX_PROPS : Tok}
    {t_MAX_ROWS : Tok}
    {t_MAX_SIDE : Tok}
    {t_MAX_STRONG : Tok}
    {t_MAX_TEXT : Tok}
    {t_MAX_VAULT : Tok}
    {eFrameError : Addr}
    {eCheckError : Addr}
    {eArgumentError : Addr}
    {ePaperError : Addr}
    {eTooMany : Addr}
    {eSiteError : Addr}
    {eTextError : Addr}
    {eLogError : Addr}
    {eCommandError : Addr}
    {fIArgumentError DArgumentError ccArgumentError cdaArgumentError NArgumentError : Addr} {nmArgumentError qArgumentError qualArgumentError : Str} {bsArgumentError bmArgumentError : List Value} {snArgumentError : List Str} {subArgumentError : List Value} {abArgumentError : Bool} {colArgumentError : Option Bool} {ddArgumentError : Option Addr} {m0ArgumentError m1ArgumentError m2ArgumentError m3ArgumentError m5ArgumentError : Option Value} {paramsArgumentError : Arguments} {scopeArgumentError : Scope} {docArgumentError pmArgumentError ctArgumentError ocArgumentError clArgumentError cclArgumentError : Value} {anArgumentError odArgumentError cldArgumentError cddArgumentError : Option Addr} {oslArgumentError cslArgumentError ccsArgumentError : Array (Option Value)} {vsArgumentError : Array Value} {fileArgumentError : Str} {tfArgumentError : Tok} {arArgumentError : Arg} {p0ArgumentError p1ArgumentError p2ArgumentError p3ArgumentError p4ArgumentError n1ArgumentError  q1ArgumentError q2ArgumentError q3ArgumentError q4ArgumentError : Pos}
    {fICheckError DCheckError ccCheckError cdaCheckError NCheckError : Addr} {nmCheckError qCheckError qualCheckError : Str} {bsCheckError bmCheckError : List Value} {snCheckError : List Str} {subCheckError : List Value} {abCheckError : Bool} {colCheckError : Option Bool} {ddCheckError : Option Addr} {m0CheckError m1CheckError m2CheckError m3CheckError m5CheckError : Option Value} {paramsCheckError : Arguments} {scopeCheckError : Scope} {docCheckError pmCheckError ctCheckError ocCheckError clCheckError cclCheckError : Value} {anCheckError odCheckError cldCheckError cddCheckError : Option Addr} {oslCheckError cslCheckError ccsCheckError : Array (Option Value)} {vsCheckError : Array Value} {fileCheckError : Str} {tfCheckError : Tok} {arCheckError : Arg} {p0CheckError p1CheckError p2CheckError p3CheckError p4CheckError n1CheckError  q1CheckError q2CheckError q3CheckError q4CheckError : Pos}
    {fIPaperError DPaperError ccPaperError cdaPaperError NPaperError : Addr} {nmPaperError qPaperError qualPaperError : Str} {bsPaperError bmPaperError : List Value} {snPaperError : List Str} {subPaperError : List Value} {abPaperError : Bool} {colPaperError : Option Bool} {ddPaperError : Option Addr} {m0PaperError m1PaperError m2PaperError m3PaperError m5PaperError : Option Value} {paramsPaperError : Arguments} {scopePaperError : Scope} {docPaperError pmPaperError ctPaperError ocPaperError clPaperError cclPaperError : Value} {anPaperError odPaperError cldPaperError cddPaperError : Option Addr} {oslPaperError cslPaperError ccsPaperError : Array (Option Value)} {vsPaperError : Array Value} {filePaperError : Str} {tfPaperError : Tok} {arPaperError : Arg} {p0PaperError p1PaperError p2PaperError p3PaperError p4PaperError n1PaperError  q1PaperError q2PaperError q3PaperError q4PaperError : Pos}
    {fISiteError DSiteError ccSiteError cdaSiteError NSiteError : Addr} {nmSiteError qSiteError qualSiteError : Str} {bsSiteError bmSiteError : List Value} {snSiteError : List Str} {subSiteError : List Value} {abSiteError : Bool} {colSiteError : Option Bool} {ddSiteError : Option Addr} {m0SiteError m1SiteError m2SiteError m3SiteError m5SiteError : Option Value} {paramsSiteError : Arguments} {scopeSiteError : Scope} {docSiteError pmSiteError ctSiteError ocSiteError clSiteError cclSiteError : Value} {anSiteError odSiteError cldSiteError cddSiteError : Option Addr} {oslSiteError cslSiteError ccsSiteError : Array (Option Value)} {vsSiteError : Array Value} {fileSiteError : Str} {tfSiteError : Tok} {arSiteError : Arg} {p0SiteError p1SiteError p2SiteError p3SiteError p4SiteError n1SiteError  q1SiteError q2SiteError q3SiteError q4SiteError : Pos}
    {fITooMany DTooMany ccTooMany cdaTooMany NTooMany : Addr} {nmTooMany qTooMany qualTooMany : Str} {bsTooMany bmTooMany : List Value} {snTooMany : List Str} {subTooMany : List Value} {abTooMany : Bool} {colTooMany : Option Bool} {ddTooMany : Option Addr} {m0TooMany m1TooMany m2TooMany m3TooMany m5TooMany : Option Value} {paramsTooMany : Arguments} {scopeTooMany : Scope} {docTooMany pmTooMany ctTooMany ocTooMany clTooMany cclTooMany : Value} {anTooMany odTooMany cldTooMany cddTooMany : Option Addr} {oslTooMany cslTooMany ccsTooMany : Array (Option Value)} {vsTooMany : Array Value} {fileTooMany : Str} {tfTooMany : Tok} {arTooMany : Arg} {p0TooMany p1TooMany p2TooMany p3TooMany p4TooMany n1TooMany  q1TooMany q2TooMany q3TooMany q4TooMany : Pos}
    {fITextError DTextError ccTextError cdaTextError NTextError : Addr} {nmTextError qTextError qualTextError : Str} {bsTextError bmTextError : List Value} {snTextError : List Str} {subTextError : List Value} {abTextError : Bool} {colTextError : Option Bool} {ddTextError : Option Addr} {m0TextError m1TextError m2TextError m3TextError m5TextError : Option Value} {paramsTextError : Arguments} {scopeTextError : Scope} {docTextError pmTextError ctTextError ocTextError clTextError cclTextError : Value} {anTextError odTextError cldTextError cddTextError : Option Addr} {oslTextError cslTextError ccsTextError : Array (Option Value)} {vsTextError : Array Value} {fileTextError : Str} {tfTextError : Tok} {arTextError : Arg} {p0TextError p1TextError p2TextError p3TextError p4TextError n1TextError  q1TextError q2TextError q3TextError q4TextError : Pos}
    {fILogError DLogError ccLogError cdaLogError NLogError : Addr} {nmLogError qLogError qualLogError : Str} {bsLogError bmLogError : List Value} {snLogError : List Str} {subLogError : List Value} {abLogError : Bool} {colLogError : Option Bool} {ddLogError : Option Addr} {m0LogError m1LogError m2LogError m3LogError m5LogError : Option Value} {paramsLogError : Arguments} {scopeLogError : Scope} {docLogError pmLogError ctLogError ocLogError clLogError cclLogError : Value} {anLogError odLogError cldLogError cddLogError : Option Addr} {oslLogError cslLogError ccsLogError : Array (Option Value)} {vsLogError : Array Value} {fileLogError : Str} {tfLogError : Tok} {arLogError : Arg} {p0LogError p1LogError p2LogError p3LogError p4LogError n1LogError n2LogError q1LogError q2LogError q3LogError q4LogError r1LogError r2LogError r3LogError r4LogError : Pos}
    {fICommandError DCommandError ccCommandError cdaCommandError NCommandError : Addr} {nmCommandError qCommandError qualCommandError : Str} {bsCommandError bmCommandError : List Value} {snCommandError : List Str} {subCommandError : List Value} {abCommandError : Bool} {colCommandError : Option Bool} {ddCommandError : Option Addr} {m0CommandError m1CommandError m2CommandError m3CommandError m5CommandError : Option Value} {paramsCommandError : Arguments} {scopeCommandError : Scope} {docCommandError pmCommandError ctCommandError ocCommandError clCommandError cclCommandError : Value} {anCommandError odCommandError cldCommandError cddCommandError : Option Addr} {oslCommandError cslCommandError ccsCommandError : Array (Option Value)} {vsCommandError : Array Value} {fileCommandError : Str} {tfCommandError : Tok} {arCommandError : Arg} {p0CommandError p1CommandError p2CommandError p3CommandError p4CommandError n1CommandError  q1CommandError q2CommandError q3CommandError q4CommandError : Pos}
    (a1 : PySem.W.nsIn K mainGlobals (Str.ofString "_law_draws") = some (some (.ref f1))) (l1 : K.lookup f1 = some ⟨oc1, od1, .func (PySem.W.fnOf (Str.ofString "_law_draws") (Str.ofString "_law_draws") (defArgs st__law_draws) (defBody st__law_draws) (defScope st__law_draws) .none kV1 dc1 pm1 an1 cd1 ct1), sl1⟩) (c1 : PySem.W.codeIn K cd1 (Str.ofString "_law_draws") = true) (k1 : PySem.W.keepIn K (.ref f1) = true)
    (a2 : PySem.W.nsIn K mainGlobals (Str.ofString "_law_more") = some (some (.ref f2))) (l2 : K.lookup f2 = some ⟨oc2, od2, .func (PySem.W.fnOf (Str.ofString "_law_more") (Str.ofString "_law_more") (defArgs st__law_more) (defBody st__law_more) (defScope st__law_more) .none kV2 dc2 pm2 an2 cd2 ct2), sl2⟩) (c2 : PySem.W.codeIn K cd2 (Str.ofString "_law_more") = true) (k2 : PySem.W.keepIn K (.ref f2) = true)
    (a3 : PySem.W.nsIn K mainGlobals (Str.ofString "_law_take") = some (some (.ref f3))) (l3 : K.lookup f3 = some ⟨oc3, od3, .func (PySem.W.fnOf (Str.ofString "_law_take") (Str.ofString "_law_take") (defArgs st__law_take) (defBody st__law_take) (defScope st__law_take) .none kV3 dc3 pm3 an3 cd3 ct3), sl3⟩) (c3 : PySem.W.codeIn K cd3 (Str.ofString "_law_take") = true) (k3 : PySem.W.keepIn K (.ref f3) = true)
    (a4 : PySem.W.nsIn K mainGlobals (Str.ofString "_law_one") = some (some (.ref f4))) (l4 : K.lookup f4 = some ⟨oc4, od4, .func (PySem.W.fnOf (Str.ofString "_law_one") (Str.ofString "_law_one") (defArgs st__law_one) (defBody st__law_one) (defScope st__law_one) .none kV4 dc4 pm4 an4 cd4 ct4), sl4⟩) (c4 : PySem.W.codeIn K cd4 (Str.ofString "_law_one") = true) (k4 : PySem.W.keepIn K (.ref f4) = true)
    (a5 : PySem.W.nsIn K mainGlobals (Str.ofString "_law_limits_right") = some (some (.ref f5))) (l5 : K.lookup f5 = some ⟨oc5, od5, .func (PySem.W.fnOf (Str.ofString "_law_limits_right") (Str.ofString "_law_limits_right") (defArgs st__law_limits_right) (defBody st__law_limits_right) (defScope st__law_limits_right) .none kV5 dc5 pm5 an5 cd5 ct5), sl5⟩) (c5 : PySem.W.codeIn K cd5 (Str.ofString "_law_limits_right") = true) (k5 : PySem.W.keepIn K (.ref f5) = true)
    (a6 : PySem.W.nsIn K mainGlobals (Str.ofString "_law_raise") = some (some (.ref f6))) (l6 : K.lookup f6 = some ⟨oc6, od6, .func (PySem.W.fnOf (Str.ofString "_law_raise") (Str.ofString "_law_raise") (defArgs st__law_raise) (defBody st__law_raise) (defScope st__law_raise) .none kV6 dc6 pm6 an6 cd6 ct6), sl6⟩) (c6 : PySem.W.codeIn K cd6 (Str.ofString "_law_raise") = true) (k6 : PySem.W.keepIn K (.ref f6) = true)
    (a7 : PySem.W.nsIn K mainGlobals (Str.ofString "_law_kinds") = some (some (.ref f7))) (l7 : K.lookup f7 = some ⟨oc7, od7, .func (PySem.W.fnOf (Str.ofString "_law_kinds") (Str.ofString "_law_kinds") (defArgs st__law_kinds) (defBody st__law_kinds) (defScope st__law_kinds) .none kV7 dc7 pm7 an7 cd7 ct7), sl7⟩) (c7 : PySem.W.codeIn K cd7 (Str.ofString "_law_kinds") = true) (k7 : PySem.W.keepIn K (.ref f7) = true)
    (a8 : PySem.W.nsIn K mainGlobals (Str.ofString "_law_caught") = some (some (.ref f8))) (l8 : K.lookup f8 = some ⟨oc8, od8, .func (PySem.W.fnOf (Str.ofString "_law_caught") (Str.ofString "_law_caught") (defArgs st__law_caught) (defBody st__law_caught) (defScope st__law_caught) .none kV8 dc8 pm8 an8 cd8 ct8), sl8⟩) (c8 : PySem.W.codeIn K cd8 (Str.ofString "_law_caught") = true) (k8 : PySem.W.keepIn K (.ref f8) = true)
    (a9 : PySem.W.nsIn K mainGlobals (Str.ofString "_law_fields") = some (some (.ref f9))) (l9 : K.lookup f9 = some ⟨oc9, od9, .func (PySem.W.fnOf (Str.ofString "_law_fields") (Str.ofString "_law_fields") (defArgs st__law_fields) (defBody st__law_fields) (defScope st__law_fields) .none kV9 dc9 pm9 an9 cd9 ct9), sl9⟩) (c9 : PySem.W.codeIn K cd9 (Str.ofString "_law_fields") = true) (k9 : PySem.W.keepIn K (.ref f9) = true)
    (a10 : PySem.W.nsIn K mainGlobals (Str.ofString "law") = some (some (.ref f10))) (l10 : K.lookup f10 = some ⟨oc10, od10, .func (PySem.W.fnOf (Str.ofString "law") (Str.ofString "law") (defArgs st_law) (defBody st_law) (defScope st_law) .none kV10 dc10 pm10 an10 cd10 ct10), sl10⟩) (c10 : PySem.W.codeIn K cd10 (Str.ofString "law") = true) (k10 : PySem.W.keepIn K (.ref f10) = true)
    (z_ValueError : PySem.W.nsIn K mainGlobals (Str.ofString "ValueError") = some none)
    (z_abs : PySem.W.nsIn K mainGlobals (Str.ofString "abs") = some none)
    (z_int : PySem.W.nsIn K mainGlobals (Str.ofString "int") = some none)
    (z_isinstance : PySem.W.nsIn K mainGlobals (Str.ofString "isinstance") = some none)
    (z_len : PySem.W.nsIn K mainGlobals (Str.ofString "len") = some none)
    (z_range : PySem.W.nsIn K mainGlobals (Str.ofString "range") = some none)
    (z_repr : PySem.W.nsIn K mainGlobals (Str.ofString "repr") = some none)
    (g_MAX_AWAY : PySem.W.nsIn K mainGlobals (Str.ofString "MAX_AWAY") = some (some (.int 3 t_MAX_AWAY)))
    (g_MAX_BARS : PySem.W.nsIn K mainGlobals (Str.ofString "MAX_BARS") = some (some (.int 30 t_MAX_BARS)))
    (g_MAX_BLOCKS : PySem.W.nsIn K mainGlobals (Str.ofString "MAX_BLOCKS") = some (some (.int 12 t_MAX_BLOCKS)))
    (g_MAX_BRACES : PySem.W.nsIn K mainGlobals (Str.ofString "MAX_BRACES") = some (some (.int 60 t_MAX_BRACES)))
    (g_MAX_CASES : PySem.W.nsIn K mainGlobals (Str.ofString "MAX_CASES") = some (some (.int 8 t_MAX_CASES)))
    (g_MAX_COST : PySem.W.nsIn K mainGlobals (Str.ofString "MAX_COST") = some (some (.int 1000000 t_MAX_COST)))
    (g_MAX_CRANES : PySem.W.nsIn K mainGlobals (Str.ofString "MAX_CRANES") = some (some (.int 8 t_MAX_CRANES)))
    (g_MAX_DEPTH : PySem.W.nsIn K mainGlobals (Str.ofString "MAX_DEPTH") = some (some (.int 100 t_MAX_DEPTH)))
    (g_MAX_DIGITS : PySem.W.nsIn K mainGlobals (Str.ofString "MAX_DIGITS") = some (some (.int 60 t_MAX_DIGITS)))
    (g_MAX_FORCE : PySem.W.nsIn K mainGlobals (Str.ofString "MAX_FORCE") = some (some (.int 1000000 t_MAX_FORCE)))
    (g_MAX_JOBS : PySem.W.nsIn K mainGlobals (Str.ofString "MAX_JOBS") = some (some (.int 10 t_MAX_JOBS)))
    (g_MAX_JOINTS : PySem.W.nsIn K mainGlobals (Str.ofString "MAX_JOINTS") = some (some (.int 12 t_MAX_JOINTS)))
    (g_MAX_KEPT : PySem.W.nsIn K mainGlobals (Str.ofString "MAX_KEPT") = some (some (.int 8 t_MAX_KEPT)))
    (g_MAX_LENGTH : PySem.W.nsIn K mainGlobals (Str.ofString "MAX_LENGTH") = some (some (.int 200 t_MAX_LENGTH)))
    (g_MAX_LIFTS : PySem.W.nsIn K mainGlobals (Str.ofString "MAX_LIFTS") = some (some (.int 8 t_MAX_LIFTS)))
    (g_MAX_LINES : PySem.W.nsIn K mainGlobals (Str.ofString "MAX_LINES") = some (some (.int 12 t_MAX_LINES)))
    (g_MAX_LOADS : PySem.W.nsIn K mainGlobals (Str.ofString "MAX_LOADS") = some (some (.int 12 t_MAX_LOADS)))
    (g_MAX_LOG : PySem.W.nsIn K mainGlobals (Str.ofString "MAX_LOG") = some (some (.int 200 t_MAX_LOG)))
    (g_MAX_NAME : PySem.W.nsIn K mainGlobals (Str.ofString "MAX_NAME") = some (some (.int 12 t_MAX_NAME)))
    (g_MAX_NUMBER : PySem.W.nsIn K mainGlobals (Str.ofString "MAX_NUMBER") = some (some (.int 1000000000 t_MAX_NUMBER)))
    (g_MAX_PIECES : PySem.W.nsIn K mainGlobals (Str.ofString "MAX_PIECES") = some (some (.int 20 t_MAX_PIECES)))
    (g_MAX_PLACE : PySem.W.nsIn K mainGlobals (Str.ofString "MAX_PLACE") = some (some (.int 1000 t_MAX_PLACE)))
    (g_MAX_PROPS : PySem.W.nsIn K mainGlobals (Str.ofString "MAX_PROPS") = some (some (.int 3 t_MAX_PROPS)))
    (g_MAX_ROWS : PySem.W.nsIn K mainGlobals (Str.ofString "MAX_ROWS") = some (some (.int 12 t_MAX_ROWS)))
    (g_MAX_SIDE : PySem.W.nsIn K mainGlobals (Str.ofString "MAX_SIDE") = some (some (.int 3 t_MAX_SIDE)))
    (g_MAX_STRONG : PySem.W.nsIn K mainGlobals (Str.ofString "MAX_STRONG") = some (some (.int 12 t_MAX_STRONG)))
    (g_MAX_TEXT : PySem.W.nsIn K mainGlobals (Str.ofString "MAX_TEXT") = some (some (.int 6000 t_MAX_TEXT)))
    (g_MAX_VAULT : PySem.W.nsIn K mainGlobals (Str.ofString "MAX_VAULT") = some (some (.int 8 t_MAX_VAULT)))
    (g_FrameError : PySem.W.nsIn K mainGlobals (Str.ofString "FrameError") = some (some (.ref eFrameError)))
    (g_CheckError : PySem.W.nsIn K mainGlobals (Str.ofString "CheckError") = some (some (.ref eCheckError)))
    (g_ArgumentError : PySem.W.nsIn K mainGlobals (Str.ofString "ArgumentError") = some (some (.ref eArgumentError)))
    (g_PaperError : PySem.W.nsIn K mainGlobals (Str.ofString "PaperError") = some (some (.ref ePaperError)))
    (g_TooMany : PySem.W.nsIn K mainGlobals (Str.ofString "TooMany") = some (some (.ref eTooMany)))
    (g_SiteError : PySem.W.nsIn K mainGlobals (Str.ofString "SiteError") = some (some (.ref eSiteError)))
    (g_TextError : PySem.W.nsIn K mainGlobals (Str.ofString "TextError") = some (some (.ref eTextError)))
    (g_LogError : PySem.W.nsIn K mainGlobals (Str.ofString "LogError") = some (some (.ref eLogError)))
    (g_CommandError : PySem.W.nsIn K mainGlobals (Str.ofString "CommandError") = some (some (.ref eCommandError)))
    (xLArgumentError : K.lookup eArgumentError = some (excClassObj nmArgumentError qArgumentError eArgumentError NArgumentError bsArgumentError bmArgumentError true snArgumentError subArgumentError abArgumentError colArgumentError ddArgumentError m0ArgumentError m1ArgumentError m2ArgumentError m3ArgumentError m5ArgumentError "ValueError.__new__"))
    (xvArgumentError : PySem.HandSPX.refsVE bmArgumentError = true)
    (iCArgumentError : PySem.W.findIn K (.ref eArgumentError) "__init__" = some (some (.ref fIArgumentError)))
    (lfArgumentError : K.lookup fIArgumentError = some ⟨ocArgumentError, odArgumentError, .func (PySem.W.ksFn "__init__" qualArgumentError paramsArgumentError [.Expr (.Call (.Attribute (.Call (.Name "super" p0ArgumentError) [] [] p1ArgumentError) "__init__" p2ArgumentError) [.Name (Str.ofString "reason") n1ArgumentError] [] p3ArgumentError) p4ArgumentError, .Assign [.Attribute (.Name "self" q1ArgumentError) (Str.ofString "reason") q2ArgumentError] (.Name (Str.ofString "reason") q3ArgumentError) q4ArgumentError] scopeArgumentError .none .none docArgumentError pmArgumentError anArgumentError (.ref cdaArgumentError) ctArgumentError ccArgumentError), oslArgumentError⟩)
    (lcArgumentError : K.lookup ccArgumentError = some ⟨clArgumentError, cldArgumentError, .cell (some (.ref DArgumentError)), cslArgumentError⟩)
    (ldArgumentError : K.lookup cdaArgumentError = some ⟨cclArgumentError, cddArgumentError, .fields vsArgumentError, ccsArgumentError⟩)
    (hvArgumentError : vsArgumentError[2]? = some (.str fileArgumentError tfArgumentError))
    (hfArgumentError : ((P.main.file : Str) == fileArgumentError) = true)
    (suArgumentError : PySem.W.ks_superIn K eArgumentError DArgumentError "__init__" = some (some (.builtin "ValueError.__init__")))
    (saArgumentError : PySem.W.findIn K (.ref eArgumentError) "__setattr__" = some (some (.builtin "object.__setattr__")))
    (no0ArgumentError : PySem.W.findIn K (.ref eArgumentError) (Str.ofString "reason") = some none)
    (tIArgumentError : PySem.W.typeIn K (.ref fIArgumentError) = some (.type "function"))
    (kCArgumentError : PySem.W.keepIn K (.ref eArgumentError) = true)
    (eCArgumentError : PySem.W.subIn K (.ref eArgumentError) (.type "BaseException") = some true)
    (vCArgumentError : PySem.W.subIn K (.ref eArgumentError) (.type "ValueError") = some true)
    (tCArgumentError : PySem.W.typeIn K (.ref eArgumentError) = some (.type "type"))
    (sDArgumentError : PySem.W.mroIn K eArgumentError (.ref DArgumentError) = some true)
    (iDArgumentError : PySem.W.isClsIn K DArgumentError = true)
    (cdArgumentError : PySem.W.codeIn K (.ref cdaArgumentError) qualArgumentError = true)
    (SArgumentError : xscB scopeArgumentError [(Str.ofString "reason")] = true)
    (harArgumentError : (paramsArgumentError.posonlyargs ++ paramsArgumentError.args).head? = some arArgumentError)
    (hsArgumentError : arArgumentError.arg = "self")
    (hpArgumentError : (p2ArgumentError.endLine == p3ArgumentError.line) = true)
    (hbArgumentError : ∀ (s : Shared) (x : Addr) (v : Value), BindsTo s (PySem.W.ksFn "__init__" qualArgumentError paramsArgumentError [.Expr (supE p0ArgumentError p1ArgumentError p2ArgumentError p3ArgumentError [.Name (Str.ofString "reason") n1ArgumentError]) p4ArgumentError, keepS (Str.ofString "reason") q1ArgumentError q2ArgumentError q3ArgumentError q4ArgumentError] scopeArgumentError .none .none docArgumentError pmArgumentError anArgumentError (.ref cdaArgumentError) ctArgumentError ccArgumentError) ⟨[.ref x, v], []⟩ [("self", .ref x), ((Str.ofString "reason"), v)])
    (xLCheckError : K.lookup eCheckError = some (excClassObj nmCheckError qCheckError eCheckError NCheckError bsCheckError bmCheckError true snCheckError subCheckError abCheckError colCheckError ddCheckError m0CheckError m1CheckError m2CheckError m3CheckError m5CheckError "ValueError.__new__"))
    (xvCheckError : PySem.HandSPX.refsVE bmCheckError = true)
    (iCCheckError : PySem.W.findIn K (.ref eCheckError) "__init__" = some (some (.ref fICheckError)))
    (lfCheckError : K.lookup fICheckError = some ⟨ocCheckError, odCheckError, .func (PySem.W.ksFn "__init__" qualCheckError paramsCheckError [.Expr (.Call (.Attribute (.Call (.Name "super" p0CheckError) [] [] p1CheckError) "__init__" p2CheckError) [.Name (Str.ofString "reason") n1CheckError] [] p3CheckError) p4CheckError, .Assign [.Attribute (.Name "self" q1CheckError) (Str.ofString "reason") q2CheckError] (.Name (Str.ofString "reason") q3CheckError) q4CheckError] scopeCheckError .none .none docCheckError pmCheckError anCheckError (.ref cdaCheckError) ctCheckError ccCheckError), oslCheckError⟩)
    (lcCheckError : K.lookup ccCheckError = some ⟨clCheckError, cldCheckError, .cell (some (.ref DCheckError)), cslCheckError⟩)
    (ldCheckError : K.lookup cdaCheckError = some ⟨cclCheckError, cddCheckError, .fields vsCheckError, ccsCheckError⟩)
    (hvCheckError : vsCheckError[2]? = some (.str fileCheckError tfCheckError))
    (hfCheckError : ((P.main.file : Str) == fileCheckError) = true)
    (suCheckError : PySem.W.ks_superIn K eCheckError DCheckError "__init__" = some (some (.builtin "ValueError.__init__")))
    (saCheckError : PySem.W.findIn K (.ref eCheckError) "__setattr__" = some (some (.builtin "object.__setattr__")))
    (no0CheckError : PySem.W.findIn K (.ref eCheckError) (Str.ofString "reason") = some none)
    (tICheckError : PySem.W.typeIn K (.ref fICheckError) = some (.type "function"))
    (kCCheckError : PySem.W.keepIn K (.ref eCheckError) = true)
    (eCCheckError : PySem.W.subIn K (.ref eCheckError) (.type "BaseException") = some true)
    (vCCheckError : PySem.W.subIn K (.ref eCheckError) (.type "ValueError") = some true)
    (tCCheckError : PySem.W.typeIn K (.ref eCheckError) = some (.type "type"))
    (sDCheckError : PySem.W.mroIn K eCheckError (.ref DCheckError) = some true)
    (iDCheckError : PySem.W.isClsIn K DCheckError = true)
    (cdCheckError : PySem.W.codeIn K (.ref cdaCheckError) qualCheckError = true)
    (SCheckError : xscB scopeCheckError [(Str.ofString "reason")] = true)
    (harCheckError : (paramsCheckError.posonlyargs ++ paramsCheckError.args).head? = some arCheckError)
    (hsCheckError : arCheckError.arg = "self")
    (hpCheckError : (p2CheckError.endLine == p3CheckError.line) = true)
    (hbCheckError : ∀ (s : Shared) (x : Addr) (v : Value), BindsTo s (PySem.W.ksFn "__init__" qualCheckError paramsCheckError [.Expr (supE p0CheckError p1CheckError p2CheckError p3CheckError [.Name (Str.ofString "reason") n1CheckError]) p4CheckError, keepS (Str.ofString "reason") q1CheckError q2CheckError q3CheckError q4CheckError] scopeCheckError .none .none docCheckError pmCheckError anCheckError (.ref cdaCheckError) ctCheckError ccCheckError) ⟨[.ref x, v], []⟩ [("self", .ref x), ((Str.ofString "reason"), v)])
    (xLPaperError : K.lookup ePaperError = some (excClassObj nmPaperError qPaperError ePaperError NPaperError bsPaperError bmPaperError true snPaperError subPaperError abPaperError colPaperError ddPaperError m0PaperError m1PaperError m2PaperError m3PaperError m5PaperError "ValueError.__new__"))
    (xvPaperError : PySem.HandSPX.refsVE bmPaperError = true)
    (iCPaperError : PySem.W.findIn K (.ref ePaperError) "__init__" = some (some (.ref fIPaperError)))
    (lfPaperError : K.lookup fIPaperError = some ⟨ocPaperError, odPaperError, .func (PySem.W.ksFn "__init__" qualPaperError paramsPaperError [.Expr (.Call (.Attribute (.Call (.Name "super" p0PaperError) [] [] p1PaperError) "__init__" p2PaperError) [.Name (Str.ofString "reason") n1PaperError] [] p3PaperError) p4PaperError, .Assign [.Attribute (.Name "self" q1PaperError) (Str.ofString "reason") q2PaperError] (.Name (Str.ofString "reason") q3PaperError) q4PaperError] scopePaperError .none .none docPaperError pmPaperError anPaperError (.ref cdaPaperError) ctPaperError ccPaperError), oslPaperError⟩)
    (lcPaperError : K.lookup ccPaperError = some ⟨clPaperError, cldPaperError, .cell (some (.ref DPaperError)), cslPaperError⟩)
    (ldPaperError : K.lookup cdaPaperError = some ⟨cclPaperError, cddPaperError, .fields vsPaperError, ccsPaperError⟩)
    (hvPaperError : vsPaperError[2]? = some (.str filePaperError tfPaperError))
    (hfPaperError : ((P.main.file : Str) == filePaperError) = true)
    (suPaperError : PySem.W.ks_superIn K ePaperError DPaperError "__init__" = some (some (.builtin "ValueError.__init__")))
    (saPaperError : PySem.W.findIn K (.ref ePaperError) "__setattr__" = some (some (.builtin "object.__setattr__")))
    (no0PaperError : PySem.W.findIn K (.ref ePaperError) (Str.ofString "reason") = some none)
    (tIPaperError : PySem.W.typeIn K (.ref fIPaperError) = some (.type "function"))
    (kCPaperError : PySem.W.keepIn K (.ref ePaperError) = true)
    (eCPaperError : PySem.W.subIn K (.ref ePaperError) (.type "BaseException") = some true)
    (vCPaperError : PySem.W.subIn K (.ref ePaperError) (.type "ValueError") = some true)
    (tCPaperError : PySem.W.typeIn K (.ref ePaperError) = some (.type "type"))
    (sDPaperError : PySem.W.mroIn K ePaperError (.ref DPaperError) = some true)
    (iDPaperError : PySem.W.isClsIn K DPaperError = true)
    (cdPaperError : PySem.W.codeIn K (.ref cdaPaperError) qualPaperError = true)
    (SPaperError : xscB scopePaperError [(Str.ofString "reason")] = true)
    (harPaperError : (paramsPaperError.posonlyargs ++ paramsPaperError.args).head? = some arPaperError)
    (hsPaperError : arPaperError.arg = "self")
    (hpPaperError : (p2PaperError.endLine == p3PaperError.line) = true)
    (hbPaperError : ∀ (s : Shared) (x : Addr) (v : Value), BindsTo s (PySem.W.ksFn "__init__" qualPaperError paramsPaperError [.Expr (supE p0PaperError p1PaperError p2PaperError p3PaperError [.Name (Str.ofString "reason") n1PaperError]) p4PaperError, keepS (Str.ofString "reason") q1PaperError q2PaperError q3PaperError q4PaperError] scopePaperError .none .none docPaperError pmPaperError anPaperError (.ref cdaPaperError) ctPaperError ccPaperError) ⟨[.ref x, v], []⟩ [("self", .ref x), ((Str.ofString "reason"), v)])
    (xLSiteError : K.lookup eSiteError = some (excClassObj nmSiteError qSiteError eSiteError NSiteError bsSiteError bmSiteError true snSiteError subSiteError abSiteError colSiteError ddSiteError m0SiteError m1SiteError m2SiteError m3SiteError m5SiteError "ValueError.__new__"))
    (xvSiteError : PySem.HandSPX.refsVE bmSiteError = true)
    (iCSiteError : PySem.W.findIn K (.ref eSiteError) "__init__" = some (some (.ref fISiteError)))
    (lfSiteError : K.lookup fISiteError = some ⟨ocSiteError, odSiteError, .func (PySem.W.ksFn "__init__" qualSiteError paramsSiteError [.Expr (.Call (.Attribute (.Call (.Name "super" p0SiteError) [] [] p1SiteError) "__init__" p2SiteError) [.Name (Str.ofString "reason") n1SiteError] [] p3SiteError) p4SiteError, .Assign [.Attribute (.Name "self" q1SiteError) (Str.ofString "reason") q2SiteError] (.Name (Str.ofString "reason") q3SiteError) q4SiteError] scopeSiteError .none .none docSiteError pmSiteError anSiteError (.ref cdaSiteError) ctSiteError ccSiteError), oslSiteError⟩)
    (lcSiteError : K.lookup ccSiteError = some ⟨clSiteError, cldSiteError, .cell (some (.ref DSiteError)), cslSiteError⟩)
    (ldSiteError : K.lookup cdaSiteError = some ⟨cclSiteError, cddSiteError, .fields vsSiteError, ccsSiteError⟩)
    (hvSiteError : vsSiteError[2]? = some (.str fileSiteError tfSiteError))
    (hfSiteError : ((P.main.file : Str) == fileSiteError) = true)
    (suSiteError : PySem.W.ks_superIn K eSiteError DSiteError "__init__" = some (some (.builtin "ValueError.__init__")))
    (saSiteError : PySem.W.findIn K (.ref eSiteError) "__setattr__" = some (some (.builtin "object.__setattr__")))
    (no0SiteError : PySem.W.findIn K (.ref eSiteError) (Str.ofString "reason") = some none)
    (tISiteError : PySem.W.typeIn K (.ref fISiteError) = some (.type "function"))
    (kCSiteError : PySem.W.keepIn K (.ref eSiteError) = true)
    (eCSiteError : PySem.W.subIn K (.ref eSiteError) (.type "BaseException") = some true)
    (vCSiteError : PySem.W.subIn K (.ref eSiteError) (.type "ValueError") = some true)
    (tCSiteError : PySem.W.typeIn K (.ref eSiteError) = some (.type "type"))
    (sDSiteError : PySem.W.mroIn K eSiteError (.ref DSiteError) = some true)
    (iDSiteError : PySem.W.isClsIn K DSiteError = true)
    (cdSiteError : PySem.W.codeIn K (.ref cdaSiteError) qualSiteError = true)
    (SSiteError : xscB scopeSiteError [(Str.ofString "reason")] = true)
    (harSiteError : (paramsSiteError.posonlyargs ++ paramsSiteError.args).head? = some arSiteError)
    (hsSiteError : arSiteError.arg = "self")
    (hpSiteError : (p2SiteError.endLine == p3SiteError.line) = true)
    (hbSiteError : ∀ (s : Shared) (x : Addr) (v : Value), BindsTo s (PySem.W.ksFn "__init__" qualSiteError paramsSiteError [.Expr (supE p0SiteError p1SiteError p2SiteError p3SiteError [.Name (Str.ofString "reason") n1SiteError]) p4SiteError, keepS (Str.ofString "reason") q1SiteError q2SiteError q3SiteError q4SiteError] scopeSiteError .none .none docSiteError pmSiteError anSiteError (.ref cdaSiteError) ctSiteError ccSiteError) ⟨[.ref x, v], []⟩ [("self", .ref x), ((Str.ofString "reason"), v)])
    (xLTooMany : K.lookup eTooMany = some (excClassObj nmTooMany qTooMany eTooMany NTooMany bsTooMany bmTooMany true snTooMany subTooMany abTooMany colTooMany ddTooMany m0TooMany m1TooMany m2TooMany m3TooMany m5TooMany "ValueError.__new__"))
    (xvTooMany : PySem.HandSPX.refsVE bmTooMany = true)
    (iCTooMany : PySem.W.findIn K (.ref eTooMany) "__init__" = some (some (.ref fITooMany)))
    (lfTooMany : K.lookup fITooMany = some ⟨ocTooMany, odTooMany, .func (PySem.W.ksFn "__init__" qualTooMany paramsTooMany [.Expr (.Call (.Attribute (.Call (.Name "super" p0TooMany) [] [] p1TooMany) "__init__" p2TooMany) [.Name (Str.ofString "reason") n1TooMany] [] p3TooMany) p4TooMany, .Assign [.Attribute (.Name "self" q1TooMany) (Str.ofString "reason") q2TooMany] (.Name (Str.ofString "reason") q3TooMany) q4TooMany] scopeTooMany .none .none docTooMany pmTooMany anTooMany (.ref cdaTooMany) ctTooMany ccTooMany), oslTooMany⟩)
    (lcTooMany : K.lookup ccTooMany = some ⟨clTooMany, cldTooMany, .cell (some (.ref DTooMany)), cslTooMany⟩)
    (ldTooMany : K.lookup cdaTooMany = some ⟨cclTooMany, cddTooMany, .fields vsTooMany, ccsTooMany⟩)
    (hvTooMany : vsTooMany[2]? = some (.str fileTooMany tfTooMany))
    (hfTooMany : ((P.main.file : Str) == fileTooMany) = true)
    (suTooMany : PySem.W.ks_superIn K eTooMany DTooMany "__init__" = some (some (.builtin "ValueError.__init__")))
    (saTooMany : PySem.W.findIn K (.ref eTooMany) "__setattr__" = some (some (.builtin "object.__setattr__")))
    (no0TooMany : PySem.W.findIn K (.ref eTooMany) (Str.ofString "reason") = some none)
    (tITooMany : PySem.W.typeIn K (.ref fITooMany) = some (.type "function"))
    (kCTooMany : PySem.W.keepIn K (.ref eTooMany) = true)
    (eCTooMany : PySem.W.subIn K (.ref eTooMany) (.type "BaseException") = some true)
    (vCTooMany : PySem.W.subIn K (.ref eTooMany) (.type "ValueError") = some true)
    (tCTooMany : PySem.W.typeIn K (.ref eTooMany) = some (.type "type"))
    (sDTooMany : PySem.W.mroIn K eTooMany (.ref DTooMany) = some true)
    (iDTooMany : PySem.W.isClsIn K DTooMany = true)
    (cdTooMany : PySem.W.codeIn K (.ref cdaTooMany) qualTooMany = true)
    (STooMany : xscB scopeTooMany [(Str.ofString "reason")] = true)
    (harTooMany : (paramsTooMany.posonlyargs ++ paramsTooMany.args).head? = some arTooMany)
    (hsTooMany : arTooMany.arg = "self")
    (hpTooMany : (p2TooMany.endLine == p3TooMany.line) = true)
    (hbTooMany : ∀ (s : Shared) (x : Addr) (v : Value), BindsTo s (PySem.W.ksFn "__init__" qualTooMany paramsTooMany [.Expr (supE p0TooMany p1TooMany p2TooMany p3TooMany [.Name (Str.ofString "reason") n1TooMany]) p4TooMany, keepS (Str.ofString "reason") q1TooMany q2TooMany q3TooMany q4TooMany] scopeTooMany .none .none docTooMany pmTooMany anTooMany (.ref cdaTooMany) ctTooMany ccTooMany) ⟨[.ref x, v], []⟩ [("self", .ref x), ((Str.ofString "reason"), v)])
    (xLTextError : K.lookup eTextError = some (excClassObj nmTextError qTextError eTextError NTextError bsTextError bmTextError true snTextError subTextError abTextError colTextError ddTextError m0TextError m1TextError m2TextError m3TextError m5TextError "ValueError.__new__"))
    (xvTextError : PySem.HandSPX.refsVE bmTextError = true)
    (iCTextError : PySem.W.findIn K (.ref eTextError) "__init__" = some (some (.ref fITextError)))
    (lfTextError : K.lookup fITextError = some ⟨ocTextError, odTextError, .func (PySem.W.ksFn "__init__" qualTextError paramsTextError [.Expr (.Call (.Attribute (.Call (.Name "super" p0TextError) [] [] p1TextError) "__init__" p2TextError) [.Name (Str.ofString "at") n1TextError] [] p3TextError) p4TextError, .Assign [.Attribute (.Name "self" q1TextError) (Str.ofString "at") q2TextError] (.Name (Str.ofString "at") q3TextError) q4TextError] scopeTextError .none .none docTextError pmTextError anTextError (.ref cdaTextError) ctTextError ccTextError), oslTextError⟩)
    (lcTextError : K.lookup ccTextError = some ⟨clTextError, cldTextError, .cell (some (.ref DTextError)), cslTextError⟩)
    (ldTextError : K.lookup cdaTextError = some ⟨cclTextError, cddTextError, .fields vsTextError, ccsTextError⟩)
    (hvTextError : vsTextError[2]? = some (.str fileTextError tfTextError))
    (hfTextError : ((P.main.file : Str) == fileTextError) = true)
    (suTextError : PySem.W.ks_superIn K eTextError DTextError "__init__" = some (some (.builtin "ValueError.__init__")))
    (saTextError : PySem.W.findIn K (.ref eTextError) "__setattr__" = some (some (.builtin "object.__setattr__")))
    (no0TextError : PySem.W.findIn K (.ref eTextError) (Str.ofString "at") = some none)
    (tITextError : PySem.W.typeIn K (.ref fITextError) = some (.type "function"))
    (kCTextError : PySem.W.keepIn K (.ref eTextError) = true)
    (eCTextError : PySem.W.subIn K (.ref eTextError) (.type "BaseException") = some true)
    (vCTextError : PySem.W.subIn K (.ref eTextError) (.type "ValueError") = some true)
    (tCTextError : PySem.W.typeIn K (.ref eTextError) = some (.type "type"))
    (sDTextError : PySem.W.mroIn K eTextError (.ref DTextError) = some true)
    (iDTextError : PySem.W.isClsIn K DTextError = true)
    (cdTextError : PySem.W.codeIn K (.ref cdaTextError) qualTextError = true)
    (STextError : xscB scopeTextError [(Str.ofString "at")] = true)
    (harTextError : (paramsTextError.posonlyargs ++ paramsTextError.args).head? = some arTextError)
    (hsTextError : arTextError.arg = "self")
    (hpTextError : (p2TextError.endLine == p3TextError.line) = true)
    (hbTextError : ∀ (s : Shared) (x : Addr) (v : Value), BindsTo s (PySem.W.ksFn "__init__" qualTextError paramsTextError [.Expr (supE p0TextError p1TextError p2TextError p3TextError [.Name (Str.ofString "at") n1TextError]) p4TextError, keepS (Str.ofString "at") q1TextError q2TextError q3TextError q4TextError] scopeTextError .none .none docTextError pmTextError anTextError (.ref cdaTextError) ctTextError ccTextError) ⟨[.ref x, v], []⟩ [("self", .ref x), ((Str.ofString "at"), v)])
    (xLLogError : K.lookup eLogError = some (excClassObj nmLogError qLogError eLogError NLogError bsLogError bmLogError true snLogError subLogError abLogError colLogError ddLogError m0LogError m1LogError m2LogError m3LogError m5LogError "ValueError.__new__"))
    (xvLogError : PySem.HandSPX.refsVE bmLogError = true)
    (iCLogError : PySem.W.findIn K (.ref eLogError) "__init__" = some (some (.ref fILogError)))
    (lfLogError : K.lookup fILogError = some ⟨ocLogError, odLogError, .func (PySem.W.ksFn "__init__" qualLogError paramsLogError [.Expr (.Call (.Attribute (.Call (.Name "super" p0LogError) [] [] p1LogError) "__init__" p2LogError) [.Name (Str.ofString "number") n1LogError, .Name (Str.ofString "reason") n2LogError] [] p3LogError) p4LogError, .Assign [.Attribute (.Name "self" q1LogError) (Str.ofString "number") q2LogError] (.Name (Str.ofString "number") q3LogError) q4LogError, .Assign [.Attribute (.Name "self" r1LogError) (Str.ofString "reason") r2LogError] (.Name (Str.ofString "reason") r3LogError) r4LogError] scopeLogError .none .none docLogError pmLogError anLogError (.ref cdaLogError) ctLogError ccLogError), oslLogError⟩)
    (lcLogError : K.lookup ccLogError = some ⟨clLogError, cldLogError, .cell (some (.ref DLogError)), cslLogError⟩)
    (ldLogError : K.lookup cdaLogError = some ⟨cclLogError, cddLogError, .fields vsLogError, ccsLogError⟩)
    (hvLogError : vsLogError[2]? = some (.str fileLogError tfLogError))
    (hfLogError : ((P.main.file : Str) == fileLogError) = true)
    (suLogError : PySem.W.ks_superIn K eLogError DLogError "__init__" = some (some (.builtin "ValueError.__init__")))
    (saLogError : PySem.W.findIn K (.ref eLogError) "__setattr__" = some (some (.builtin "object.__setattr__")))
    (no0LogError : PySem.W.findIn K (.ref eLogError) (Str.ofString "number") = some none)
    (no1LogError : PySem.W.findIn K (.ref eLogError) (Str.ofString "reason") = some none)
    (tILogError : PySem.W.typeIn K (.ref fILogError) = some (.type "function"))
    (kCLogError : PySem.W.keepIn K (.ref eLogError) = true)
    (eCLogError : PySem.W.subIn K (.ref eLogError) (.type "BaseException") = some true)
    (vCLogError : PySem.W.subIn K (.ref eLogError) (.type "ValueError") = some true)
    (tCLogError : PySem.W.typeIn K (.ref eLogError) = some (.type "type"))
    (sDLogError : PySem.W.mroIn K eLogError (.ref DLogError) = some true)
    (iDLogError : PySem.W.isClsIn K DLogError = true)
    (cdLogError : PySem.W.codeIn K (.ref cdaLogError) qualLogError = true)
    (SLogError : xscB scopeLogError [(Str.ofString "number"), (Str.ofString "reason")] = true)
    (harLogError : (paramsLogError.posonlyargs ++ paramsLogError.args).head? = some arLogError)
    (hsLogError : arLogError.arg = "self")
    (hpLogError : (p2LogError.endLine == p3LogError.line) = true)
    (hbLogError : ∀ (s : Shared) (x : Addr) (v u : Value), BindsTo s (PySem.W.ksFn "__init__" qualLogError paramsLogError [.Expr (supE p0LogError p1LogError p2LogError p3LogError [.Name (Str.ofString "number") n1LogError, .Name (Str.ofString "reason") n2LogError]) p4LogError, keepS (Str.ofString "number") q1LogError q2LogError q3LogError q4LogError, keepS (Str.ofString "reason") r1LogError r2LogError r3LogError r4LogError] scopeLogError .none .none docLogError pmLogError anLogError (.ref cdaLogError) ctLogError ccLogError) ⟨[.ref x, v, u], []⟩ [("self", .ref x), ((Str.ofString "number"), v), ((Str.ofString "reason"), u)])
    (xLCommandError : K.lookup eCommandError = some (excClassObj nmCommandError qCommandError eCommandError NCommandError bsCommandError bmCommandError true snCommandError subCommandError abCommandError colCommandError ddCommandError m0CommandError m1CommandError m2CommandError m3CommandError m5CommandError "ValueError.__new__"))
    (xvCommandError : PySem.HandSPX.refsVE bmCommandError = true)
    (iCCommandError : PySem.W.findIn K (.ref eCommandError) "__init__" = some (some (.ref fICommandError)))
    (lfCommandError : K.lookup fICommandError = some ⟨ocCommandError, odCommandError, .func (PySem.W.ksFn "__init__" qualCommandError paramsCommandError [.Expr (.Call (.Attribute (.Call (.Name "super" p0CommandError) [] [] p1CommandError) "__init__" p2CommandError) [.Name (Str.ofString "line") n1CommandError] [] p3CommandError) p4CommandError, .Assign [.Attribute (.Name "self" q1CommandError) (Str.ofString "line") q2CommandError] (.Name (Str.ofString "line") q3CommandError) q4CommandError] scopeCommandError .none .none docCommandError pmCommandError anCommandError (.ref cdaCommandError) ctCommandError ccCommandError), oslCommandError⟩)
    (lcCommandError : K.lookup ccCommandError = some ⟨clCommandError, cldCommandError, .cell (some (.ref DCommandError)), cslCommandError⟩)
    (ldCommandError : K.lookup cdaCommandError = some ⟨cclCommandError, cddCommandError, .fields vsCommandError, ccsCommandError⟩)
    (hvCommandError : vsCommandError[2]? = some (.str fileCommandError tfCommandError))
    (hfCommandError : ((P.main.file : Str) == fileCommandError) = true)
    (suCommandError : PySem.W.ks_superIn K eCommandError DCommandError "__init__" = some (some (.builtin "ValueError.__init__")))
    (saCommandError : PySem.W.findIn K (.ref eCommandError) "__setattr__" = some (some (.builtin "object.__setattr__")))
    (no0CommandError : PySem.W.findIn K (.ref eCommandError) (Str.ofString "line") = some none)
    (tICommandError : PySem.W.typeIn K (.ref fICommandError) = some (.type "function"))
    (kCCommandError : PySem.W.keepIn K (.ref eCommandError) = true)
    (eCCommandError : PySem.W.subIn K (.ref eCommandError) (.type "BaseException") = some true)
    (vCCommandError : PySem.W.subIn K (.ref eCommandError) (.type "ValueError") = some true)
    (tCCommandError : PySem.W.typeIn K (.ref eCommandError) = some (.type "type"))
    (sDCommandError : PySem.W.mroIn K eCommandError (.ref DCommandError) = some true)
    (iDCommandError : PySem.W.isClsIn K DCommandError = true)
    (cdCommandError : PySem.W.codeIn K (.ref cdaCommandError) qualCommandError = true)
    (SCommandError : xscB scopeCommandError [(Str.ofString "line")] = true)
    (harCommandError : (paramsCommandError.posonlyargs ++ paramsCommandError.args).head? = some arCommandError)
    (hsCommandError : arCommandError.arg = "self")
    (hpCommandError : (p2CommandError.endLine == p3CommandError.line) = true)
    (hbCommandError : ∀ (s : Shared) (x : Addr) (v : Value), BindsTo s (PySem.W.ksFn "__init__" qualCommandError paramsCommandError [.Expr (supE p0CommandError p1CommandError p2CommandError p3CommandError [.Name (Str.ofString "line") n1CommandError]) p4CommandError, keepS (Str.ofString "line") q1CommandError q2CommandError q3CommandError q4CommandError] scopeCommandError .none .none docCommandError pmCommandError anCommandError (.ref cdaCommandError) ctCommandError ccCommandError) ⟨[.ref x, v], []⟩ [("self", .ref x), ((Str.ofString "line"), v)])
    (opq : PySem.W.nsIn K cStatics "thirdparty.any" = some none) (z_super : PySem.W.nsIn K mainGlobals "super" = some none) (topsup : (P.main.scope.names.lookup ("super" : Str)).isSome = false)
    (kn : knB K (⟨eFrameError, 0, eCheckError, eArgumentError, ePaperError, eTooMany, eSiteError, eTextError, eLogError, eCommandError⟩ : Xs) = true) :
    ∃ fd : FuncData, (∀ (s : Shared) (v : Value), BindsTo s fd ⟨[v], []⟩ [("script", v)]) ∧ ∀ base : Heap, K.In base → base.Ns mainGlobals mg → FnG P w K mg base 4 fa fd ["script"] sp_law := by
  have e := hfa.symm.trans (PySem.W.mg_of X G a10)
  cases e
  let c : Xs := ⟨eFrameError, 0, eCheckError, eArgumentError, ePaperError, eTooMany, eSiteError, eTextError, eLogError, eCommandError⟩
  have hK : Kn K c := kn_of kn
  have TArgumentError : XOk P K mg eArgumentError fIArgumentError DArgumentError ccArgumentError cdaArgumentError [(Str.ofString "reason")] := xok_mk X G xLArgumentError xvArgumentError suArgumentError saArgumentError (by intro f hf; simp only [List.mem_cons, List.not_mem_nil, or_false] at hf; subst hf; exact no0ArgumentError) iCArgumentError tIArgumentError kCArgumentError eCArgumentError vCArgumentError tCArgumentError sDArgumentError iDArgumentError lcArgumentError ldArgumentError hvArgumentError hfArgumentError opq z_super topsup
  have x_ArgumentError : XMk P w K mg c.ArgumentError [(Str.ofString "reason")] := xmk1 TArgumentError lfArgumentError cdArgumentError SArgumentError harArgumentError hsArgumentError (by decide) hpArgumentError hbArgumentError
  have TCheckError : XOk P K mg eCheckError fICheckError DCheckError ccCheckError cdaCheckError [(Str.ofString "reason")] := xok_mk X G xLCheckError xvCheckError suCheckError saCheckError (by intro f hf; simp only [List.mem_cons, List.not_mem_nil, or_false] at hf; subst hf; exact no0CheckError) iCCheckError tICheckError kCCheckError eCCheckError vCCheckError tCCheckError sDCheckError iDCheckError lcCheckError ldCheckError hvCheckError hfCheckError opq z_super topsup
  have x_CheckError : XMk P w K mg c.CheckError [(Str.ofString "reason")] := xmk1 TCheckError lfCheckError cdCheckError SCheckError harCheckError hsCheckError (by decide) hpCheckError hbCheckError
  have TPaperError : XOk P K mg ePaperError fIPaperError DPaperError ccPaperError cdaPaperError [(Str.ofString "reason")] := xok_mk X G xLPaperError xvPaperError suPaperError saPaperError (by intro f hf; simp only [List.mem_cons, List.not_mem_nil, or_false] at hf; subst hf; exact no0PaperError) iCPaperError tIPaperError kCPaperError eCPaperError vCPaperError tCPaperError sDPaperError iDPaperError lcPaperError ldPaperError hvPaperError hfPaperError opq z_super topsup
  have x_PaperError : XMk P w K mg c.PaperError [(Str.ofString "reason")] := xmk1 TPaperError lfPaperError cdPaperError SPaperError harPaperError hsPaperError (by decide) hpPaperError hbPaperError
  have TSiteError : XOk P K mg eSiteError fISiteError DSiteError ccSiteError cdaSiteError [(Str.ofString "reason")] := xok_mk X G xLSiteError xvSiteError suSiteError saSiteError (by intro f hf; simp only [List.mem_cons, List.not_mem_nil, or_false] at hf; subst hf; exact no0SiteError) iCSiteError tISiteError kCSiteError eCSiteError vCSiteError tCSiteError sDSiteError iDSiteError lcSiteError ldSiteError hvSiteError hfSiteError opq z_super topsup
  have x_SiteError : XMk P w K mg c.SiteError [(Str.ofString "reason")] := xmk1 TSiteError lfSiteError cdSiteError SSiteError harSiteError hsSiteError (by decide) hpSiteError hbSiteError
  have TTooMany : XOk P K mg eTooMany fITooMany DTooMany ccTooMany cdaTooMany [(Str.ofString "reason")] := xok_mk X G xLTooMany xvTooMany suTooMany saTooMany (by intro f hf; simp only [List.mem_cons, List.not_mem_nil, or_false] at hf; subst hf; exact no0TooMany) iCTooMany tITooMany kCTooMany eCTooMany vCTooMany tCTooMany sDTooMany iDTooMany lcTooMany ldTooMany hvTooMany hfTooMany opq z_super topsup
  have x_TooMany : XMk P w K mg c.TooMany [(Str.ofString "reason")] := xmk1 TTooMany lfTooMany cdTooMany STooMany harTooMany hsTooMany (by decide) hpTooMany hbTooMany
  have TTextError : XOk P K mg eTextError fITextError DTextError ccTextError cdaTextError [(Str.ofString "at")] := xok_mk X G xLTextError xvTextError suTextError saTextError (by intro f hf; simp only [List.mem_cons, List.not_mem_nil, or_false] at hf; subst hf; exact no0TextError) iCTextError tITextError kCTextError eCTextError vCTextError tCTextError sDTextError iDTextError lcTextError ldTextError hvTextError hfTextError opq z_super topsup
  have x_TextError : XMk P w K mg c.TextError [(Str.ofString "at")] := xmk1 TTextError lfTextError cdTextError STextError harTextError hsTextError (by decide) hpTextError hbTextError
  have TLogError : XOk P K mg eLogError fILogError DLogError ccLogError cdaLogError [(Str.ofString "number"), (Str.ofString "reason")] := xok_mk X G xLLogError xvLogError suLogError saLogError (by intro f hf; simp only [List.mem_cons, List.not_mem_nil, or_false] at hf; rcases hf with rfl | rfl; exact no0LogError; exact no1LogError) iCLogError tILogError kCLogError eCLogError vCLogError tCLogError sDLogError iDLogError lcLogError ldLogError hvLogError hfLogError opq z_super topsup
  have x_LogError : XMk P w K mg c.LogError [(Str.ofString "number"), (Str.ofString "reason")] := xmk2 TLogError lfLogError cdLogError SLogError harLogError hsLogError (by decide) (by decide) (by decide) hpLogError hbLogError
  have TCommandError : XOk P K mg eCommandError fICommandError DCommandError ccCommandError cdaCommandError [(Str.ofString "line")] := xok_mk X G xLCommandError xvCommandError suCommandError saCommandError (by intro f hf; simp only [List.mem_cons, List.not_mem_nil, or_false] at hf; subst hf; exact no0CommandError) iCCommandError tICommandError kCCommandError eCCommandError vCCommandError tCCommandError sDCommandError iDCommandError lcCommandError ldCommandError hvCommandError hfCommandError opq z_super topsup
  have x_CommandError : XMk P w K mg c.CommandError [(Str.ofString "line")] := xmk1 TCommandError lfCommandError cdCommandError SCommandError harCommandError hsCommandError (by decide) hpCommandError hbCommandError
  have F1 := fun_mk (st := st__law_draws) l1 c1 k1
  have b1 := F1.binds (ps := ["script"]) fun _ _ _ _ _ _ us hl => match us, hl with | [_], _ => rfl
  have F2 := fun_mk (st := st__law_more) l2 c2 k2
  have b2 := F2.binds (ps := ["draws", "place"]) fun _ _ _ _ _ _ us hl => match us, hl with | [_, _], _ => rfl
  have F3 := fun_mk (st := st__law_take) l3 c3 k3
  have b3 := F3.binds (ps := ["draws", "at", "many"]) fun _ _ _ _ _ _ us hl => match us, hl with | [_, _, _], _ => rfl
  have F4 := fun_mk (st := st__law_one) l4 c4 k4
  have b4 := F4.binds (ps := ["rows", "draws", "at"]) fun _ _ _ _ _ _ us hl => match us, hl with | [_, _, _], _ => rfl
  have F5 := fun_mk (st := st__law_limits_right) l5 c5 k5
  have b5 := F5.binds (ps := []) fun _ _ _ _ _ _ us hl => match us, hl with | [], _ => rfl
  have F6 := fun_mk (st := st__law_raise) l6 c6 k6
  have b6 := F6.binds (ps := ["k", "one", "other"]) fun _ _ _ _ _ _ us hl => match us, hl with | [_, _, _], _ => rfl
  have F7 := fun_mk (st := st__law_kinds) l7 c7 k7
  have b7 := F7.binds (ps := ["e"]) fun _ _ _ _ _ _ us hl => match us, hl with | [_], _ => rfl
  have F8 := fun_mk (st := st__law_caught) l8 c8 k8
  have b8 := F8.binds (ps := ["k", "one", "other"]) fun _ _ _ _ _ _ us hl => match us, hl with | [_, _, _], _ => rfl
  have F9 := fun_mk (st := st__law_fields) l9 c9 k9
  have b9 := F9.binds (ps := ["k", "one", "other"]) fun _ _ _ _ _ _ us hl => match us, hl with | [_, _, _], _ => rfl
  have F10 := fun_mk (st := st_law) l10 c10 k10
  refine ⟨PySem.W.fnOf "law" "law" (defArgs st_law) (defBody st_law) (defScope st_law) .none kV10 dc10 pm10 an10 cd10 ct10, fun s v => .of_eq rfl, fun base _ _ => ?_⟩
  have h__law_draws : Gas P w K mg base (Str.ofString "_law_draws") 1 ["script"] sp_draws := ⟨f1, _, PySem.W.mg_of X G a1, k1, b1, fn_g (mb := m__law_draws) F1 sc__law_draws (fun ds m R Z h => by obtain ⟨ns, rfl, _⟩ := h; rfl) (fun cdv A outer s H E hr => d__law_draws (PySem.W.mg_none_of X G z_abs) (PySem.W.mg_none_of X G z_int) (PySem.W.mg_none_of X G z_range) f1 cdv A outer s H E hr) (fun ds m R Z h => p_draws ds m R Z h)⟩
  have h__law_more : Gas P w K mg base (Str.ofString "_law_more") 1 ["draws", "place"] sp_more := ⟨f2, _, PySem.W.mg_of X G a2, k2, b2, fn_g (mb := m__law_more) F2 sc__law_more (fun ds m R Z h => by obtain ⟨l, q, rfl, _⟩ := h; rfl) (fun cdv A outer s H E hr => d__law_more (PySem.W.mg_none_of X G z_int) (PySem.W.mg_none_of X G z_len) (PySem.W.mg_none_of X G z_range) f2 cdv A outer s H E hr) (fun ds m R Z h => p_more ds m R Z h)⟩
  have h__law_take : Gas P w K mg base (Str.ofString "_law_take") 2 ["draws", "at", "many"] sp_take := ⟨f3, _, PySem.W.mg_of X G a3, k3, b3, fn_g (mb := m__law_take) F3 sc__law_take (fun ds m R Z h => by obtain ⟨l, p, q, n, rfl, _⟩ := h; rfl) (fun cdv A outer s H E hr => d__law_take h__law_more (PySem.W.mg_none_of X G z_int) (PySem.W.mg_none_of X G z_len) f3 cdv A outer s H E hr) (fun ds m R Z h => p_take ds m R Z h)⟩
  have h__law_one : Gas P w K mg base (Str.ofString "_law_one") 3 ["rows", "draws", "at"] sp_one := ⟨f4, _, PySem.W.mg_of X G a4, k4, b4, fn_g (mb := m__law_one) F4 sc__law_one (fun ds m R Z h => by obtain ⟨r, l, p, q, rfl, _⟩ := h; rfl) (fun cdv A outer s H E hr => d__law_one h__law_take (PySem.W.mg_none_of X G z_len) f4 cdv A outer s H E hr) (fun ds m R Z h => p_one ds m R Z h)⟩
  have h__law_limits_right : Gas P w K mg base (Str.ofString "_law_limits_right") 1 [] sp_limits := ⟨f5, _, PySem.W.mg_of X G a5, k5, b5, fn_g (mb := m__law_limits_right) F5 sc__law_limits_right (fun ds m R Z h => by obtain ⟨rfl, _⟩ := h; rfl) (fun cdv A outer s H E hr => d__law_limits_right (PySem.W.mg_none_of X G z_repr) (PySem.W.mg_of X G g_MAX_AWAY) (PySem.W.mg_of X G g_MAX_BARS) (PySem.W.mg_of X G g_MAX_BLOCKS) (PySem.W.mg_of X G g_MAX_BRACES) (PySem.W.mg_of X G g_MAX_CASES) (PySem.W.mg_of X G g_MAX_COST) (PySem.W.mg_of X G g_MAX_CRANES) (PySem.W.mg_of X G g_MAX_DEPTH) (PySem.W.mg_of X G g_MAX_DIGITS) (PySem.W.mg_of X G g_MAX_FORCE) (PySem.W.mg_of X G g_MAX_JOBS) (PySem.W.mg_of X G g_MAX_JOINTS) (PySem.W.mg_of X G g_MAX_KEPT) (PySem.W.mg_of X G g_MAX_LENGTH) (PySem.W.mg_of X G g_MAX_LIFTS) (PySem.W.mg_of X G g_MAX_LINES) (PySem.W.mg_of X G g_MAX_LOADS) (PySem.W.mg_of X G g_MAX_LOG) (PySem.W.mg_of X G g_MAX_NAME) (PySem.W.mg_of X G g_MAX_NUMBER) (PySem.W.mg_of X G g_MAX_PIECES) (PySem.W.mg_of X G g_MAX_PLACE) (PySem.W.mg_of X G g_MAX_PROPS) (PySem.W.mg_of X G g_MAX_ROWS) (PySem.W.mg_of X G g_MAX_SIDE) (PySem.W.mg_of X G g_MAX_STRONG) (PySem.W.mg_of X G g_MAX_TEXT) (PySem.W.mg_of X G g_MAX_VAULT) f5 cdv A outer s H E hr) (fun ds m R Z h => p_limits ds m R Z h)⟩
  have h__law_raise : Gas P w K mg base (Str.ofString "_law_raise") 2 ["k", "one", "other"] (sp_raise K c) := ⟨f6, _, PySem.W.mg_of X G a6, k6, b6, fn_g (mb := m__law_raise K c) F6 sc__law_raise (fun ds m R Z h => by obtain ⟨k, o, t, rfl, _⟩ := h; rfl) (fun cdv A outer s H E hr => d__law_raise c (PySem.W.mg_of X G g_ArgumentError) (PySem.W.mg_of X G g_CheckError) (PySem.W.mg_of X G g_CommandError) (PySem.W.mg_of X G g_LogError) (PySem.W.mg_of X G g_PaperError) (PySem.W.mg_of X G g_SiteError) (PySem.W.mg_of X G g_TextError) (PySem.W.mg_of X G g_TooMany) x_ArgumentError x_CheckError x_CommandError x_LogError x_PaperError x_SiteError x_TextError x_TooMany f6 cdv A outer s H E hr) (fun ds m R Z h => p_raise K c ds m R Z h)⟩
  have h__law_kinds : GasP P w K mg base (Str.ofString "_law_kinds") 1 ["e"] (sp_kinds K c) := ⟨f7, _, PySem.W.mg_of X G a7, k7, b7, fn_p (mb := m__law_kinds K c) F7 sc__law_kinds (fun a Ce dd ds m R Z h => by obtain ⟨i, ks, l, rfl, _⟩ := h; rfl) (fun cdv A outer s H p a Ce dd PX hr => d__law_kinds c (PySem.W.mg_none_of X G z_isinstance) (PySem.W.mg_of X G g_ArgumentError) (PySem.W.mg_of X G g_CheckError) (PySem.W.mg_of X G g_CommandError) (PySem.W.mg_of X G g_LogError) (PySem.W.mg_of X G g_PaperError) (PySem.W.mg_of X G g_SiteError) (PySem.W.mg_of X G g_TextError) (PySem.W.mg_of X G g_TooMany) f7 cdv A outer s H p a Ce dd PX hr) (fun a Ce dd ds m R Z h => p_kinds K c hK a Ce dd ds m R Z h)⟩
  have h__law_caught : Gas P w K mg base (Str.ofString "_law_caught") 3 ["k", "one", "other"] sp_caught := ⟨f8, _, PySem.W.mg_of X G a8, k8, b8, fn_g (mb := m__law_caught K c) F8 sc__law_caught (fun ds m R Z h => by obtain ⟨k, o, t, rfl, _⟩ := h; rfl) (fun cdv A outer s H E hr => d__law_caught c h__law_raise (PySem.W.mg_none_of X G z_ValueError) (PySem.W.mg_none_of X G z_isinstance) (PySem.W.mg_of X G g_FrameError) h__law_kinds f8 cdv A outer s H E hr) (fun ds m R Z h => p_caught K c hK ds m R Z h)⟩
  have h__law_fields : Gas P w K mg base (Str.ofString "_law_fields") 3 ["k", "one", "other"] sp_fields := ⟨f9, _, PySem.W.mg_of X G a9, k9, b9, fn_g (mb := m__law_fields K c) F9 sc__law_fields (fun ds m R Z h => by obtain ⟨k, o, t, rfl, _⟩ := h; rfl) (fun cdv A outer s H E hr => d__law_fields c h__law_raise (PySem.W.mg_of X G g_ArgumentError) (PySem.W.mg_of X G g_CheckError) (PySem.W.mg_of X G g_CommandError) (PySem.W.mg_of X G g_LogError) (PySem.W.mg_of X G g_PaperError) (PySem.W.mg_of X G g_SiteError) (PySem.W.mg_of X G g_TextError) (PySem.W.mg_of X G g_TooMany) f9 cdv A outer s H E hr) (fun ds m R Z h => p_fields K c hK ds m R Z h)⟩
  exact fn_g (mb := m_law) F10 sc_law (fun ds m R Z h => by obtain ⟨ns, rfl, _⟩ := h; rfl) (fun cdv A outer s H E hr => d_law h__law_caught h__law_draws h__law_fields h__law_limits_right h__law_one (PySem.W.mg_none_of X G z_range) (PySem.W.mg_none_of X G z_repr) fa cdv A outer s H E hr) (fun ds m R Z h => p_law ds m R Z h)
end K00

open PySem PySem.W PyProof.Rows
set_option maxHeartbeats 0
theorem PySem.Challenge.cw_standsfirm_k00_errors_and_limits_holds : PySem.Challenge.rw_standsfirm_k00_errors_and_limits.Holds := by
  w_on; o_law; k_head; (case hw => w_witness2)
  k_fill
  refine Sf.walk_gK (l := PySem.Challenge.rw_standsfirm_k00_errors_and_limits) (n := 63) (k := 4) (x := "script") (sp := K00.sp_law) rfl (by decide) rfl ⟨rfl, by decide, by decide⟩ (by decide +kernel) rfl (fun w h Y => PySem.W.kIn_of Y) ?F (fun ns hl hb => K00.go ns hb)
  case F =>
    intro w mg fa h KX G hmg
    refine' K00.all_mk KX G hmg ?a1 ?l1 ?c1 ?k1 ?a2 ?l2 ?c2 ?k2 ?a3 ?l3 ?c3 ?k3 ?a4 ?l4 ?c4 ?k4 ?a5 ?l5 ?c5 ?k5 ?a6 ?l6 ?c6 ?k6 ?a7 ?l7 ?c7 ?k7 ?a8 ?l8 ?c8 ?k8 ?a9 ?l9 ?c9 ?k9 ?a10 ?l10 ?c10 ?k10 ?z_ValueError ?z_abs ?z_int ?z_isinstance ?z_len ?z_range ?z_repr ?g_MAX_AWAY ?g_MAX_BARS ?g_MAX_BLOCKS ?g_MAX_BRACES ?g_MAX_CASES ?g_MAX_COST ?g_MAX_CRANES ?g_MAX_DEPTH ?g_MAX_DIGITS ?g_MAX_FORCE ?g_MAX_JOBS ?g_MAX_JOINTS ?g_MAX_KEPT ?g_MAX_LENGTH ?g_MAX_LIFTS ?g_MAX_LINES ?g_MAX_LOADS ?g_MAX_LOG ?g_MAX_NAME ?g_MAX_NUMBER ?g_MAX_PIECES ?g_MAX_PLACE ?g_MAX_PROPS ?g_MAX_ROWS ?g_MAX_SIDE ?g_MAX_STRONG ?g_MAX_TEXT ?g_MAX_VAULT ?g_FrameError ?g_CheckError ?g_ArgumentError ?g_PaperError ?g_TooMany ?g_SiteError ?g_TextError ?g_LogError ?g_CommandError ?xLArgumentError ?xvArgumentError ?iCArgumentError ?lfArgumentError ?lcArgumentError ?ldArgumentError ?hvArgumentError ?hfArgumentError ?suArgumentError ?saArgumentError ?no0ArgumentError ?tIArgumentError ?kCArgumentError ?eCArgumentError ?vCArgumentError ?tCArgumentError ?sDArgumentError ?iDArgumentError ?cdArgumentError ?SArgumentError ?harArgumentError ?hsArgumentError ?hpArgumentError ?hbArgumentError ?xLCheckError ?xvCheckError ?iCCheckError ?lfCheckError ?lcCheckError ?ldCheckError ?hvCheckError ?hfCheckError ?suCheckError ?saCheckError ?no0CheckError ?tICheckError ?kCCheckError ?eCCheckError ?vCCheckError ?tCCheckError ?sDCheckError ?iDCheckError ?cdCheckError ?SCheckError ?harCheckError ?hsCheckError ?hpCheckError ?hbCheckError ?xLPaperError ?xvPaperError ?iCPaperError ?lfPaperError ?lcPaperError ?ldPaperError ?hvPaperError ?hfPaperError ?suPaperError ?saPaperError ?no0PaperError ?tIPaperError ?kCPaperError ?eCPaperError ?vCPaperError ?tCPaperError ?sDPaperError ?iDPaperError ?cdPaperError ?SPaperError ?harPaperError ?hsPaperError ?hpPaperError ?hbPaperError ?xLSiteError ?xvSiteError ?iCSiteError ?lfSiteError ?lcSiteError ?ldSiteError ?hvSiteError ?hfSiteError ?suSiteError ?saSiteError ?no0SiteError ?tISiteError ?kCSiteError ?eCSiteError ?vCSiteError ?tCSiteError ?sDSiteError ?iDSiteError ?cdSiteError ?SSiteError ?harSiteError ?hsSiteError ?hpSiteError ?hbSiteError ?xLTooMany ?xvTooMany ?iCTooMany ?lfTooMany ?lcTooMany ?ldTooMany ?hvTooMany ?hfTooMany ?suTooMany ?saTooMany ?no0TooMany ?tITooMany ?kCTooMany ?eCTooMany ?vCTooMany ?tCTooMany ?sDTooMany ?iDTooMany ?cdTooMany ?STooMany ?harTooMany ?hsTooMany ?hpTooMany ?hbTooMany ?xLTextError ?xvTextError ?iCTextError ?lfTextError ?lcTextError ?ldTextError ?hvTextError ?hfTextError ?suTextError ?saTextError ?no0TextError ?tITextError ?kCTextError ?eCTextError ?vCTextError ?tCTextError ?sDTextError ?iDTextError ?cdTextError ?STextError ?harTextError ?hsTextError ?hpTextError ?hbTextError ?xLLogError ?xvLogError ?iCLogError ?lfLogError ?lcLogError ?ldLogError ?hvLogError ?hfLogError ?suLogError ?saLogError ?no0LogError ?no1LogError ?tILogError ?kCLogError ?eCLogError ?vCLogError ?tCLogError ?sDLogError ?iDLogError ?cdLogError ?SLogError ?harLogError ?hsLogError ?hpLogError ?hbLogError ?xLCommandError ?xvCommandError ?iCCommandError ?lfCommandError ?lcCommandError ?ldCommandError ?hvCommandError ?hfCommandError ?suCommandError ?saCommandError ?no0CommandError ?tICommandError ?kCCommandError ?eCCommandError ?vCCommandError ?tCCommandError ?sDCommandError ?iDCommandError ?cdCommandError ?SCommandError ?harCommandError ?hsCommandError ?hpCommandError ?hbCommandError ?opq ?z_super ?topsup ?kn
    (case a1 => k_is)
    (case l1 => k_is)
    (case c1 => k_is)
    (case k1 => k_is)
    (case a2 => k_is)
    (case l2 => k_is)
    (case c2 => k_is)
    (case k2 => k_is)
    (case a3 => k_is)
    (case l3 => k_is)
    (case c3 => k_is)
    (case k3 => k_is)
    (case a4 => k_is)
    (case l4 => k_is)
    (case c4 => k_is)
    (case k4 => k_is)
    (case a5 => k_is)
    (case l5 => k_is)
    (case c5 => k_is)
    (case k5 => k_is)
    (case a6 => k_is)
    (case l6 => k_is)
    (case c6 => k_is)
    (case k6 => k_is)
    (case a7 => k_is)
    (case l7 => k_is)
    (case c7 => k_is)
    (case k7 => k_is)
    (case a8 => k_is)
    (case l8 => k_is)
    (case c8 => k_is)
    (case k8 => k_is)
    (case a9 => k_is)
    (case l9 => k_is)
    (case c9 => k_is)
    (case k9 => k_is)
    (case a10 => k_is)
    (case l10 => k_is)
    (case c10 => k_is)
    (case k10 => k_is)
    (case z_ValueError => k_is)
    (case z_abs => k_is)
    (case z_int => k_is)
    (case z_isinstance => k_is)
    (case z_len => k_is)
    (case z_range => k_is)
    (case z_repr => k_is)
    (case g_MAX_AWAY => k_is)
    (case g_MAX_BARS => k_is)
    (case g_MAX_BLOCKS => k_is)
    (case g_MAX_BRACES => k_is)
    (case g_MAX_CASES => k_is)
    (case g_MAX_COST => k_is)
    (case g_MAX_CRANES => k_is)
    (case g_MAX_DEPTH => k_is)
    (case g_MAX_DIGITS => k_is)
    (case g_MAX_FORCE => k_is)
    (case g_MAX_JOBS => k_is)
    (case g_MAX_JOINTS => k_is)
    (case g_MAX_KEPT => k_is)
    (case g_MAX_LENGTH => k_is)
    (case g_MAX_LIFTS => k_is)
    (case g_MAX_LINES => k_is)
    (case g_MAX_LOADS => k_is)
    (case g_MAX_LOG => k_is)
    (case g_MAX_NAME => k_is)
    (case g_MAX_NUMBER => k_is)
    (case g_MAX_PIECES => k_is)
    (case g_MAX_PLACE => k_is)
    (case g_MAX_PROPS => k_is)
    (case g_MAX_ROWS => k_is)
    (case g_MAX_SIDE => k_is)
    (case g_MAX_STRONG => k_is)
    (case g_MAX_TEXT => k_is)
    (case g_MAX_VAULT => k_is)
    (case g_FrameError => k_is)
    (case g_CheckError => k_is)
    (case g_ArgumentError => k_is)
    (case g_PaperError => k_is)
    (case g_TooMany => k_is)
    (case g_SiteError => k_is)
    (case g_TextError => k_is)
    (case g_LogError => k_is)
    (case g_CommandError => k_is)
    (case xLArgumentError => k_is)
    (case xvArgumentError => decide +kernel)
    (case iCArgumentError => k_is)
    (case lfArgumentError => k_is)
    (case lcArgumentError => k_is)
    (case ldArgumentError => k_is)
    (case hvArgumentError => rfl)
    (case hfArgumentError => decide +kernel)
    (case suArgumentError => first | rfl | kernel_rfl | decide +kernel)
    (case saArgumentError => k_is)
    (case no0ArgumentError => k_is)
    (case tIArgumentError => k_is)
    (case kCArgumentError => k_is)
    (case eCArgumentError => k_is)
    (case vCArgumentError => k_is)
    (case tCArgumentError => k_is)
    (case sDArgumentError => k_is)
    (case iDArgumentError => k_is)
    (case cdArgumentError => k_is)
    (case SArgumentError => decide +kernel)
    (case harArgumentError => rfl)
    (case hsArgumentError => rfl)
    (case hpArgumentError => rfl)
    (case hbArgumentError => exact fun s x v => .of_eq rfl)
    (case xLCheckError => k_is)
    (case xvCheckError => decide +kernel)
    (case iCCheckError => k_is)
    (case lfCheckError => k_is)
    (case lcCheckError => k_is)
    (case ldCheckError => k_is)
    (case hvCheckError => rfl)
    (case hfCheckError => decide +kernel)
    (case suCheckError => first | rfl | kernel_rfl | decide +kernel)
    (case saCheckError => k_is)
    (case no0CheckError => k_is)
    (case tICheckError => k_is)
    (case kCCheckError => k_is)
    (case eCCheckError => k_is)
    (case vCCheckError => k_is)
    (case tCCheckError => k_is)
    (case sDCheckError => k_is)
    (case iDCheckError => k_is)
    (case cdCheckError => k_is)
    (case SCheckError => decide +kernel)
    (case harCheckError => rfl)
    (case hsCheckError => rfl)
    (case hpCheckError => rfl)
    (case hbCheckError => exact fun s x v => .of_eq rfl)
    (case xLPaperError => k_is)
    (case xvPaperError => decide +kernel)
    (case iCPaperError => k_is)
    (case lfPaperError => k_is)
    (case lcPaperError => k_is)
    (case ldPaperError => k_is)
    (case hvPaperError => rfl)
    (case hfPaperError => decide +kernel)
    (case suPaperError => first | rfl | kernel_rfl | decide +kernel)
    (case saPaperError => k_is)
    (case no0PaperError => k_is)
    (case tIPaperError => k_is)
    (case kCPaperError => k_is)
    (case eCPaperError => k_is)
    (case vCPaperError => k_is)
    (case tCPaperError => k_is)
    (case sDPaperError => k_is)
    (case iDPaperError => k_is)
    (case cdPaperError => k_is)
    (case SPaperError => decide +kernel)
    (case harPaperError => rfl)
    (case hsPaperError => rfl)
    (case hpPaperError => rfl)
    (case hbPaperError => exact fun s x v => .of_eq rfl)
    (case xLSiteError => k_is)
    (case xvSiteError => decide +kernel)
    (case iCSiteError => k_is)
    (case lfSiteError => k_is)
    (case lcSiteError => k_is)
    (case ldSiteError => k_is)
    (case hvSiteError => rfl)
    (case hfSiteError => decide +kernel)
    (case suSiteError => first | rfl | kernel_rfl | decide +kernel)
    (case saSiteError => k_is)
    (case no0SiteError => k_is)
    (case tISiteError => k_is)
    (case kCSiteError => k_is)
    (case eCSiteError => k_is)
    (case vCSiteError => k_is)
    (case tCSiteError => k_is)
    (case sDSiteError => k_is)
    (case iDSiteError => k_is)
    (case cdSiteError => k_is)
    (case SSiteError => decide +kernel)
    (case harSiteError => rfl)
    (case hsSiteError => rfl)
    (case hpSiteError => rfl)
    (case hbSiteError => exact fun s x v => .of_eq rfl)
    (case xLTooMany => k_is)
    (case xvTooMany => decide +kernel)
    (case iCTooMany => k_is)
    (case lfTooMany => k_is)
    (case lcTooMany => k_is)
    (case ldTooMany => k_is)
    (case hvTooMany => rfl)
    (case hfTooMany => decide +kernel)
    (case suTooMany => first | rfl | kernel_rfl | decide +kernel)
    (case saTooMany => k_is)
    (case no0TooMany => k_is)
    (case tITooMany => k_is)
    (case kCTooMany => k_is)
    (case eCTooMany => k_is)
    (case vCTooMany => k_is)
    (case tCTooMany => k_is)
    (case sDTooMany => k_is)
    (case iDTooMany => k_is)
    (case cdTooMany => k_is)
    (case STooMany => decide +kernel)
    (case harTooMany => rfl)
    (case hsTooMany => rfl)
    (case hpTooMany => rfl)
    (case hbTooMany => exact fun s x v => .of_eq rfl)
    (case xLTextError => k_is)
    (case xvTextError => decide +kernel)
    (case iCTextError => k_is)
    (case lfTextError => k_is)
    (case lcTextError => k_is)
    (case ldTextError => k_is)
    (case hvTextError => rfl)
    (case hfTextError => decide +kernel)
    (case suTextError => first | rfl | kernel_rfl | decide +kernel)
    (case saTextError => k_is)
    (case no0TextError => k_is)
    (case tITextError => k_is)
    (case kCTextError => k_is)
    (case eCTextError => k_is)
    (case vCTextError => k_is)
    (case tCTextError => k_is)
    (case sDTextError => k_is)
    (case iDTextError => k_is)
    (case cdTextError => k_is)
    (case STextError => decide +kernel)
    (case harTextError => rfl)
    (case hsTextError => rfl)
    (case hpTextError => rfl)
    (case hbTextError => exact fun s x v => .of_eq rfl)
    (case xLLogError => k_is)
    (case xvLogError => decide +kernel)
    (case iCLogError => k_is)
    (case lfLogError => k_is)
    (case lcLogError => k_is)
    (case ldLogError => k_is)
    (case hvLogError => rfl)
    (case hfLogError => decide +kernel)
    (case suLogError => first | rfl | kernel_rfl | decide +kernel)
    (case saLogError => k_is)
    (case no0LogError => k_is)
    (case no1LogError => k_is)
    (case tILogError => k_is)
    (case kCLogError => k_is)
    (case eCLogError => k_is)
    (case vCLogError => k_is)
    (case tCLogError => k_is)
    (case sDLogError => k_is)
    (case iDLogError => k_is)
    (case cdLogError => k_is)
    (case SLogError => decide +kernel)
    (case harLogError => rfl)
    (case hsLogError => rfl)
    (case hpLogError => rfl)
    (case hbLogError => exact fun s x v u => .of_eq rfl)
    (case xLCommandError => k_is)
    (case xvCommandError => decide +kernel)
    (case iCCommandError => k_is)
    (case lfCommandError => k_is)
    (case lcCommandError => k_is)
    (case ldCommandError => k_is)
    (case hvCommandError => rfl)
    (case hfCommandError => decide +kernel)
    (case suCommandError => first | rfl | kernel_rfl | decide +kernel)
    (case saCommandError => k_is)
    (case no0CommandError => k_is)
    (case tICommandError => k_is)
    (case kCCommandError => k_is)
    (case eCCommandError => k_is)
    (case vCCommandError => k_is)
    (case tCCommandError => k_is)
    (case sDCommandError => k_is)
    (case iDCommandError => k_is)
    (case cdCommandError => k_is)
    (case SCommandError => decide +kernel)
    (case harCommandError => rfl)
    (case hsCommandError => rfl)
    (case hpCommandError => rfl)
    (case hbCommandError => exact fun s x v => .of_eq rfl)
    (case opq => k_is)
    (case z_super => k_is)
    (case topsup => decide +kernel)
    (case kn => first | k_is | decide +kernel | rfl)

