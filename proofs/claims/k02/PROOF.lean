import PyProof.Rows.All
import Wide.All
import OpenK.AllK
import Wide.FinOn
import HandS.ForMost
import HandS.AnyAll
import HandS.Exc
import HandS.ExcInit
import HandS.WordsExc
import HandS.Lambda
import HandS.CallSlots
import HandS.MakeKwOnly
import HandS.Wide
import HandS.IsInst
import HandS.TupAny
import HandS.Flow
import HandS.GenList
import HandS.DictComp
import HandS.Zip
import HandS.Iter
import HandS.NoneIn
import KE.KEqNest
import PyProof.NeKinds
import HandS.Text
import HandS.Conv
import HandS.More
import HandS.Codes
import HandS.Rev
import HandS.Dict
import HandS.FStr
import PyProof.Rows.TmSorted
import HandS.Style
import HandS.WideBits
import PyProof.ReprRoads
import HandS.EndTab
import HandS.Finally
import HandS.MakeKw
import HandS.Property
import HandS.Defaults
import HandS.StrMore
import HandS.RaiseMore
import HandS.ExcIs
import PyProof.Rows.StrPadFill
import PyProof.Rows.StrPadWhole
import HandS.SortKw
import KE.KSortKeyAny
import PyProof.DictUpdate
import HandS.TryMany
import HandS.ExcField
import HandS.OwnEq
import PyProof.InstNe
import PyProof.Rows.EqNone
import PyProof.Rows.FloatCmp
import HandS.ListItems
import KE.KDictList
import KE.KCallOwn
import HandS.Records
import HandS.Evl
import KE.GoesEnum
import KE.GoesMore
import PyProof.StrBlock2
import PySem.Challenge.RW_cuetrack_k02_cue_numbers_as_texts
set_option Elab.async false
set_option linter.all false
set_option maxRecDepth 100000
set_option autoImplicit false
/-! DL1: Python data as trees, what is shared and what is owned, the state of a def's frame. -/
namespace DL
open PySem PySem.Spec PyProof.Rows L2
/-- strictly kept -/
def Gr (S S' : Hp) : Prop := ∀ a u, S a = some u → S' a = some u
abbrev Sub (S H : Hp) : Prop := Gr S H
/-- kept; a dict may be locked behind it, for good -/
def Ex (S S' : Hp) : Prop := ∀ a u, S a = some u → S' a = some u ∨ ∃ kvs o, u = .dK kvs ∧ S' a = some (.frz o u)
/-- what holds of the shadow, and stays so -/
structure Gho where
  p : Hp → Prop
  mono : ∀ S S', Ex S S' → p S → p S'
inductive D where
  | non | bl (b : Bool) | int (i : Int) | str (x : Str)
  | lst (xs : List D) | tup (xs : List D) | dct (kds : List (Key × D))
  | ins (c : Str) (fs : List (Str × D))
  | exn (c : Str) (fs : List (Str × D))
  /-- the object that the label n names, and what is known of it -/
  | lab (n : Nat) (d : D)
  /-- nothing is known -/
  | any
  /-- the law's own script -/
  | scr (ns : List Int)
  | op (v : V)
  /-- the value v, and what is known besides -/
  | gh (v : V) (F : Gho)
/-- what is fixed through a law: the written part, the classes by name, the tables of code objects -/
structure Gb where
  K : PySem.W.Frag
  cn : Str → Addr
  tb : List Addr
  /-- the name of the code objects that such a table tells, where it is asked for -/
  nm : Addr → Option Str
  /-- what the labels name -/
  lb : Nat → Addr
theorem Gr.refl (S : Hp) : Gr S S := fun _ _ h => h
theorem Gr.trans {S S1 S2 : Hp} (a : Gr S S1) (b : Gr S1 S2) : Gr S S2 := fun x u h => b x u (a x u h)
theorem Gr.new {H : Hp} {p : Addr} {o : HO} (h : H p = none) : Gr H (upd H p o) := fun a u e => by
  rw [upd_ne (ne_of_none e h)]
  exact e
theorem Gr.rd {S S' : Hp} (e : Gr S S') {a : Addr} {u : HO} (h : Rd S a u) : Rd S' a u := by
  rcases h with h | ⟨o, h⟩
  · exact .inl (e _ _ h)
  · exact .inr ⟨o, e _ _ h⟩
theorem Gr.sqT {K : PySem.W.Frag} {S S' : Hp} (e : Gr S S') {a : Addr} {xs : List V} (h : SqT K S a xs) : SqT K S' a xs := by
  rcases h with h | h
  · exact .inl (e.rd h)
  · exact .inr h
theorem Gr.sqL {K : PySem.W.Frag} {S S' : Hp} (e : Gr S S') {a : Addr} {xs : List V} (h : SqL K S a xs) : SqL K S' a xs := by
  rcases h with h | h
  · exact .inl (e.rd h)
  · exact .inr h
theorem Gr.lst {S H : Hp} (h : Gr S H) {a : Addr} {xs : List V} (q : S a = some (.lst xs)) : H a = some (.lst xs) := h _ _ q
theorem Gr.none {S H : Hp} (e : Gr S H) {a : Addr} (h : H a = none) : S a = none := by
  cases q : S a with
  | none => rfl
  | some u => rw [e a u q] at h; cases h
theorem Gr.ex {S S' : Hp} (e : Gr S S') : Ex S S' := fun a u h => .inl (e a u h)
theorem Ex.refl (S : Hp) : Ex S S := fun _ _ h => .inl h
theorem Ex.trans {S S1 S2 : Hp} (a : Ex S S1) (b : Ex S1 S2) : Ex S S2 := fun x u h => by
  rcases a x u h with q | ⟨kvs, o, z, q⟩
  · exact b x u q
  · rcases b x _ q with q2 | ⟨_, _, z2, _⟩
    · exact .inr ⟨kvs, o, z, q2⟩
    · cases z2
theorem Ex.new {H : Hp} {p : Addr} {o : HO} (h : H p = none) : Ex H (upd H p o) := (Gr.new h).ex
theorem Ex.at {S H : Hp} (h : Ex S H) {a : Addr} {u : HO} (q : S a = some u) (n : ∀ kvs, u ≠ .dK kvs := by intro _ z; cases z) : H a = some u := (h a u q).elim id fun ⟨kvs, _, z, _⟩ => (n kvs z).elim
theorem Ex.rd {S H : Hp} (h : Ex S H) {a : Addr} {u : HO} (q : Rd S a u) : Rd H a u := by
  rcases q with q | ⟨o, q⟩
  · exact (h a u q).elim .inl fun ⟨kvs, o, z, w⟩ => .inr ⟨o, w⟩
  · exact .inr ⟨o, h.at q⟩
theorem Ex.sqT {K : PySem.W.Frag} {S S' : Hp} (e : Ex S S') {a : Addr} {xs : List V} (h : SqT K S a xs) : SqT K S' a xs := by
  rcases h with h | h
  · exact .inl (e.rd h)
  · exact .inr h
theorem Ex.sqL {K : PySem.W.Frag} {S S' : Hp} (e : Ex S S') {a : Addr} {xs : List V} (h : SqL K S a xs) : SqL K S' a xs := by
  rcases h with h | h
  · exact .inl (e.rd h)
  · exact .inr h
theorem Ex.lst {S H : Hp} (h : Ex S H) {a : Addr} {xs : List V} (q : S a = some (.lst xs)) : H a = some (.lst xs) := h.at q
theorem Ex.none {S S' : Hp} (e : Ex S S') {a : Addr} (h : S' a = none) : S a = none := by
  cases q : S a with
  | none => rfl
  | some u => rcases e a u q with z | ⟨_, _, _, z⟩ <;> (rw [h] at z; cases z)
mutual
def Rep (g : Gb) (S : Hp) : D → V → Prop
  | .non, v => v = .non
  | .bl b, v => v = .bl b
  | .int i, v => v = .int i
  | .str x, v => v = .str x
  | .lst ds, v => ∃ a vs, v = .ref a ∧ S a = some (.lst vs) ∧ Reps g S ds vs
  | .tup ds, v => ∃ a vs, v = .ref a ∧ SqT g.K S a vs ∧ Reps g S ds vs
  | .dct kds, v => ∃ a kvs, v = .ref a ∧ Rd S a (.dK kvs) ∧ RepK g S kds kvs
  | .ins c fs, v => ∃ a dx fvs, v = .ref a ∧ S a = some (.ins (g.cn c) dx fvs) ∧ S dx = some (.own a) ∧ RepF g S fs fvs
  | .exn c fs, v => ∃ a dx fvs, v = .ref a ∧ S a = some (exo a (g.cn c) (some dx)) ∧ S dx = some (exd dx fvs) ∧ RepF g S fs fvs
  | .lab n d, v => v = .ref (g.lb n) ∧ Rep g S d v
  | .any, _ => True
  | .scr ns, v => ∃ a, v = .ref a ∧ SqL g.K S a (ns.map V.int)
  | .op u, v => v = u
  | .gh u F, v => v = u ∧ F.p S
def Reps (g : Gb) (S : Hp) : List D → List V → Prop
  | [], vs => vs = []
  | d :: ds, vs => ∃ v r, vs = v :: r ∧ Rep g S d v ∧ Reps g S ds r
def RepK (g : Gb) (S : Hp) : List (Key × D) → List (Key × V) → Prop
  | [], vs => vs = []
  | (k, d) :: ds, vs => ∃ v r, vs = (k, v) :: r ∧ Rep g S d v ∧ RepK g S ds r
def RepF (g : Gb) (S : Hp) : List (Str × D) → List (Str × V) → Prop
  | [], vs => vs = []
  | (k, d) :: ds, vs => ∃ v r, vs = (k, v) :: r ∧ Rep g S d v ∧ RepF g S ds r
end
mutual
theorem Rep.mono {g : Gb} {S S' : Hp} (h : Ex S S') : ∀ (d : D) v, Rep g S d v → Rep g S' d v
  | .non, _, r => r
  | .bl _, _, r => r
  | .int _, _, r => r
  | .str _, _, r => r
  | .lst ds, _, ⟨a, vs, e, q, b⟩ => ⟨a, vs, e, h.lst q, Reps.mono h ds vs b⟩
  | .tup ds, _, ⟨a, vs, e, q, b⟩ => ⟨a, vs, e, h.sqT q, Reps.mono h ds vs b⟩
  | .dct ds, _, ⟨a, vs, e, q, b⟩ => ⟨a, vs, e, h.rd q, RepK.mono h ds vs b⟩
  | .ins _ ds, _, ⟨a, dx, vs, e, q, q2, b⟩ => ⟨a, dx, vs, e, h.at q, h.at q2, RepF.mono h ds vs b⟩
  | .exn _ ds, _, ⟨a, dx, vs, e, q, q2, b⟩ => ⟨a, dx, vs, e, h.at q, h.at q2, RepF.mono h ds vs b⟩
  | .lab _ d, v, ⟨e, b⟩ => ⟨e, Rep.mono h d v b⟩
  | .any, _, r => r
  | .scr _, _, ⟨a, e, q⟩ => ⟨a, e, h.sqL q⟩
  | .op _, _, r => r
  | .gh _ F, _, ⟨e, r⟩ => ⟨e, F.mono _ _ h r⟩
theorem Reps.mono {g : Gb} {S S' : Hp} (h : Ex S S') : ∀ (d : List D) v, Reps g S d v → Reps g S' d v
  | [], _, r => r
  | d :: ds, _, ⟨v, r, e, a, b⟩ => ⟨v, r, e, Rep.mono h d v a, Reps.mono h ds r b⟩
theorem RepK.mono {g : Gb} {S S' : Hp} (h : Ex S S') : ∀ (d : List (Key × D)) v, RepK g S d v → RepK g S' d v
  | [], _, r => r
  | (_, d) :: ds, _, ⟨v, r, e, a, b⟩ => ⟨v, r, e, Rep.mono h d v a, RepK.mono h ds r b⟩
theorem RepF.mono {g : Gb} {S S' : Hp} (h : Ex S S') : ∀ (d : List (Str × D)) v, RepF g S d v → RepF g S' d v
  | [], _, r => r
  | (_, d) :: ds, _, ⟨v, r, e, a, b⟩ => ⟨v, r, e, Rep.mono h d v a, RepF.mono h ds r b⟩
end
section
variable {g : Gb} {S H : Hp}
theorem Reps.len : ∀ {ds : List D} {vs : List V}, Reps g S ds vs → vs.length = ds.length
  | [], _, r => by have e : _ = [] := r; rw [e]; rfl
  | d :: ds, _, ⟨v, r, e, _, b⟩ => by rw [e, List.length_cons, List.length_cons, Reps.len b]
theorem Reps.get : ∀ {ds : List D} {vs : List V} {i : Nat} {d : D}, Reps g S ds vs → ds[i]? = some d → ∃ v, vs[i]? = some v ∧ Rep g S d v
  | [], _, _, _, _, e => by simp at e
  | d :: ds, _, 0, _, ⟨v, r, e, a, _⟩, h => by
    have h' : d = _ := Option.some.inj (by simpa using h)
    subst h'
    exact ⟨v, by rw [e]; rfl, a⟩
  | d :: ds, _, i + 1, _, ⟨v, r, e, _, b⟩, h => by
    obtain ⟨v', h1, h2⟩ := Reps.get (i := i) b (by simpa using h)
    exact ⟨v', by rw [e]; simpa using h1, h2⟩
theorem Reps.getV : ∀ {ds : List D} {vs : List V} {i : Nat} {v : V}, Reps g S ds vs → vs[i]? = some v → ∃ d, ds[i]? = some d ∧ Rep g S d v := fun {ds vs i v} r h => by
  have hl := r.len
  have hi := (List.getElem?_eq_some_iff.mp h).1
  obtain ⟨v', h1, h2⟩ := r.get (i := i) (d := ds[i]'(by omega)) (List.getElem?_eq_getElem _)
  rw [h] at h1
  cases h1
  exact ⟨_, List.getElem?_eq_getElem _, h2⟩
theorem Reps.append : ∀ {ds es : List D} {vs us : List V}, Reps g S ds vs → Reps g S es us → Reps g S (ds ++ es) (vs ++ us)
  | [], _, _, _, r, q => by have e : _ = [] := r; rw [e]; exact q
  | d :: ds, _, _, _, ⟨v, r, e, a, b⟩, q => ⟨v, r ++ _, by rw [e]; rfl, a, Reps.append b q⟩
theorem Reps.take : ∀ {ds : List D} {vs : List V} (n : Nat), Reps g S ds vs → Reps g S (ds.take n) (vs.take n)
  | _, _, 0, _ => by simp [Reps]
  | [], _, n + 1, r => by have e : _ = [] := r; rw [e]; simp [Reps]
  | d :: ds, _, n + 1, ⟨v, r, e, a, b⟩ => ⟨v, r.take n, by rw [e]; rfl, a, Reps.take n b⟩
theorem Reps.drop : ∀ {ds : List D} {vs : List V} (n : Nat), Reps g S ds vs → Reps g S (ds.drop n) (vs.drop n)
  | _, _, 0, r => r
  | [], _, n + 1, r => by have e : _ = [] := r; rw [e]; simp [Reps]
  | d :: ds, _, n + 1, ⟨v, r, e, a, b⟩ => by rw [e]; exact Reps.drop n b
theorem Reps.all : ∀ {ds : List D} {vs : List V}, ds.length = vs.length → (∀ (i : Nat) (d : D) (v : V), ds[i]? = some d → vs[i]? = some v → Rep g S d v) → Reps g S ds vs
  | [], [], _, _ => rfl
  | d :: ds, v :: vs, l, h => ⟨v, vs, rfl, h 0 d v rfl rfl, Reps.all (by simpa using l) fun i d' v' h1 h2 => h (i + 1) d' v' (by simpa using h1) (by simpa using h2)⟩
theorem RepK.len : ∀ {ds : List (Key × D)} {vs : List (Key × V)}, RepK g S ds vs → vs.length = ds.length
  | [], _, r => by have e : _ = [] := r; rw [e]; rfl
  | (k, d) :: ds, _, ⟨v, r, e, _, b⟩ => by rw [e, List.length_cons, List.length_cons, RepK.len b]
theorem RepF.lookup : ∀ {ds : List (Str × D)} {vs : List (Str × V)} {f : Str} {d : D}, RepF g S ds vs → ds.lookup f = some d → ∃ v, vs.lookup f = some v ∧ Rep g S d v
  | [], _, _, _, _, e => by simp at e
  | (k, d) :: ds, _, f, d', ⟨v, r, e, a, b⟩, h => by
    rw [e]
    by_cases q : f == k
    · rw [List.lookup, q] at h ⊢
      cases h
      exact ⟨v, rfl, a⟩
    · have q' : (f == k) = false := by simpa using q
      rw [List.lookup, q'] at h ⊢
      exact RepF.lookup b h
end
/-! ### what is owned: it stands at addresses that nothing else knows -/
inductive O where
  | sh (d : D)
  | lst (os : List O)
  | dct (kos : List (Key × O))
  | ins (c : Str) (fs : List (Str × O))
  /-- the label n names it -/
  | tag (n : Nat) (o : O)
  /-- a tuple (it never changes) that holds owned things -/
  | tup (os : List O)
mutual
def O.d : O → D
  | .sh d => d
  | .lst os => .lst (O.ds os)
  | .dct kos => .dct (O.dk kos)
  | .ins c fs => .ins c (O.df fs)
  | .tag n o => .lab n o.d
  | .tup os => .tup (O.ds os)
def O.ds : List O → List D
  | [] => []
  | o :: os => o.d :: O.ds os
def O.dk : List (Key × O) → List (Key × D)
  | [] => []
  | (k, o) :: os => (k, o.d) :: O.dk os
def O.df : List (Str × O) → List (Str × D)
  | [] => []
  | (k, o) :: os => (k, o.d) :: O.df os
end
mutual
def RelO (g : Gb) (S H : Hp) : O → V → List Addr → Prop
  | .sh d, v, A => A = [] ∧ Rep g S d v
  | .lst os, v, A => ∃ l vs A', v = .ref l ∧ H l = some (.lst vs) ∧ A = l :: A' ∧ RelOs g S H os vs A'
  | .dct kos, v, A => ∃ l kvs A', v = .ref l ∧ H l = some (.dK kvs) ∧ A = l :: A' ∧ RelOK g S H kos kvs A'
  | .ins c fs, v, A => ∃ x dx fvs A', v = .ref x ∧ H x = some (.ins (g.cn c) dx fvs) ∧ H dx = some (.own x) ∧ A = x :: dx :: A' ∧ RelOF g S H fs fvs A'
  | .tag n o, v, A => v = .ref (g.lb n) ∧ RelO g S H o v A
  | .tup os, v, A => ∃ a vs, v = .ref a ∧ S a = some (.tup vs) ∧ RelOs g S H os vs A
def RelOs (g : Gb) (S H : Hp) : List O → List V → List Addr → Prop
  | [], vs, A => vs = [] ∧ A = []
  | o :: os, vs, A => ∃ v r A1 A2, vs = v :: r ∧ A = A1 ++ A2 ∧ RelO g S H o v A1 ∧ RelOs g S H os r A2
def RelOK (g : Gb) (S H : Hp) : List (Key × O) → List (Key × V) → List Addr → Prop
  | [], vs, A => vs = [] ∧ A = []
  | (k, o) :: os, vs, A => ∃ v r A1 A2, vs = (k, v) :: r ∧ A = A1 ++ A2 ∧ RelO g S H o v A1 ∧ RelOK g S H os r A2
def RelOF (g : Gb) (S H : Hp) : List (Str × O) → List (Str × V) → List Addr → Prop
  | [], vs, A => vs = [] ∧ A = []
  | (k, o) :: os, vs, A => ∃ v r A1 A2, vs = (k, v) :: r ∧ A = A1 ++ A2 ∧ RelO g S H o v A1 ∧ RelOF g S H os r A2
end
mutual
theorem RelO.mono {g : Gb} {S S' H H' : Hp} (h : Ex S S') : ∀ (o : O) v A, (∀ a ∈ A, H' a = H a) → RelO g S H o v A → RelO g S' H' o v A
  | .sh d, v, A, _, ⟨e, r⟩ => ⟨e, Rep.mono h d v r⟩
  | .lst os, v, A, k, ⟨l, vs, A', e, q, eA, r⟩ => by
    subst eA
    exact ⟨l, vs, A', e, (k l (List.mem_cons_self ..)).trans q, rfl, RelOs.mono h os vs A' (fun a m => k a (List.mem_cons_of_mem _ m)) r⟩
  | .dct os, v, A, k, ⟨l, vs, A', e, q, eA, r⟩ => by
    subst eA
    exact ⟨l, vs, A', e, (k l (List.mem_cons_self ..)).trans q, rfl, RelOK.mono h os vs A' (fun a m => k a (List.mem_cons_of_mem _ m)) r⟩
  | .ins c os, v, A, k, ⟨x, dx, vs, A', e, q, q2, eA, r⟩ => by
    subst eA
    exact ⟨x, dx, vs, A', e, (k x (List.mem_cons_self ..)).trans q, (k dx (List.mem_cons_of_mem _ (List.mem_cons_self ..))).trans q2, rfl,
      RelOF.mono h os vs A' (fun a m => k a (List.mem_cons_of_mem _ (List.mem_cons_of_mem _ m))) r⟩
  | .tag n o, v, A, k, ⟨e, r⟩ => ⟨e, RelO.mono h o v A k r⟩
  | .tup os, v, A, k, ⟨a, vs, e, q, r⟩ => ⟨a, vs, e, h.at q, RelOs.mono h os vs A k r⟩
theorem RelOs.mono {g : Gb} {S S' H H' : Hp} (h : Ex S S') : ∀ (os : List O) vs A, (∀ a ∈ A, H' a = H a) → RelOs g S H os vs A → RelOs g S' H' os vs A
  | [], _, _, _, r => r
  | o :: os, _, _, k, ⟨v, r, A1, A2, e, eA, a, b⟩ => by
    subst eA
    exact ⟨v, r, A1, A2, e, rfl, RelO.mono h o v A1 (fun a m => k a (List.mem_append_left _ m)) a, RelOs.mono h os r A2 (fun a m => k a (List.mem_append_right _ m)) b⟩
theorem RelOK.mono {g : Gb} {S S' H H' : Hp} (h : Ex S S') : ∀ (os : List (Key × O)) vs A, (∀ a ∈ A, H' a = H a) → RelOK g S H os vs A → RelOK g S' H' os vs A
  | [], _, _, _, r => r
  | (_, o) :: os, _, _, k, ⟨v, r, A1, A2, e, eA, a, b⟩ => by
    subst eA
    exact ⟨v, r, A1, A2, e, rfl, RelO.mono h o v A1 (fun a m => k a (List.mem_append_left _ m)) a, RelOK.mono h os r A2 (fun a m => k a (List.mem_append_right _ m)) b⟩
theorem RelOF.mono {g : Gb} {S S' H H' : Hp} (h : Ex S S') : ∀ (os : List (Str × O)) vs A, (∀ a ∈ A, H' a = H a) → RelOF g S H os vs A → RelOF g S' H' os vs A
  | [], _, _, _, r => r
  | (_, o) :: os, _, _, k, ⟨v, r, A1, A2, e, eA, a, b⟩ => by
    subst eA
    exact ⟨v, r, A1, A2, e, rfl, RelO.mono h o v A1 (fun a m => k a (List.mem_append_left _ m)) a, RelOF.mono h os r A2 (fun a m => k a (List.mem_append_right _ m)) b⟩
end
mutual
theorem RelO.dom {g : Gb} {S H : Hp} : ∀ (o : O) v A, RelO g S H o v A → ∀ a ∈ A, ∃ u, H a = some u
  | .sh d, v, A, ⟨e, _⟩, a, m => by subst e; cases m
  | .lst os, v, A, ⟨l, vs, A', e, q, eA, r⟩, a, m => by
    subst eA
    rcases List.mem_cons.mp m with z | m
    · rw [z]; exact ⟨_, q⟩
    · exact RelOs.dom os vs A' r a m
  | .dct os, v, A, ⟨l, vs, A', e, q, eA, r⟩, a, m => by
    subst eA
    rcases List.mem_cons.mp m with z | m
    · rw [z]; exact ⟨_, q⟩
    · exact RelOK.dom os vs A' r a m
  | .ins c os, v, A, ⟨x, dx, vs, A', e, q, q2, eA, r⟩, a, m => by
    subst eA
    rcases List.mem_cons.mp m with z | m
    · rw [z]; exact ⟨_, q⟩
    rcases List.mem_cons.mp m with z | m
    · rw [z]; exact ⟨_, q2⟩
    · exact RelOF.dom os vs A' r a m
  | .tag n o, v, A, ⟨e, r⟩, a, m => RelO.dom o v A r a m
  | .tup os, v, A, ⟨_, vs, _, _, r⟩, a, m => RelOs.dom os vs A r a m
theorem RelOs.dom {g : Gb} {S H : Hp} : ∀ (os : List O) vs A, RelOs g S H os vs A → ∀ a ∈ A, ∃ u, H a = some u
  | [], _, _, ⟨_, e⟩, a, m => by subst e; cases m
  | o :: os, _, _, ⟨v, r, A1, A2, e, eA, x, y⟩, a, m => by
    subst eA
    rcases List.mem_append.mp m with m | m
    · exact RelO.dom o v A1 x a m
    · exact RelOs.dom os r A2 y a m
theorem RelOK.dom {g : Gb} {S H : Hp} : ∀ (os : List (Key × O)) vs A, RelOK g S H os vs A → ∀ a ∈ A, ∃ u, H a = some u
  | [], _, _, ⟨_, e⟩, a, m => by subst e; cases m
  | (_, o) :: os, _, _, ⟨v, r, A1, A2, e, eA, x, y⟩, a, m => by
    subst eA
    rcases List.mem_append.mp m with m | m
    · exact RelO.dom o v A1 x a m
    · exact RelOK.dom os r A2 y a m
theorem RelOF.dom {g : Gb} {S H : Hp} : ∀ (os : List (Str × O)) vs A, RelOF g S H os vs A → ∀ a ∈ A, ∃ u, H a = some u
  | [], _, _, ⟨_, e⟩, a, m => by subst e; cases m
  | (_, o) :: os, _, _, ⟨v, r, A1, A2, e, eA, x, y⟩, a, m => by
    subst eA
    rcases List.mem_append.mp m with m | m
    · exact RelO.dom o v A1 x a m
    · exact RelOF.dom os r A2 y a m
end
/-! what was owned is shared from here on: T holds the shadow and what stands at A -/
mutual
theorem RelO.rep {g : Gb} {S H T : Hp} (h : Ex S T) : ∀ (o : O) v A, (∀ a ∈ A, ∀ u, H a = some u → T a = some u) → RelO g S H o v A → Rep g T o.d v
  | .sh d, v, A, _, ⟨_, r⟩ => Rep.mono h d v r
  | .lst os, v, A, k, ⟨l, vs, A', e, q, eA, r⟩ => by
    subst eA
    exact ⟨l, vs, e, k l (List.mem_cons_self ..) _ q, RelOs.rep h os vs A' (fun a m => k a (List.mem_cons_of_mem _ m)) r⟩
  | .dct os, v, A, k, ⟨l, vs, A', e, q, eA, r⟩ => by
    subst eA
    exact ⟨l, vs, e, .inl (k l (List.mem_cons_self ..) _ q), RelOK.rep h os vs A' (fun a m => k a (List.mem_cons_of_mem _ m)) r⟩
  | .ins c os, v, A, k, ⟨x, dx, vs, A', e, q, q2, eA, r⟩ => by
    subst eA
    exact ⟨x, dx, vs, e, k x (List.mem_cons_self ..) _ q, k dx (List.mem_cons_of_mem _ (List.mem_cons_self ..)) _ q2,
      RelOF.rep h os vs A' (fun a m => k a (List.mem_cons_of_mem _ (List.mem_cons_of_mem _ m))) r⟩
  | .tag n o, v, A, k, ⟨e, r⟩ => ⟨e, RelO.rep h o v A k r⟩
  | .tup os, v, A, k, ⟨a, vs, e, q, r⟩ => ⟨a, vs, e, .inl (.inl (h.at q)), RelOs.rep h os vs A k r⟩
theorem RelOs.rep {g : Gb} {S H T : Hp} (h : Ex S T) : ∀ (os : List O) vs A, (∀ a ∈ A, ∀ u, H a = some u → T a = some u) → RelOs g S H os vs A → Reps g T (O.ds os) vs
  | [], _, _, _, ⟨e, _⟩ => e
  | o :: os, _, _, k, ⟨v, r, A1, A2, e, eA, x, y⟩ => by
    subst eA
    exact ⟨v, r, e, RelO.rep h o v A1 (fun a m => k a (List.mem_append_left _ m)) x, RelOs.rep h os r A2 (fun a m => k a (List.mem_append_right _ m)) y⟩
theorem RelOK.rep {g : Gb} {S H T : Hp} (h : Ex S T) : ∀ (os : List (Key × O)) vs A, (∀ a ∈ A, ∀ u, H a = some u → T a = some u) → RelOK g S H os vs A → RepK g T (O.dk os) vs
  | [], _, _, _, ⟨e, _⟩ => e
  | (_, o) :: os, _, _, k, ⟨v, r, A1, A2, e, eA, x, y⟩ => by
    subst eA
    exact ⟨v, r, e, RelO.rep h o v A1 (fun a m => k a (List.mem_append_left _ m)) x, RelOK.rep h os r A2 (fun a m => k a (List.mem_append_right _ m)) y⟩
theorem RelOF.rep {g : Gb} {S H T : Hp} (h : Ex S T) : ∀ (os : List (Str × O)) vs A, (∀ a ∈ A, ∀ u, H a = some u → T a = some u) → RelOF g S H os vs A → RepF g T (O.df os) vs
  | [], _, _, _, ⟨e, _⟩ => e
  | (_, o) :: os, _, _, k, ⟨v, r, A1, A2, e, eA, x, y⟩ => by
    subst eA
    exact ⟨v, r, e, RelO.rep h o v A1 (fun a m => k a (List.mem_append_left _ m)) x, RelOF.rep h os r A2 (fun a m => k a (List.mem_append_right _ m)) y⟩
end
/-- the shadow and what H holds at A -/
def join (S H : Hp) (A : List Addr) : Hp := fun a => if a ∈ A then H a else S a
theorem join_in {S H : Hp} {A : List Addr} {a : Addr} (h : a ∈ A) : join S H A a = H a := if_pos h
theorem join_out {S H : Hp} {A : List Addr} {a : Addr} (h : a ∉ A) : join S H A a = S a := if_neg h
theorem join_ex {S H : Hp} {A : List Addr} (h : ∀ a ∈ A, S a = none) : Ex S (join S H A) := fun a u e => by
  rw [join_out fun m => by rw [h a m] at e; cases e]
  exact .inl e
theorem join_sub {S H : Hp} {A : List Addr} (h : Sub S H) : Sub (join S H A) H := fun a u e => by
  by_cases m : a ∈ A
  · rw [join_in m] at e; exact e
  · rw [join_out m] at e; exact h a u e
section
variable {g : Gb} {S H : Hp}
theorem RelOs.len : ∀ {os : List O} {vs : List V} {A : List Addr}, RelOs g S H os vs A → vs.length = os.length
  | [], _, _, ⟨e, _⟩ => by rw [e]; rfl
  | o :: os, _, _, ⟨v, r, A1, A2, e, _, _, b⟩ => by rw [e, List.length_cons, List.length_cons, RelOs.len b]
theorem RelOs.append : ∀ {os ps : List O} {vs us : List V} {A B : List Addr}, RelOs g S H os vs A → RelOs g S H ps us B → RelOs g S H (os ++ ps) (vs ++ us) (A ++ B)
  | [], _, _, _, _, _, ⟨e, e2⟩, q => by rw [e, e2]; exact q
  | o :: os, _, _, _, _, _, ⟨v, r, A1, A2, e, eA, x, y⟩, q => ⟨v, r ++ _, A1, A2 ++ _, by rw [e]; rfl, by rw [eA, List.append_assoc], x, RelOs.append y q⟩
theorem RelOs.one {o : O} {v : V} {A : List Addr} (h : RelO g S H o v A) : RelOs g S H [o] [v] A := ⟨v, [], A, [], rfl, by simp, h, rfl, rfl⟩
theorem RelOs.split : ∀ {os ps : List O} {vs us : List V} {A : List Addr}, vs.length = os.length → RelOs g S H (os ++ ps) (vs ++ us) A → ∃ A1 A2, A = A1 ++ A2 ∧ RelOs g S H os vs A1 ∧ RelOs g S H ps us A2
  | [], _, [], _, A, _, q => ⟨[], A, rfl, ⟨rfl, rfl⟩, q⟩
  | o :: os, ps, v :: vs, us, A, l, ⟨v', r, A1, A2, e, eA, x, y⟩ => by
    have e' := List.cons.inj e
    obtain ⟨e1, e2⟩ := e'
    subst e1
    subst e2
    obtain ⟨B1, B2, eB, q1, q2⟩ := RelOs.split (by simpa using l) y
    exact ⟨A1 ++ B1, B2, by rw [eA, eB, List.append_assoc], ⟨_, vs, A1, B1, rfl, rfl, x, q1⟩, q2⟩
theorem RelOs.oneInv {o : O} {v : V} {A : List Addr} (h : RelOs g S H [o] [v] A) : RelO g S H o v A := by
  obtain ⟨v', r, A1, A2, e, eA, x, ⟨e2, e3⟩⟩ := h
  have e' := List.cons.inj e
  rw [e'.1, eA, e3, List.append_nil]
  exact x
theorem RelOs.get : ∀ {os : List O} {vs : List V} {A : List Addr} {i : Nat} {o : O}, RelOs g S H os vs A → os[i]? = some o → ∃ v Ao, vs[i]? = some v ∧ RelO g S H o v Ao ∧ ∀ a ∈ Ao, a ∈ A
  | [], _, _, _, _, _, e => by simp at e
  | o :: os, _, _, 0, _, ⟨v, r, A1, A2, e, eA, x, _⟩, h => by
    have h' : o = _ := Option.some.inj (by simpa using h)
    subst h'
    exact ⟨v, A1, by rw [e]; rfl, x, fun a m => by rw [eA]; exact List.mem_append_left _ m⟩
  | o :: os, _, _, i + 1, _, ⟨v, r, A1, A2, e, eA, _, b⟩, h => by
    obtain ⟨v', Ao, h1, h2, h3⟩ := RelOs.get (i := i) b (by simpa using h)
    exact ⟨v', Ao, by rw [e]; simpa using h1, h2, fun a m => by rw [eA]; exact List.mem_append_right _ (h3 a m)⟩
theorem RelOs.sh {ds : List D} : ∀ {vs : List V}, Reps g S ds vs → RelOs g S H (ds.map .sh) vs [] := by
  induction ds with
  | nil => intro vs r; exact ⟨r, rfl⟩
  | cons d ds ih => intro vs ⟨v, r, e, a, b⟩; exact ⟨v, r, [], [], e, rfl, ⟨rfl, a⟩, ih b⟩
theorem RelOK.sh {ds : List (Key × D)} : ∀ {vs : List (Key × V)}, RepK g S ds vs → RelOK g S H (ds.map fun p => (p.1, .sh p.2)) vs [] := by
  induction ds with
  | nil => intro vs r; exact ⟨r, rfl⟩
  | cons d ds ih => obtain ⟨k, d⟩ := d; intro vs ⟨v, r, e, a, b⟩; exact ⟨v, r, [], [], e, rfl, ⟨rfl, a⟩, ih b⟩
end
theorem ds_map_sh (ds : List D) : O.ds (ds.map .sh) = ds := by
  induction ds with
  | nil => rfl
  | cons d ds ih => show d :: O.ds (ds.map .sh) = d :: ds; rw [ih]
theorem ds_eq_map (os : List O) : O.ds os = os.map O.d := by
  induction os with
  | nil => rfl
  | cons o os ih => show o.d :: O.ds os = o.d :: os.map O.d; rw [ih]
/-! ### the state of a frame -/
/-- a slot: nothing known | a local | borrowed from the caller (never stored anew) -/
inductive Sl where
  | no | v (o : O) | b (o : O)
abbrev En := List Sl
abbrev Sg := L2.St
/-- where the def (or the loop) was entered: the shadow, the heap, what was handed over for change, the slots -/
structure Zn where
  S0 : Hp
  H0 : Hp
  B : List Addr
  σ0 : Sg
/-- a table of code objects -/
def TabN (g : Gb) (S H : Hp) (p : Addr) : Prop := ∃ ps : Array Value, H p = some (.tbl ps) ∧ TriplesOk ps.toList ∧ ∀ q, g.nm p = some q → ∀ pos cv, codeAmong pos ps.toList = some cv → ∃ c, cv = .ref c ∧ S c = some (LamX.CodeO c q)
theorem TabN.g {g : Gb} {S H : Hp} {p : Addr} (h : TabN g S H p) : GxR.TabG H p := by
  obtain ⟨ps, e, t, _⟩ := h
  exact ⟨ps, e, t⟩
theorem codeO_dk {c : Addr} {q : Str} : ∀ kvs, LamX.CodeO c q ≠ .dK kvs := fun kvs z => by
  unfold LamX.CodeO at z
  cases z
theorem TabN.ex {g : Gb} {S S' H : Hp} {p : Addr} (h : TabN g S H p) (e : Ex S S') : TabN g S' H p := by
  obtain ⟨ps, e1, t, k⟩ := h
  refine ⟨ps, e1, t, fun q hq pos cv hc => ?_⟩
  obtain ⟨c, e2, e3⟩ := k q hq pos cv hc
  exact ⟨c, e2, e.at e3 codeO_dk⟩
structure Bs (g : Gb) (Z : Zn) (S H : Hp) : Prop where
  sub : Sub S H
  mono : Ex Z.S0 S
  new : ∀ a, S a ≠ none → Z.S0 a = none → Z.H0 a = none ∨ a ∈ Z.B
  frm : ∀ a u, Z.H0 a = some u → a ∉ Z.B → a ∉ g.tb → H a = some u ∨ (Z.S0 a ≠ none ∧ ∃ kvs o, u = .dK kvs ∧ H a = some (.frz o u))
  dom : ∀ a u, Z.H0 a = some u → ∃ u', H a = some u'
  tbl : ∀ p ∈ g.tb, TabN g S H p
  tbS : ∀ p ∈ g.tb, S p = none
structure Hold (g : Gb) (Z : Zn) (S H : Hp) (τ : List V) (θ : List O) (σ : Sg) (ρ : En) (A : List Addr) (α : Nat → List Addr) : Prop where
  bs : Bs g Z S H
  tmp : RelOs g S H θ τ A
  len : ρ.length ≤ σ.length
  slot : ∀ (i : Nat) (o : O), (ρ[i]? = some (.v o) ∨ ρ[i]? = some (.b o)) → ∃ v, σ[i]? = some (some v) ∧ RelO g S H o v (α i)
  ndA : A.Nodup
  nd : ∀ i, (α i).Nodup
  dis : ∀ i j, i ≠ j → ∀ a ∈ α i, a ∉ α j
  disA : ∀ i, ∀ a ∈ α i, a ∉ A
  own : ∀ a, (a ∈ A ∨ ∃ i, a ∈ α i) → S a = none ∧ (∃ u, H a = some u) ∧ (a ∈ Z.B ∨ Z.H0 a = none) ∧ a ∉ g.tb
  pin : ∀ (i : Nat) (o : O), ρ[i]? = some (.b o) → σ[i]? = Z.σ0[i]?
def St (g : Gb) (Z : Zn) (S H : Hp) (τ : List V) (θ : List O) (σ : Sg) (ρ : En) : Prop := ∃ A α, Hold g Z S H τ θ σ ρ A α
/-- a new value, made from H on (the shadow may grow by what is new) -/
def New (g : Gb) (S H : Hp) (o : O) (v : V) (H' : Hp) : Prop := ∃ S' A, Ex S S' ∧ (∀ a, S' a ≠ none → S a = none → H a = none) ∧ Sub S' H' ∧ RelO g S' H' o v A ∧ A.Nodup ∧ (∀ a ∈ A, H a = none ∧ S' a = none) ∧ Gr H H'
theorem New.same {g : Gb} {S H : Hp} {d : D} {v : V} (e : Sub S H) (h : Rep g S d v) : New g S H (.sh d) v H := ⟨S, [], Ex.refl _, fun _ h1 h2 => absurd h2 h1, e, ⟨rfl, h⟩, List.nodup_nil, fun _ m => (nomatch m), Gr.refl _⟩
theorem tabG_ex {g : Gb} {S H H' : Hp} {p : Addr} (e : Gr H H') (h : TabN g S H p) : TabN g S H' p := by
  obtain ⟨ps, a, b⟩ := h
  exact ⟨ps, e _ _ a, b⟩
section
variable {g : Gb} {Z : Zn} {S H H' S' : Hp} {τ : List V} {θ : List O} {σ : Sg} {ρ : En} {A : List Addr} {α : Nat → List Addr} {o : O} {v : V}
theorem Bs.grow (b : Bs g Z S H) (e : Gr H H') : Bs g Z S H' :=
  ⟨b.sub.trans e, b.mono, b.new, fun a u h h1 h2 => (b.frm a u h h1 h2).elim (fun z => .inl (e _ _ z)) fun ⟨n, kvs, o, z, w⟩ => .inr ⟨n, kvs, o, z, e _ _ w⟩, fun a u h => let ⟨u', q⟩ := b.dom a u h; ⟨u', e _ _ q⟩, fun p m => tabG_ex e (b.tbl p m), b.tbS⟩
theorem Bs.fresh (b : Bs g Z S H) {a : Addr} (h : H a = none) : Z.H0 a = none := by
  cases q : Z.H0 a with
  | none => rfl
  | some u => obtain ⟨u', z⟩ := b.dom a u q; rw [h] at z; cases z
theorem Bs.notb (b : Bs g Z S H) {a : Addr} (h : H a = none) : a ∉ g.tb := fun m => by
  obtain ⟨ps, e, _⟩ := b.tbl a m
  rw [h] at e; cases e
/-- the heap grows, nothing that is known changes -/
theorem Hold.grow (h : Hold g Z S H τ θ σ ρ A α) (e : Gr H H') : Hold g Z S H' τ θ σ ρ A α := by
  have k : ∀ a, (a ∈ A ∨ ∃ i, a ∈ α i) → H' a = H a := fun a m => by
    obtain ⟨_, ⟨u, q⟩, _⟩ := h.own a m
    rw [q, e _ _ q]
  exact ⟨h.bs.grow e, RelOs.mono (Ex.refl _) θ τ A (fun a m => k a (.inl m)) h.tmp, h.len,
    fun i o hi => let ⟨v, q, r⟩ := h.slot i o hi; ⟨v, q, RelO.mono (Ex.refl _) o v (α i) (fun a m => k a (.inr ⟨i, m⟩)) r⟩, h.ndA, h.nd, h.dis, h.disA,
    fun a m => let ⟨q1, ⟨u, q2⟩, q3⟩ := h.own a m; ⟨q1, ⟨u, e _ _ q2⟩, q3⟩, h.pin⟩
theorem Hold.shadow (h : Hold g Z S H τ θ σ ρ A α) (e : Ex S S') (hn : ∀ a, S' a ≠ none → S a = none → ∀ u, Z.H0 a = some u → False) (hn2 : ∀ a, S' a ≠ none → S a = none → a ∉ A ∧ (∀ i, a ∉ α i) ∧ a ∉ g.tb) (hs : Sub S' H) : Hold g Z S' H τ θ σ ρ A α := by
  refine ⟨⟨hs, h.bs.mono.trans e, fun a h1 h2 => ?_, h.bs.frm, h.bs.dom, fun p m => (h.bs.tbl p m).ex e, fun p m => ?_⟩, RelOs.mono e θ τ A (fun _ _ => rfl) h.tmp, h.len,
    fun i o hi => let ⟨v, q, r⟩ := h.slot i o hi; ⟨v, q, RelO.mono e o v (α i) (fun _ _ => rfl) r⟩, h.ndA, h.nd, h.dis, h.disA, fun a m => ?_, h.pin⟩
  · by_cases q : S a = none
    · refine .inl ?_
      cases q2 : Z.H0 a with
      | none => rfl
      | some u => exact (hn a h1 q u q2).elim
    · exact h.bs.new a q h2
  · by_cases q : S' p = none
    · exact q
    · exact ((hn2 p q (h.bs.tbS p m)).2.2 m).elim
  · obtain ⟨q1, q2⟩ := h.own a m
    refine ⟨?_, q2⟩
    by_cases q : S' a = none
    · exact q
    · obtain ⟨z1, z2, _⟩ := hn2 a q q1
      rcases m with m | ⟨i, m⟩
      · exact (z1 m).elim
      · exact (z2 i m).elim
theorem Hold.push (h : Hold g Z S H τ θ σ ρ A α) (n : New g S H o v H') : ∃ S', Ex S S' ∧ St g Z S' H' (τ ++ [v]) (θ ++ [o]) σ ρ := by
  obtain ⟨T, B, eS, fr, sT, r, nd, hB, e⟩ := n
  have out : ∀ a, H a = none → a ∉ A ∧ (∀ i, a ∉ α i) ∧ a ∉ g.tb := by
    intro a q0
    refine ⟨fun m2 => ?_, fun i m2 => ?_, h.bs.notb q0⟩
    · obtain ⟨_, ⟨u, q⟩, _⟩ := h.own a (.inl m2)
      rw [q0] at q; cases q
    · obtain ⟨_, ⟨u, q⟩, _⟩ := h.own a (.inr ⟨i, m2⟩)
      rw [q0] at q; cases q
  have h' := (h.grow e).shadow eS (fun a h1 h2 u q => by rw [h.bs.fresh (fr a h1 h2)] at q; cases q) (fun a h1 h2 => out a (fr a h1 h2)) sT
  refine ⟨T, eS, A ++ B, α, h'.bs, h'.tmp.append (RelOs.one r), h'.len, h'.slot, ?_, h'.nd, h'.dis, ?_, ?_, h'.pin⟩
  · exact List.nodup_append.mpr ⟨h.ndA, nd, fun a m b m2 z => (out b (hB b m2).1).1 (z ▸ m)⟩
  · intro i a m m2
    rcases List.mem_append.mp m2 with m2 | m2
    · exact h.disA i a m m2
    · exact (out a (hB a m2).1).2.1 i m
  · rintro a (m | m)
    · rcases List.mem_append.mp m with m | m
      · exact h'.own a (.inl m)
      · exact ⟨(hB a m).2, RelO.dom _ _ _ r a m, .inr (h.bs.fresh (hB a m).1), h.bs.notb (hB a m).1⟩
    · exact h'.own a (.inr m)
theorem St.push (h : St g Z S H τ θ σ ρ) (n : New g S H o v H') : ∃ S', Ex S S' ∧ St g Z S' H' (τ ++ [v]) (θ ++ [o]) σ ρ := by
  obtain ⟨A, α, h⟩ := h
  exact h.push n
theorem St.sub (h : St g Z S H τ θ σ ρ) : Sub S H := by obtain ⟨A, α, h⟩ := h; exact h.bs.sub
theorem St.tlen (h : St g Z S H τ θ σ ρ) : τ.length = θ.length := by obtain ⟨A, α, h⟩ := h; exact h.tmp.len
/-- A (a part of what is owned) is shared from here on -/
theorem Bs.join (b : Bs g Z S H) {B : List Addr} (hB : ∀ a ∈ B, S a = none ∧ (a ∈ Z.B ∨ Z.H0 a = none) ∧ a ∉ g.tb) : Bs g Z (join S H B) H :=
  ⟨join_sub b.sub, b.mono.trans (join_ex fun a m => (hB a m).1), fun a h1 h2 => by
    by_cases m : a ∈ B
    · exact (hB a m).2.1.symm
    · rw [join_out m] at h1; exact b.new a h1 h2, b.frm, b.dom, fun p m => (b.tbl p m).ex (join_ex fun a m => (hB a m).1), fun p m => by
    rw [join_out fun m2 => (hB p m2).2.2 m]
    exact b.tbS p m⟩
/-- the last value held is shared from here on, and let go -/
theorem St.pop (h : St g Z S H (τ ++ [v]) (θ ++ [o]) σ ρ) : ∃ S', Ex S S' ∧ St g Z S' H τ θ σ ρ ∧ Rep g S' o.d v := by
  obtain ⟨A, α, h⟩ := h
  have hl : τ.length = θ.length := by have := h.tmp.len; simp at this; exact this
  obtain ⟨A1, A2, e, r1, r2⟩ := h.tmp.split hl
  subst e
  have r2 := r2.oneInv
  have hB : ∀ a ∈ A2, S a = none ∧ (a ∈ Z.B ∨ Z.H0 a = none) ∧ a ∉ g.tb := fun a m => let ⟨q1, _, q2⟩ := h.own a (.inl (List.mem_append_right _ m)); ⟨q1, q2⟩
  have ex : Ex S (join S H A2) := join_ex fun a m => (hB a m).1
  obtain ⟨n1, n2, n3⟩ := List.nodup_append.mp h.ndA
  refine ⟨join S H A2, ex, ⟨A1, α, h.bs.join hB, RelOs.mono ex θ τ A1 (fun _ _ => rfl) r1, h.len, fun i o hi => let ⟨v, q, r⟩ := h.slot i o hi; ⟨v, q, RelO.mono ex o v (α i) (fun _ _ => rfl) r⟩, n1, h.nd, h.dis,
    fun i a m m2 => h.disA i a m (List.mem_append_left _ m2), ?_, h.pin⟩, RelO.rep ex o v A2 (fun a m u q => by rw [join_in m]; exact q) r2⟩
  intro a m
  have m' : a ∈ A1 ++ A2 ∨ ∃ i, a ∈ α i := m.imp (fun m => List.mem_append_left _ m) id
  obtain ⟨q1, q2, q3⟩ := h.own a m'
  refine ⟨?_, q2, q3⟩
  rw [join_out]
  · exact q1
  · intro m2
    rcases m with m | ⟨i, m⟩
    · exact n3 a m a m2 rfl
    · exact h.disA i a m (List.mem_append_right _ m2)
/-- the slot i is shared from here on -/
theorem St.share {i : Nat} (h : St g Z S H τ θ σ ρ) (hi : ρ[i]? = some (.v o)) : ∃ S' v, Ex S S' ∧ St g Z S' H τ θ σ (ρ.set i (.v (.sh o.d))) ∧ σ[i]? = some (some v) ∧ Rep g S' o.d v := by
  obtain ⟨A, α, h⟩ := h
  obtain ⟨v, e, r⟩ := h.slot i o (.inl hi)
  have hB : ∀ a ∈ α i, S a = none ∧ (a ∈ Z.B ∨ Z.H0 a = none) ∧ a ∉ g.tb := fun a m => let ⟨q1, _, q2⟩ := h.own a (.inr ⟨i, m⟩); ⟨q1, q2⟩
  have ex : Ex S (join S H (α i)) := join_ex fun a m => (hB a m).1
  have rep : Rep g (join S H (α i)) o.d v := RelO.rep ex o v (α i) (fun a m u q => by rw [join_in m]; exact q) r
  have il : i < ρ.length := (List.getElem?_eq_some_iff.mp hi).1
  refine ⟨join S H (α i), v, ex, ⟨A, fun j => if j = i then [] else α j, h.bs.join hB, RelOs.mono ex θ τ A (fun _ _ => rfl) h.tmp, by rw [List.length_set]; exact h.len, ?_, h.ndA, ?_, ?_, ?_, ?_, ?_⟩, e, rep⟩
  · intro j o' hj
    by_cases z : j = i
    · subst z
      rw [List.getElem?_set_self il] at hj
      rcases hj with hj | hj
      · cases hj; exact ⟨v, e, by rw [if_pos rfl]; exact ⟨rfl, rep⟩⟩
      · cases hj
    · rw [List.getElem?_set_ne (Ne.symm z)] at hj
      obtain ⟨v', q, r'⟩ := h.slot j o' hj
      exact ⟨v', q, by rw [if_neg z]; exact RelO.mono ex o' v' (α j) (fun _ _ => rfl) r'⟩
  · intro j; (try dsimp only); split
    · exact List.nodup_nil
    · exact h.nd j
  · intro j k n a m
    (try dsimp only at m ⊢)
    split at m
    · cases m
    · split
      · exact List.not_mem_nil
      · exact h.dis j k n a m
  · intro j a m
    (try dsimp only at m)
    split at m
    · cases m
    · exact h.disA j a m
  · intro a m
    have m' : a ∈ A ∨ ∃ j, j ≠ i ∧ a ∈ α j := by
      rcases m with m | ⟨j, m⟩
      · exact .inl m
      · (try dsimp only at m)
        split at m
        · cases m
        · rename_i n; exact .inr ⟨j, n, m⟩
    obtain ⟨q1, q2, q3⟩ := h.own a (m'.imp id fun ⟨j, _, m⟩ => ⟨j, m⟩)
    refine ⟨?_, q2, q3⟩
    rw [join_out]
    · exact q1
    · intro m2
      rcases m' with m | ⟨j, n, m⟩
      · exact h.disA i a m2 m
      · exact h.dis j i n a m m2
  · intro j o' hj
    by_cases z : j = i
    · subst z
      rw [List.getElem?_set_self il] at hj
      cases hj
    · rw [List.getElem?_set_ne (Ne.symm z)] at hj
      exact h.pin j o' hj
/-- the last value held goes into the slot i -/
theorem St.store {i : Nat} (h : St g Z S H (τ ++ [v]) (θ ++ [o]) σ ρ) (il : i < ρ.length) (hb : ∀ o' : O, ρ[i]? ≠ some (.b o')) : St g Z S H τ θ (σ.set i (some v)) (ρ.set i (.v o)) := by
  obtain ⟨A, α, h⟩ := h
  have hl : τ.length = θ.length := by have := h.tmp.len; simp at this; exact this
  obtain ⟨A1, A2, e, r1, r2⟩ := h.tmp.split hl
  subst e
  have r2 := r2.oneInv
  obtain ⟨n1, n2, n3⟩ := List.nodup_append.mp h.ndA
  have il2 : i < σ.length := Nat.lt_of_lt_of_le il h.len
  refine ⟨A1, fun j => if j = i then A2 else α j, h.bs, r1, by rw [List.length_set, List.length_set]; exact h.len, ?_, n1, ?_, ?_, ?_, ?_, ?_⟩
  · intro j o' hj
    by_cases z : j = i
    · subst z
      rw [List.getElem?_set_self il] at hj
      rw [List.getElem?_set_self il2]
      rcases hj with hj | hj
      · cases hj; exact ⟨v, rfl, by rw [if_pos rfl]; exact r2⟩
      · cases hj
    · rw [List.getElem?_set_ne (Ne.symm z)] at hj ⊢
      obtain ⟨v', q, r'⟩ := h.slot j o' hj
      exact ⟨v', q, by rw [if_neg z]; exact r'⟩
  · intro j; (try dsimp only); split
    · exact n2
    · exact h.nd j
  · intro j k n a m
    (try dsimp only at m ⊢)
    split at m
    · split
      · rename_i z1 z2; exact absurd (z1.trans z2.symm) n
      · intro m2; exact h.disA k a m2 (List.mem_append_right _ m)
    · split
      · intro m2; exact h.disA j a m (List.mem_append_right _ m2)
      · exact h.dis j k n a m
  · intro j a m m2
    (try dsimp only at m)
    split at m
    · exact n3 a m2 a m rfl
    · exact h.disA j a m (List.mem_append_left _ m2)
  · intro a m
    refine h.own a ?_
    rcases m with m | ⟨j, m⟩
    · exact .inl (List.mem_append_left _ m)
    · (try dsimp only at m)
      split at m
      · exact .inl (List.mem_append_right _ m)
      · exact .inr ⟨j, m⟩
  · intro j o' hj
    by_cases z : j = i
    · subst z
      rw [List.getElem?_set_self il] at hj
      cases hj
    · rw [List.getElem?_set_ne (Ne.symm z)] at hj ⊢
      exact h.pin j o' hj
theorem St.popN : ∀ (n : Nat) (τ' : List V) (θ' : List O) {S : Hp}, τ'.length = n → θ'.length = n → St g Z S H (τ ++ τ') (θ ++ θ') σ ρ → ∃ S', Ex S S' ∧ St g Z S' H τ θ σ ρ ∧ Reps g S' (O.ds θ') τ' := by
  intro n
  induction n with
  | zero =>
    intro τ' θ' S l1 l2 h
    have e : θ' = [] := List.eq_nil_of_length_eq_zero l2
    have e' : τ' = [] := List.eq_nil_of_length_eq_zero l1
    subst e
    subst e'
    rw [List.append_nil, List.append_nil] at h
    exact ⟨S, Ex.refl _, h, rfl⟩
  | succ n ih =>
    intro τ' θ' S l1 l2 h
    have hne : θ' ≠ [] := by intro z; subst z; simp at l2
    have hne' : τ' ≠ [] := by intro z; subst z; simp at l1
    obtain ⟨θ2, o, rfl⟩ : ∃ θ2 o, θ' = θ2 ++ [o] := ⟨θ'.dropLast, θ'.getLast hne, (List.dropLast_concat_getLast hne).symm⟩
    obtain ⟨τ2, v, rfl⟩ : ∃ θ2 o, τ' = θ2 ++ [o] := ⟨τ'.dropLast, τ'.getLast hne', (List.dropLast_concat_getLast hne').symm⟩
    rw [← List.append_assoc, ← List.append_assoc] at h
    obtain ⟨S1, e1, h1, r1⟩ := h.pop
    obtain ⟨S2, e2, h2, r2⟩ := ih τ2 θ2 (by simpa using l1) (by simpa using l2) h1
    refine ⟨S2, e1.trans e2, h2, ?_⟩
    rw [ds_eq_map, List.map_append, ← ds_eq_map]
    exact r2.append ⟨v, [], rfl, Rep.mono e2 _ _ r1, rfl⟩
end
end DL
set_option Elab.async false
set_option linter.all false
set_option maxRecDepth 100000
set_option autoImplicit false
/-! DL2: readings by total functions on data: expressions, tests, argument lists. -/
namespace DL
open PySem PySem.Spec PyProof.Rows L2
structure Exn where
  c : Str
  fs : List (Str × D)
inductive R where
  | ok (o : O) (ρ : En) | exc (x : Exn) (ρ : En) | stuck
abbrev E := En → R
def R.bind : R → (O → E) → R
  | .ok o ρ, k => k o ρ
  | .exc x ρ, _ => .exc x ρ
  | .stuck, _ => .stuck
def R.of : Option O → E
  | some o, ρ => .ok o ρ
  | none, _ => .stuck
/-- behind a raise: the exception's own dict stands at d -/
def ExnAt (g : Gb) (S H : Hp) (x : Exn) : Option Addr → Prop
  | some d => ∃ fvs, H d = some (.xd fvs) ∧ RepF g S x.fs fvs
  | none => x.fs = []
theorem ExnAt.mono {g : Gb} {S S' H : Hp} {x : Exn} : ∀ {d : Option Addr} (e : Ex S S') (h : ExnAt g S H x d), ExnAt g S' H x d
  | some d, e, h => let ⟨f, a, b⟩ := h; ⟨f, a, RepF.mono e _ _ b⟩
  | none, _, h => h
def PostR (g : Gb) (W : WX) (Z : Zn) (S : Hp) (τ : List V) (θ : List O) (σ : Sg) (r : R) (Q : VK) : Prop := match r with
  | .ok o ρ => ∀ v S' H', Ex S S' → St g Z S' H' (τ ++ [v]) (θ ++ [o]) σ ρ → Q v H'
  | .exc x ρ => ∀ d S' H', Ex S S' → St g Z S' H' τ θ σ ρ → ExnAt g S' H' x d → W (.ref (g.cn x.c)) d σ H'
  | .stuck => False
/-- an expression's reading by a function -/
def LE (g : Gb) (W : WX) (m : E) : TE := fun σ H Q => ∃ Z S τ θ ρ, St g Z S H τ θ σ ρ ∧ PostR g W Z S τ θ σ (m ρ) Q
/-- a test's -/
abbrev LT (g : Gb) (W : WX) (m : E) : TT := tB (LE g W m)
inductive RA where
  | ok (os : List O) (ρ : En) | exc (x : Exn) (ρ : En) | stuck
def RA.bind : RA → (List O → E) → R
  | .ok o ρ, k => k o ρ
  | .exc x ρ, _ => .exc x ρ
  | .stuck, _ => .stuck
def evs : List E → En → RA
  | [], ρ => .ok [] ρ
  | m :: ms, ρ => match m ρ with
    | .ok o ρ1 => match evs ms ρ1 with
      | .ok os ρ2 => .ok (o :: os) ρ2
      | .exc x ρ2 => .exc x ρ2
      | .stuck => .stuck
    | .exc x ρ1 => .exc x ρ1
    | .stuck => .stuck
def PostA (g : Gb) (W : WX) (Z : Zn) (S : Hp) (τ : List V) (θ : List O) (σ : Sg) (r : RA) (Q : List V → Hp → Prop) : Prop := match r with
  | .ok os ρ => ∀ vs S' H', Ex S S' → St g Z S' H' (τ ++ vs) (θ ++ os) σ ρ → Q vs H'
  | .exc x ρ => ∀ d S' H', Ex S S' → St g Z S' H' τ θ σ ρ → ExnAt g S' H' x d → W (.ref (g.cn x.c)) d σ H'
  | .stuck => False
def LA (g : Gb) (W : WX) (ms : List E) : TA := fun σ H Q => ∃ Z S τ θ ρ, St g Z S H τ θ σ ρ ∧ PostA g W Z S τ θ σ (evs ms ρ) Q
theorem PE_imp {X : Cx} {e : Expr} {t t' : TE} (h : PE X e t) (k : ∀ σ H Q, t' σ H Q → t σ H Q) : PE X e t' := ⟨fun pins s σ H Q I q => h.run pins s σ H Q I (k _ _ _ q)⟩
theorem PT_imp {X : Cx} {e : Expr} {t t' : TT} (h : PT X e t) (k : ∀ σ H Q, t' σ H Q → t σ H Q) : PT X e t' := ⟨fun pins s σ H Q I q => h.run pins s σ H Q I (k _ _ _ q)⟩
theorem PW_imp {X : Cx} {e : Expr} {t t' : TT} (h : PW X e t) (k : ∀ σ H Q, t' σ H Q → t σ H Q) : PW X e t' := ⟨fun wh pins s σ H Q I q => h.run wh pins s σ H Q I (k _ _ _ q)⟩
theorem PA_imp {X : Cx} {es : List Expr} {t t' : TA} (h : PA X es t) (k : ∀ σ H Q, t' σ H Q → t σ H Q) : PA X es t' := ⟨fun pos pins s σ H Q I q => h.run pos pins s σ H Q I (k _ _ _ q)⟩
section
variable {g : Gb} {W : WX} {Z : Zn} {S S' H H' : Hp} {τ τ' : List V} {θ θ' : List O} {σ : Sg} {ρ : En} {Q Q' : VK} {m ma mb mc : E} {k : O → E} {o : O} {v : V} {r : R}
theorem St.nil (h : St g Z S H τ θ σ ρ) : St g Z S H (τ ++ []) (θ ++ []) σ ρ := by rw [List.append_nil, List.append_nil]; exact h
theorem PostR.mono (e : Ex S S') (h : PostR g W Z S τ θ σ r Q) : PostR g W Z S' τ θ σ r Q := by
  cases r with
  | ok o ρ => exact fun v T H' q st => h v T H' (e.trans q) st
  | exc x ρ => exact fun d T H' q st => h d T H' (e.trans q) st
  | stuck => exact h
theorem PostA.mono {r : RA} {Q : List V → Hp → Prop} (e : Ex S S') (h : PostA g W Z S τ θ σ r Q) : PostA g W Z S' τ θ σ r Q := by
  cases r with
  | ok o ρ => exact fun v T H' q st => h v T H' (e.trans q) st
  | exc x ρ => exact fun d T H' q st => h d T H' (e.trans q) st
  | stuck => exact h
/-- one part is read, τ' held meanwhile; then k -/
theorem stepN {n : Nat} (st : St g Z S H (τ ++ τ') (θ ++ θ') σ ρ) (l1 : τ'.length = n) (l2 : θ'.length = n) (post : PostR g W Z S τ θ σ ((m ρ).bind k) Q)
    (hk : ∀ o ρ1 v S1 H1, Ex S S1 → St g Z S1 H1 (τ ++ (τ' ++ [v])) (θ ++ (θ' ++ [o])) σ ρ1 → PostR g W Z S1 τ θ σ (k o ρ1) Q → Q' v H1) : LE g W m σ H Q' := by
  refine ⟨Z, S, τ ++ τ', θ ++ θ', ρ, st, ?_⟩
  cases h : m ρ with
  | ok o ρ1 =>
    rw [h] at post
    intro v S1 H1 e1 st1
    rw [List.append_assoc, List.append_assoc] at st1
    exact hk o ρ1 v S1 H1 e1 st1 (PostR.mono e1 post)
  | exc x ρ1 =>
    rw [h] at post
    intro d S1 H1 e1 st1 xa
    obtain ⟨S2, e2, st2, _⟩ := st1.popN n τ' θ' l1 l2
    exact post d S2 H1 (e1.trans e2) st2 (xa.mono e2)
  | stuck => rw [h] at post; exact post
theorem step0 (st : St g Z S H τ θ σ ρ) (post : PostR g W Z S τ θ σ ((m ρ).bind k) Q)
    (hk : ∀ o ρ1 v S1 H1, Ex S S1 → St g Z S1 H1 (τ ++ [v]) (θ ++ [o]) σ ρ1 → PostR g W Z S1 τ θ σ (k o ρ1) Q → Q' v H1) : LE g W m σ H Q' :=
  stepN (n := 0) st.nil rfl rfl post hk
theorem PostR.fin (post : PostR g W Z S τ θ σ (.ok o ρ) Q) (e : Ex S S') (st : St g Z S' H τ θ σ ρ) (n : New g S' H o v H') : Q v H' := by
  obtain ⟨S2, e2, st2⟩ := st.push n
  exact post v S2 H' (e.trans e2) st2
theorem PostR.of {oo : Option O} (post : PostR g W Z S τ θ σ (R.of oo ρ) Q) : ∃ o, oo = some o ∧ PostR g W Z S τ θ σ (.ok o ρ) Q := by
  cases oo with
  | none => exact post.elim
  | some o => exact ⟨o, rfl, post⟩
/-! ### names, constants -/
def eVar (i : Nat) : E := fun ρ => match ρ[i]? with
  | some (.v (.sh d)) => .ok (.sh d) ρ
  | some (.v o) => .ok (.sh o.d) (ρ.set i (.v (.sh o.d)))
  | _ => .stuck
theorem le_var {i : Nat} (q : LE g W (eVar i) σ H Q) : tVar i σ H Q := by
  obtain ⟨Z, S, τ, θ, ρ, st, post⟩ := q
  have key : ∀ o : O, ρ[i]? = some (.v o) → PostR g W Z S τ θ σ (.ok (.sh o.d) (ρ.set i (.v (.sh o.d)))) Q → tVar i σ H Q := fun o e post => by
    obtain ⟨S', v, e1, st1, e2, r⟩ := st.share e
    exact ⟨v, e2, post.fin e1 st1 (New.same st1.sub r)⟩
  unfold eVar at post
  split at post
  · rename_i d e
    refine key _ e ?_
    have : ρ.set i (.v (.sh d)) = ρ := by
      apply List.ext_getElem?
      intro j
      by_cases z : j = i
      · subst z; rw [List.getElem?_set_self (List.getElem?_eq_some_iff.mp e).1, e]
      · rw [List.getElem?_set_ne (Ne.symm z)]
    show PostR g W Z S τ θ σ (.ok (.sh d) (ρ.set i (.v (.sh d)))) Q
    rw [this]
    exact post
  · rename_i o _ e
    exact key o e post
  · exact post.elim
def eC (d : D) : E := fun ρ => .ok (.sh d) ρ
def D.val : D → V
  | .bl b => .bl b | .int i => .int i | .str x => .str x | .op v => v | _ => .non
def D.flat : D → Bool
  | .non | .bl _ | .int _ | .str _ | .op _ => true
  | _ => false
theorem rep_flat {d : D} (h : d.flat = true) : Rep g S d d.val := by
  cases d <;> first | rfl | cases h
theorem rep_flat_eq {d : D} {v : V} (h : d.flat = true) (r : Rep g S d v) : v = d.val := by
  cases d <;> first | exact r | cases h
theorem New.flat {d : D} (e : Sub S H) (h : d.flat = true) : New g S H (.sh d) d.val H := New.same e (rep_flat h)
theorem le_c {d : D} (h : d.flat = true) (q : LE g W (eC d) σ H Q) : tC d.val σ H Q := by
  obtain ⟨Z, S, τ, θ, ρ, st, post⟩ := q
  exact PostR.fin post (Ex.refl _) st (New.flat st.sub h)
/-! ### operators -/
def D.view : D → D
  | .lab _ d => d.view
  | d => d
theorem Rep.view : ∀ {d : D} {v : V}, Rep g S d v → Rep g S d.view v
  | .lab _ d, _, ⟨_, r⟩ => Rep.view (d := d) r
  | .non, _, r | .bl _, _, r | .int _, _, r | .str _, _, r | .lst _, _, r | .tup _, _, r | .dct _, _, r | .ins _ _, _, r | .exn _ _, _, r | .op _, _, r | .gh _ _, _, r | .scr _, _, r | .any, _, r => r
/-- an operator on values does what f says on data -/
def OpS (g : Gb) (r : R2) (f : D → D → Option O) : Prop := ∀ S H x y dx dy o (Q : VK), Sub S H → Rep g S dx x → Rep g S dy y → f dx dy = some o → (∀ v H', New g S H o v H' → Q v H') → r x y H Q
def eBin (f : D → D → Option O) (a b : E) : E := fun ρ => (a ρ).bind fun o1 ρ1 => (b ρ1).bind fun o2 ρ2 => R.of (f o1.d.view o2.d.view) ρ2
theorem le_bin {r : R2} {f : D → D → Option O} (hs : OpS g r f) (q : LE g W (eBin f ma mb) σ H Q) : tOp r (LE g W ma) (LE g W mb) σ H Q := by
  obtain ⟨Z, S, τ, θ, ρ, st, post⟩ := q
  refine step0 st post fun o1 ρ1 v1 S1 H1 e1 st1 post1 => ?_
  refine stepN (n := 1) st1 rfl rfl post1 fun o2 ρ2 v2 S2 H2 e2 st2 post2 => ?_
  obtain ⟨S3, e3, st3, a1, r1, ea, ra, b1, r2, eb, rb, _⟩ := st2.popN 2 [v1, v2] [o1, o2] rfl rfl
  cases ea
  cases eb
  obtain ⟨o, hf, post3⟩ := post2.of
  exact hs S3 H2 v1 v2 _ _ o Q st3.sub ra.view rb.view hf fun v H' n => post3.fin e3 st3 n
def eUn (f : D → Option O) (a : E) : E := fun ρ => (a ρ).bind fun o1 ρ1 => R.of (f o1.d.view) ρ1
/-! ### and, or, not, if else: bools decide -/
def eAnd (a b : E) : E := fun ρ => (a ρ).bind fun o ρ1 => match o with
  | .sh (.bl true) => b ρ1
  | .sh (.bl false) => .ok (.sh (.bl false)) ρ1
  | _ => .stuck
def eOr (a b : E) : E := fun ρ => (a ρ).bind fun o ρ1 => match o with
  | .sh (.bl true) => .ok (.sh (.bl true)) ρ1
  | .sh (.bl false) => b ρ1
  | _ => .stuck
def eNot (a : E) : E := fun ρ => (a ρ).bind fun o ρ1 => match o with
  | .sh (.bl b) => .ok (.sh (.bl (!b))) ρ1
  | _ => .stuck
def eIf (t a b : E) : E := fun ρ => (t ρ).bind fun o ρ1 => match o with
  | .sh (.bl true) => a ρ1
  | .sh (.bl false) => b ρ1
  | _ => .stuck
/-- a bool is read; it decides -/
theorem step_bl {k : O → E} (st : St g Z S H τ θ σ ρ) (post : PostR g W Z S τ θ σ ((m ρ).bind k) Q) (hb : ∀ o ρ1, (∀ b, o ≠ .sh (.bl b)) → k o ρ1 = .stuck)
    (hk : ∀ b ρ1 S1 H1, Ex S S1 → St g Z S1 H1 τ θ σ ρ1 → PostR g W Z S1 τ θ σ (k (.sh (.bl b)) ρ1) Q → Q' (.bl b) H1) : LE g W m σ H Q' :=
  step0 st post fun o1 ρ1 v1 S1 H1 e1 st1 post1 => by
    by_cases z : ∃ b, o1 = .sh (.bl b)
    · obtain ⟨b, rfl⟩ := z
      obtain ⟨S2, e2, st2, ra⟩ := st1.pop
      have ev : v1 = .bl b := ra
      subst ev
      exact hk b ρ1 S2 H1 (e1.trans e2) st2 (post1.mono e2)
    · rw [hb o1 ρ1 fun b e => z ⟨b, e⟩] at post1
      exact post1.elim
theorem le_and (q : LE g W (eAnd ma mb) σ H Q) : tAndV (LE g W ma) (LE g W mb) σ H Q := by
  obtain ⟨Z, S, τ, θ, ρ, st, post⟩ := q
  refine step_bl st post (fun o ρ1 h => ?_) fun b ρ1 S1 H1 e1 st1 post1 => ⟨b, rfl, ?_⟩
  · split
    · exact (h _ rfl).elim
    · exact (h _ rfl).elim
    · rfl
  · cases b with
    | true => exact iteT ⟨Z, S1, τ, θ, ρ1, st1, post1⟩
    | false => exact iteF (PostR.fin post1 (Ex.refl _) st1 (New.flat (d := .bl false) st1.sub rfl))
theorem le_not (q : LE g W (eNot ma) σ H Q) : tNotV (LE g W ma) σ H Q := by
  obtain ⟨Z, S, τ, θ, ρ, st, post⟩ := q
  refine step_bl st post (fun o ρ1 h => ?_) fun b ρ1 S1 H1 e1 st1 post1 => ⟨b, rfl, ?_⟩
  · split
    · exact (h _ rfl).elim
    · rfl
  · exact PostR.fin post1 (Ex.refl _) st1 (New.flat (d := .bl (!b)) st1.sub rfl)
theorem le_if (q : LE g W (eIf mc ma mb) σ H Q) : tIf (LT g W mc) (LE g W ma) (LE g W mb) σ H Q := by
  obtain ⟨Z, S, τ, θ, ρ, st, post⟩ := q
  refine step_bl st post (fun o ρ1 h => ?_) fun b ρ1 S1 H1 e1 st1 post1 => ⟨b, rfl, ?_⟩
  · split
    · exact (h _ rfl).elim
    · exact (h _ rfl).elim
    · rfl
  · cases b with
    | true => exact iteT ⟨Z, S1, τ, θ, ρ1, st1, post1⟩
    | false => exact iteF ⟨Z, S1, τ, θ, ρ1, st1, post1⟩
theorem lt_and {Q : Bool → Hp → Prop} (q : LT g W (eAnd ma mb) σ H Q) : tAnd (LT g W ma) (LT g W mb) σ H Q := by
  obtain ⟨Z, S, τ, θ, ρ, st, post⟩ := q
  refine step_bl st post (fun o ρ1 h => ?_) fun b ρ1 S1 H1 e1 st1 post1 => ⟨b, rfl, ?_⟩
  · split
    · exact (h _ rfl).elim
    · exact (h _ rfl).elim
    · rfl
  · cases b with
    | true => exact iteT ⟨Z, S1, τ, θ, ρ1, st1, post1⟩
    | false =>
      obtain ⟨c, e, q⟩ := PostR.fin post1 (Ex.refl _) st1 (New.flat (d := .bl false) st1.sub rfl)
      cases e
      exact iteF q
theorem lt_or {Q : Bool → Hp → Prop} (q : LT g W (eOr ma mb) σ H Q) : tOr (LT g W ma) (LT g W mb) σ H Q := by
  obtain ⟨Z, S, τ, θ, ρ, st, post⟩ := q
  refine step_bl st post (fun o ρ1 h => ?_) fun b ρ1 S1 H1 e1 st1 post1 => ⟨b, rfl, ?_⟩
  · split
    · exact (h _ rfl).elim
    · exact (h _ rfl).elim
    · rfl
  · cases b with
    | false => exact iteF ⟨Z, S1, τ, θ, ρ1, st1, post1⟩
    | true =>
      obtain ⟨c, e, q⟩ := PostR.fin post1 (Ex.refl _) st1 (New.flat (d := .bl true) st1.sub rfl)
      cases e
      exact iteT q
theorem lt_not {Q : Bool → Hp → Prop} (q : LT g W (eNot ma) σ H Q) : tNot (LT g W ma) σ H Q := by
  obtain ⟨Z, S, τ, θ, ρ, st, post⟩ := q
  refine step_bl st post (fun o ρ1 h => ?_) fun b ρ1 S1 H1 e1 st1 post1 => ⟨b, rfl, ?_⟩
  · split
    · exact (h _ rfl).elim
    · rfl
  · obtain ⟨c, e, q⟩ := PostR.fin post1 (Ex.refl _) st1 (New.flat (d := .bl (!b)) st1.sub rfl)
    cases e
    exact q
/-! ### argument lists, displays -/
theorem la_nil {Q : List V → Hp → Prop} (q : LA g W [] σ H Q) : tNil σ H Q := by
  obtain ⟨Z, S, τ, θ, ρ, st, post⟩ := q
  exact post [] S H (Ex.refl _) st.nil
theorem la_cons {ms : List E} {Q : List V → Hp → Prop} (q : LA g W (m :: ms) σ H Q) : tCons (LE g W m) (LA g W ms) σ H Q := by
  obtain ⟨Z, S, τ, θ, ρ, st, post⟩ := q
  refine ⟨Z, S, τ, θ, ρ, st, ?_⟩
  unfold evs at post
  cases h : m ρ with
  | stuck => rw [h] at post; exact post.elim
  | exc x ρ1 => rw [h] at post; exact post
  | ok o ρ1 =>
    rw [h] at post
    intro v S1 H1 e1 st1
    refine ⟨Z, S1, τ ++ [v], θ ++ [o], ρ1, st1, ?_⟩
    dsimp only at post
    cases h2 : evs ms ρ1 with
    | stuck => rw [h2] at post; exact post.elim
    | exc x ρ2 =>
      rw [h2] at post
      intro d S2 H2 e2 st2 xa
      obtain ⟨S3, e3, st3, _⟩ := st2.pop
      exact post d S3 H2 ((e1.trans e2).trans e3) st3 (xa.mono e3)
    | ok os ρ2 =>
      rw [h2] at post
      intro vs S2 H2 e2 st2
      rw [List.append_assoc, List.append_assoc] at st2
      exact post (v :: vs) S2 H2 (e1.trans e2) st2
/-- all parts are read, then k -/
theorem stepA {ms : List E} {k : List O → E} {Q' : List V → Hp → Prop} (st : St g Z S H τ θ σ ρ) (post : PostR g W Z S τ θ σ ((evs ms ρ).bind k) Q)
    (hk : ∀ os ρ1 vs S1 H1, Ex S S1 → vs.length = os.length → St g Z S1 H1 (τ ++ vs) (θ ++ os) σ ρ1 → PostR g W Z S1 τ θ σ (k os ρ1) Q → Q' vs H1) : LA g W ms σ H Q' := by
  refine ⟨Z, S, τ, θ, ρ, st, ?_⟩
  cases h : evs ms ρ with
  | stuck => rw [h] at post; exact post.elim
  | exc x ρ1 => rw [h] at post; exact post
  | ok os ρ1 =>
    rw [h] at post
    intro vs S1 H1 e1 st1
    have l := st1.tlen
    have l0 := st.tlen
    exact hk os ρ1 vs S1 H1 e1 (by simp at l; omega) st1 (PostR.mono e1 post)
theorem Hold.wrap {A : List Addr} {α : Nat → List Addr} {vs : List V} {os : List O} (h : Hold g Z S H (τ ++ vs) (θ ++ os) σ ρ A α) (l : τ.length = θ.length) {p : Addr} (hp : H p = none) : St g Z S (upd H p (.lst vs)) (τ ++ [.ref p]) (θ ++ [.lst os]) σ ρ := by
  have h' := h.grow (Gr.new (o := .lst vs) hp)
  obtain ⟨A1, A2, e, r1, r2⟩ := h'.tmp.split l
  subst e
  have out : ∀ a, (a ∈ A1 ++ A2 ∨ ∃ i, a ∈ α i) → a ≠ p := fun a m z => by
    obtain ⟨_, ⟨u, q⟩, _⟩ := h.own a m
    rw [z, hp] at q; cases q
  obtain ⟨n1, n2, n3⟩ := List.nodup_append.mp h.ndA
  refine ⟨A1 ++ p :: A2, α, h'.bs, r1.append (RelOs.one ⟨p, vs, A2, rfl, upd_same, rfl, r2⟩), h'.len, h'.slot, ?_, h'.nd, h'.dis, ?_, ?_, h'.pin⟩
  · refine List.nodup_append.mpr ⟨n1, List.nodup_cons.mpr ⟨fun m => out p (.inl (List.mem_append_right _ m)) rfl, n2⟩, fun a m b m2 z => ?_⟩
    rcases List.mem_cons.mp m2 with m2 | m2
    · exact out a (.inl (List.mem_append_left _ m)) (z.trans m2)
    · exact n3 a m b m2 z
  · intro i a m m2
    rcases List.mem_append.mp m2 with m2 | m2
    · exact h.disA i a m (List.mem_append_left _ m2)
    · rcases List.mem_cons.mp m2 with m2 | m2
      · exact out a (.inr ⟨i, m⟩) m2
      · exact h.disA i a m (List.mem_append_right _ m2)
  · rintro a (m | m)
    · rcases List.mem_append.mp m with m | m
      · exact h'.own a (.inl (List.mem_append_left _ m))
      · rcases List.mem_cons.mp m with m | m
        · subst m
          exact ⟨h.bs.sub.none hp, ⟨_, upd_same⟩, .inr (h.bs.fresh hp), h.bs.notb hp⟩
        · exact h'.own a (.inl (List.mem_append_right _ m))
    · exact h'.own a (.inr m)
def eLst (ms : List E) : E := fun ρ => (evs ms ρ).bind fun os ρ1 => if os.length ≤ 1000000 then .ok (.lst os) ρ1 else .stuck
theorem small {n : Nat} (h : n ≤ 1000000) : n ≤ sizeLine := Nat.le_trans h (by decide)
theorem le_lst {ms : List E} (q : LE g W (eLst ms) σ H Q) : tLst (LA g W ms) σ H Q := by
  obtain ⟨Z, S, τ, θ, ρ, st, post⟩ := q
  refine stepA st post fun os ρ1 vs S1 H1 e1 l st1 post1 => ?_
  split at post1
  · rename_i hl
    refine ⟨small (by omega), fun p hp => ?_⟩
    obtain ⟨A, α, h1⟩ := st1
    exact post1 _ S1 _ (Ex.refl _) (h1.wrap st.tlen hp)
  · exact post1.elim
def eTup (ms : List E) : E := fun ρ => (evs ms ρ).bind fun os ρ1 => if os.length ≤ 1000000 then .ok (.sh (.tup (O.ds os))) ρ1 else .stuck
theorem New.tup {ds : List D} {vs : List V} {p : Addr} (e : Sub S H) (r : Reps g S ds vs) (hp : H p = none) : New g S H (.sh (.tup ds)) (.ref p) (upd H p (.tup vs)) := by
  have hs : S p = none := e.none hp
  refine ⟨upd S p (.tup vs), [], Ex.new hs, fun a h1 h2 => ?_, fun a u q => ?_, ⟨rfl, p, vs, rfl, .inl (.inl upd_same), Reps.mono (Ex.new hs) _ _ r⟩, List.nodup_nil, fun _ m => (nomatch m), Gr.new hp⟩
  · by_cases z : a = p
    · rw [z]; exact hp
    · rw [upd_ne z] at h1; exact absurd h2 h1
  · by_cases z : a = p
    · subst z; rw [upd_same] at q ⊢; exact q
    · rw [upd_ne z] at q ⊢; exact e a u q
theorem le_tup {ms : List E} (q : LE g W (eTup ms) σ H Q) : tTup (LA g W ms) σ H Q := by
  obtain ⟨Z, S, τ, θ, ρ, st, post⟩ := q
  refine stepA st post fun os ρ1 vs S1 H1 e1 l st1 post1 => ?_
  split at post1
  · rename_i hl
    refine ⟨small (by omega), fun p hp => ?_⟩
    obtain ⟨S2, e2, st2, rep⟩ := st1.popN os.length vs os l rfl
    exact post1.fin e2 st2 (New.tup st2.sub rep hp)
  · exact post1.elim
/-! ### builtins on values -/
def CallS (g : Gb) (r : List V → Hp → VK → Prop) (f : List D → Option O) : Prop := ∀ S H xs ds o (Q : VK), Sub S H → Reps g S ds xs → f (ds.map D.view) = some o → (∀ v H', New g S H o v H' → Q v H') → r xs H Q
def eCB (f : List D → Option O) (ms : List E) : E := fun ρ => (evs ms ρ).bind fun os ρ1 => R.of (f ((O.ds os).map D.view)) ρ1
theorem le_callB {r : List V → Hp → VK → Prop} {f : List D → Option O} {ms : List E} (hs : CallS g r f) (q : LE g W (eCB f ms) σ H Q) : tCB r (LA g W ms) σ H Q := by
  obtain ⟨Z, S, τ, θ, ρ, st, post⟩ := q
  refine stepA st post fun os ρ1 vs S1 H1 e1 l st1 post1 => ?_
  obtain ⟨o, hf, post3⟩ := post1.of
  obtain ⟨S2, e2, st2, rep⟩ := st1.popN os.length vs os l rfl
  exact hs S2 H1 vs _ o Q st2.sub rep hf fun v H' n => post3.fin e2 st2 n
end
end DL
set_option Elab.async false
set_option linter.all false
set_option maxRecDepth 100000
set_option autoImplicit false
/-! DL3: statements; a def's promise by a function; calls. -/
namespace DL
open PySem PySem.Spec PyProof.Rows L2
inductive Out where
  | next (ρ : En) | ret (o : O) (ρ : En) | brk (ρ : En) | cont (ρ : En) | exc (x : Exn) (ρ : En) | stuck
abbrev Sm := En → Out
def R.toO : R → (O → En → Out) → Out
  | .ok o ρ, k => k o ρ
  | .exc x ρ, _ => .exc x ρ
  | .stuck, _ => .stuck
def PostO (g : Gb) (W : WX) (Z : Zn) (S : Hp) (r : Out) (D : Ends) : Prop := match r with
  | .next ρ => ∀ σ' S' H', Ex S S' → St g Z S' H' [] [] σ' ρ → D.nx σ' H'
  | .brk ρ => ∀ σ' S' H', Ex S S' → St g Z S' H' [] [] σ' ρ → D.bk σ' H'
  | .cont ρ => ∀ σ' S' H', Ex S S' → St g Z S' H' [] [] σ' ρ → D.ct σ' H'
  | .ret o ρ => ∀ v σ' S' H', Ex S S' → St g Z S' H' [v] [o] σ' ρ → D.rt v H'
  | .exc x ρ => ∀ d σ' S' H', Ex S S' → St g Z S' H' [] [] σ' ρ → ExnAt g S' H' x d → W (.ref (g.cn x.c)) d σ' H'
  | .stuck => False
def LS (g : Gb) (W : WX) (m : Sm) : TS := fun D σ H => ∃ Z S ρ, St g Z S H [] [] σ ρ ∧ PostO g W Z S (m ρ) D
theorem PS_imp {X : Cx} {s : Stmt} {t t' : TS} (h : PS X s t) (k : ∀ D σ H, t' D σ H → t D σ H) : PS X s t' := ⟨fun pins s σ H D I q => h.run pins s σ H D I (k _ _ _ q)⟩
theorem PSs_imp {X : Cx} {s : List Stmt} {t t' : TS} (h : PSs X s t) (k : ∀ D σ H, t' D σ H → t D σ H) : PSs X s t' := ⟨fun pins s σ H D I q => h.run pins s σ H D I (k _ _ _ q)⟩
section
variable {g : Gb} {W : WX} {Z : Zn} {S S' H H' : Hp} {τ τ' : List V} {θ θ' : List O} {σ : Sg} {ρ : En} {Q Q' : VK} {m ma mb mc : E} {o : O} {v : V} {D : Ends} {a b : Sm}
theorem PostO.mono {r : Out} (e : Ex S S') (h : PostO g W Z S r D) : PostO g W Z S' r D := by
  cases r with
  | next ρ => exact fun σ' T H' q st => h σ' T H' (e.trans q) st
  | brk ρ => exact fun σ' T H' q st => h σ' T H' (e.trans q) st
  | cont ρ => exact fun σ' T H' q st => h σ' T H' (e.trans q) st
  | ret o ρ => exact fun v σ' T H' q st => h v σ' T H' (e.trans q) st
  | exc x ρ => exact fun d σ' T H' q st => h d σ' T H' (e.trans q) st
  | stuck => exact h
theorem sstep {k : O → En → Out} (st : St g Z S H [] [] σ ρ) (post : PostO g W Z S ((m ρ).toO k) D)
    (hk : ∀ o ρ1 v S1 H1, Ex S S1 → St g Z S1 H1 [v] [o] σ ρ1 → PostO g W Z S1 (k o ρ1) D → Q' v H1) : LE g W m σ H Q' := by
  refine ⟨Z, S, [], [], ρ, st, ?_⟩
  cases h : m ρ with
  | ok o ρ1 => rw [h] at post; exact fun v S1 H1 e1 st1 => hk o ρ1 v S1 H1 e1 st1 (PostO.mono e1 post)
  | exc x ρ1 => rw [h] at post; exact fun d S1 H1 e1 st1 xa => post d σ S1 H1 e1 st1 xa
  | stuck => rw [h] at post; exact post
theorem sstep_bl {k : O → En → Out} (st : St g Z S H [] [] σ ρ) (post : PostO g W Z S ((m ρ).toO k) D) (hb : ∀ o ρ1, (∀ b, o ≠ .sh (.bl b)) → k o ρ1 = .stuck)
    (hk : ∀ b ρ1 S1 H1, Ex S S1 → St g Z S1 H1 [] [] σ ρ1 → PostO g W Z S1 (k (.sh (.bl b)) ρ1) D → Q' (.bl b) H1) : LE g W m σ H Q' :=
  sstep st post fun o1 ρ1 v1 S1 H1 e1 st1 post1 => by
    by_cases z : ∃ b, o1 = .sh (.bl b)
    · obtain ⟨b, rfl⟩ := z
      obtain ⟨S2, e2, st2, ra⟩ := St.pop (τ := []) (θ := []) st1
      have ev : v1 = .bl b := ra
      subst ev
      exact hk b ρ1 S2 H1 (e1.trans e2) st2 (post1.mono e2)
    · rw [hb o1 ρ1 fun b e => z ⟨b, e⟩] at post1
      exact post1.elim
def sNext : Sm := fun ρ => .next ρ
theorem ls_nil (q : LS g W sNext D σ H) : tNext D σ H := by
  obtain ⟨Z, S, ρ, st, post⟩ := q
  exact post σ S H (Ex.refl _) st
def Out.andThen : Out → Sm → Out
  | .next ρ, k => k ρ
  | r, _ => r
def sSeq (a b : Sm) : Sm := fun ρ => (a ρ).andThen b
theorem ls_seq (q : LS g W (sSeq a b) D σ H) : tSeq (LS g W a) (LS g W b) D σ H := by
  obtain ⟨Z, S, ρ, st, post⟩ := q
  refine ⟨Z, S, ρ, st, ?_⟩
  unfold sSeq at post
  cases h : a ρ with
  | next ρ1 => rw [h] at post; exact fun σ' S1 H1 e1 st1 => ⟨Z, S1, ρ1, st1, PostO.mono e1 post⟩
  | brk ρ1 => rw [h] at post; exact post
  | cont ρ1 => rw [h] at post; exact post
  | ret o ρ1 => rw [h] at post; exact post
  | exc x ρ1 => rw [h] at post; exact post
  | stuck => rw [h] at post; exact post
def sIf (t : E) (a b : Sm) : Sm := fun ρ => (t ρ).toO fun o ρ1 => match o with
  | .sh (.bl true) => a ρ1
  | .sh (.bl false) => b ρ1
  | _ => .stuck
theorem ls_if (q : LS g W (sIf m a b) D σ H) : tIfS (LT g W m) (LS g W a) (LS g W b) D σ H := by
  obtain ⟨Z, S, ρ, st, post⟩ := q
  refine sstep_bl st post (fun o ρ1 h => ?_) fun b ρ1 S1 H1 e1 st1 post1 => ⟨b, rfl, ?_⟩
  · split
    · exact (h _ rfl).elim
    · exact (h _ rfl).elim
    · rfl
  · cases b with
    | true => exact iteT ⟨Z, S1, ρ1, st1, post1⟩
    | false => exact iteF ⟨Z, S1, ρ1, st1, post1⟩
/-- x = e; x is no name that was handed over for change -/
def En.put (ρ : En) (i : Nat) (o : O) : Out := match ρ[i]? with
  | some (.b _) => .stuck
  | some _ => .next (ρ.set i (.v o))
  | none => .stuck
def sSet (i : Nat) (m : E) : Sm := fun ρ => (m ρ).toO fun o ρ1 => En.put ρ1 i o
theorem put_next {i : Nat} (st : St g Z S H [v] [o] σ ρ) (post : PostO g W Z S (En.put ρ i o) D) : D.nx (σ.set i (some v)) H := by
  unfold En.put at post
  cases h : ρ[i]? with
  | none => rw [h] at post; exact post.elim
  | some sl =>
    rw [h] at post
    have il := (List.getElem?_eq_some_iff.mp h).1
    cases sl with
    | b o' => exact post.elim
    | no => exact post _ S H (Ex.refl _) (St.store (τ := []) (θ := []) st il fun o' z => by rw [h] at z; cases z)
    | v o' => exact post _ S H (Ex.refl _) (St.store (τ := []) (θ := []) st il fun o' z => by rw [h] at z; cases z)
theorem ls_set {i : Nat} (q : LS g W (sSet i m) D σ H) : tAsg (LE g W m) (gName i) D σ H := by
  obtain ⟨Z, S, ρ, st, post⟩ := q
  exact sstep st post fun o1 ρ1 v1 S1 H1 e1 st1 post1 => put_next st1 post1
def sDrop (m : E) : Sm := fun ρ => (m ρ).toO fun _ ρ1 => .next ρ1
theorem ls_drop (q : LS g W (sDrop m) D σ H) : tDrop (LE g W m) D σ H := by
  obtain ⟨Z, S, ρ, st, post⟩ := q
  refine sstep st post fun o1 ρ1 v1 S1 H1 e1 st1 post1 => ?_
  obtain ⟨S2, e2, st2, _⟩ := St.pop (τ := []) (θ := []) st1
  exact post1 σ S2 H1 e2 st2
def sRet (m : E) : Sm := fun ρ => (m ρ).toO fun o ρ1 => .ret o ρ1
theorem ls_ret (q : LS g W (sRet m) D σ H) : tRet (LE g W m) D σ H := by
  obtain ⟨Z, S, ρ, st, post⟩ := q
  exact sstep st post fun o1 ρ1 v1 S1 H1 e1 st1 post1 => post1 v1 σ S1 H1 (Ex.refl _) st1
/-- return x: what x owns goes out -/
def sRetV (i : Nat) : Sm := fun ρ => match ρ[i]? with
  | some (.v o) => .ret o (ρ.set i .no)
  | _ => .stuck
theorem St.take {i : Nat} (h : St g Z S H [] [] σ ρ) (hi : ρ[i]? = some (.v o)) : ∃ v, σ[i]? = some (some v) ∧ St g Z S H [v] [o] σ (ρ.set i .no) := by
  obtain ⟨A, α, h⟩ := h
  obtain ⟨v, e, r⟩ := h.slot i o (.inl hi)
  have il := (List.getElem?_eq_some_iff.mp hi).1
  obtain ⟨_, hA⟩ := h.tmp
  subst hA
  refine ⟨v, e, α i, fun j => if j = i then [] else α j, h.bs, RelOs.one r, by rw [List.length_set]; exact h.len, ?_, h.nd i, ?_, ?_, ?_, ?_, ?_⟩
  · intro j o' hj
    by_cases z : j = i
    · subst z
      rw [List.getElem?_set_self il] at hj
      rcases hj with hj | hj <;> cases hj
    · rw [List.getElem?_set_ne (Ne.symm z)] at hj
      rw [if_neg z]
      exact h.slot j o' hj
  · intro j; (try dsimp only); split
    · exact List.nodup_nil
    · exact h.nd j
  · intro j k n a m
    (try dsimp only at m ⊢)
    split at m
    · cases m
    · split
      · exact List.not_mem_nil
      · exact h.dis j k n a m
  · intro j a m m2
    (try dsimp only at m)
    split at m
    · cases m
    · rename_i z
      exact h.dis j i z a m m2
  · intro a m
    refine h.own a (.inr ?_)
    rcases m with m | ⟨j, m⟩
    · exact ⟨i, m⟩
    · (try dsimp only at m)
      split at m
      · cases m
      · exact ⟨j, m⟩
  · intro j o' hj
    by_cases z : j = i
    · subst z
      rw [List.getElem?_set_self il] at hj
      cases hj
    · rw [List.getElem?_set_ne (Ne.symm z)] at hj
      exact h.pin j o' hj
theorem ls_retV {i : Nat} (q : LS g W (sRetV i) D σ H) : tRet (tVar i) D σ H := by
  obtain ⟨Z, S, ρ, st, post⟩ := q
  unfold sRetV at post
  split at post
  · rename_i o e
    obtain ⟨v, e2, st2⟩ := st.take e
    exact ⟨v, e2, post v σ S H (Ex.refl _) st2⟩
  · exact post.elim
def sRetN : Sm := fun ρ => .ret (.sh .non) ρ
end
/-! ### a def's promise -/
def PostF (g : Gb) (Z : Zn) (r : R) (Q : VK) (E : XK) : Prop := match r with
  | .ok o ρ => ∀ v S' H', St g Z S' H' [v] [o] Z.σ0 ρ → Q v H'
  | .exc x ρ => ∀ d S' H', St g Z S' H' [] [] Z.σ0 ρ → ExnAt g S' H' x d → E (.ref (g.cn x.c)) d H'
  | .stuck => False
/-- called with n values that are so (shared | handed over for change), it does what f says -/
def spD (g : Gb) (n : Nat) (f : List O → R) : Sp := fun vs H Q E => vs.length = n ∧ ∃ S os A, RelOs g S H os vs A ∧ A.Nodup ∧ (∀ a ∈ A, S a = none ∧ a ∉ g.tb) ∧ Sub S H ∧ (∀ p ∈ g.tb, TabN g S H p ∧ S p = none) ∧ PostF g ⟨S, H, A, vs.map some⟩ (f os) Q E
def ini : List Bool → List O → En
  | true :: bs, o :: os => .b o :: ini bs os
  | false :: bs, o :: os => .v o :: ini bs os
  | [], o :: os => .v o :: ini [] os
  | _, [] => []
def backs (n : Nat) (ρ : En) : En := (ρ.take n).map fun s => match s with
  | .b o => .b o
  | _ => .no
def Out.back (n : Nat) : Out → R
  | .next ρ => .ok (.sh .non) (backs n ρ)
  | .ret o ρ => .ok o (backs n ρ)
  | .exc x ρ => .exc x (backs n ρ)
  | _ => .stuck
/-- the def's function: n parameters (which of them are handed over for change), k further names, the body -/
def mkFn (n k : Nat) (bor : List Bool) (m : Sm) : List O → R := fun os => (m (ini bor os ++ List.replicate k .no)).back n
section
variable {g : Gb} {W : WX} {Z : Zn} {S S' H H' : Hp} {τ τ' : List V} {θ θ' : List O} {σ : Sg} {ρ : En} {Q Q' : VK} {m ma mb mc : E} {o : O} {v : V} {D : Ends}
theorem ini_get : ∀ (bs : List Bool) (os : List O) (i : Nat) (o : O), ((ini bs os)[i]? = some (.v o) ∨ (ini bs os)[i]? = some (.b o)) → os[i]? = some o
  | true :: bs, p :: os, 0, o, h => by rcases h with h | h <;> simp [ini] at h; subst h; rfl
  | false :: bs, p :: os, 0, o, h => by rcases h with h | h <;> simp [ini] at h; subst h; rfl
  | [], p :: os, 0, o, h => by rcases h with h | h <;> simp [ini] at h; subst h; rfl
  | true :: bs, p :: os, i + 1, o, h => by simpa using ini_get bs os i o (by simpa [ini] using h)
  | false :: bs, p :: os, i + 1, o, h => by simpa using ini_get bs os i o (by simpa [ini] using h)
  | [], p :: os, i + 1, o, h => by simpa using ini_get [] os i o (by simpa [ini] using h)
  | [], [], i, o, h => by rcases h with h | h <;> simp [ini] at h
  | true :: bs, [], i, o, h => by rcases h with h | h <;> simp [ini] at h
  | false :: bs, [], i, o, h => by rcases h with h | h <;> simp [ini] at h
theorem ini_len : ∀ (bs : List Bool) (os : List O), (ini bs os).length = os.length
  | true :: bs, p :: os => by simp [ini, ini_len bs os]
  | false :: bs, p :: os => by simp [ini, ini_len bs os]
  | [], p :: os => by simp [ini, ini_len [] os]
  | [], [] => rfl
  | true :: bs, [] => rfl
  | false :: bs, [] => rfl
theorem RelOs.parts : ∀ {os : List O} {vs : List V} {A : List Addr}, RelOs g S H os vs A → A.Nodup → ∃ α : Nat → List Addr, (∀ i o, os[i]? = some o → ∃ v, vs[i]? = some v ∧ RelO g S H o v (α i)) ∧ (∀ i, (α i).Nodup) ∧ (∀ i j, i ≠ j → ∀ a ∈ α i, a ∉ α j) ∧ ∀ i, ∀ a ∈ α i, a ∈ A
  | [], _, _, _, _ => ⟨fun _ => [], fun i o h => by simp at h, fun _ => List.nodup_nil, fun _ _ _ a m => (nomatch m), fun _ a m => (nomatch m)⟩
  | o :: os, _, _, ⟨v, r, A1, A2, e, eA, x, y⟩, nd => by
    subst eA
    obtain ⟨n1, n2, n3⟩ := List.nodup_append.mp nd
    obtain ⟨α, h1, h2, h3, h4⟩ := RelOs.parts y n2
    refine ⟨fun i => match i with | 0 => A1 | i + 1 => α i, fun i o' hi => ?_, fun i => ?_, fun i j hij a m => ?_, fun i a m => ?_⟩
    · cases i with
      | zero =>
        have : o = o' := by simpa using hi
        subst this
        exact ⟨v, by rw [e]; rfl, x⟩
      | succ i =>
        obtain ⟨v', q, r'⟩ := h1 i o' (by simpa using hi)
        exact ⟨v', by rw [e]; simpa using q, r'⟩
    · cases i with
      | zero => exact n1
      | succ i => exact h2 i
    · cases i with
      | zero => cases j with
        | zero => exact (hij rfl).elim
        | succ j => exact fun m2 => n3 a m a (h4 j a m2) rfl
      | succ i => cases j with
        | zero => exact fun m2 => n3 a m2 a (h4 i a m) rfl
        | succ j => exact h3 i j (fun z => hij (by rw [z])) a m
    · cases i with
      | zero => exact List.mem_append_left _ m
      | succ i => exact List.mem_append_right _ (h4 i a m)
/-- where a body begins -/
theorem st_start {n k : Nat} {vs : List V} {os : List O} {A : List Addr} {bor : List Bool} {N : List Str} (hl : vs.length = n) (hN : N.length = n + k) (r : RelOs g S H os vs A) (nd : A.Nodup) (hA : ∀ a ∈ A, S a = none ∧ a ∉ g.tb) (e : Sub S H) (ht : ∀ p ∈ g.tb, TabN g S H p ∧ S p = none) :
    St g ⟨S, H, A, vs.map some⟩ S H [] [] (L2.start N vs) (ini bor os ++ List.replicate k .no) := by
  obtain ⟨α, h1, h2, h3, h4⟩ := r.parts nd
  have lo : os.length = n := by rw [← r.len, hl]
  have sg : ∀ i v, vs[i]? = some v → (L2.start N vs)[i]? = some (some v) := fun i v h => by
    unfold L2.start
    rw [List.getElem?_append_left (by rw [List.length_map]; exact (List.getElem?_eq_some_iff.mp h).1), List.getElem?_map, h]
    rfl
  have ig : ∀ (i : Nat) (o : O), ((ini bor os ++ List.replicate k Sl.no)[i]? = some (.v o) ∨ (ini bor os ++ List.replicate k Sl.no)[i]? = some (.b o)) → os[i]? = some o := fun i o h => by
    by_cases hi : i < (ini bor os).length
    · rw [List.getElem?_append_left hi] at h
      exact ini_get bor os i o h
    · rw [List.getElem?_append_right (by omega)] at h
      rcases h with h | h <;> (rw [List.getElem?_replicate] at h; split at h <;> cases h)
  refine ⟨[], α, ⟨e, Ex.refl _, fun a p q => absurd q p, fun a u q _ _ => .inl q, fun a u q => ⟨u, q⟩, fun p m => (ht p m).1, fun p m => (ht p m).2⟩, ⟨rfl, rfl⟩, ?_, fun i o hi => ?_, List.nodup_nil, h2, h3, fun _ _ _ => List.not_mem_nil, fun a m => ?_, fun i o hi => ?_⟩
  · unfold L2.start
    simp only [List.length_append, List.length_replicate, List.length_map, ini_len]
    omega
  · obtain ⟨v, q, r'⟩ := h1 i o (ig i o hi)
    exact ⟨v, sg i v q, r'⟩
  · rcases m with m | ⟨i, m⟩
    · cases m
    · obtain ⟨v0, q0⟩ : ∃ u, H a = some u := RelOs.dom _ _ _ r a (h4 i a m)
      exact ⟨(hA a (h4 i a m)).1, ⟨v0, q0⟩, .inl (h4 i a m), (hA a (h4 i a m)).2⟩
  · obtain ⟨v, q, _⟩ := h1 i o (ig i o (.inr hi))
    rw [sg i v q, List.getElem?_map, q]
    rfl
theorem backs_get {n i : Nat} {ρ : En} {s : Sl} (h : (backs n ρ)[i]? = some s) : i < n ∧ ((∃ o, s = .b o ∧ ρ[i]? = some (.b o)) ∨ s = .no) := by
  unfold backs at h
  rw [List.getElem?_map, List.getElem?_take] at h
  split at h
  · rename_i hi
    refine ⟨hi, ?_⟩
    cases q : ρ[i]? with
    | none => rw [q] at h; cases h
    | some t =>
      rw [q] at h
      cases t with
      | no => simp at h; exact .inr h.symm
      | v o => simp at h; exact .inr h.symm
      | b o => simp at h; exact .inl ⟨o, h.symm, rfl⟩
  · cases h
/-- what the caller gets back -/
theorem St.back {n : Nat} (h : St g Z S H τ θ σ ρ) (hn : Z.σ0.length = n) : St g Z S H τ θ Z.σ0 (backs n ρ) := by
  obtain ⟨A, α, h⟩ := h
  refine ⟨A, α, h.bs, h.tmp, ?_, fun i o hi => ?_, h.ndA, h.nd, h.dis, h.disA, h.own, fun i o hi => rfl⟩
  · unfold backs
    rw [List.length_map, List.length_take]
    omega
  · rcases hi with hi | hi
    · rcases (backs_get hi).2 with ⟨_, z, _⟩ | z <;> cases z
    · rcases (backs_get hi).2 with ⟨o', z, q⟩ | z
      · cases z
        obtain ⟨v, q1, r⟩ := h.slot i o (.inr q)
        exact ⟨v, by rw [← h.pin i o q]; exact q1, r⟩
      · cases z
end
/-- a def of the text as it stands behind the top -/
structure DefK (K : PySem.W.Frag) (x qual : Str) (st : Stmt) (f : Addr) (fd : FuncData) : Prop where
  ex : ∃ (oc : Value) (od : Option Addr) (dV kV doc pm : Value) (an : Option Addr) (cdv ct : Value) (osl : Array (Option Value)),
    fd = PySem.W.fnOf x qual (defArgs st) (defBody st) (defScope st) dV kV doc pm an cdv ct ∧ K.lookup f = some ⟨oc, od, .func fd, osl⟩ ∧ PySem.W.codeIn K cdv qual = true
/-- a def's promise, as FnOk, where no repr runs below -/
structure FnW (P : Program) (w : World) (K : PySem.W.Frag) (mg : Str → Option Value) (base : Heap) (CX : CXT) (k : Nat) (f : Addr) (fd : FuncData) (ps : List Str) (sp : Sp) : Prop where
  len : ∀ vs H Q E, sp vs H Q E → vs.length = ps.length
  run : ∀ (A : Around) (outer : List Env) (s : Shared) (H : Hp) (args : Args) (us : List Value) (vs : List V) (Q : VK) (E : XK), Room k A → A.guards = some [] → Env0 P w K mg base A outer s H → BindsTo s fd args (ps.zip us) → Vals vs us → sp vs H Q E →
    codeAny (model P w) A (.call (.ref f) args) (CR CX outer P w H s Q E) s
theorem fnW_of {CX : CXT} {P : Program} {w : World} {K : PySem.W.Frag} {mg : Str → Option Value} {base : Heap} {k : Nat} {f : Addr} {name qual : Str} {params : Arguments} {body : List Stmt} {scope : Scope} {dV kV doc pm cdv ct oc : Value} {an od : Option Addr}
    {osl : Array (Option Value)} {N ps : List Str} {sp : Sp} (lk : K.lookup f = some ⟨oc, od, .func (PySem.W.fnOf name qual params body scope dV kV doc pm an cdv ct), osl⟩) (hcd : PySem.W.codeIn K cdv qual = true) (S : FnScope N ps scope)
    (len : ∀ vs H Q E, sp vs H Q E → vs.length = ps.length)
    (hbody : ∀ (A : Around) (outer : List Env) (s : Shared) (H : Hp) (vs : List V) (Q : VK) (E : XK), Room k (A.deeper (envOfC qual scope s.heap.objs.size f cdv)) → A.guards = some [] → sp vs H Q E →
      ∃ t, PSs (cxOf CX P w K mg base N qual scope f cdv A outer s H E) body t ∧ t { nx := fun _ H' => Q .non H', rt := Q } (L2.start N vs) H) :
    FnW P w K mg base CX (k + 1) f (PySem.W.fnOf name qual params body scope dV kV doc pm an cdv ct) ps sp := by
  refine ⟨len, fun A outer s H args us vs Q E hr hgd e0 hb r hsp => ?_⟩
  have hl := len _ _ _ _ hsp
  have KX : K.In s.heap := e0.mod.kin.keeps fun b o e => (e0.bs b o e).1
  have lim : s.heap.NoLimit := e0.mod.nolimit.keeps fun b o e => (e0.bs b o e).1
  have hkind : ∀ y ∈ ps.zip us, scope.names.lookup y.1 = some .local ∨ (scope.names.lookup y.1 = some .cell ∧ ((cellsFrom (s.heap.objs.size + 1) scope.names []).lookup y.1).isSome = true) := fun ⟨n, v⟩ hy => by
    rcases S.par n (List.of_mem_zip hy).1 with q | q
    · exact .inl q
    · exact .inr ⟨q, PySem.W.cellsFrom_some _ _ _ (.inl q)⟩
  refine codeAny_call_function hr.depth (KX _ _ lk) rfl S.co S.gen rfl (PySem.W.codeRec_of KX hcd) (hb _ _ _ _ ?_)
  refine wpAny_newFunctionEnv_cells S.kind hkind fun env he s1 x => ?_
  subst he
  refine ⟨lim.keeps x.toInCall.keep, codeAny_func ?_⟩
  obtain ⟨t, ht, hq⟩ := hbody A outer s H vs Q E (hr.deeper _) hgd hsp
  have I : Inv (cxOf CX P w K mg base N qual scope f cdv A outer s H E) [] (L2.start N vs) H s1 := inv_start S hr.hd e0 hl r x
  refine wpAny_mono (ht.run [] s1 (L2.start N vs) H _ I hq) (fun fl s' hs => ?_) fun e s' hs => hs
  have fin : ∀ {σ' : L2.St} {H' : Hp} {v : V} {u : Value}, Inv (cxOf CX P w K mg base N qual scope f cdv A outer s H E) [] σ' H' s' → RelV v u → Q v H' → CE outer P w H s Q u s' :=
    fun {σ' H' v u} J rv q => ⟨v, H', J.os, J.bare, J.base, J.hok, rv, q⟩
  cases fl with
  | ret u =>
    obtain ⟨v, σ', H', J, rv, q⟩ := hs
    exact fin J rv q
  | next =>
    obtain ⟨σ', H', J, q⟩ := hs
    exact fin (v := V.non) (u := Value.none) J rfl q
  | brk =>
    obtain ⟨_, _, _, q⟩ := hs
    exact False.elim q
  | cont =>
    obtain ⟨_, _, _, q⟩ := hs
    exact False.elim q
section
variable {P : Program} {w : World} {mg : Str → Option Value} {base : Heap} {g : Gb}
abbrev WF (E : XK) : WX := fun cls d _ H => E cls d H
/-- a def by its body -/
theorem def_ok {x qual : Str} {st : Stmt} {f : Addr} {fd : FuncData} {N ps : List Str} {j n k : Nat} {bor : List Bool} {m : Sm} (F : DefK g.K x qual st f fd) (Sc : FnScope N ps (defScope st)) (hp : ps.length = n) (hN : N.length = n + k)
    (hbody : ∀ (cdv : Value) (A : Around) (outer : List Env) (s : Shared) (H : Hp) (E : XK), fd.code = cdv → Room j (A.deeper (envOfC qual (defScope st) s.heap.objs.size f cdv)) → A.guards = some [] →
      PSs (cxOf (L2.CX P w) P w g.K mg base N qual (defScope st) f cdv A outer s H E) (defBody st) (LS g (WF E) m)) : FnW P w g.K mg base (L2.CX P w) (j + 1) f fd ps (spD g n (mkFn n k bor m)) := by
  obtain ⟨oc, od, dV, kV, doc, pm, an, cdv, ct, osl, rfl, lk, hcd⟩ := F.ex
  refine fnW_of lk hcd Sc (fun vs H Q E h => h.1.trans hp.symm) fun A outer s H vs Q E hr hgd hsp => ⟨_, hbody cdv A outer s H E rfl hr hgd, ?_⟩
  obtain ⟨hl, S, os, A0, r, nd, hA, e, ht, post⟩ := hsp
  refine ⟨_, S, _, st_start (bor := bor) hl hN r nd hA e ht, ?_⟩
  have hn : (vs.map some).length = n := by rw [List.length_map, hl]
  unfold mkFn at post
  cases h : m (ini bor os ++ List.replicate k .no) with
  | next ρ =>
    rw [h] at post
    intro σ' S' H' e' st'
    obtain ⟨S2, e2, st2⟩ := st'.push (New.flat (d := .non) st'.sub rfl)
    exact post _ S2 H' (St.back st2 hn)
  | ret o ρ => rw [h] at post; exact fun v σ' S' H' e' st' => post v S' H' (St.back st' hn)
  | exc x ρ => rw [h] at post; exact fun d σ' S' H' e' st' xa => post d S' H' (St.back st' hn) xa
  | brk ρ => rw [h] at post; exact post.elim
  | cont ρ => rw [h] at post; exact post.elim
  | stuck => rw [h] at post; exact post.elim
end
/-! ### calls -/
section
variable {g : Gb} {W : WX} {Z : Zn} {S S' H H' : Hp} {τ τ' : List V} {θ θ' : List O} {σ σv : Sg} {ρ ρb : En} {Q Q' : VK} {m ma mb mc : E} {o : O} {v : V}
theorem Bs.frmO (b : Bs g Z S H) {a : Addr} {u : HO} (h : Z.H0 a = some u) (h1 : a ∉ Z.B) (h2 : a ∉ g.tb) (hn : Z.S0 a = none) : H a = some u := (b.frm a u h h1 h2).elim id fun z => (z.1 hn).elim
theorem Bs.frmT {B' : List Addr} (h : Bs g Z S H) (c : Bs g ⟨S, H, B', σv⟩ S' H') {a : Addr} {u : HO} (h1 : Z.H0 a = some u) (h2 : a ∉ Z.B) (h3 : a ∉ g.tb) (h4 : a ∉ B') : H' a = some u ∨ (Z.S0 a ≠ none ∧ ∃ kvs o, u = .dK kvs ∧ H' a = some (.frz o u)) := by
  rcases h.frm a u h1 h2 h3 with q | ⟨n, kvs, o, z, q⟩
  · rcases c.frm a u q h4 h3 with q2 | ⟨n2, kvs, o, z, q2⟩
    · exact .inl q2
    · refine .inr ⟨fun z0 => ?_, kvs, o, z, q2⟩
      rcases h.new a n2 z0 with z3 | z3
      · rw [h1] at z3; cases z3
      · exact h2 z3
  · rcases c.frm a _ q h4 h3 with q2 | ⟨n2, kvs2, o2, z2, q2⟩
    · exact .inr ⟨n, kvs, o, z, q2⟩
    · cases z2
/-- behind a call that was handed nothing for change -/
theorem St.after (st : St g Z S H τ θ σ ρ) (c : St g ⟨S, H, [], σv⟩ S' H' τ' θ' σv ρb) : Ex S S' ∧ St g Z S' H' (τ ++ τ') (θ ++ θ') σ ρ := by
  obtain ⟨A, α, h⟩ := st
  obtain ⟨A', α', c⟩ := c
  have ex : Ex S S' := c.bs.mono
  have kp : ∀ a, (a ∈ A ∨ ∃ i, a ∈ α i) → H' a = H a ∧ S' a = none := fun a m => by
    obtain ⟨q1, ⟨u, q2⟩, _, q4⟩ := h.own a m
    refine ⟨by rw [q2]; exact c.bs.frmO q2 List.not_mem_nil q4 q1, ?_⟩
    by_cases z : S' a = none
    · exact z
    · rcases c.bs.new a z q1 with z2 | z2
      · have z2 : H a = none := z2
        rw [z2] at q2; cases q2
      · cases z2
  have fr : ∀ a, a ∈ A' → H a = none := fun a m => by
    rcases (c.own a (.inl m)).2.2.1 with z | z
    · cases z
    · exact z
  have out : ∀ a, a ∈ A' → a ∉ A ∧ ∀ i, a ∉ α i := fun a m => by
    refine ⟨fun m2 => ?_, fun i m2 => ?_⟩
    · obtain ⟨_, ⟨u, q⟩, _⟩ := h.own a (.inl m2)
      rw [fr a m] at q; cases q
    · obtain ⟨_, ⟨u, q⟩, _⟩ := h.own a (.inr ⟨i, m2⟩)
      rw [fr a m] at q; cases q
  refine ⟨ex, A ++ A', α, ⟨c.bs.sub, h.bs.mono.trans ex, fun a h1 h2 => ?_, fun a u h1 h2 h3 => h.bs.frmT c.bs h1 h2 h3 List.not_mem_nil, fun a u h1 => let ⟨u', q⟩ := h.bs.dom a u h1; c.bs.dom a u' q, c.bs.tbl, c.bs.tbS⟩,
    (RelOs.mono ex θ τ A (fun a m => (kp a (.inl m)).1) h.tmp).append c.tmp, h.len, fun i o hi => let ⟨v, q, r⟩ := h.slot i o hi; ⟨v, q, RelO.mono ex o v (α i) (fun a m => (kp a (.inr ⟨i, m⟩)).1) r⟩,
    List.nodup_append.mpr ⟨h.ndA, c.ndA, fun a m b m2 z => (out b m2).1 (z ▸ m)⟩, h.nd, h.dis, fun i a m m2 => ?_, fun a m => ?_, h.pin⟩
  · by_cases q : S a = none
    · rcases c.bs.new a h1 q with z | z
      · exact .inl (h.bs.fresh z)
      · cases z
    · exact h.bs.new a q h2
  · rcases List.mem_append.mp m2 with m2 | m2
    · exact h.disA i a m m2
    · exact (out a m2).2 i m
  · have m' : (a ∈ A ∨ ∃ i, a ∈ α i) ∨ a ∈ A' := by
      rcases m with m | m
      · rcases List.mem_append.mp m with m | m
        · exact .inl (.inl m)
        · exact .inr m
      · exact .inl (.inr m)
    rcases m' with m | m
    · obtain ⟨_, ⟨u, q2⟩, q3, q4⟩ := h.own a m
      obtain ⟨k1, k2⟩ := kp a m
      exact ⟨k2, ⟨u, by rw [k1]; exact q2⟩, q3, q4⟩
    · obtain ⟨q1, q2, _, q4⟩ := c.own a (.inl m)
      exact ⟨q1, q2, .inr (h.bs.fresh (fr a m)), q4⟩
/-- the caller's view of what a def does -/
def after (r : R) (ρ : En) : R := match r with
  | .ok o _ => .ok o ρ
  | .exc x _ => .exc x ρ
  | .stuck => .stuck
/-- f(e, ..): fn is f's function, dds what its defaults are -/
def eCall (fn : List O → R) (dds : List D) (ms : List E) : E := fun ρ => (evs ms ρ).bind fun os ρ1 => after (fn ((O.ds os ++ dds).map .sh)) ρ1
theorem call_sp {n : Nat} {fn : List O → R} {ds : List D} {xs : List V} {E : XK} (st : St g Z S H τ θ σ ρ) (rep : Reps g S ds xs) (hn : ds.length = n) (hE : ∀ cls d H, W cls d σ H → E cls d H)
    (post : PostR g W Z S τ θ σ (after (fn (ds.map .sh)) ρ) Q) : spD g n fn xs H Q E := by
  refine ⟨rep.len.trans hn, S, ds.map .sh, [], RelOs.sh rep, List.nodup_nil, fun _ m => (nomatch m), st.sub, fun p m => ?_, ?_⟩
  · obtain ⟨A, α, h⟩ := st
    exact ⟨h.bs.tbl p m, h.bs.tbS p m⟩
  · cases h : fn (ds.map .sh) with
    | ok o ρb =>
      rw [h] at post
      intro v S' H' c
      obtain ⟨e', st'⟩ := st.after c
      exact post v S' H' e' st'
    | exc x ρb =>
      rw [h] at post
      intro d S' H' c xa
      obtain ⟨e', st'⟩ := st.after c
      rw [List.append_nil, List.append_nil] at st'
      exact hE _ _ _ (post d S' H' e' st' xa)
    | stuck => rw [h] at post; exact post
theorem evs_len : ∀ {ms : List E} {ρ ρ1 : En} {os : List O}, evs ms ρ = .ok os ρ1 → os.length = ms.length
  | [], _, _, _, h => by cases h; rfl
  | m :: ms, ρ, ρ1, os, h => by
    unfold evs at h
    cases h1 : m ρ with
    | ok o ρ2 =>
      rw [h1] at h
      dsimp only at h
      cases h2 : evs ms ρ2 with
      | ok os2 ρ3 => rw [h2] at h; cases h; rw [List.length_cons, List.length_cons, evs_len h2]
      | exc x ρ3 => rw [h2] at h; cases h
      | stuck => rw [h2] at h; cases h
    | exc x ρ2 => rw [h1] at h; cases h
    | stuck => rw [h1] at h; cases h
theorem stepA' {ms : List E} {k : List O → E} {Q' : List V → Hp → Prop} (st : St g Z S H τ θ σ ρ) (post : PostR g W Z S τ θ σ ((evs ms ρ).bind k) Q)
    (hk : ∀ os ρ1 vs S1 H1, Ex S S1 → vs.length = ms.length → os.length = ms.length → St g Z S1 H1 (τ ++ vs) (θ ++ os) σ ρ1 → PostR g W Z S1 τ θ σ (k os ρ1) Q → Q' vs H1) : LA g W ms σ H Q' := by
  refine ⟨Z, S, τ, θ, ρ, st, ?_⟩
  cases h : evs ms ρ with
  | stuck => rw [h] at post; exact post.elim
  | exc x ρ1 => rw [h] at post; exact post
  | ok os ρ1 =>
    rw [h] at post
    intro vs S1 H1 e1 st1
    have l := st1.tlen
    have l0 := st.tlen
    have l1 := evs_len h
    exact hk os ρ1 vs S1 H1 e1 (by simp at l; omega) l1 st1 (PostR.mono e1 post)
theorem le_call {n : Nat} {fn : List O → R} {dds : List D} {dvs : List V} {ms : List E} (hd : ∀ S, Reps g S dds dvs) (hn : ms.length + dds.length = n) (q : LE g W (eCall fn dds ms) σ H Q) : tCallSD (spD g n fn) dvs (WE W) (LA g W ms) σ H Q := by
  obtain ⟨Z, S, τ, θ, ρ, st, post⟩ := q
  refine stepA' st post fun os ρ1 vs S1 H1 e1 l1 l2 st1 post1 => ?_
  obtain ⟨S2, e2, st2, rep⟩ := st1.popN ms.length vs os l1 l2
  refine call_sp st2 (rep.append (hd S2)) ?_ (fun cls d H h => h) (post1.mono e2)
  rw [List.length_append, ds_eq_map, List.length_map, l2]
  exact hn
/-! a call that is handed the slot i for change -/
def slO : Sl → Option O
  | .v o => some o | .b o => some o | .no => none
def Sl.re (s : Sl) (o : O) : Sl := match s with
  | .b _ => .b o
  | _ => .v o
theorem St.afterB {i : Nat} {s : Sl} {oi oi' : O} {vi : V} (st : St g Z S H τ θ σ ρ) (hs : ρ[i]? = some s) (ho : slO s = some oi)
    (c : ∀ A α, Hold g Z S H τ θ σ ρ A α → St g ⟨S, H, α i, σv⟩ S' H' τ' θ' σv ρb) (hv : σ[i]? = some (some vi)) (hv0 : σv[0]? = some (some vi)) (hb : ρb[0]? = some (.b oi')) : Ex S S' ∧ St g Z S' H' (τ ++ τ') (θ ++ θ') σ (ρ.set i (s.re oi')) := by
  obtain ⟨A, α, h⟩ := st
  obtain ⟨A', α', c⟩ := c A α h
  have ex : Ex S S' := c.bs.mono
  have il := (List.getElem?_eq_some_iff.mp hs).1
  have kp : ∀ a, (a ∈ A ∨ ∃ j, j ≠ i ∧ a ∈ α j) → H' a = H a ∧ S' a = none := fun a m => by
    have m' : a ∈ A ∨ ∃ j, a ∈ α j := m.imp id fun ⟨j, _, m⟩ => ⟨j, m⟩
    have ni : a ∉ α i := fun z => by
      rcases m with m | ⟨j, n, m⟩
      · exact h.disA i a z m
      · exact h.dis j i n a m z
    obtain ⟨q1, ⟨u, q2⟩, _, q4⟩ := h.own a m'
    refine ⟨by rw [q2]; exact c.bs.frmO q2 ni q4 q1, ?_⟩
    by_cases z : S' a = none
    · exact z
    · rcases c.bs.new a z q1 with z2 | z2
      · have z2 : H a = none := z2
        rw [z2] at q2; cases q2
      · exact (ni z2).elim
  have fr : ∀ a, (a ∈ A' ∨ ∃ j, a ∈ α' j) → a ∈ α i ∨ H a = none := fun a m => (c.own a m).2.2.1
  have out : ∀ a, (a ∈ A' ∨ ∃ j, a ∈ α' j) → a ∉ A ∧ ∀ j, j ≠ i → a ∉ α j := fun a m => by
    rcases fr a m with z | z
    · exact ⟨h.disA i a z, fun j n m2 => h.dis j i n a m2 z⟩
    · refine ⟨fun m2 => ?_, fun j _ m2 => ?_⟩
      · obtain ⟨_, ⟨u, q⟩, _⟩ := h.own a (.inl m2)
        rw [z] at q; cases q
      · obtain ⟨_, ⟨u, q⟩, _⟩ := h.own a (.inr ⟨j, m2⟩)
        rw [z] at q; cases q
  have own' : ∀ a, (a ∈ A' ∨ ∃ j, a ∈ α' j) → S' a = none ∧ (∃ u, H' a = some u) ∧ (a ∈ Z.B ∨ Z.H0 a = none) ∧ a ∉ g.tb := fun a m => by
    obtain ⟨q1, q2, q3, q4⟩ := c.own a m
    refine ⟨q1, q2, ?_, q4⟩
    rcases q3 with z | z
    · exact (h.own a (.inr ⟨i, z⟩)).2.2.1
    · exact .inr (h.bs.fresh z)
  obtain ⟨v0, e0, r0⟩ := c.slot 0 oi' (.inr hb)
  have ev : v0 = vi := by rw [hv0] at e0; cases e0; rfl
  subst ev
  refine ⟨ex, A ++ A', fun j => if j = i then α' 0 else α j, ⟨c.bs.sub, h.bs.mono.trans ex, fun a h1 h2 => ?_, fun a u h1 h2 h3 => ?_, fun a u h1 => let ⟨u', q⟩ := h.bs.dom a u h1; c.bs.dom a u' q, c.bs.tbl, c.bs.tbS⟩,
    (RelOs.mono ex θ τ A (fun a m => (kp a (.inl m)).1) h.tmp).append c.tmp, by rw [List.length_set]; exact h.len, fun j o hj => ?_, List.nodup_append.mpr ⟨h.ndA, c.ndA, fun a m b m2 z => (out b (.inl m2)).1 (z ▸ m)⟩, fun j => ?_, fun j k n a m => ?_, fun j a m m2 => ?_, fun a m => ?_, fun j o hj => ?_⟩
  · by_cases q : S a = none
    · rcases c.bs.new a h1 q with z | z
      · exact .inl (h.bs.fresh z)
      · exact (h.own a (.inr ⟨i, z⟩)).2.2.1.symm
    · exact h.bs.new a q h2
  · refine h.bs.frmT c.bs h1 h2 h3 (fun z => ?_)
    rcases (h.own a (.inr ⟨i, z⟩)).2.2.1 with q | q
    · exact h2 q
    · rw [h1] at q; cases q
  · by_cases z : j = i
    · subst z
      rw [List.getElem?_set_self il] at hj
      have eo : o = oi' := by
        cases s with
        | no => cases ho
        | v p => rcases hj with hj | hj <;> cases hj; rfl
        | b p => rcases hj with hj | hj <;> cases hj; rfl
      subst eo
      exact ⟨_, hv, by rw [if_pos rfl]; exact r0⟩
    · rw [List.getElem?_set_ne (Ne.symm z)] at hj
      obtain ⟨v', q, r'⟩ := h.slot j o hj
      exact ⟨v', q, by rw [if_neg z]; exact RelO.mono ex o v' (α j) (fun a m => (kp a (.inr ⟨j, z, m⟩)).1) r'⟩
  · (try dsimp only); split
    · exact c.nd 0
    · exact h.nd j
  · (try dsimp only at m ⊢)
    split at m
    · rename_i z
      split
      · rename_i z2; exact absurd (z.trans z2.symm) n
      · rename_i z2; exact (out a (.inr ⟨0, m⟩)).2 k z2
    · rename_i z
      split
      · intro m2; exact (out a (.inr ⟨0, m2⟩)).2 j z m
      · exact h.dis j k n a m
  · (try dsimp only at m)
    split at m
    · rcases List.mem_append.mp m2 with m2 | m2
      · exact (out a (.inr ⟨0, m⟩)).1 m2
      · exact c.disA 0 a m m2
    · rename_i z
      rcases List.mem_append.mp m2 with m2 | m2
      · exact h.disA j a m m2
      · exact (out a (.inl m2)).2 j z m
  · have m' : (a ∈ A ∨ ∃ j, j ≠ i ∧ a ∈ α j) ∨ (a ∈ A' ∨ ∃ j, a ∈ α' j) := by
      rcases m with m | ⟨j, m⟩
      · rcases List.mem_append.mp m with m | m
        · exact .inl (.inl m)
        · exact .inr (.inl m)
      · (try dsimp only at m)
        split at m
        · exact .inr (.inr ⟨0, m⟩)
        · rename_i z; exact .inl (.inr ⟨j, z, m⟩)
    rcases m' with m | m
    · obtain ⟨_, ⟨u, q2⟩, q3, q4⟩ := h.own a (m.imp id fun ⟨j, _, m⟩ => ⟨j, m⟩)
      obtain ⟨k1, k2⟩ := kp a m
      exact ⟨k2, ⟨u, by rw [k1]; exact q2⟩, q3, q4⟩
    · exact own' a m
  · by_cases z : j = i
    · subst z
      rw [List.getElem?_set_self il] at hj
      cases s with
      | no => cases ho
      | v p => cases hj
      | b p => exact h.pin j p hs
    · rw [List.getElem?_set_ne (Ne.symm z)] at hj
      exact h.pin j o hj
mutual
theorem relO_addrs {g : Gb} {S H : Hp} : ∀ (o : O) v A B, RelO g S H o v A → RelO g S H o v B → A = B
  | .sh d, v, A, B, ⟨e, _⟩, ⟨e', _⟩ => by rw [e, e']
  | .lst os, v, A, B, ⟨l, vs, A', e, q, eA, r⟩, ⟨l2, vs2, A2, e2, q2, eA2, r2⟩ => by
    rw [e] at e2; cases e2
    rw [q] at q2; cases q2
    rw [eA, eA2, relOs_addrs os vs A' A2 r r2]
  | .dct os, v, A, B, ⟨l, vs, A', e, q, eA, r⟩, ⟨l2, vs2, A2, e2, q2, eA2, r2⟩ => by
    rw [e] at e2; cases e2
    rw [q] at q2; cases q2
    rw [eA, eA2, relOK_addrs os vs A' A2 r r2]
  | .ins c os, v, A, B, ⟨x, dx, vs, A', e, q, q0, eA, r⟩, ⟨x2, dx2, vs2, A2, e2, q2, q02, eA2, r2⟩ => by
    rw [e] at e2; cases e2
    rw [q] at q2; cases q2
    rw [eA, eA2, relOF_addrs os vs A' A2 r r2]
  | .tag n o, v, A, B, ⟨_, r⟩, ⟨_, r2⟩ => relO_addrs o v A B r r2
  | .tup os, v, A, B, ⟨a, vs, e, q, r⟩, ⟨a2, vs2, e2, q2, r2⟩ => by
    rw [e] at e2; cases e2
    rw [q] at q2; cases q2
    exact relOs_addrs os vs A B r r2
theorem relOs_addrs {g : Gb} {S H : Hp} : ∀ (os : List O) vs A B, RelOs g S H os vs A → RelOs g S H os vs B → A = B
  | [], _, _, _, ⟨_, e⟩, ⟨_, e'⟩ => by rw [e, e']
  | o :: os, _, _, _, ⟨v, r, A1, A2, e, eA, x, y⟩, ⟨v', r', B1, B2, e', eB, x', y'⟩ => by
    rw [e] at e'; cases e'
    rw [eA, eB, relO_addrs o v A1 B1 x x', relOs_addrs os r A2 B2 y y']
theorem relOK_addrs {g : Gb} {S H : Hp} : ∀ (os : List (Key × O)) vs A B, RelOK g S H os vs A → RelOK g S H os vs B → A = B
  | [], _, _, _, ⟨_, e⟩, ⟨_, e'⟩ => by rw [e, e']
  | (_, o) :: os, _, _, _, ⟨v, r, A1, A2, e, eA, x, y⟩, ⟨v', r', B1, B2, e', eB, x', y'⟩ => by
    rw [e] at e'; cases e'
    rw [eA, eB, relO_addrs o v A1 B1 x x', relOK_addrs os r A2 B2 y y']
theorem relOF_addrs {g : Gb} {S H : Hp} : ∀ (os : List (Str × O)) vs A B, RelOF g S H os vs A → RelOF g S H os vs B → A = B
  | [], _, _, _, ⟨_, e⟩, ⟨_, e'⟩ => by rw [e, e']
  | (_, o) :: os, _, _, _, ⟨v, r, A1, A2, e, eA, x, y⟩, ⟨v', r', B1, B2, e', eB, x', y'⟩ => by
    rw [e] at e'; cases e'
    rw [eA, eB, relO_addrs o v A1 B1 x x', relOF_addrs os r A2 B2 y y']
end
/-- f(x, e, ..): x, the slot i, is handed over for change -/
def afterB (r : R) (i : Nat) (ρ : En) : R := match r with
  | .ok o ρb => match ρb with
    | .b o' :: _ => .ok o (ρ.set i ((ρ.getD i .no).re o'))
    | _ => .stuck
  | .exc x ρb => match ρb with
    | .b o' :: _ => .exc x (ρ.set i ((ρ.getD i .no).re o'))
    | _ => .stuck
  | .stuck => .stuck
def eCallB (i : Nat) (fn : List O → R) (dds : List D) (ms : List E) : E := fun ρ => match slO (ρ.getD i .no) with
  | none => .stuck
  | some _ => (evs ms ρ).bind fun os ρ1 => match slO (ρ1.getD i .no) with
    | some oi => afterB (fn (oi :: (O.ds os ++ dds).map .sh)) i ρ1
    | none => .stuck
theorem callB_sp {i n : Nat} {fn : List O → R} {ds : List D} {xs : List V} {vi : V} {oi : O} {E : XK} (st : St g Z S H τ θ σ ρ) (hv : σ[i]? = some (some vi)) (ho : slO (ρ.getD i .no) = some oi) (rep : Reps g S ds xs) (hn : ds.length + 1 = n) (hE : ∀ cls d H, W cls d σ H → E cls d H)
    (post : PostR g W Z S τ θ σ (afterB (fn (oi :: ds.map .sh)) i ρ) Q) : spD g n fn (vi :: xs) H Q E := by
  obtain ⟨s, hs⟩ : ∃ s, ρ[i]? = some s := by
    cases q : ρ[i]? with
    | none => rw [List.getD_eq_getElem?_getD, q] at ho; cases ho
    | some s => exact ⟨s, rfl⟩
  have es : ρ.getD i .no = s := by rw [List.getD_eq_getElem?_getD, hs]; rfl
  rw [es] at ho
  obtain ⟨A, α, h⟩ := id st
  have hs2 : ρ[i]? = some (.v oi) ∨ ρ[i]? = some (.b oi) := by
    cases s with
    | no => cases ho
    | v p => cases ho; exact .inl hs
    | b p => cases ho; exact .inr hs
  obtain ⟨v', q', r'⟩ := h.slot i oi hs2
  have ev : v' = vi := by rw [hv] at q'; cases q'; rfl
  subst ev
  refine ⟨by rw [List.length_cons, rep.len]; exact hn, S, oi :: ds.map .sh, α i, ⟨v', xs, α i, [], rfl, by simp, r', RelOs.sh rep⟩, h.nd i, fun a m => ?_, st.sub, fun p m => ⟨h.bs.tbl p m, h.bs.tbS p m⟩, ?_⟩
  · obtain ⟨q1, _, _, q4⟩ := h.own a (.inr ⟨i, m⟩)
    exact ⟨q1, q4⟩
  · have zz : ∀ A2 α2, Hold g Z S H τ θ σ ρ A2 α2 → α2 i = α i := fun A2 α2 h2 => by
      obtain ⟨v2, q2, r2⟩ := h2.slot i oi hs2
      rw [hv] at q2
      cases q2
      exact relO_addrs oi v' _ _ r2 r'
    cases hf : fn (oi :: ds.map .sh) with
    | ok o ρb =>
      rw [hf] at post
      intro v S' H' c
      unfold afterB at post
      dsimp only at post
      split at post
      · rename_i o' rest
        obtain ⟨e', st'⟩ := st.afterB hs ho (fun A2 α2 h2 => by rw [zz A2 α2 h2]; exact c) hv rfl rfl
        rw [es] at post
        exact post v S' H' e' st'
      · exact post.elim
    | exc x ρb =>
      rw [hf] at post
      intro d S' H' c xa
      unfold afterB at post
      dsimp only at post
      split at post
      · rename_i o' rest
        obtain ⟨e', st'⟩ := st.afterB hs ho (fun A2 α2 h2 => by rw [zz A2 α2 h2]; exact c) hv rfl rfl
        rw [List.append_nil, List.append_nil] at st'
        rw [es] at post
        exact hE _ _ _ (post d S' H' e' st' xa)
      · exact post.elim
    | stuck => rw [hf] at post; exact post
theorem le_callB1 {i n : Nat} {fn : List O → R} {dds : List D} {dvs : List V} {ms : List E} (hd : ∀ S, Reps g S dds dvs) (hn : ms.length + dds.length + 1 = n) (q : LE g W (eCallB i fn dds ms) σ H Q) : tCallSD (spD g n fn) dvs (WE W) (tCons (tVar i) (LA g W ms)) σ H Q := by
  obtain ⟨Z, S, τ, θ, ρ, st, post⟩ := q
  unfold eCallB at post
  split at post
  · exact post.elim
  · rename_i o0 ho0
    obtain ⟨vi, hv⟩ : ∃ vi, σ[i]? = some (some vi) := by
      obtain ⟨A, α, h⟩ := id st
      cases q : ρ[i]? with
      | none => rw [List.getD_eq_getElem?_getD, q] at ho0; cases ho0
      | some s =>
        rw [List.getD_eq_getElem?_getD, q] at ho0
        cases s with
        | no => cases ho0
        | v p => obtain ⟨vi, hv, _⟩ := h.slot i p (.inl q); exact ⟨vi, hv⟩
        | b p => obtain ⟨vi, hv, _⟩ := h.slot i p (.inr q); exact ⟨vi, hv⟩
    refine ⟨vi, hv, ?_⟩
    refine stepA' st post fun os ρ1 vs S1 H1 e1 l1 l2 st1 post1 => ?_
    obtain ⟨S2, e2, st2, rep⟩ := st1.popN ms.length vs os l1 l2
    split at post1
    · rename_i oi ho
      refine callB_sp st2 hv ho (rep.append (hd S2)) ?_ (fun cls d H h => h) (post1.mono e2)
      rw [List.length_append, ds_eq_map, List.length_map, l2]
      exact hn
    · exact post1.elim
end
end DL
set_option Elab.async false
set_option linter.all false
set_option maxRecDepth 100000
set_option autoImplicit false
/-! DL4: operators on data. -/
namespace DL
open PySem PySem.Spec PyProof.Rows L2
section
variable {X : Cx} {g : Gb}
theorem OpR_or {f : Value → Value → Sem Value} {r r' : R2} (h : OpR X f r) (h' : OpR X f r') : OpR X f (fun x y H Q => r x y H Q ∨ r' x y H Q) := by
  intro pins s σ H x y v u Q I rx ry q
  rcases q with q | q
  · exact h pins s σ H x y v u Q I rx ry q
  · exact h' pins s σ H x y v u Q I rx ry q
theorem OpS.inl {r r' : R2} {f : D → D → Option O} (h : OpS g r f) : OpS g (fun x y H Q => r x y H Q ∨ r' x y H Q) f := fun S H x y dx dy o Q e rx ry hf k => .inl (h S H x y dx dy o Q e rx ry hf k)
theorem OpS.inr {r r' : R2} {f : D → D → Option O} (h : OpS g r' f) : OpS g (fun x y H Q => r x y H Q ∨ r' x y H Q) f := fun S H x y dx dy o Q e rx ry hf k => .inr (h S H x y dx dy o Q e rx ry hf k)
end
/-! ### what the operators do -/
def oI (i : Int) : Option O := some (.sh (.int i))
def oB (b : Bool) : Option O := some (.sh (.bl b))
def oS (x : Str) : Option O := some (.sh (.str x))
def dAdd : D → D → Option O
  | .int i, .int j => oI (i + j)
  | .str x, .str y => if x.length + y.length ≤ 1000000 then oS (x ++ y) else none
  | .lst xs, .lst ys => if xs.length + ys.length ≤ 1000000 then some (.lst ((xs ++ ys).map .sh)) else none
  | _, _ => none
def dSub : D → D → Option O
  | .int i, .int j => oI (i - j)
  | _, _ => none
def dMul : D → D → Option O
  | .int i, .int j => if i.natAbs < 2 ^ 64 ∨ j.natAbs < 2 ^ 64 then oI (i * j) else none
  | .lst xs, .int k => if 0 ≤ k ∧ k ≤ 1000 ∧ xs.length ≤ 1000 then some (.lst ((List.replicate k.toNat xs).flatten.map .sh)) else none
  | _, _ => none
def dFdv : D → D → Option O
  | .int i, .int j => if 0 < j ∧ j < 2 ^ 128 then oI (i / j) else none
  | _, _ => none
def dMod : D → D → Option O
  | .int i, .int j => if 0 < j then oI (i % j) else none
  | _, _ => none
def dPow : D → D → Option O
  | .int i, .int j => if 0 ≤ j ∧ j ≤ 1000 ∧ i.natAbs < 2 ^ 64 then oI (i ^ j.toNat) else none
  | _, _ => none
def dLt : D → D → Option O
  | .int i, .int j => oB (decide (i < j))
  | .str x, .str y => oB (decide (x.cps.toList < y.cps.toList))
  | _, _ => none
def dGt (x y : D) : Option O := dLt y x
def dLe : D → D → Option O
  | .int i, .int j => oB (decide (i ≤ j))
  | .str x, .str y => oB (!decide (y.cps.toList < x.cps.toList))
  | _, _ => none
def dGe (x y : D) : Option O := dLe y x
def dIsN : D → D → Option O
  | .non, .non => oB true
  | .bl _, .non | .int _, .non | .str _, .non | .lst _, .non | .tup _, .non | .dct _, .non | .ins _ _, .non | .exn _ _, .non | .scr _, .non => oB false
  | _, _ => none
section
variable {X : Cx} {g : Gb}
theorem new_flat {S H : Hp} {d : D} {v : V} (e : Sub S H) (h : d.flat = true) (hv : v = d.val) : New g S H (.sh d) v H := by subst hv; exact New.flat e h
theorem New.lst {S H : Hp} {ds : List D} {vs : List V} {p : Addr} (e : Sub S H) (r : Reps g S ds vs) (hp : H p = none) : New g S H (.lst (ds.map .sh)) (.ref p) (upd H p (.lst vs)) :=
  ⟨S, [p], Ex.refl _, fun _ h1 h2 => absurd h2 h1, e.trans (Gr.new hp), ⟨p, vs, [], rfl, upd_same, rfl, RelOs.sh r⟩, by simp, fun a m => by
    have z : a = p := by simpa using m
    subst z
    exact ⟨hp, e.none hp⟩, Gr.new hp⟩
abbrev rAdd : R2 := fun x y H Q => rI0 (fun i j => .int (i + j)) x y H Q ∨ ((∃ i j, x = .str i ∧ y = .str j ∧ i.length + j.length ≤ sizeLine ∧ Q (.str (i ++ j)) H) ∨ rCat x y H Q)
theorem op_addA : OpR X (binaryOp .Add) rAdd := OpR_or op_add (OpR_or op_add_str op_cat)
theorem os_add : OpS g rAdd dAdd := by
  intro S H x y dx dy o Q e rx ry hf k
  unfold dAdd at hf
  split at hf
  · rename_i i j
    cases hf
    exact .inl ⟨i, j, rx, ry, k _ H (new_flat e rfl rfl)⟩
  · rename_i i j
    split at hf
    · rename_i hl
      cases hf
      exact .inr (.inl ⟨i, j, rx, ry, small hl, k _ H (new_flat e rfl rfl)⟩)
    · cases hf
  · rename_i xs ys
    split at hf
    · rename_i hl
      cases hf
      obtain ⟨a, vs, rfl, qa, ra⟩ := rx
      obtain ⟨b, us, rfl, qb, rb⟩ := ry
      exact .inr (.inr ⟨a, b, vs, us, rfl, rfl, e.lst qa, e.lst qb, small (by rw [ra.len, rb.len]; exact hl), fun p hp => k _ _ (New.lst e (ra.append rb) hp)⟩)
    · cases hf
  · cases hf
theorem os_sub : OpS g (rI0 fun i j => .int (i - j)) dSub := by
  intro S H x y dx dy o Q e rx ry hf k
  unfold dSub at hf
  split at hf
  · rename_i i j
    cases hf
    exact ⟨i, j, rx, ry, k _ H (new_flat e rfl rfl)⟩
  · cases hf
abbrev rMul : R2 := fun x y H Q => rI CMul (fun i j => .int (i * j)) x y H Q ∨ rRep x y H Q
theorem op_mulA : OpR X (binaryOp .Mult) rMul := OpR_or op_mul op_rep
theorem Reps.rep {S : Hp} {ds : List D} {vs : List V} (r : Reps g S ds vs) : ∀ n : Nat, Reps g S (List.replicate n ds).flatten (List.replicate n vs).flatten
  | 0 => rfl
  | n + 1 => by
    rw [List.replicate_succ, List.replicate_succ, List.flatten_cons, List.flatten_cons]
    exact r.append (Reps.rep r n)
theorem os_mul : OpS g rMul dMul := by
  intro S H x y dx dy o Q e rx ry hf k
  unfold dMul at hf
  split at hf
  · rename_i i j
    split at hf
    · rename_i hl
      cases hf
      refine .inl ⟨i, j, rx, ry, ?_, k _ H (new_flat e rfl rfl)⟩
      rcases hl with hl | hl
      · exact .inl (by omega)
      · exact .inr (by omega)
    · cases hf
  · rename_i xs n
    split at hf
    · rename_i hl
      cases hf
      obtain ⟨a, vs, rfl, qa, ra⟩ := rx
      obtain ⟨h1, h2, h3⟩ := hl
      refine .inr ⟨a, n, vs, rfl, ry, e.lst qa, by omega, by omega, small ?_, fun p hp => k _ _ (New.lst e (ra.rep _) hp)⟩
      rw [ra.len]
      exact Nat.le_trans (Nat.mul_le_mul h3 (show n.toNat ≤ 1000 by omega)) (by decide)
    · cases hf
  · cases hf
theorem log2_lt {n k : Nat} (h : n < 2 ^ k) (hk : 0 < k) : n.log2 < k := by
  by_cases z : n = 0
  · subst z; exact hk
  · exact (Nat.log2_lt z).mpr h
theorem os_fdv : OpS g (rI CDivW fun i j => .int (i / j)) dFdv := by
  intro S H x y dx dy o Q e rx ry hf k
  unfold dFdv at hf
  split at hf
  · rename_i i j
    split at hf
    · rename_i hl
      cases hf
      exact ⟨i, j, rx, ry, ⟨hl.1, Nat.lt_of_lt_of_le (log2_lt (k := 128) (by omega) (by decide)) (by decide)⟩, k _ H (new_flat e rfl rfl)⟩
    · cases hf
  · cases hf
theorem os_mod : OpS g (rI (fun _ j => 0 < j) fun i j => .int (i % j)) dMod := by
  intro S H x y dx dy o Q e rx ry hf k
  unfold dMod at hf
  split at hf
  · rename_i i j
    split at hf
    · rename_i hl
      cases hf
      exact ⟨i, j, rx, ry, hl, k _ H (new_flat e rfl rfl)⟩
    · cases hf
  · cases hf
theorem os_pow : OpS g (rI CPow fun i j => .int (i ^ j.toNat)) dPow := by
  intro S H x y dx dy o Q e rx ry hf k
  unfold dPow at hf
  split at hf
  · rename_i i j
    split at hf
    · rename_i hl
      cases hf
      exact ⟨i, j, rx, ry, ⟨hl.1, by omega, hl.2.2⟩, k _ H (new_flat e rfl rfl)⟩
    · cases hf
  · cases hf
abbrev rLt2 : R2 := fun x y H Q => rI0 (fun i j => .bl (decide (i < j))) x y H Q ∨ (∃ i j, x = .str i ∧ y = .str j ∧ Q (.bl (decide (i.cps.toList < j.cps.toList))) H)
theorem op_lt2 : OpR X (compareOp .Lt) rLt2 := OpR_or op_lt op_lt_str
theorem os_lt : OpS g rLt2 dLt := by
  intro S H x y dx dy o Q e rx ry hf k
  unfold dLt at hf
  split at hf
  · rename_i i j
    cases hf
    exact .inl ⟨i, j, rx, ry, k _ H (new_flat e rfl rfl)⟩
  · rename_i i j
    cases hf
    exact .inr ⟨i, j, rx, ry, k _ H (new_flat e rfl rfl)⟩
  · cases hf
abbrev rGt2 : R2 := fun x y H Q => rI0 (fun i j => .bl (decide (j < i))) x y H Q ∨ (∃ i j, x = .str i ∧ y = .str j ∧ Q (.bl (decide (j.cps.toList < i.cps.toList))) H)
theorem op_gt2 : OpR X (compareOp .Gt) rGt2 := OpR_or op_gt op_gt_str
theorem os_gt : OpS g rGt2 dGt := by
  intro S H x y dx dy o Q e rx ry hf k
  unfold dGt dLt at hf
  split at hf
  · rename_i j i
    cases hf
    exact .inl ⟨i, j, rx, ry, k _ H (new_flat e rfl rfl)⟩
  · rename_i j i
    cases hf
    exact .inr ⟨i, j, rx, ry, k _ H (new_flat e rfl rfl)⟩
  · cases hf
abbrev rLe2 : R2 := fun x y H Q => rI0 (fun i j => .bl (decide (i ≤ j))) x y H Q ∨ (∃ i j, x = .str i ∧ y = .str j ∧ Q (.bl (!decide (j.cps.toList < i.cps.toList))) H)
theorem op_le2 : OpR X (compareOp .LtE) rLe2 := OpR_or op_le op_le_str
theorem os_le : OpS g rLe2 dLe := by
  intro S H x y dx dy o Q e rx ry hf k
  unfold dLe at hf
  split at hf
  · rename_i i j
    cases hf
    exact .inl ⟨i, j, rx, ry, k _ H (new_flat e rfl rfl)⟩
  · rename_i i j
    cases hf
    exact .inr ⟨i, j, rx, ry, k _ H (new_flat e rfl rfl)⟩
  · cases hf
abbrev rGe2 : R2 := fun x y H Q => rI0 (fun i j => .bl (decide (j ≤ i))) x y H Q ∨ (∃ i j, x = .str i ∧ y = .str j ∧ Q (.bl (!decide (i.cps.toList < j.cps.toList))) H)
theorem op_ge2 : OpR X (compareOp .GtE) rGe2 := OpR_or op_ge op_ge_str
theorem os_ge : OpS g rGe2 dGe := by
  intro S H x y dx dy o Q e rx ry hf k
  unfold dGe dLe at hf
  split at hf
  · rename_i j i
    cases hf
    exact .inl ⟨i, j, rx, ry, k _ H (new_flat e rfl rfl)⟩
  · rename_i j i
    cases hf
    exact .inr ⟨i, j, rx, ry, k _ H (new_flat e rfl rfl)⟩
  · cases hf
theorem rep_notnon {S : Hp} {d : D} {v : V} (r : Rep g S d v) (h : ∀ u, d ≠ .op u) (h2 : d ≠ .non) (h3 : ∀ a e, d ≠ .lab a e) (h4 : d ≠ .any) (h5 : ∀ a e, d ≠ .gh a e) : v ≠ .non := by
  cases d with
  | non => exact absurd rfl h2
  | bl b => rw [show v = .bl b from r]; exact fun z => nomatch z
  | int b => rw [show v = .int b from r]; exact fun z => nomatch z
  | str b => rw [show v = .str b from r]; exact fun z => nomatch z
  | lst b => obtain ⟨a, _, e, _⟩ := r; rw [e]; exact fun z => nomatch z
  | tup b => obtain ⟨a, _, e, _⟩ := r; rw [e]; exact fun z => nomatch z
  | dct b => obtain ⟨a, _, e, _⟩ := r; rw [e]; exact fun z => nomatch z
  | ins c b => obtain ⟨a, _, _, e, _⟩ := r; rw [e]; exact fun z => nomatch z
  | exn c b => obtain ⟨a, _, _, e, _⟩ := r; rw [e]; exact fun z => nomatch z
  | lab a e => exact absurd rfl (h3 a e)
  | any => exact absurd rfl h4
  | scr b => obtain ⟨a, e, _⟩ := r; rw [e]; exact fun z => nomatch z
  | op u => exact absurd rfl (h u)
  | gh a e => exact absurd rfl (h5 a e)
theorem os_isN : OpS g (fun x y H Q => y = .non ∧ Q (.bl (decide (x = .non))) H) dIsN := by
  intro S H x y dx dy o Q e rx ry hf k
  unfold dIsN at hf
  split at hf
  · cases hf
    have ex : x = .non := rx
    subst ex
    exact ⟨ry, k _ H (new_flat e rfl rfl)⟩
  all_goals first
    | (cases hf
       have z := rep_notnon rx (fun _ q => nomatch q) (fun q => nomatch q) (fun _ _ q => nomatch q) (fun q => nomatch q) (fun _ _ q => nomatch q)
       exact ⟨ry, k _ H (new_flat e rfl (by rw [decide_eq_false z]; rfl))⟩)
    | cases hf
/-! ### items, in, len -/
def lookK {α : Type} (k : Key) (l : List (Key × α)) : Option α := (l.find? fun p => decide (p.1 = k)).map (·.2)
def keyD : D → Option Key
  | .int i => some (.inl i) | .str x => some (.inr x) | _ => none
def dIx : D → D → Option O
  | .lst xs, .int i => (atI xs i).map .sh
  | .tup xs, .int i => (atI xs i).map .sh
  | .scr ns, .int i => (atI ns i).map fun n => .sh (.int n)
  | .str z, .int i => if z.length ≤ 1000000 then (atI z.cps.toList i).map fun c => .sh (.str ⟨#[c]⟩) else none
  | .dct kds, k => (keyD k).bind fun k => (lookK k kds).map .sh
  | _, _ => none
theorem RepK.val {S : Hp} : ∀ {kds : List (Key × D)} {kvs : List (Key × V)} (k : Key), RepK g S kds kvs → (lookK k kds = none ∧ valV kvs k = none) ∨ ∃ d v, lookK k kds = some d ∧ valV kvs k = some v ∧ Rep g S d v
  | [], _, k, r => by have e : _ = [] := r; subst e; exact .inl ⟨rfl, rfl⟩
  | (k', d) :: r, _, k, ⟨v, r', e, a, b⟩ => by
    subst e
    by_cases q : k' = k
    · subst q
      exact .inr ⟨d, v, by simp [lookK], by simp [valV], a⟩
    · have h1 : lookK k ((k', d) :: r) = lookK k r := by simp [lookK, q]
      have h2 : valV ((k', v) :: r') k = valV r' k := by simp [valV, q]
      rw [h1, h2]
      exact RepK.val k b
theorem keyD_rep {S : Hp} {d : D} {v : V} {k : Key} (h : keyD d = some k) (r : Rep g S d v) : v = kV k := by
  cases d <;> first | (cases h; exact r) | cases h
theorem atI_map {α β : Type} (f : α → β) (l : List α) (i : Int) : atI (l.map f) i = (atI l i).map f := by
  unfold atI
  rw [List.length_map]
  cases ixN l.length i with
  | none => rfl
  | some j => show (l.map f)[j]? = (l[j]?).map f; rw [List.getElem?_map]
theorem Reps.atI {S : Hp} {ds : List D} {vs : List V} {i : Int} {d : D} (r : Reps g S ds vs) (h : L2.atI ds i = some d) : ∃ v, L2.atI vs i = some v ∧ Rep g S d v := by
  unfold L2.atI at h ⊢
  rw [r.len]
  cases e : ixN ds.length i with
  | none => rw [e] at h; cases h
  | some j => rw [e] at h; exact r.get h
def rIxD : R2 := fun x y H Q => ∃ a v, x = .ref a ∧ DGet H a y (some v) ∧ Q v H
theorem sub_tail {prog : Program} {w : World} {A : Around} {E : Value → Shared → Prop} {s : Shared} {value slice : Expr} {o i : Value} {T id : String} {Q : Value → Shared → Prop} (hT : s.TypeIs o T)
    (hl : typeLookup (.type T) "__getitem__" = pure (some (.builtin id))) (h : wpAny (model prog w) A (getItem o i) Q E s)
    (hs : subscripted slice false o i = operate [o, i] (getItem o i)) : wpAny (model prog w) A (subscriptTail value slice o i) Q E s := by
  unfold subscriptTail
  refine wpAny_bind ?_
  rw [getitemInPython_of_ne hT.not_modules]
  refine wpAny_bind (wpAny_specialOf hT hl ?_)
  have fin : wpAny (model prog w) A (subscripted slice false o i) (fun r s₃ => wpAny (model prog w) A (letTemporaryGo value o r >>= fun _ => pure r) Q E s₃) E s := by
    rw [hs]
    exact wpAny_operating (wpAny_mono h (fun r s₃ h₃ => wpAny_bind (wpAny_letTemporaryGo (wpAny_pure h₃))) fun _ _ x => x)
  first
    | exact wpAny_pure (wpAny_bind fin)
    | exact wpAny_bind (wpAny_pure (wpAny_bind fin))
    | exact wpAny_bind fin
theorem ix_dict (hu : X.A.units + 1 < cLine) : IxR X rIxD := by
  intro value slice pins s σ H x y v u Q I rx ry h hs
  obtain ⟨a, z, rfl, gt, q⟩ := h
  obtain rfl : v = Value.ref a := rx
  exact sub_tail (dict_typeIs I gt) PySem.F.slot_dict_getitem.lookup (d_getItem hu I gt ry fun w' s3 I3 rw' => ⟨z, H, I3, rw', q⟩) hs
def rIxA (K : PySem.W.Frag) : R2 := fun x y H Q => rIx K x y H Q ∨ rIxD x y H Q
theorem ix_any (hu : X.A.units + 1 < cLine) : IxR X (rIxA X.K) := IxR.or ix_seq (ix_dict hu)
theorem os_ix : OpS g (rIxA g.K) dIx := by
  intro S H x y dx dy o Q e rx ry hf k
  unfold dIx at hf
  split at hf
  · rename_i xs i
    obtain ⟨a, vs, rfl, qa, ra⟩ := rx
    cases h : L2.atI xs i with
    | none => rw [h] at hf; cases hf
    | some d =>
      rw [h] at hf
      cases hf
      obtain ⟨v, h1, h2⟩ := ra.atI h
      exact .inl (.inl ⟨a, vs, i, v, rfl, ry, .inl (.inl (e.lst qa)), h1, k v H (New.same e h2)⟩)
  · rename_i xs i
    obtain ⟨a, vs, rfl, qa, ra⟩ := rx
    cases h : L2.atI xs i with
    | none => rw [h] at hf; cases hf
    | some d =>
      rw [h] at hf
      cases hf
      obtain ⟨v, h1, h2⟩ := ra.atI h
      exact .inl (.inr (.inl ⟨a, vs, i, v, rfl, ry, e.sqT qa, h1, k v H (New.same e h2)⟩))
  · rename_i ns i
    obtain ⟨a, rfl, qa⟩ := rx
    cases h : L2.atI ns i with
    | none => rw [h] at hf; cases hf
    | some n =>
      rw [h] at hf
      cases hf
      exact .inl (.inl ⟨a, _, i, .int n, rfl, ry, e.sqL qa, by rw [atI_map, h]; rfl, k _ H (new_flat e rfl rfl)⟩)
  · rename_i z i
    split at hf
    · rename_i hl
      cases h : L2.atI z.cps.toList i with
      | none => rw [h] at hf; cases hf
      | some c =>
        rw [h] at hf
        cases hf
        exact .inl (.inr (.inr ⟨z, i, c, rx, ry, small hl, h, k _ H (new_flat e rfl rfl)⟩))
    · cases hf
  · rename_i kds
    cases hk : keyD dy with
    | none => rw [hk] at hf; cases hf
    | some key =>
      rw [hk] at hf
      dsimp only [Option.bind_some] at hf
      obtain ⟨a, kvs, rfl, qa, ra⟩ := rx
      rcases ra.val key with ⟨h1, _⟩ | ⟨d', v, h1, h2, h3⟩
      · rw [h1] at hf; cases hf
      · rw [h1] at hf
        cases hf
        have ey := keyD_rep hk ry
        exact .inr ⟨a, v, rfl, .inl ⟨kvs, key, e.rd qa, ey, h2.symm⟩, k v H (New.same e h3)⟩
  · cases hf
/-! in -/
def flatD : D → Bool
  | .non | .bl _ | .int _ | .str _ => true
  | _ => false
def dIn0 : D → D → Option Bool
  | .str i, .str j => match i.cps.toList with
    | [c] => some (decide (c ∈ j.cps.toList))
    | _ => some (!(Builtin.Str.occurrences j i 0 j.length 1).isEmpty)
  | d, .dct kds => (keyD d).map fun k => (lookK k kds).isSome
  | d, .lst xs => if flatD d && xs.all flatD then some (inV d.val (xs.map D.val)) else none
  | d, .tup xs => if flatD d && xs.all flatD then some (inV d.val (xs.map D.val)) else none
  | d, .scr ns => if flatD d then some (inV d.val (ns.map V.int)) else none
  | _, _ => none
def dIn (x y : D) : Option O := (dIn0 x y).map fun b => .sh (.bl b)
def dNotIn (x y : D) : Option O := (dIn0 x y).map fun b => .sh (.bl (!b))
theorem flatD_flat {d : D} (h : flatD d = true) : d.flat = true := by cases d <;> first | rfl | cases h
theorem flatD_V {d : D} (h : flatD d = true) : flatV d.val = true := by cases d <;> first | rfl | cases h
theorem reps_flat {S : Hp} : ∀ {ds : List D} {vs : List V}, Reps g S ds vs → ds.all flatD = true → vs = ds.map D.val ∧ vs.all flatV = true
  | [], _, r, _ => by have e : _ = [] := r; subst e; exact ⟨rfl, rfl⟩
  | d :: ds, _, ⟨v, r, e, a, b⟩, h => by
    rw [List.all_cons, Bool.and_eq_true] at h
    obtain ⟨h1, h2⟩ := reps_flat b h.2
    have ev := rep_flat_eq (flatD_flat h.1) a
    subst ev
    rw [e, List.map_cons, ← h1, List.all_cons, h2, flatD_V h.1]
    exact ⟨rfl, rfl⟩
def rInStr (f : Bool → Bool) : R2 := fun x y H Q => ∃ i j, x = .str i ∧ y = .str j ∧ Q (.bl (f (!(Builtin.Str.occurrences j i 0 j.length 1).isEmpty))) H
def rInSign (f : Bool → Bool) : R2 := fun x y H Q => ∃ (c : Nat) (z : Str), x = .str ⟨#[c]⟩ ∧ y = .str z ∧ Q (.bl (f (decide (c ∈ z.cps.toList)))) H
def rInDict (f : Bool → Bool) : R2 := fun y x H Q => ∃ a o, x = .ref a ∧ DGet H a y o ∧ Q (.bl (f o.isSome)) H
theorem op_inDict (hu : X.A.units + 1 < cLine) : OpR X (compareOp .In) (rInDict fun b => b) := by
  intro pins s σ H y x v u Q I ry rx h
  obtain ⟨a, o, rfl, gt, q⟩ := h
  obtain rfl : u = Value.ref a := rx
  exact d_in hu I gt ry fun s3 I3 => ⟨.bl o.isSome, H, I3, rfl, q⟩
theorem op_notInDict (hu : X.A.units + 1 < cLine) : OpR X (compareOp .NotIn) (rInDict fun b => !b) := by
  intro pins s σ H y x v u Q I ry rx h
  obtain ⟨a, o, rfl, gt, q⟩ := h
  obtain rfl : u = Value.ref a := rx
  exact d_notIn hu I gt ry fun s3 I3 => ⟨.bl (!o.isSome), H, I3, rfl, q⟩
def rInA (K : PySem.W.Frag) (neg : Bool) (f : Bool → Bool) : R2 := fun x y H Q => rInSign f x y H Q ∨ (rInStr f x y H Q ∨ (rInDict f x y H Q ∨ rIn K neg x y H Q))
theorem op_inA (hu : X.A.units + 1 < cLine) : OpR X (compareOp .In) (rInA X.K false fun b => b) := OpR_or op_in_sign (OpR_or op_in_str (OpR_or (op_inDict hu) op_in_seq))
theorem op_notInA (hu : X.A.units + 1 < cLine) : OpR X (compareOp .NotIn) (rInA X.K true fun b => !b) := OpR_or op_notIn_sign (OpR_or op_notin_str (OpR_or (op_notInDict hu) op_notIn_seq))
theorem os_inG {neg : Bool} {f : Bool → Bool} (hf0 : ∀ b, f b = if neg then !b else b) : OpS g (rInA g.K neg f) (fun x y => (dIn0 x y).map fun b => .sh (.bl (f b))) := by
  intro S H x y dx dy o Q e rx ry hf k
  dsimp only at hf
  unfold dIn0 at hf
  split at hf
  · rename_i i j
    split at hf
    · rename_i c hc
      cases hf
      have ei : i = ⟨#[c]⟩ := TL.ext_tl (by rw [TL.tl, hc] <;> rfl)
      subst ei
      exact .inl ⟨c, j, rx, ry, k _ H (new_flat e rfl rfl)⟩
    · cases hf
      exact .inr (.inl ⟨i, j, rx, ry, k _ H (new_flat e rfl rfl)⟩)
  · cases hk : keyD dx with
    | none => rw [hk] at hf; cases hf
    | some key =>
      rw [hk] at hf
      cases hf
      obtain ⟨a, kvs, rfl, qa, ra⟩ := ry
      have ey := keyD_rep hk rx
      refine .inr (.inr (.inl ⟨a, valV kvs key, rfl, .inl ⟨kvs, key, e.rd qa, ey, rfl⟩, ?_⟩))
      rcases ra.val key with ⟨h1, h2⟩ | ⟨d', v, h1, h2, h3⟩
      · rw [h2]; dsimp only at k; rw [h1] at k; exact k _ H (new_flat e rfl rfl)
      · rw [h2]; dsimp only at k; rw [h1] at k; exact k _ H (new_flat e rfl rfl)
  · rename_i xs _
    split at hf
    · rename_i hb
      cases hf
      rw [Bool.and_eq_true] at hb
      obtain ⟨a, vs, rfl, qa, ra⟩ := ry
      obtain ⟨h1, h2⟩ := reps_flat ra hb.2
      have ex := rep_flat_eq (flatD_flat hb.1) rx
      subst ex
      refine .inr (.inr (.inr ⟨a, vs, rfl, .inl (.inl (.inl (e.lst qa))), flatD_V hb.1, h2, ?_⟩))
      rw [h1]
      refine k _ H (new_flat e rfl ?_)
      rw [hf0]; cases neg <;> rfl
    · cases hf
  · rename_i xs _
    split at hf
    · rename_i hb
      cases hf
      rw [Bool.and_eq_true] at hb
      obtain ⟨a, vs, rfl, qa, ra⟩ := ry
      obtain ⟨h1, h2⟩ := reps_flat ra hb.2
      have ex := rep_flat_eq (flatD_flat hb.1) rx
      subst ex
      refine .inr (.inr (.inr ⟨a, vs, rfl, .inr (e.sqT qa), flatD_V hb.1, h2, ?_⟩))
      rw [h1]
      refine k _ H (new_flat e rfl ?_)
      rw [hf0]; cases neg <;> rfl
    · cases hf
  · rename_i ns _
    split at hf
    · rename_i hb
      cases hf
      obtain ⟨a, rfl, qa⟩ := ry
      have ex := rep_flat_eq (flatD_flat hb) rx
      subst ex
      refine .inr (.inr (.inr ⟨a, _, rfl, .inl (e.sqL qa), flatD_V hb, ?_, ?_⟩))
      · rw [List.all_eq_true]
        intro z hz
        obtain ⟨n, _, rfl⟩ := List.mem_map.mp hz
        rfl
      · refine k _ H (new_flat e rfl ?_)
        rw [hf0]; cases neg <;> rfl
    · cases hf
  · cases hf
theorem os_in : OpS g (rInA g.K false fun b => b) dIn := os_inG fun b => rfl
theorem os_notIn : OpS g (rInA g.K true fun b => !b) dNotIn := os_inG fun b => rfl
/-! len -/
def dLen : List D → Option O
  | [.str x] => if x.length ≤ 1000000 then oI x.length else none
  | [.lst xs] => oI xs.length
  | [.tup xs] => oI xs.length
  | [.scr ns] => oI ns.length
  | [.dct kds] => oI kds.length
  | _ => none
theorem call_lenD2 : CallR X (.builtin "len") (fun xs H Q => ∃ a kvs, xs = [V.ref a] ∧ Rd H a (.dK kvs) ∧ Q (.int kvs.length) H) := by
  intro pins s σ H xs us Q I r h
  obtain ⟨a, kvs, rfl, hd, q⟩ := h
  obtain ⟨u, rfl, ru⟩ := vals1 r
  cases ru
  exact d_len I hd fun t s' I' => ⟨.int kvs.length, H, I', ⟨t, rfl⟩, q⟩
def rLenA (K : PySem.W.Frag) : List V → Hp → VK → Prop := fun xs H Q => (∃ x n, xs = [x] ∧ LenV K x H n ∧ Q (.int n) H) ∨ ∃ a kvs, xs = [V.ref a] ∧ Rd H a (.dK kvs) ∧ Q (.int kvs.length) H
theorem call_lenA : CallR X (.builtin "len") (rLenA X.K) := CallR.or call_len call_lenD2
theorem reps1 {S : Hp} {d : D} {xs : List V} (r : Reps g S [d] xs) : ∃ v, xs = [v] ∧ Rep g S d v := by
  obtain ⟨v, r', e, a, e2⟩ := r
  have e2 : r' = [] := e2
  subst e2
  exact ⟨v, e, a⟩
theorem reps2 {S : Hp} {d d2 : D} {xs : List V} (r : Reps g S [d, d2] xs) : ∃ v v2, xs = [v, v2] ∧ Rep g S d v ∧ Rep g S d2 v2 := by
  obtain ⟨v, r', e, a, b⟩ := r
  obtain ⟨v2, e2, c⟩ := reps1 b
  subst e2
  exact ⟨v, v2, e, a, c⟩
/-- for builtins: the arguments are seen without their labels -/
theorem callS_of {r : List V → Hp → VK → Prop} {f : List D → Option O} (h : ∀ S H xs ds o (Q : VK), Sub S H → Reps g S ds xs → f ds = some o → (∀ v H', New g S H o v H' → Q v H') → r xs H Q) : CallS g r f := by
  intro S H xs ds o Q e r hf k
  refine h S H xs (ds.map D.view) o Q e ?_ hf k
  clear hf k
  induction ds generalizing xs with
  | nil => exact r
  | cons d ds ih =>
    obtain ⟨v, r', e', a, b⟩ := r
    exact ⟨v, r', e', a.view, ih r' b⟩
theorem cs_len : CallS g (rLenA g.K) dLen := callS_of fun S H xs ds o Q e r hf k => by
  unfold dLen at hf
  split at hf
  · rename_i x
    obtain ⟨v, rfl, rv⟩ := reps1 r
    split at hf
    · rename_i hl
      cases hf
      have ev : v = .str x := rv
      subst ev
      exact .inl ⟨_, x.length, rfl, ⟨small hl, rfl⟩, k _ H (new_flat e rfl rfl)⟩
    · cases hf
  · rename_i xs
    obtain ⟨v, rfl, a, vs, rfl, qa, ra⟩ := reps1 r
    cases hf
    exact .inl ⟨_, vs.length, rfl, .inl ⟨vs, .inl (.inl (e.lst qa)), rfl⟩, k _ H (new_flat e rfl (by rw [ra.len]; rfl))⟩
  · rename_i xs
    obtain ⟨v, rfl, a, vs, rfl, qa, ra⟩ := reps1 r
    cases hf
    exact .inl ⟨_, vs.length, rfl, .inr ⟨vs, e.sqT qa, rfl⟩, k _ H (new_flat e rfl (by rw [ra.len]; rfl))⟩
  · rename_i ns
    obtain ⟨v, rfl, a, rfl, qa⟩ := reps1 r
    cases hf
    exact .inl ⟨_, (ns.map V.int).length, rfl, .inl ⟨_, e.sqL qa, rfl⟩, k _ H (new_flat e rfl (by rw [List.length_map]; rfl))⟩
  · rename_i kds
    obtain ⟨v, rfl, a, kvs, rfl, qa, ra⟩ := reps1 r
    cases hf
    exact .inr ⟨a, kvs, rfl, e.rd qa, k _ H (new_flat e rfl (by rw [ra.len]; rfl))⟩
  · cases hf
end
end DL
set_option Elab.async false
set_option linter.all false
set_option maxRecDepth 100000
set_option autoImplicit false
/-! DL5: what is owned changes: peeks, stores, methods that change. -/
namespace DL
open PySem PySem.Spec PyProof.Rows L2
section
variable {g : Gb} {W : WX} {Z : Zn} {S S' H H' : Hp} {τ τ' : List V} {θ θ' : List O} {σ : Sg} {ρ : En} {Q Q' : VK} {m ma mb mc : E} {o oi : O} {v : V} {i : Nat}
theorem getD_of {s : Sl} (h : ρ[i]? = some s) : ρ.getD i .no = s := by rw [List.getD_eq_getElem?_getD, h]; rfl
theorem of_getD (h : slO (ρ.getD i .no) = some oi) : ∃ s, ρ[i]? = some s ∧ slO s = some oi ∧ (ρ[i]? = some (.v oi) ∨ ρ[i]? = some (.b oi)) := by
  cases q : ρ[i]? with
  | none => rw [List.getD_eq_getElem?_getD, q] at h; cases h
  | some s =>
    rw [getD_of q] at h
    cases s with
    | no => cases h
    | v p => cases h; exact ⟨_, rfl, rfl, .inl rfl⟩
    | b p => cases h; exact ⟨_, rfl, rfl, .inr rfl⟩
/-- the value at a slot, seen as it stands -/
theorem St.peek (h : St g Z S H τ θ σ ρ) (ho : slO (ρ.getD i .no) = some oi) : ∃ v A, σ[i]? = some (some v) ∧ RelO g S H oi v A := by
  obtain ⟨s, _, _, hs⟩ := of_getD ho
  obtain ⟨A, α, h⟩ := h
  obtain ⟨v, e, r⟩ := h.slot i oi hs
  exact ⟨v, α i, e, r⟩
theorem St.slotV (h : St g Z S H τ θ σ ρ) (ho : (slO (ρ.getD i .no)).isSome = true) : ∃ v, σ[i]? = some (some v) := by
  cases q : slO (ρ.getD i .no) with
  | none => rw [q] at ho; cases ho
  | some o => obtain ⟨v, _, e, _⟩ := h.peek q; exact ⟨v, e⟩
/-- the object at l, owned by the slot i, changes; what τ' held may have gone into it, a part of it may come out -/
theorem Hold.mutG {A : List Addr} {α : Nat → List Addr} {A1 A2 A' An : List Addr} {τn : List V} {θn : List O} {l : Addr} {u : HO} {vi : V} {o' : O} (h : Hold g Z S H (τ ++ τ') (θ ++ θ') σ ρ A α) (eA : A = A1 ++ A2) (r1 : RelOs g S H θ τ A1) (ho : slO (ρ.getD i .no) = some oi) (hv : σ[i]? = some (some vi))
    (hl : l ∈ α i) (r : RelO g S (upd H l u) o' vi A') (rn : RelOs g S (upd H l u) θn τn An) (nd : (A' ++ An).Nodup) (hA : ∀ a ∈ A' ++ An, a ∈ α i ∨ a ∈ A2) : St g Z S (upd H l u) (τ ++ τn) (θ ++ θn) σ (ρ.set i ((ρ.getD i .no).re o')) := by
  subst eA
  obtain ⟨s, hs, hso, _⟩ := of_getD ho
  rw [getD_of hs]
  have il := (List.getElem?_eq_some_iff.mp hs).1
  obtain ⟨n1, n2, n3⟩ := List.nodup_append.mp h.ndA
  obtain ⟨p1, p2, p3⟩ := List.nodup_append.mp nd
  have hne : ∀ a, a ∈ A1 ++ A2 ∨ (∃ j, j ≠ i ∧ a ∈ α j) → a ≠ l := fun a m z => by
    subst z
    rcases m with m | ⟨j, n, m⟩
    · exact h.disA i a hl m
    · exact h.dis j i n a m hl
  have out : ∀ a ∈ A' ++ An, a ∉ A1 ∧ ∀ j, j ≠ i → a ∉ α j := fun a m => by
    rcases hA a m with z | z
    · exact ⟨fun q => h.disA i a z (List.mem_append_left _ q), fun j n q => h.dis j i n a q z⟩
    · exact ⟨fun q => n3 a q a z rfl, fun j n q => h.disA j a q (List.mem_append_right _ z)⟩
  have outL : ∀ a ∈ A', a ∉ A1 ∧ ∀ j, j ≠ i → a ∉ α j := fun a m => out a (List.mem_append_left _ m)
  have outR : ∀ a ∈ An, a ∉ A1 ∧ ∀ j, j ≠ i → a ∉ α j := fun a m => out a (List.mem_append_right _ m)
  have hlo := h.own l (.inr ⟨i, hl⟩)
  have k : ∀ a, a ≠ l → upd H l u a = H a := fun a z => upd_ne z
  refine ⟨A1 ++ An, fun j => if j = i then A' else α j, ⟨fun a u' q => ?_, h.bs.mono, h.bs.new, fun a u' h1 h2 h3 => ?_, fun a u' h1 => ?_, fun p m => ?_, h.bs.tbS⟩,
    (RelOs.mono (Ex.refl _) θ τ A1 (fun a m => k a (hne a (.inl (List.mem_append_left _ m)))) r1).append rn, by rw [List.length_set]; exact h.len, fun j o hj => ?_, List.nodup_append.mpr ⟨n1, p2, fun a m b m2 z => (outR b m2).1 (z ▸ m)⟩, fun j => ?_, fun j k' n a m => ?_, fun j a m m2 => ?_, fun a m => ?_, fun j o hj => ?_⟩
  · rw [k a fun z => by rw [z, hlo.1] at q; cases q]
    exact h.bs.sub a u' q
  · rw [k a fun z => by
      subst z
      rcases hlo.2.2.1 with q | q
      · exact h2 q
      · rw [h1] at q; cases q]
    exact h.bs.frm a u' h1 h2 h3
  · by_cases z : a = l
    · subst z; exact ⟨_, upd_same⟩
    · obtain ⟨u2, q⟩ := h.bs.dom a u' h1; exact ⟨u2, by rw [k a z]; exact q⟩
  · obtain ⟨ps, q1, q2⟩ := h.bs.tbl p m
    exact ⟨ps, by rw [k p fun z => hlo.2.2.2 (z ▸ m)]; exact q1, q2⟩
  · by_cases z : j = i
    · subst z
      rw [List.getElem?_set_self il] at hj
      have eo : o = o' := by
        cases s with
        | no => cases hso
        | v p => rcases hj with hj | hj <;> cases hj; rfl
        | b p => rcases hj with hj | hj <;> cases hj; rfl
      subst eo
      exact ⟨vi, hv, by rw [if_pos rfl]; exact r⟩
    · rw [List.getElem?_set_ne (Ne.symm z)] at hj
      obtain ⟨v', q, r'⟩ := h.slot j o hj
      exact ⟨v', q, by rw [if_neg z]; exact RelO.mono (Ex.refl _) o v' (α j) (fun a m => k a (hne a (.inr ⟨j, z, m⟩))) r'⟩
  · (try dsimp only); split
    · exact p1
    · exact h.nd j
  · (try dsimp only at m ⊢)
    split at m
    · rename_i z
      split
      · rename_i z2; exact absurd (z.trans z2.symm) n
      · rename_i z2; exact (outL a m).2 k' z2
    · rename_i z
      split
      · intro m2; exact (outL a m2).2 j z m
      · exact h.dis j k' n a m
  · (try dsimp only at m)
    split at m
    · rcases List.mem_append.mp m2 with m2 | m2
      · exact (outL a m).1 m2
      · exact p3 a m a m2 rfl
    · rename_i z
      rcases List.mem_append.mp m2 with m2 | m2
      · exact h.disA j a m (List.mem_append_left _ m2)
      · exact (outR a m2).2 j z m
  · have m' : a ∈ A1 ∨ (∃ j, j ≠ i ∧ a ∈ α j) ∨ a ∈ A' ++ An := by
      rcases m with m | ⟨j, m⟩
      · rcases List.mem_append.mp m with m | m
        · exact .inl m
        · exact .inr (.inr (List.mem_append_right _ m))
      · (try dsimp only at m)
        split at m
        · exact .inr (.inr (List.mem_append_left _ m))
        · rename_i z; exact .inr (.inl ⟨j, z, m⟩)
    have fin : ∀ a, (a ∈ A1 ++ A2 ∨ ∃ j, a ∈ α j) → S a = none ∧ (∃ u', upd H l u a = some u') ∧ (a ∈ Z.B ∨ Z.H0 a = none) ∧ a ∉ g.tb := fun a m => by
      obtain ⟨q1, ⟨u', q2⟩, q3⟩ := h.own a m
      refine ⟨q1, ?_, q3⟩
      by_cases z : a = l
      · subst z; exact ⟨_, upd_same⟩
      · exact ⟨u', by rw [k a z]; exact q2⟩
    rcases m' with m | ⟨j, _, m⟩ | m
    · exact fin a (.inl (List.mem_append_left _ m))
    · exact fin a (.inr ⟨j, m⟩)
    · rcases hA a m with z | z
      · exact fin a (.inr ⟨i, z⟩)
      · exact fin a (.inl (List.mem_append_right _ z))
  · by_cases z : j = i
    · subst z
      rw [List.getElem?_set_self il] at hj
      cases s with
      | no => cases hso
      | v p => cases hj
      | b p => exact h.pin j p hs
    · rw [List.getElem?_set_ne (Ne.symm z)] at hj
      exact h.pin j o hj
theorem Hold.mut {A : List Addr} {α : Nat → List Addr} {A1 A2 A' : List Addr} {l : Addr} {u : HO} {vi : V} {o' : O} (h : Hold g Z S H (τ ++ τ') (θ ++ θ') σ ρ A α) (eA : A = A1 ++ A2) (r1 : RelOs g S H θ τ A1) (ho : slO (ρ.getD i .no) = some oi) (hv : σ[i]? = some (some vi))
    (hl : l ∈ α i) (r : RelO g S (upd H l u) o' vi A') (nd : A'.Nodup) (hA : ∀ a ∈ A', a ∈ α i ∨ a ∈ A2) : St g Z S (upd H l u) τ θ σ (ρ.set i ((ρ.getD i .no).re o')) := by
  have q := h.mutG (τn := []) (θn := []) (An := []) eA r1 ho hv hl r ⟨rfl, rfl⟩ (by rw [List.append_nil]; exact nd) (by rw [List.append_nil]; exact hA)
  rw [List.append_nil, List.append_nil] at q
  exact q
theorem RelOs.splitAt : ∀ {os : List O} {vs : List V} {A : List Addr} {j : Nat} {o : O}, RelOs g S H os vs A → os[j]? = some o → ∃ v A1 Ao A2, vs[j]? = some v ∧ A = A1 ++ (Ao ++ A2) ∧ RelO g S H o v Ao ∧
    (∀ H' S' o' v' B, Ex S S' → (∀ a, a ∈ A1 ∨ a ∈ A2 → H' a = H a) → RelO g S' H' o' v' B → RelOs g S' H' (os.set j o') (vs.set j v') (A1 ++ (B ++ A2))) ∧
    (∀ H' S', Ex S S' → (∀ a, a ∈ A1 ∨ a ∈ A2 → H' a = H a) → RelOs g S' H' (os.eraseIdx j) (vs.eraseIdx j) (A1 ++ A2))
  | [], _, _, _, _, _, e => by simp at e
  | p :: os, _, _, 0, o, ⟨v, r, A1, A2, e, eA, x, y⟩, h => by
    have h' : p = o := by simpa using h
    subst h'
    refine ⟨v, [], A1, A2, by rw [e]; rfl, by rw [eA]; rfl, x, fun H' S' o' v' B ex k q => ?_, fun H' S' ex k => ?_⟩
    · rw [e]
      exact ⟨v', r, B, A2, rfl, rfl, q, RelOs.mono ex os r A2 (fun a m => k a (.inr m)) y⟩
    · rw [e]
      exact RelOs.mono ex os r A2 (fun a m => k a (.inr m)) y
  | p :: os, _, _, j + 1, o, ⟨v, r, A1, A2, e, eA, x, y⟩, h => by
    obtain ⟨v', B1, Bo, B2, h1, h2, h3, h4, h5⟩ := RelOs.splitAt (j := j) y (by simpa using h)
    refine ⟨v', A1 ++ B1, Bo, B2, by rw [e]; simpa using h1, by rw [eA, h2, List.append_assoc], h3, fun H' S' o' v2 B ex k q => ?_, fun H' S' ex k => ?_⟩
    · rw [e]
      refine ⟨v, r.set j v2, A1, B1 ++ (B ++ B2), rfl, by rw [List.append_assoc], RelO.mono ex p v A1 (fun a m => k a (.inl (List.mem_append_left _ m))) x, h4 H' S' o' v2 B ex (fun a m => k a ?_) q⟩
      rcases m with m | m
      · exact .inl (List.mem_append_right _ m)
      · exact .inr m
    · rw [e]
      refine ⟨v, r.eraseIdx j, A1, B1 ++ B2, rfl, by rw [List.append_assoc], RelO.mono ex p v A1 (fun a m => k a (.inl (List.mem_append_left _ m))) x, h5 H' S' ex fun a m => k a ?_⟩
      rcases m with m | m
      · exact .inl (List.mem_append_right _ m)
      · exact .inr m
/-! ### x[e], x a slot that is only looked at -/
def lkO (k : Key) (l : List (Key × O)) : Option O := (l.find? fun p => decide (p.1 = k)).map (·.2)
def oIx : O → D → Option D
  | .lst os, .int k => (atI os k).bind fun o => match o with
    | .sh d => some d
    | _ => none
  | .dct kos, k => (keyD k).bind fun k => (lkO k kos).bind fun o => match o with
    | .sh d => some d
    | _ => none
  | .sh d, k => (dIx d.view k).bind fun o => match o with
    | .sh d => some d
    | _ => none
  | _, _ => none
def ePix (i : Nat) (m : E) : E := fun ρ => if (slO (ρ.getD i .no)).isSome then (m ρ).bind fun o ρ1 => R.of (((slO (ρ1.getD i .no)).bind fun oi => oIx oi o.d.view).map .sh) ρ1 else .stuck
theorem RelOK.val : ∀ {kos : List (Key × O)} {kvs : List (Key × V)} {A : List Addr} (k : Key), RelOK g S H kos kvs A → (lkO k kos = none ∧ valV kvs k = none) ∨ ∃ o v Ao, lkO k kos = some o ∧ valV kvs k = some v ∧ RelO g S H o v Ao ∧ ∀ a ∈ Ao, a ∈ A
  | [], _, _, k, ⟨e, _⟩ => by subst e; exact .inl ⟨rfl, rfl⟩
  | (k', o) :: r, _, _, k, ⟨v, r', A1, A2, e, eA, a, b⟩ => by
    subst e
    by_cases q : k' = k
    · subst q
      exact .inr ⟨o, v, A1, by simp [lkO], by simp [valV], a, fun x m => by rw [eA]; exact List.mem_append_left _ m⟩
    · have h1 : lkO k ((k', o) :: r) = lkO k r := by simp [lkO, q]
      have h2 : valV ((k', v) :: r') k = valV r' k := by simp [valV, q]
      rw [h1, h2]
      rcases RelOK.val k b with z | ⟨o', v', Ao, z1, z2, z3, z4⟩
      · exact .inl z
      · exact .inr ⟨o', v', Ao, z1, z2, z3, fun x m => by rw [eA]; exact List.mem_append_right _ (z4 x m)⟩
theorem RelOs.atI {os : List O} {vs : List V} {A : List Addr} {k : Int} {o : O} (r : RelOs g S H os vs A) (h : L2.atI os k = some o) : ∃ v Ao, L2.atI vs k = some v ∧ RelO g S H o v Ao ∧ ∀ a ∈ Ao, a ∈ A := by
  unfold L2.atI at h ⊢
  rw [r.len]
  cases e : ixN os.length k with
  | none => rw [e] at h; cases h
  | some j => rw [e] at h; exact r.get h
theorem oIx_rule {A : List Addr} {vi vk : V} {dk d : D} (e : Sub S H) (r : RelO g S H oi vi A) (rk : Rep g S dk vk) (h : oIx oi dk = some d) (k : ∀ v H', New g S H (.sh d) v H' → Q v H') : rIxA g.K vi vk H Q := by
  cases oi with
  | lst os =>
    cases dk with
    | int n =>
      obtain ⟨l, vs, A', rfl, hl, _, r'⟩ := r
      have h : ((L2.atI os n).bind fun o => match o with | .sh d => some d | _ => none) = some d := h
      cases h1 : L2.atI os n with
      | none => rw [h1] at h; cases h
      | some o =>
        rw [h1] at h
        cases o with
        | sh d' =>
          have h : some d' = some d := h
          cases h
          obtain ⟨v, Ao, h2, h3, _⟩ := r'.atI h1
          exact .inl (.inl ⟨l, vs, n, v, rfl, rk, .inl (.inl hl), h2, k v H (New.same e h3.2)⟩)
        | lst _ => cases h
        | dct _ => cases h
        | ins _ _ => cases h
        | tag _ _ => cases h
        | tup _ => cases h
    | _ => cases h
  | dct kos =>
    have h : ((keyD dk).bind fun k => (lkO k kos).bind fun o => match o with | .sh d => some d | _ => none) = some d := h
    cases hk : keyD dk with
    | none => rw [hk] at h; cases h
    | some key =>
      rw [hk] at h
      have h : ((lkO key kos).bind fun o => match o with | .sh d => some d | _ => none) = some d := h
      obtain ⟨l, kvs, A', rfl, hl, _, r'⟩ := r
      rcases r'.val key with ⟨h1, _⟩ | ⟨o, v, Ao, h1, h2, h3, _⟩
      · rw [h1] at h; cases h
      · rw [h1] at h
        cases o with
        | sh d' =>
          have h : some d' = some d := h
          cases h
          exact .inr ⟨l, v, rfl, .inl ⟨kvs, key, .inl hl, keyD_rep hk rk, h2.symm⟩, k v H (New.same e h3.2)⟩
        | lst _ => cases h
        | dct _ => cases h
        | ins _ _ => cases h
        | tag _ _ => cases h
        | tup _ => cases h
  | sh d0 =>
    have h : ((dIx d0.view dk).bind fun o => match o with | .sh d => some d | _ => none) = some d := h
    cases h1 : dIx d0.view dk with
    | none => rw [h1] at h; cases h
    | some o =>
      rw [h1] at h
      cases o with
      | sh d' =>
        have h : some d' = some d := h
        cases h
        exact os_ix S H vi vk d0.view dk _ Q e r.2.view rk h1 k
      | lst _ => cases h
      | dct _ => cases h
      | ins _ _ => cases h
      | tag _ _ => cases h
      | tup _ => cases h
  | ins c fs => cases h
  | tag _ _ => cases h
  | tup _ => cases h
theorem le_pix (q : LE g W (ePix i m) σ H Q) : tOp (rIxA g.K) (tVar i) (LE g W m) σ H Q := by
  obtain ⟨Z, S, τ, θ, ρ, st, post⟩ := q
  unfold ePix at post
  split at post
  · rename_i hs
    obtain ⟨vi, hv⟩ := st.slotV hs
    refine ⟨vi, hv, ?_⟩
    refine step0 st post fun o1 ρ1 v1 S1 H1 e1 st1 post1 => ?_
    obtain ⟨S2, e2, st2, rk⟩ := st1.pop
    obtain ⟨o, hf, post3⟩ := post1.of
    cases ho : slO (ρ1.getD i .no) with
    | none => rw [ho] at hf; cases hf
    | some oi =>
      rw [ho] at hf
      have hf : (oIx oi o1.d.view).map O.sh = some o := hf
      cases h1 : oIx oi o1.d.view with
      | none => rw [h1] at hf; cases hf
      | some d =>
        rw [h1] at hf
        cases hf
        obtain ⟨v', A, hv', r⟩ := st2.peek ho
        rw [hv] at hv'
        cases hv'
        exact oIx_rule st2.sub r rk.view h1 fun v H' n => post3.fin e2 st2 n
  · exact post.elim
/-! ### x[e] = e2, x a slot -/
def rSetA : V → V → V → Hp → (Hp → Prop) → Prop := fun o i v H Q => rSetL o i v H Q ∨ ∃ a H', o = .ref a ∧ DPut H a i v H' ∧ Q H'
theorem set_any {X : Cx} (hu : X.A.units + 1 < cLine) : PSet X rSetA := by
  intro pins s σ H o i v ov iv u Q I ro ri rv h
  rcases h with h | ⟨a, H', rfl, gp, q⟩
  · exact set_list pins s σ H o i v ov iv u Q I ro ri rv h
  · obtain rfl : ov = Value.ref a := ro
    exact d_setItem hu I gp ri rv fun s' I' => ⟨H', I', q⟩
/-- the pairs behind x[k] = o -/
def putO (kos : List (Key × O)) (k : Key) (o : O) : List (Key × O) :=
  if (kos.any fun p => decide (p.1 = k)) = true then kos.map (fun p => if p.1 = k then (p.1, o) else p) else kos ++ [(k, o)]
def oSet (oi : O) (dk : D) (o : O) : Option O := match oi with
  | .lst os => match dk with
    | .int n => (ixN os.length n).map fun j => .lst (os.set j o)
    | _ => none
  | .dct kos => if kos.length < 1000000 then (keyD dk).map fun k => .dct (putO kos k (.sh o.d)) else none
  | _ => none
def sStore (i : Nat) (me mv : E) : Sm := fun ρ => (mv ρ).toO fun o ρ1 => if (slO (ρ1.getD i .no)).isSome then (me ρ1).toO fun k ρ2 =>
  match (slO (ρ2.getD i .no)).bind fun oi => oSet oi k.d.view o with
  | some o' => .next (ρ2.set i ((ρ2.getD i .no).re o'))
  | none => .stuck else .stuck
theorem sstepN {D : Ends} {n : Nat} {k : O → En → Out} (st : St g Z S H τ' θ' σ ρ) (l1 : τ'.length = n) (l2 : θ'.length = n) (post : PostO g W Z S ((m ρ).toO k) D)
    (hk : ∀ o ρ1 v S1 H1, Ex S S1 → St g Z S1 H1 (τ' ++ [v]) (θ' ++ [o]) σ ρ1 → PostO g W Z S1 (k o ρ1) D → Q' v H1) : LE g W m σ H Q' := by
  refine ⟨Z, S, τ', θ', ρ, st, ?_⟩
  cases h : m ρ with
  | ok o ρ1 => rw [h] at post; exact fun v S1 H1 e1 st1 => hk o ρ1 v S1 H1 e1 st1 (PostO.mono e1 post)
  | exc x ρ1 =>
    rw [h] at post
    intro d S1 H1 e1 st1 xa
    obtain ⟨S2, e2, st2, _⟩ := St.popN (τ := []) (θ := []) n τ' θ' l1 l2 st1
    exact post d σ S2 H1 (e1.trans e2) st2 (xa.mono e2)
  | stuck => rw [h] at post; exact post
theorem putO_rel {k : Key} {d : D} {v : V} (rv : Rep g S d v) : ∀ {kos : List (Key × O)} {kvs : List (Key × V)} {A : List Addr}, (∀ a ∈ A, H' a = H a) → RelOK g S H kos kvs A → ∃ A', RelOK g S H' (kos.map fun p => if p.1 = k then (p.1, .sh d) else p) (kvs.map fun p => if p.1 = k then (p.1, v) else p) A' ∧ A'.Sublist A
  | [], _, _, _, ⟨e, eA⟩ => by subst e; subst eA; exact ⟨[], ⟨rfl, rfl⟩, .slnil⟩
  | (k', o) :: r, _, _, kp, ⟨v', r', A1, A2, e, eA, x, y⟩ => by
    subst e
    subst eA
    obtain ⟨A', h1, h2⟩ := putO_rel (k := k) rv (fun a m => kp a (List.mem_append_right _ m)) y
    by_cases q : k' = k
    · subst q
      have e1 : (List.map (fun p : Key × O => if p.1 = k' then (p.1, O.sh d) else p) ((k', o) :: r)) = (k', O.sh d) :: List.map (fun p : Key × O => if p.1 = k' then (p.1, O.sh d) else p) r := by rw [List.map_cons, if_pos rfl]
      have e2 : (List.map (fun p : Key × V => if p.1 = k' then (p.1, v) else p) ((k', v') :: r')) = (k', v) :: List.map (fun p : Key × V => if p.1 = k' then (p.1, v) else p) r' := by rw [List.map_cons, if_pos rfl]
      rw [e1, e2]
      exact ⟨[] ++ A', ⟨v, _, [], A', rfl, rfl, ⟨rfl, rv⟩, h1⟩, (List.nil_sublist A1).append h2⟩
    · have e1 : (List.map (fun p : Key × O => if p.1 = k then (p.1, O.sh d) else p) ((k', o) :: r)) = (k', o) :: List.map (fun p : Key × O => if p.1 = k then (p.1, O.sh d) else p) r := by rw [List.map_cons, if_neg q]
      have e2 : (List.map (fun p : Key × V => if p.1 = k then (p.1, v) else p) ((k', v') :: r')) = (k', v') :: List.map (fun p : Key × V => if p.1 = k then (p.1, v) else p) r' := by rw [List.map_cons, if_neg q]
      rw [e1, e2]
      exact ⟨A1 ++ A', ⟨v', _, A1, A', rfl, rfl, RelO.mono (Ex.refl _) o v' A1 (fun a m => kp a (List.mem_append_left _ m)) x, h1⟩, (List.Sublist.refl A1).append h2⟩
theorem RelOK.snoc {k : Key} {d : D} {v : V} (rv : Rep g S d v) : ∀ {kos : List (Key × O)} {kvs : List (Key × V)} {A : List Addr}, (∀ a ∈ A, H' a = H a) → RelOK g S H kos kvs A → RelOK g S H' (kos ++ [(k, .sh d)]) (kvs ++ [(k, v)]) A
  | [], _, _, _, ⟨e, eA⟩ => by subst e; subst eA; exact ⟨v, [], [], [], rfl, rfl, ⟨rfl, rv⟩, rfl, rfl⟩
  | (k', o) :: r, _, _, kp, ⟨v', r', A1, A2, e, eA, x, y⟩ => by
    subst e
    subst eA
    exact ⟨v', _, A1, A2, rfl, rfl, RelO.mono (Ex.refl _) o v' A1 (fun a m => kp a (List.mem_append_left _ m)) x, RelOK.snoc rv (fun a m => kp a (List.mem_append_right _ m)) y⟩
theorem RelOK.klen : ∀ {kos : List (Key × O)} {kvs : List (Key × V)} {A : List Addr}, RelOK g S H kos kvs A → kvs.length = kos.length
  | [], _, _, ⟨e, _⟩ => by rw [e]; rfl
  | (k, o) :: os, _, _, ⟨v, r, A1, A2, e, _, _, b⟩ => by rw [e, List.length_cons, List.length_cons, RelOK.klen b]
theorem RelOK.has : ∀ {kos : List (Key × O)} {kvs : List (Key × V)} {A : List Addr} (k : Key), RelOK g S H kos kvs A → (kvs.any fun p => decide (p.1 = k)) = kos.any fun p => decide (p.1 = k)
  | [], _, _, k, ⟨e, _⟩ => by rw [e]; rfl
  | (k', o) :: os, _, _, k, ⟨v, r, A1, A2, e, _, _, b⟩ => by rw [e, List.any_cons, List.any_cons, RelOK.has k b]
theorem putO_ok {k : Key} {d : D} {v : V} {kos : List (Key × O)} {kvs : List (Key × V)} {A : List Addr} (rv : Rep g S d v) (kp : ∀ a ∈ A, H' a = H a) (r : RelOK g S H kos kvs A) : ∃ A', RelOK g S H' (putO kos k (.sh d)) (putK kvs k v) A' ∧ A'.Sublist A := by
  unfold putO putK
  rw [r.has k]
  split
  · exact putO_rel rv kp r
  · exact ⟨A, r.snoc rv kp, List.Sublist.refl _⟩
/-- what a slot holds, with the ends of its ownership -/
theorem Hold.at {A : List Addr} {α : Nat → List Addr} (h : Hold g Z S H τ θ σ ρ A α) (ho : slO (ρ.getD i .no) = some oi) (hv : σ[i]? = some (some v)) : RelO g S H oi v (α i) := by
  obtain ⟨s, _, _, hs⟩ := of_getD ho
  obtain ⟨v', e, r⟩ := h.slot i oi hs
  rw [hv] at e
  cases e
  exact r
/-- a dict's or a list's place is stored anew -/
theorem store_rule {D : Ends} {ko o' : O} {vi vv vk : V} (st : St g Z S H ([] ++ [vv] ++ [vk]) ([] ++ [o] ++ [ko]) σ ρ) (hv : σ[i]? = some (some vi)) (ho : slO (ρ.getD i .no) = some oi) (h : oSet oi ko.d.view o = some o')
    (post : PostO g W Z S (.next (ρ.set i ((ρ.getD i .no).re o'))) D) : rSetA vi vk vv H fun H4 => D.nx σ H4 := by
  obtain ⟨S2, e2, st2, rk⟩ := st.pop
  have rk := rk.view
  cases oi with
  | lst os =>
    have h : (match ko.d.view with | .int n => (ixN os.length n).map fun j => O.lst (os.set j o) | _ => none) = some o' := h
    split at h
    · rename_i n hn
      rw [hn] at rk
      cases hj : ixN os.length n with
      | none => rw [hj] at h; cases h
      | some j =>
        rw [hj] at h
        have h : some (O.lst (os.set j o)) = some o' := h
        cases h
        obtain ⟨A, α, hd⟩ := st2
        obtain ⟨l, vs, A', rfl, hl, eA', r'⟩ := hd.at ho hv
        obtain ⟨A1, A2, eA, r1, r2⟩ := hd.tmp.split rfl
        have r2 := r2.oneInv
        obtain ⟨_, rfl⟩ := r1
        have jl := (ixN_seq hj).2.1
        obtain ⟨ov, ho2⟩ : ∃ ov, os[j]? = some ov := ⟨_, List.getElem?_eq_getElem jl⟩
        obtain ⟨v0, B1, Bo, B2, q1, q2, q3, q4, _⟩ := r'.splitAt ho2
        refine .inl ⟨l, vs, n, j, rfl, rk, hl, by rw [r'.len]; exact hj, ?_⟩
        have ndi := hd.nd i
        rw [eA'] at ndi
        obtain ⟨nl, ndA'⟩ := List.nodup_cons.mp ndi
        have nA2 : ∀ a ∈ A2, a ∉ α i := fun a m m2 => hd.disA i a m2 (by rw [eA]; exact List.mem_append_right _ m)
        have kk : ∀ a, a ∈ A' ∨ a ∈ A2 → upd H l (.lst (vs.set j vv)) a = H a := fun a m => by
          refine upd_ne fun z => ?_
          subst z
          rcases m with m | m
          · exact nl m
          · exact nA2 a m (by rw [eA']; exact List.mem_cons_self)
        have kb : ∀ a, a ∈ B1 ∨ a ∈ B2 → a ∈ A' := fun a m => by
          rw [q2]
          rcases m with m | m
          · exact List.mem_append_left _ m
          · exact List.mem_append_right _ (List.mem_append_right _ m)
        have rs := q4 (upd H l (.lst (vs.set j vv))) S2 o vv A2 (Ex.refl _) (fun a m => kk a (.inl (kb a m))) (RelO.mono (Ex.refl _) o vv A2 (fun a m => kk a (.inr m)) r2)
        refine post σ S2 _ e2 (hd.mut (τ := []) (θ := []) (A1 := []) (A2 := A2) (A' := l :: (B1 ++ (A2 ++ B2))) eA ⟨rfl, rfl⟩ ho hv (by rw [eA']; exact List.mem_cons_self) ⟨l, _, _, rfl, upd_same, rfl, rs⟩ ?_ ?_)
        · rw [q2] at ndA' nl
          obtain ⟨m1, m2, m3⟩ := List.nodup_append.mp ndA'
          obtain ⟨m4, m5, m6⟩ := List.nodup_append.mp m2
          have ndA2 : A2.Nodup := by have := hd.ndA; rw [eA] at this; exact (List.nodup_append.mp this).2.1
          refine List.nodup_cons.mpr ⟨fun z => ?_, List.nodup_append.mpr ⟨m1, List.nodup_append.mpr ⟨ndA2, m5, fun a x b y z => ?_⟩, fun a x b y z => ?_⟩⟩
          · rcases List.mem_append.mp z with z | z
            · exact nl (List.mem_append_left _ z)
            · rcases List.mem_append.mp z with z | z
              · exact nA2 l z (by rw [eA']; exact List.mem_cons_self)
              · exact nl (List.mem_append_right _ (List.mem_append_right _ z))
          · subst z
            exact nA2 a x (by rw [eA', q2]; exact List.mem_cons_of_mem _ (List.mem_append_right _ (List.mem_append_right _ y)))
          · subst z
            rcases List.mem_append.mp y with y | y
            · exact nA2 a y (by rw [eA', q2]; exact List.mem_cons_of_mem _ (List.mem_append_left _ x))
            · exact m3 a x a (List.mem_append_right _ y) rfl
        · intro a m
          rw [eA', q2]
          rcases List.mem_cons.mp m with m | m
          · subst m; exact .inl List.mem_cons_self
          · rcases List.mem_append.mp m with m | m
            · exact .inl (List.mem_cons_of_mem _ (List.mem_append_left _ m))
            · rcases List.mem_append.mp m with m | m
              · exact .inr m
              · exact .inl (List.mem_cons_of_mem _ (List.mem_append_right _ (List.mem_append_right _ m)))
    · cases h
  | dct kos =>
    have h : (if kos.length < 1000000 then (keyD ko.d.view).map fun k => O.dct (putO kos k (.sh o.d)) else none) = some o' := h
    split at h
    · rename_i hsz
      cases hk : keyD ko.d.view with
      | none => rw [hk] at h; cases h
      | some key =>
        rw [hk] at h
        have h : some (O.dct (putO kos key (.sh o.d))) = some o' := h
        cases h
        obtain ⟨S3, e3, st3, rv⟩ := st2.pop
        obtain ⟨A, α, hd⟩ := st3
        obtain ⟨l, kvs, A', rfl, hl, eA', r'⟩ := hd.at ho hv
        obtain ⟨_, eA0⟩ := hd.tmp
        subst eA0
        have ndi := hd.nd i
        rw [eA'] at ndi
        obtain ⟨nl, ndA'⟩ := List.nodup_cons.mp ndi
        obtain ⟨A2, p1, p2⟩ := putO_ok (H' := upd H l (.dK (putK kvs key vv))) (k := key) rv (fun a m => upd_ne fun z => nl (z ▸ m)) r'
        refine .inr ⟨l, _, rfl, .inl ⟨kvs, key, hl, keyD_rep hk rk, Nat.lt_of_lt_of_le (by rw [r'.klen]; exact hsz) (show 1000000 ≤ sizeLine by decide), rfl⟩, ?_⟩
        refine post σ S3 _ (e2.trans e3) (hd.mut (τ := []) (θ := []) (τ' := []) (θ' := []) (A1 := []) (A2 := []) (A' := l :: A2) rfl ⟨rfl, rfl⟩ ho hv (by rw [eA']; exact List.mem_cons_self) ⟨l, _, _, rfl, upd_same, rfl, p1⟩ ?_ ?_)
        · exact List.nodup_cons.mpr ⟨fun z => nl (p2.subset z), ndA'.sublist p2⟩
        · intro a m
          rw [eA']
          rcases List.mem_cons.mp m with m | m
          · subst m; exact .inl List.mem_cons_self
          · exact .inl (List.mem_cons_of_mem _ (p2.subset m))
    · cases h
  | sh d => cases h
  | ins c fs => cases h
  | tag _ _ => cases h
  | tup _ => cases h
theorem ls_store {D : Ends} {me mv : E} (q : LS g W (sStore i me mv) D σ H) : tAsg (LE g W mv) (gSub (tVar i) (LE g W me) rSetA) D σ H := by
  obtain ⟨Z, S, ρ, st, post⟩ := q
  refine sstepN (τ' := []) (θ' := []) (n := 0) st rfl rfl post fun o1 ρ1 v1 S1 H1 e1 st1 post1 => ?_
  split at post1
  · rename_i hs
    obtain ⟨vi, hv⟩ := st1.slotV hs
    refine ⟨vi, hv, ?_⟩
    refine sstepN (n := 1) st1 rfl rfl post1 fun o2 ρ2 v2 S2 H2 e2 st2 post2 => ?_
    split at post2
    · rename_i o' h
      cases ho : slO (ρ2.getD i .no) with
      | none => rw [ho] at h; cases h
      | some oi =>
        rw [ho] at h
        exact store_rule st2 hv ho h post2
    · exact post2.elim
  · exact post1.elim
end
end DL
set_option Elab.async false
set_option linter.all false
set_option maxRecDepth 100000
set_option autoImplicit false
/-! DL6: methods that change a slot's list; loops. -/
namespace DL
open PySem PySem.Spec PyProof.Rows L2
section
variable {g : Gb} {W : WX} {Z : Zn} {S S' H H' : Hp} {τ τ' : List V} {θ θ' : List O} {σ : Sg} {ρ : En} {Q Q' : VK} {m ma mb mc : E} {o oi : O} {v : V} {i : Nat}
/-! ### x.append(e), x.pop(e), x.pop() -/
theorem le_one {Qa : List V → Hp → Prop} (h : LE g W m σ H fun v H1 => Qa [v] H1) : LA g W [m] σ H Qa := by
  obtain ⟨Z, S, τ, θ, ρ, st, post⟩ := h
  refine ⟨Z, S, τ, θ, ρ, st, ?_⟩
  unfold evs
  cases h : m ρ with
  | ok o ρ1 =>
    rw [h] at post
    intro vs S' H' e st'
    have l := st'.tlen
    have l0 := st.tlen
    obtain ⟨v, rfl⟩ : ∃ v, vs = [v] := by
      simp at l
      have : vs.length = 1 := by omega
      match vs, this with
      | [v], _ => exact ⟨v, rfl⟩
    exact post v S' H' e st'
  | exc x ρ1 => rw [h] at post; exact post
  | stuck => rw [h] at post; exact post
def ePopAt (i : Nat) (m : E) : E := fun ρ => match slO (ρ.getD i .no) with
  | some (.lst _) => (m ρ).bind fun k ρ1 => match slO (ρ1.getD i .no), k.d.view with
    | some (.lst os), .int n => if 0 ≤ n ∧ n < 1000000 then match os[n.toNat]? with
      | some o => .ok o (ρ1.set i ((ρ1.getD i .no).re (.lst (os.eraseIdx n.toNat))))
      | none => .stuck else .stuck
    | _, _ => .stuck
  | _ => .stuck
/-! ### loops -/
/-- what a target does with an item -/
abbrev Tg := D → En → Option En
def En.set1 (ρ : En) (i : Nat) (d : D) : Option En := match ρ[i]? with
  | some (.b _) => none
  | some _ => some (ρ.set i (.v (.sh d)))
  | none => none
def tgN (i : Nat) : Tg := fun d ρ => ρ.set1 i d
def forL (tg : Tg) (body : Sm) : List D → Sm
  | [], ρ => .next ρ
  | d :: ds, ρ => match tg d ρ with
    | none => .stuck
    | some ρ1 => match body ρ1 with
      | .next ρ2 => forL tg body ds ρ2
      | .cont ρ2 => forL tg body ds ρ2
      | .brk ρ2 => .next ρ2
      | .ret o ρ2 => .ret o ρ2
      | .exc x ρ2 => .exc x ρ2
      | .stuck => .stuck
/-- a target is stored as tg says: g its reading -/
def TgS (gb : Gb) (gr : TG) (tg : Tg) : Prop := ∀ Z S H σ ρ (d : D) v ρ1 (Q : L2.St → Hp → Prop), St gb Z S H [] [] σ ρ → Rep gb S d v → tg d ρ = some ρ1 → (∀ σ', St gb Z S H [] [] σ' ρ1 → Q σ' H) → gr v σ H Q
/-- the turns of a loop over ds -/
def ForP (g : Gb) (W : WX) (Z : Zn) (S1 : Hp) (En : Ends) (tg : Tg) (body : Sm) (ds : List D) (i : Nat) : L2.St → Hp → Prop := fun σ H => ∃ S ρ, Ex S1 S ∧ St g Z S H [] [] σ ρ ∧ PostO g W Z S (forL tg body (ds.drop i) ρ) En
/-- what is walked hands out ds, one by one, as long as the shadow S1 stands -/
structure WkS (g : Gb) (J : It) (S1 : Hp) (ds : List D) : Prop where
  go : ∀ i d S H, Ex S1 S → Sub S H → ds[i]? = some d → J.go i H ∧ ∀ x H', J.yld i H x H' → New g S H (.sh d) x H'
  stop : ∀ S H, Ex S1 S → Sub S H → J.stop ds.length H
theorem for_walk {J : It} {ds : List D} {S1 : Hp} {En : Ends} {gr : TG} {tg : Tg} {body : Sm} (wk : WkS g J S1 ds) (ht : TgS g gr tg) (st : St g Z S1 H [] [] σ ρ) (post : PostO g W Z S1 (forL tg body ds ρ) En) :
    ∃ W' : Nat → Nat → L2.St → Hp → Prop, (∃ m, W' 0 m σ H) ∧ ∀ i m σ H, W' i m σ H →
      (J.stop i H ∧ En.nx σ H) ∨ (J.go i H ∧ ∃ N : L2.St → Hp → Prop, (∀ σ' H', N σ' H' → ∃ m', m' < m ∧ W' (i + 1) m' σ' H') ∧ ∀ x H', J.yld i H x H' → gr x σ H' fun σ2 H2 => (LS g W body) { En with nx := N, ct := N, bk := En.nx } σ2 H2) := by
  refine ⟨fun i m σ H => m = ds.length - i ∧ i ≤ ds.length ∧ ForP g W Z S1 En tg body ds i σ H, ⟨ds.length, by simp, Nat.zero_le _, S1, ρ, Ex.refl _, st, by rw [List.drop_zero]; exact post⟩, ?_⟩
  rintro i m σ H ⟨rfl, hi, S, ρ, e, st, post⟩
  by_cases hlt : i < ds.length
  · have hd : ds[i]? = some ds[i] := List.getElem?_eq_getElem hlt
    obtain ⟨g1, g2⟩ := wk.go i ds[i] S H e st.sub hd
    refine .inr ⟨g1, ForP g W Z S1 En tg body ds (i + 1), fun σ' H' p' => ⟨ds.length - (i + 1), by omega, rfl, hlt, p'⟩, fun x H' y => ?_⟩
    obtain ⟨S2, e2, st2⟩ := st.push (g2 x H' y)
    obtain ⟨S3, e3, st3, r3⟩ := St.pop (τ := []) (θ := []) st2
    have e13 : Ex S S3 := e2.trans e3
    rw [List.drop_eq_getElem_cons hlt] at post
    unfold forL at post
    cases h : tg ds[i] ρ with
    | none => rw [h] at post; exact post.elim
    | some ρ1 =>
      rw [h] at post
      refine ht Z S3 H' σ ρ ds[i] x ρ1 _ st3 r3 h fun σ' st4 => ⟨Z, S3, ρ1, st4, ?_⟩
      have post := PostO.mono e13 post
      dsimp only at post
      cases hb : body ρ1 with
      | next ρ2 => rw [hb] at post; exact fun σ2 S4 H2 e4 st5 => ⟨S4, ρ2, (e.trans e13).trans e4, st5, PostO.mono e4 post⟩
      | cont ρ2 => rw [hb] at post; exact fun σ2 S4 H2 e4 st5 => ⟨S4, ρ2, (e.trans e13).trans e4, st5, PostO.mono e4 post⟩
      | brk ρ2 => rw [hb] at post; exact post
      | ret o ρ2 => rw [hb] at post; exact post
      | exc x ρ2 => rw [hb] at post; exact post
      | stuck => rw [hb] at post; exact post
  · have e0 : i = ds.length := by omega
    subst e0
    rw [List.drop_of_length_le (Nat.le_refl _)] at post
    exact .inl ⟨wk.stop S H e st.sub, post σ S H (Ex.refl _) st⟩
/-! range -/
theorem wk_range {n : Nat} {lo : Int} {S1 : Hp} : WkS g (Itr lo n) S1 ((List.range n).map fun (i : Nat) => .int (lo + i)) where
  go := fun i d S H _ e2 hi => by
    rw [List.getElem?_map] at hi
    cases h : (List.range n)[i]? with
    | none => rw [h] at hi; cases hi
    | some j =>
      rw [h] at hi
      cases hi
      obtain ⟨h1, h2⟩ := List.getElem?_eq_some_iff.mp h
      rw [List.getElem_range] at h2
      subst h2
      rw [List.length_range] at h1
      exact ⟨h1, fun x H' y => by obtain ⟨e, y⟩ := y; subst e; subst y; exact new_flat e2 rfl rfl⟩
  stop := fun S H _ _ => by
    show n ≤ _
    rw [List.length_map, List.length_range]
    exact Nat.le_refl _
def rangeD (lo hi : Int) : List D := (List.range (hi - lo).toNat).map fun (i : Nat) => .int (lo + i)
/-! a list, a tuple, a text, the script -/
theorem wk_list {a : Addr} {ds : List D} {vs : List V} {S1 : Hp} (h : S1 a = some (.lst vs)) (r : Reps g S1 ds vs) : WkS g (Itl g.K a) S1 ds where
  go := fun i d S H e1 e2 hi => by
    obtain ⟨v, h1, h2⟩ := r.get hi
    have q : SqL g.K H a vs := .inl (.inl (e2.lst (e1.lst h)))
    refine ⟨⟨vs, v, q, h1⟩, fun x H' y => ?_⟩
    obtain ⟨e, y⟩ := y
    subst e
    have := y vs q
    rw [h1] at this
    cases this
    exact New.same e2 (Rep.mono e1 _ _ h2)
  stop := fun S H e1 e2 => ⟨vs, .inl (.inl (e2.lst (e1.lst h))), Nat.le_of_eq r.len⟩
theorem wk_tup {a : Addr} {ds : List D} {vs : List V} {S1 : Hp} (h : SqT g.K S1 a vs) (r : Reps g S1 ds vs) : WkS g (Itt g.K a) S1 ds where
  go := fun i d S H e1 e2 hi => by
    obtain ⟨v, h1, h2⟩ := r.get hi
    have q : SqT g.K H a vs := e2.sqT (e1.sqT h)
    refine ⟨⟨vs, v, q, h1⟩, fun x H' y => ?_⟩
    obtain ⟨e, y⟩ := y
    subst e
    have := y vs q
    rw [h1] at this
    cases this
    exact New.same e2 (Rep.mono e1 _ _ h2)
  stop := fun S H e1 e2 => ⟨vs, e2.sqT (e1.sqT h), Nat.le_of_eq r.len⟩
theorem wk_scr {a : Addr} {ns : List Int} {S1 : Hp} (h : SqL g.K S1 a (ns.map V.int)) : WkS g (Itl g.K a) S1 (ns.map D.int) where
  go := fun i d S H e1 e2 hi => by
    have q : SqL g.K H a (ns.map V.int) := e2.sqL (e1.sqL h)
    rw [List.getElem?_map] at hi
    cases h1 : ns[i]? with
    | none => rw [h1] at hi; cases hi
    | some n =>
      rw [h1] at hi
      cases hi
      have h2 : (ns.map V.int)[i]? = some (.int n) := by rw [List.getElem?_map, h1]; rfl
      refine ⟨⟨_, _, q, h2⟩, fun x H' y => ?_⟩
      obtain ⟨e, y⟩ := y
      subst e
      have := y _ q
      rw [h2] at this
      cases this
      exact new_flat e2 rfl rfl
  stop := fun S H e1 e2 => ⟨_, e2.sqL (e1.sqL h), by rw [List.length_map, List.length_map]; exact Nat.le_refl _⟩
def signs (z : Str) : List D := z.cps.toList.map fun c => .str ⟨#[c]⟩
theorem wk_str {z : Str} {S1 : Hp} : WkS g (Its z) S1 (signs z) where
  go := fun i d S H e1 e2 hi => by
    unfold signs at hi
    rw [List.getElem?_map, Array.getElem?_toList] at hi
    cases h1 : z.cps[i]? with
    | none => rw [h1] at hi; cases hi
    | some c =>
      rw [h1] at hi
      cases hi
      refine ⟨(Array.getElem?_eq_some_iff.mp h1).1, fun x H' y => ?_⟩
      obtain ⟨e, c', y1, y2⟩ := y
      subst e
      rw [h1] at y1
      cases y1
      subst y2
      exact new_flat e2 rfl rfl
  stop := fun S H e1 e2 => by
    show z.cps.size ≤ _
    unfold signs
    rw [List.length_map, Array.length_toList]
    exact Nat.le_refl _
/-- the items of a value that a for walks -/
def itemsD : D → Option (List D)
  | .lst ds => some ds
  | .tup ds => some ds
  | .scr ns => some (ns.map .int)
  | .str z => some (signs z)
  | _ => none
def iStrR (tl : TE) : TI := fun σ H R => tl σ H fun x H1 => ∃ z, x = .str z ∧ R (Its z) H1
theorem PI_or {X : Cx} {tg iter : Expr} {w1 w2 : TI} (h1 : PI X tg iter w1) (h2 : PI X tg iter w2) : PI X tg iter (fun σ H R => w1 σ H R ∨ w2 σ H R) :=
  ⟨fun pins s σ H R I h => by
    rcases h with h | h
    · exact h1.run pins s σ H R I h
    · exact h2.run pins s σ H R I h⟩
def iAny (K : PySem.W.Frag) (tl : TE) : TI := fun σ H R => iList K tl σ H R ∨ (iTup K tl σ H R ∨ iStrR tl σ H R)
/-! while -/
end
end DL
set_option Elab.async false
set_option linter.all false
set_option maxRecDepth 100000
set_option autoImplicit false
/-! DLW: the rules as one writes them: an expression of the text and the function that reads it. -/
namespace DL
open PySem PySem.Spec PyProof.Rows L2
/-- what a rule asks of the context -/
structure Cxt (X : Cx) (g : Gb) (W : WX) (j : Nat) : Prop where
  K : X.K = g.K
  calm : X.calm = true
  nd : X.N.Nodup
  tk : Takes X W
  po : PassesOwn (model X.prog X.w) X.A X.env X.xe
  rm : Room j X.A
  gd : X.A.guards = some []
  sys : ∃ mm, X.base.Ns sysModules mm
theorem Cxt.hu {X : Cx} {g : Gb} {W : WX} {j : Nat} (c : Cxt X g W j) : X.A.units + 1 < cLine := hu_of c.rm
theorem cxt_def {P : Program} {w : World} {mg : Str → Option Value} {base : Heap} {g : Gb} {N : List Str} {qual : Str} {scope : Scope} {f : Addr} {cd : Value} {A : Around} {outer : List Env} {s : Shared} {H : Hp} {E : XK} {j : Nat} (hN : N.Nodup)
    (hr : Room j (A.deeper (envOfC qual scope s.heap.objs.size f cd))) (hg : A.guards = some []) (hs : ∃ mm, base.Ns sysModules mm) : Cxt (cxOf (L2.CX P w) P w g.K mg base N qual scope f cd A outer s H E) g (WF E) j :=
  ⟨rfl, rfl, hN, takes_of rfl rfl rfl rfl, passes_of rfl, hr, hg, hs⟩
section
variable {X : Cx} {g : Gb} {W : WX} {j : Nat}
/-! names, constants -/
theorem pd_var (i : Nat) {x : Str} {pos : Pos} (hN : X.N[i]? = some x := by rfl) (hv : Vis X.env.scope x := by first | exact Or.inl rfl | exact Or.inr (Or.inl rfl) | exact Or.inr (Or.inr rfl)) (hd : (x == ("__debug__" : Str)) = false := by decide)
    (hcd : (x == ("__classdict__" : Str)) = false := by decide) : PE X (.Name x pos) (LE g W (eVar i)) := PE_imp (pe_var hN hv hd hcd) fun _ _ _ q => le_var q
theorem pd_int {z : Int} {k pos} : PE X (.Constant (.int z) k pos) (LE g W (eC (.int z))) := PE_imp pe_int fun _ _ _ q => le_c (d := .int z) rfl q
theorem pd_bl {z : Bool} {k pos} : PE X (.Constant (.bool z) k pos) (LE g W (eC (.bl z))) := PE_imp pe_bl fun _ _ _ q => le_c (d := .bl z) rfl q
theorem pd_non {k pos} : PE X (.Constant .none k pos) (LE g W (eC .non)) := PE_imp pe_non fun _ _ _ q => le_c (d := .non) rfl q
theorem pd_str {z : Str} {k pos} : PE X (.Constant (.str z) k pos) (LE g W (eC (.str z))) := PE_imp pe_str fun _ _ _ q => le_c (d := .str z) rfl q
theorem pd_gint {x : Str} {z : Int} {u : Value} {pos : Pos} (hm : X.mg x = some u) (r : RelV (.int z) u) (hg : Gl X x := by rfl) (hd : (x == ("__debug__" : Str)) = false := by decide) : PE X (.Name x pos) (LE g W (eC (.int z))) := PE_imp (pe_glob hg hm r hd) fun _ _ _ q => le_c (d := .int z) rfl q
theorem pd_gstr {x : Str} {z : Str} {u : Value} {pos : Pos} (hm : X.mg x = some u) (r : RelV (.str z) u) (hg : Gl X x := by rfl) (hd : (x == ("__debug__" : Str)) = false := by decide) : PE X (.Name x pos) (LE g W (eC (.str z))) := PE_imp (pe_glob hg hm r hd) fun _ _ _ q => le_c (d := .str z) rfl q
theorem pd_gty {x : Str} {T : String} {pos : Pos} (hm : X.mg x = none) (hv : bootBuiltins x = some (.type T)) (hg : Gl X x := by rfl) (hn : x ≠ "__name__" := by decide) (hd : (x == ("__debug__" : Str)) = false := by decide) : PE X (.Name x pos) (LE g W (eC (.op (.ty T)))) :=
  PE_imp (pe_bltn (v := .ty T) hg hm hv rfl hn hd) fun _ _ _ q => le_c (d := .op (.ty T)) rfl q
variable {a b c : Expr} {ma mb mc : E} {pos : Pos}
/-! operators -/
theorem pd_add (ha : PE X a (LE g W ma)) (hb : PE X b (LE g W mb)) : PE X (.BinOp a .Add b pos) (LE g W (eBin dAdd ma mb)) := PE_imp (pe_op op_addA ha hb) fun _ _ _ q => le_bin os_add q
theorem pd_sub (ha : PE X a (LE g W ma)) (hb : PE X b (LE g W mb)) : PE X (.BinOp a .Sub b pos) (LE g W (eBin dSub ma mb)) := PE_imp (pe_op op_sub ha hb) fun _ _ _ q => le_bin os_sub q
theorem pd_mul (ha : PE X a (LE g W ma)) (hb : PE X b (LE g W mb)) : PE X (.BinOp a .Mult b pos) (LE g W (eBin dMul ma mb)) := PE_imp (pe_op op_mulA ha hb) fun _ _ _ q => le_bin os_mul q
theorem pd_fdv (ha : PE X a (LE g W ma)) (hb : PE X b (LE g W mb)) : PE X (.BinOp a .FloorDiv b pos) (LE g W (eBin dFdv ma mb)) := PE_imp (pe_op op_fdivW ha hb) fun _ _ _ q => le_bin os_fdv q
theorem pd_mod (ha : PE X a (LE g W ma)) (hb : PE X b (LE g W mb)) : PE X (.BinOp a .Mod b pos) (LE g W (eBin dMod ma mb)) := PE_imp (pe_op op_mod ha hb) fun _ _ _ q => le_bin os_mod q
theorem pd_pow (ha : PE X a (LE g W ma)) (hb : PE X b (LE g W mb)) : PE X (.BinOp a .Pow b pos) (LE g W (eBin dPow ma mb)) := PE_imp (pe_op op_pow ha hb) fun _ _ _ q => le_bin os_pow q
theorem pd_in (C : Cxt X g W j) (ha : PE X a (LE g W ma)) (hb : PE X b (LE g W mb)) (hm : behindInMarks .In b = false := by rfl) : PE X (.Compare a [.In] [b] pos) (LE g W (eBin dIn ma mb)) :=
  PE_imp (pe_cmpR (op_inA C.hu) ha hb hm) fun _ _ _ q => le_bin (by rw [C.K]; exact os_in) q
theorem pt_of {r : R2} {op : CmpOp} {f : D → D → Option O} (ho : OpR X (compareOp op) r) (hs : OpS g r f) (ha : PE X a (LE g W ma)) (hb : PE X b (LE g W mb)) (hm : behindInMarks op b = false) : PT X (.Compare a [op] [b] pos) (LT g W (eBin f ma mb)) :=
  PT_imp (pt_cmpR ho ha hb hm) fun _ _ _ q => le_bin hs q
theorem qd_lt (ha : PE X a (LE g W ma)) (hb : PE X b (LE g W mb)) : PT X (.Compare a [.Lt] [b] pos) (LT g W (eBin dLt ma mb)) := pt_of op_lt2 os_lt ha hb (nomark _)
theorem qd_gt (ha : PE X a (LE g W ma)) (hb : PE X b (LE g W mb)) : PT X (.Compare a [.Gt] [b] pos) (LT g W (eBin dGt ma mb)) := pt_of op_gt2 os_gt ha hb (nomark _)
theorem qd_ge (ha : PE X a (LE g W ma)) (hb : PE X b (LE g W mb)) : PT X (.Compare a [.GtE] [b] pos) (LT g W (eBin dGe ma mb)) := pt_of op_ge2 os_ge ha hb (nomark _)
theorem qd_isN (ha : PE X a (LE g W ma)) (hb : PE X b (LE g W mb)) : PT X (.Compare a [.Is] [b] pos) (LT g W (eBin dIsN ma mb)) := pt_of op_isN os_isN ha hb (nomark _)
theorem qd_notIn (C : Cxt X g W j) (ha : PE X a (LE g W ma)) (hb : PE X b (LE g W mb)) (hm : behindInMarks .NotIn b = false := by rfl) : PT X (.Compare a [.NotIn] [b] pos) (LT g W (eBin dNotIn ma mb)) := pt_of (op_notInA C.hu) (by rw [C.K]; exact os_notIn) ha hb hm
/-! chains -/
def eChn (f f' : D → D → Option O) (a b c : E) : E := fun ρ => (a ρ).bind fun o1 ρ1 => (b ρ1).bind fun o2 ρ2 => match f o1.d.view o2.d.view with
  | some (.sh (.bl true)) => (c ρ2).bind fun o3 ρ3 => R.of (f' o2.d.view o3.d.view) ρ3
  | some (.sh (.bl false)) => .ok (.sh (.bl false)) ρ2
  | _ => .stuck
theorem le_chn {r r' : R2} {f f' : D → D → Option O} (hs : OpS g r f) (hs' : OpS g r' f') {σ : Sg} {H : Hp} {Q : VK} (q : LE g W (eChn f f' ma mb mc) σ H Q) : tChain r r' (LE g W ma) (LE g W mb) (LE g W mc) σ H Q := by
  obtain ⟨Z, S, τ, θ, ρ, st, post⟩ := q
  refine step0 st post fun o1 ρ1 v1 S1 H1 e1 st1 post1 => ?_
  refine stepN (n := 1) st1 rfl rfl post1 fun o2 ρ2 v2 S2 H2 e2 st2 post2 => ?_
  obtain ⟨S3, e3, st3, rep⟩ := st2.popN 2 [v1, v2] [o1, o2] rfl rfl
  obtain ⟨_, _, ee, r1, r2⟩ := reps2 rep
  cases ee
  have post2 := post2.mono e3
  split at post2
  · rename_i hf
    refine hs S3 H2 v1 v2 _ _ _ _ st3.sub r1.view r2.view hf fun v H' n => ?_
    obtain ⟨S4, e4, st4⟩ := st3.push n
    obtain ⟨S5, e5, st5, rv⟩ := st4.pop
    refine ⟨true, rv, iteT ?_⟩
    have e35 := e4.trans e5
    refine step0 st5 (post2.mono e35) fun o3 ρ3 v3 S6 H6 e6 st6 post6 => ?_
    obtain ⟨S7, e7, st7, r3⟩ := st6.pop
    obtain ⟨o, hf', post7⟩ := post6.of
    exact hs' S7 H6 v2 v3 _ _ o Q st7.sub (Rep.mono ((e35.trans e6).trans e7) _ _ r2).view r3.view hf' fun v H' n => post7.fin e7 st7 n
  · rename_i hf
    refine hs S3 H2 v1 v2 _ _ _ _ st3.sub r1.view r2.view hf fun v H' n => ?_
    obtain ⟨S4, e4, st4⟩ := st3.push n
    obtain ⟨S5, e5, st5, rv⟩ := st4.pop
    exact ⟨false, rv, iteF (post2.fin (e4.trans e5) st5 (New.flat (d := .bl false) st5.sub rfl))⟩
  · exact post2.elim
theorem pd_chnLL (ha : PE X a (LE g W ma)) (hb : PE X b (LE g W mb)) (hc : PE X c (LE g W mc)) (hm : lastMarks [.LtE, .LtE] [b, c] = false := by with_unfolding_all rfl) : PE X (.Compare a [.LtE, .LtE] [b, c] pos) (LE g W (eChn dLe dLe ma mb mc)) :=
  PE_imp (pe_chain op_le2 op_le2 ha hb hc hm) fun _ _ _ q => le_chn os_le os_le q
theorem qd_chnLL (ha : PE X a (LE g W ma)) (hb : PE X b (LE g W mb)) (hc : PE X c (LE g W mc)) (hm : lastMarks [.LtE, .LtE] [b, c] = false := by with_unfolding_all rfl) : PT X (.Compare a [.LtE, .LtE] [b, c] pos) (LT g W (eChn dLe dLe ma mb mc)) :=
  PT_imp (pt_chain op_le2 op_le2 ha hb hc hm) fun _ _ _ q => le_chn os_le os_le q
/-! and, or, not, if .. else -/
variable {rest : List Expr}
theorem pd_and (ha : PE X a (LE g W ma)) (hb : PE X (.BoolOp .And (b :: rest) pos) (LE g W mb)) : PE X (.BoolOp .And (a :: b :: rest) pos) (LE g W (eAnd ma mb)) := PE_imp (pe_and ha hb) fun _ _ _ q => le_and q
theorem pd_one {op} (ha : PE X a (LE g W ma)) : PE X (.BoolOp op [a] pos) (LE g W ma) := pe_one ha
theorem pd_not (ha : PE X a (LE g W ma)) : PE X (.UnaryOp .Not a pos) (LE g W (eNot ma)) := PE_imp (pe_not ha) fun _ _ _ q => le_not q
theorem pd_if (hc : PT X c (LT g W mc)) (ha : PE X a (LE g W ma)) (hb : PE X b (LE g W mb)) : PE X (.IfExp c a b pos) (LE g W (eIf mc ma mb)) := PE_imp (pe_ifExp hc ha hb) fun _ _ _ q => le_if q
theorem wd_and (ha : PT X a (LT g W ma)) (hb : PW X (.BoolOp .And (b :: rest) pos) (LT g W mb)) : PW X (.BoolOp .And (a :: b :: rest) pos) (LT g W (eAnd ma mb)) := PW_imp (pw_and ha hb) fun _ _ _ q => lt_and q
theorem wd_or (ha : PT X a (LT g W ma)) (hb : PW X (.BoolOp .Or (b :: rest) pos) (LT g W mb)) : PW X (.BoolOp .Or (a :: b :: rest) pos) (LT g W (eOr ma mb)) := PW_imp (pw_or ha hb) fun _ _ _ q => lt_or q
theorem wd_and1 (ha : PT X a (LT g W ma)) : PW X (.BoolOp .And [a] pos) (LT g W ma) := pw_and1 ha
theorem wd_or1 (ha : PT X a (LT g W ma)) : PW X (.BoolOp .Or [a] pos) (LT g W ma) := pw_or1 ha
theorem qd_w {e : Expr} {m : E} (h : PW X e (LT g W m)) : PT X e (LT g W m) := h.pt
theorem qd_not (ha : PT X a (LT g W ma)) : PT X (.UnaryOp .Not a pos) (LT g W (eNot ma)) := PT_imp (pt_not ha) fun _ _ _ q => lt_not q
/-- an expression that gives a bool, as a test -/
theorem qd_val {e : Expr} {m : E} (h : PE X e (LE g W m)) (he : ∀ whole, isTrue e X.env whole = (do let v ← whole; standAt e.pos; holding [v] (truthy v)) := by intro _; rfl) : PT X e (LT g W m) := pt_val h he
/-! displays, arguments -/
variable {es : List Expr} {ms : List E}
theorem ad_nil : PA X [] (LA g W []) := PA_imp pa_nil fun _ _ _ q => la_nil q
theorem ad_cons (ha : PE X a (LE g W ma)) (hr : PA X es (LA g W ms)) (hs : starEach (a :: es) X.env = (false, eval a X.env) :: starEach es X.env := by rfl) : PA X (a :: es) (LA g W (ma :: ms)) := PA_imp (pa_cons ha hr hs) fun _ _ _ q => la_cons q
theorem pd_lst (h : PA X es (LA g W ms)) : PE X (.List es pos) (LE g W (eLst ms)) := PE_imp (pe_lst h) fun _ _ _ q => le_lst q
theorem pd_tup {k} (h : PA X es (LA g W ms)) : PE X (.Tuple es k pos) (LE g W (eTup ms)) := PE_imp (pe_tup h) fun _ _ _ q => le_tup q
/-! items -/
theorem pd_ix (C : Cxt X g W j) (ha : PE X a (LE g W ma)) (hb : PE X b (LE g W mb)) (hs : PlainIx b := by exact fun _ _ => rfl) : PE X (.Subscript a b pos) (LE g W (eBin dIx ma mb)) := PE_imp (pe_ix (ix_any C.hu) ha hb hs) fun _ _ _ q => le_bin (by rw [C.K]; exact os_ix) q
theorem pd_pix (C : Cxt X g W j) (i : Nat) {x : Str} {px : Pos} (hb : PE X b (LE g W mb)) (hN : X.N[i]? = some x := by rfl) (hv : Vis X.env.scope x := by first | exact Or.inl rfl | exact Or.inr (Or.inl rfl) | exact Or.inr (Or.inr rfl)) (hs : PlainIx b := by exact fun _ _ => rfl) (hd : (x == ("__debug__" : Str)) = false := by decide)
    (hcd : (x == ("__classdict__" : Str)) = false := by decide) : PE X (.Subscript (.Name x px) b pos) (LE g W (ePix i mb)) := PE_imp (pe_ix (ix_any C.hu) (pe_var hN hv hd hcd) hb hs) fun _ _ _ q => by rw [C.K]; exact le_pix q
/-! builtins -/
theorem pd_len {p : Pos} (C : Cxt X g W j) (hm : X.mg "len" = none) (ha : PA X [a] (LA g W ms)) (hg : Gl X "len" := by rfl) (he : starEach [a] X.env = (false, eval a X.env) :: starEach [] X.env := by rfl) (hpl : (backTo pos (starEach [] X.env)).any (·.1) = false := by rfl) :
    PE X (.Call (.Name "len" p) [a] [] pos) (LE g W (eCB dLen ms)) := PE_imp (pe_callB call_lenA hg hm PySem.boot_len ha (he := he) (hpl := hpl)) fun _ _ _ q => le_callB (by rw [C.K]; exact cs_len) q
def dMax : List D → Option O
  | [.int i, .int k] => oI (if k > i then k else i)
  | _ => none
def dMin : List D → Option O
  | [.int i, .int k] => oI (if k < i then k else i)
  | _ => none
theorem cs_max2 : CallS g (fun xs H Q => ∃ i j, xs = [.int i, .int j] ∧ Q (.int (if j > i then j else i)) H) dMax := callS_of fun S H xs ds o Q e r hf k => by
  unfold dMax at hf
  split at hf
  · cases hf
    obtain ⟨v, v2, rfl, r1, r2⟩ := reps2 r
    rw [show v = .int _ from r1, show v2 = .int _ from r2]
    exact ⟨_, _, rfl, k _ H (new_flat e rfl rfl)⟩
  · cases hf
theorem cs_min2 : CallS g (fun xs H Q => ∃ i j, xs = [.int i, .int j] ∧ Q (.int (if j < i then j else i)) H) dMin := callS_of fun S H xs ds o Q e r hf k => by
  unfold dMin at hf
  split at hf
  · cases hf
    obtain ⟨v, v2, rfl, r1, r2⟩ := reps2 r
    rw [show v = .int _ from r1, show v2 = .int _ from r2]
    exact ⟨_, _, rfl, k _ H (new_flat e rfl rfl)⟩
  · cases hf
theorem boot_max2 : bootBuiltins "max" = some (.builtin "max") := by decide +kernel
theorem boot_min2 : bootBuiltins "min" = some (.builtin "min") := by decide +kernel
theorem pd_max {p : Pos} (C : Cxt X g W j) (hm : X.mg "max" = none) (ha : PA X [a, b] (LA g W ms)) (hg : Gl X "max" := by rfl) (he : starEach [a, b] X.env = (false, eval a X.env) :: starEach [b] X.env := by rfl) (hpl : (backTo pos (starEach [b] X.env)).any (·.1) = false := by rfl) :
    PE X (.Call (.Name "max" p) [a, b] [] pos) (LE g W (eCB dMax ms)) := PE_imp (pe_callB (call_max2 C.calm) hg hm boot_max2 ha (he := he) (hpl := hpl)) fun _ _ _ q => le_callB cs_max2 q
theorem pd_min {p : Pos} (C : Cxt X g W j) (hm : X.mg "min" = none) (ha : PA X [a, b] (LA g W ms)) (hg : Gl X "min" := by rfl) (he : starEach [a, b] X.env = (false, eval a X.env) :: starEach [b] X.env := by rfl) (hpl : (backTo pos (starEach [b] X.env)).any (·.1) = false := by rfl) :
    PE X (.Call (.Name "min" p) [a, b] [] pos) (LE g W (eCB dMin ms)) := PE_imp (pe_callB (call_min2 C.calm) hg hm boot_min2 ha (he := he) (hpl := hpl)) fun _ _ _ q => le_callB cs_min2 q
theorem run_fnW {X : Cx} {CX : CXT} {k : Nat} {f : Addr} {fd : FuncData} {ps : List Str} {sp : Sp} {dvs : List V} {ds : List Value} {E : L2.St → XK} {pins : List (Addr × Obj)} {σ : L2.St} {H : Hp} {s : Shared} {Q : VK} {us : List Value} {vs : List V} (F : FnW X.prog X.w X.K X.mg X.base CX k f fd ps sp) (hr : Room k X.A) (hgd : X.A.guards = some []) (hb : Binds X.K fd ps ds) (hd : Vals dvs ds) (hx : PassesAt CX X σ (E σ))
    (I : L2.Inv X pins σ H s) (r : Vals vs us) (h : sp (vs ++ dvs) H Q (E σ)) : wpAny (model X.prog X.w) X.A (call (.ref f) us) (EP X pins σ Q) X.xe s := by
  have r2 : Vals (vs ++ dvs) (us ++ ds) := r.append hd
  have hl : (us ++ ds).length = ps.length := by rw [← r2.length]; exact F.len _ _ _ _ h
  refine wpAny_call (codeAny_mono (F.run X.A X.stack s H ⟨us, []⟩ (us ++ ds) (vs ++ dvs) Q (E σ) hr hgd I.env0 (hb s us I.kIn hl) r2 h) fun r s' hq => ?_)
  cases r with
  | error e => exact hx pins H s e s' I hq
  | ok fl =>
    cases fl with
    | ret u => exact I.after hq
    | next => exact False.elim hq
    | brk => exact False.elim hq
    | cont => exact False.elim hq
theorem pe_callW {X : Cx} {CX : CXT} {k : Nat} {f : Addr} {fd : FuncData} {ps : List Str} {sp : Sp} {dvs : List V} {ds : List Value} {E : L2.St → XK} {x : Str} {p pos : Pos} {e : Expr} {es : List Expr} {t : TA} (F : FnW X.prog X.w X.K X.mg X.base CX k f fd ps sp) (hr : Room k X.A) (hgd : X.A.guards = some []) (hg : Gl X x) (hm : X.mg x = some (.ref f)) (hk : PySem.W.keepIn X.K (.ref f) = true) (hb : Binds X.K fd ps ds) (hd : Vals dvs ds) (hx : ∀ σ, PassesAt CX X σ (E σ))
    (ha : PA X (e :: es) t) (hdb : (x == ("__debug__" : Str)) = false := by decide) (he : starEach (e :: es) X.env = (false, eval e X.env) :: starEach es X.env := by rfl) (hpl : (backTo pos (starEach es X.env)).any (·.1) = false := by rfl) :
    PE X (.Call (.Name x p) (e :: es) [] pos) (tCallSD sp dvs E t) := by
  refine ⟨fun pins s σ H Q I h => ?_⟩
  refine wpAny_Call_Name_kw (ld_glob I hg hm ?_ hdb)
  refine PySem.W.callWith_K (h₀ := X.base) I.ok.mod.kin hk (thn (ha.run pos pins s σ H _ I h) fun us s1 ⟨vs, H1, I1, r, q⟩ => ⟨I1.kIn, ?_⟩) he hpl
  exact run_fnW F hr hgd hb hd (hx σ) I1 r q
/-! calls -/
/-- fd is what stands at f, and ps are its parameters -/
def parN (a : Arguments) : List Str := a.args.map (·.arg) ++ a.kwonlyargs.map (·.arg)
def FdAt (K : PySem.W.Frag) (f : Addr) (fd : FuncData) (ps : List Str) : Prop := (∃ (oc : Value) (od : Option Addr) (osl : Array (Option Value)), K.lookup f = some ⟨oc, od, .func fd, osl⟩) ∧ ps = parN fd.params
theorem FdAt.of {K : PySem.W.Frag} {x q : Str} {st : Stmt} {f : Addr} {fd : FuncData} {ps : List Str} (F : DefK K x q st f fd) (h : ps = parN (defArgs st)) : FdAt K f fd ps := by
  obtain ⟨oc, od, dV, kV, doc, pm, an, cdv, ct, osl, rfl, lk, _⟩ := F.ex
  exact ⟨⟨oc, od, osl, lk⟩, h⟩
/-- a def of the module that may be called by its name: level k, its function fn, its n parameters, the defaults dds that a call leaves out -/
def Cal (P : Program) (w : World) (mg : Str → Option Value) (base : Heap) (g : Gb) (k : Nat) (x : Str) (n : Nat) (dds : List D) (fn : List O → R) : Prop :=
  ∃ (f : Addr) (fd : FuncData) (ps : List Str) (ds : List Value) (dvs : List V), FnW P w g.K mg base (L2.CX P w) k f fd ps (spD g n fn) ∧ mg x = some (.ref f) ∧ PySem.W.keepIn g.K (.ref f) = true ∧ Binds g.K fd ps ds ∧ Vals dvs ds ∧ (∀ S, Reps g S dds dvs) ∧ FdAt g.K f fd ps
theorem pd_call {k n : Nat} {x : Str} {p : Pos} {dds : List D} {fn : List O → R} (C : Cxt X g W j) (F : Cal X.prog X.w X.mg X.base g k x n dds fn) (ha : PA X (a :: es) (LA g W ms)) (hk : k ≤ j := by decide) (hn : ms.length + dds.length = n := by rfl) (hg : Gl X x := by rfl) (hdb : (x == ("__debug__" : Str)) = false := by decide)
    (he : starEach (a :: es) X.env = (false, eval a X.env) :: starEach es X.env := by rfl) (hpl : (backTo pos (starEach es X.env)).any (·.1) = false := by rfl) : PE X (.Call (.Name x p) (a :: es) [] pos) (LE g W (eCall fn dds ms)) := by
  obtain ⟨f, fd, ps, ds, dvs, F, hm, kp, b, d, hd, _⟩ := F
  rw [← C.K] at F kp b
  exact PE_imp (pe_callW F (C.rm.mono hk) C.gd hg hm kp b d (passAt C.tk) ha hdb he hpl) fun _ _ _ q => le_call hd hn q
theorem pd_callB {k n : Nat} {x y : Str} {p py : Pos} {dds : List D} {fn : List O → R} (C : Cxt X g W j) (F : Cal X.prog X.w X.mg X.base g k x n dds fn) (i : Nat) (ha : PA X es (LA g W ms)) (hk : k ≤ j := by decide) (hn : ms.length + dds.length + 1 = n := by rfl) (hg : Gl X x := by rfl) (hdb : (x == ("__debug__" : Str)) = false := by decide)
    (hN : X.N[i]? = some y := by rfl) (hv : Vis X.env.scope y := by first | exact Or.inl rfl | exact Or.inr (Or.inl rfl) | exact Or.inr (Or.inr rfl)) (hd1 : (y == ("__debug__" : Str)) = false := by decide) (hcd : (y == ("__classdict__" : Str)) = false := by decide)
    (he : starEach (.Name y py :: es) X.env = (false, eval (.Name y py) X.env) :: starEach es X.env := by rfl) (hpl : (backTo pos (starEach es X.env)).any (·.1) = false := by rfl) : PE X (.Call (.Name x p) (.Name y py :: es) [] pos) (LE g W (eCallB i fn dds ms)) := by
  obtain ⟨f, fd, ps, ds, dvs, F, hm, kp, b, d, hd, _⟩ := F
  rw [← C.K] at F kp b
  exact PE_imp (pe_callW F (C.rm.mono hk) C.gd hg hm kp b d (passAt C.tk) (pa_cons (pe_var hN hv hd1 hcd) ha he) hdb he hpl) fun _ _ _ q => le_callB1 hd hn q
/-! methods that change a slot's list -/
/-! statements -/
variable {st : Stmt} {rs : List Stmt} {sa sb : Sm} {aa bb : List Stmt}
theorem sd_nil : PSs X [] (LS g W sNext) := PSs_imp pss_nil fun _ _ _ q => ls_nil q
theorem sd_one (h : PS X st (LS g W sa)) : PSs X [st] (LS g W sa) := pss_one h
theorem sd_cons (h : PS X st (LS g W sa)) (h2 : PSs X rs (LS g W sb)) : PSs X (st :: rs) (LS g W (sSeq sa sb)) := PSs_imp (pss_cons h h2) fun _ _ _ q => ls_seq q
theorem sd_set {x : Str} {px : Pos} (C : Cxt X g W j) (i : Nat) (h : PE X a (LE g W ma)) (hi : X.N[i]? = some x := by rfl) (hx : Loc X.env.scope x := by first | exact Or.inl rfl | exact Or.inr rfl) (hs : swapsWith a (some (.Name x px)) pos.line X.env = pure false := by rfl)
    (hf : X.fn x = true ∨ X.env.scope.names.lookup x = some .local := by first | exact .inl rfl | exact .inr rfl | assumption) : PS X (.Assign [.Name x px] a pos) (LS g W (sSet i ma)) := PS_imp (ps_set C.nd hi hx h hs hf) fun _ _ _ q => ls_set q
theorem sd_store {x : Str} {px ps : Pos} (C : Cxt X g W j) (i : Nat) (h : PE X a (LE g W ma)) (hb : PE X b (LE g W mb)) (hN : X.N[i]? = some x := by rfl) (hv : Vis X.env.scope x := by first | exact Or.inl rfl | exact Or.inr (Or.inl rfl) | exact Or.inr (Or.inr rfl)) (hd : (x == ("__debug__" : Str)) = false := by decide) (hcd : (x == ("__classdict__" : Str)) = false := by decide)
    (hs : swapsWithSole [.Subscript (.Name x px) b ps] a pos.line X.env = pure false := by rfl) (hw : swappedStores [.Subscript (.Name x px) b ps] a X.env = pure none := by rfl) (h1 : (assignEach [.Subscript (.Name x px) b ps] X.env).map (·.2) = [assign (.Subscript (.Name x px) b ps) X.env] := by rfl)
    (has : ∀ v, assign (.Subscript (.Name x px) b ps) X.env v = (do
      let ov ← holding [v] (eval (.Name x px) X.env)
      let iv ← holding [v, ov] (eval b X.env)
      standAt ps
      holding [v, ov, iv] (setItem ov iv v)
      release [v, ov, iv] []) := by intro _; rfl) : PS X (.Assign [.Subscript (.Name x px) b ps] a pos) (LS g W (sStore i mb ma)) := PS_imp (ps_asg h (pg_sub (pe_var hN hv hd hcd) hb (set_any C.hu) has) hs hw h1) fun _ _ _ q => ls_store q
theorem sd_expr (h : PE X a (LE g W ma)) (hs : swapsWith a none pos.line X.env = pure false := by rfl) : PS X (.Expr a pos) (LS g W (sDrop ma)) := PS_imp (ps_expr h hs) fun _ _ _ q => ls_drop q
theorem sd_ret (h : PE X a (LE g W ma)) : PS X (.Return (some a) pos) (LS g W (sRet ma)) := PS_imp (ps_ret h) fun _ _ _ q => ls_ret q
theorem sd_retV (i : Nat) {x : Str} {px : Pos} (hN : X.N[i]? = some x := by rfl) (hv : Vis X.env.scope x := by first | exact Or.inl rfl | exact Or.inr (Or.inl rfl) | exact Or.inr (Or.inr rfl)) (hd : (x == ("__debug__" : Str)) = false := by decide) (hcd : (x == ("__classdict__" : Str)) = false := by decide) :
    PS X (.Return (some (.Name x px)) pos) (LS g W (sRetV i)) := PS_imp (ps_ret (pe_var hN hv hd hcd)) fun _ _ _ q => ls_retV q
theorem sd_if (hc : PT X c (LT g W mc)) (ha : PSs X aa (LS g W sa)) (hb : PSs X bb (LS g W sb)) : PS X (.If c aa bb pos) (LS g W (sIf mc sa sb)) := PS_imp (ps_if hc ha hb) fun _ _ _ q => ls_if q
/-! loops -/
variable {tge : Expr} {gr : TG} {tg : Tg}
end
end DL
namespace DL
open PySem PySem.Spec PyProof.Rows L2
/-- a def of the module as it stands behind the top: ps its parameters, dds what is taken where a call leaves the last ones out -/
def DefT (g : Gb) (mg : Str → Option Value) (x : Str) (st : Stmt) (ps : List Str) (dds : List D) : Prop :=
  ∃ (f : Addr) (fd : FuncData) (ds : List Value) (dvs : List V), DefK g.K x x st f fd ∧ mg x = some (.ref f) ∧ PySem.W.keepIn g.K (.ref f) = true ∧ Binds g.K fd ps ds ∧ Vals dvs ds ∧ ∀ S, Reps g S dds dvs
theorem cal_ok {P : Program} {w : World} {mg : Str → Option Value} {base : Heap} {g : Gb} {x : Str} {st : Stmt} {N ps : List Str} {j n k : Nat} {bor : List Bool} {m : Sm} {dds : List D} (T : DefT g mg x st ps dds) (Sc : FnScope N ps (defScope st)) (hp : ps.length = n) (hN : N.length = n + k) (hps : ps = parN (defArgs st) := by rfl)
    (hbody : ∀ (f : Addr) (cdv : Value) (A : Around) (outer : List PySem.Env) (s : Shared) (H : Hp) (E : XK), Room j (A.deeper (envOfC x (defScope st) s.heap.objs.size f cdv)) → A.guards = some [] →
      PSs (cxOf (L2.CX P w) P w g.K mg base N x (defScope st) f cdv A outer s H E) (defBody st) (LS g (WF E) m)) : Cal P w mg base g (j + 1) x n dds (mkFn n k bor m) := by
  obtain ⟨f, fd, ds, dvs, F, hm, kp, b, d, hd⟩ := T
  exact ⟨f, fd, ps, ds, dvs, def_ok F Sc hp hN fun cdv A outer s H E _ => hbody f cdv A outer s H E, hm, kp, b, d, hd, .of F hps⟩
end DL
set_option Elab.async false
set_option linter.all false
set_option maxRecDepth 100000
set_option autoImplicit false
/-! DLG: all(.. for .. in ..), the test any expression. -/
namespace DL
open PySem PySem.Spec PyProof.Rows L2 GenW
/-- a generator expression's own scope: no captured names -/
structure GScp (scope : Scope) : Prop where
  kind : scope.kind = .function
  co : scope.isCoroutine = false
  cell : ∀ y ∈ scope.names, y.2 ≠ .cell
  free : ∀ y ∈ scope.names, y.2 ≠ .free
  dot : scope.names.lookup (".0" : Str) = some NameKind.local
/-- the context of its frame -/
def gxc (X : Cx) (s : Shared) (H : Hp) (N : List Str) (cenv : Env) (fp : List Addr) (pn : List (Addr × Obj)) : Cx :=
  { X with A := X.A.in1.in1.deeper cenv, N := N, s_0 := s, H_0 := H, env := cenv, outer := X.stack, stack := cenv :: X.stack, ex := fp, fn := fun _ => false, calm := true, pn := pn, xe := fun _ _ => False }
abbrev nones (n : Nat) : L2.St := List.replicate n none
theorem nones_get {n i : Nat} {v : V} (h : (nones n)[i]? = some (some v)) : False := by
  unfold nones at h
  rw [List.getElem?_replicate] at h
  split at h <;> cases h
theorem lookup_mem {x : Str} {k : NameKind} : ∀ {l : List (Str × NameKind)}, l.lookup x = some k → (x, k) ∈ l := fun h => PySem.mem_of_lookup h
theorem gx_start {X : Cx} {pins : List (Addr × Obj)} {σ : L2.St} {H : Hp} {s : Shared} {scope : Scope} {N : List Str} {fp : List Addr} {code : Value} {h5 : Heap} {tk a : Nat} {gs : GenState} {go : Obj} {m : Str → Option Value}
    (I : Inv X pins σ H s) (hcl : X.calm = true) (S : GScp scope) (hfp : ∀ b ∈ fp, FpOk X pins H b ∧ b < s.heap.objs.size) (hns : h5.Ns s.heap.objs.size m) (kp : ∀ b o, s.heap.get? b = some o → h5.get? b = some o) (ha : a = s.heap.objs.size + 1) (hgo : h5.get? a = some go) (hgc : ∀ v, go.data ≠ .cell v) (hgb : gs.bare = true) :
    Inv (gxc X s H N (genEnv scope [] s.heap.objs.size code builtinsNs X.env) fp [(a, go)]) [] (nones N.length) H { s with gens := s.gens.push gs, toks := tk, heap := h5 } := by
  have kn : ∀ x, ((genEnv scope [] s.heap.objs.size code builtinsNs X.env).kindOf x = some .cell ∨ (genEnv scope [] s.heap.objs.size code builtinsNs X.env).kindOf x = some .free) → False := fun x h => by
    rcases h with h | h
    · exact S.cell _ (lookup_mem (l := scope.names) h) rfl
    · exact S.free _ (lookup_mem (l := scope.names) h) rfl
  refine ⟨⟨I.ok.mod, S.kind, I.ok.glob, rfl, Nat.le_refl _, fun x y c h => ?_, fun x h => (kn x h).elim, fun x c h => ?_, fun _ => I.ok.hd hcl, ?_, .inr ⟨rfl, rfl⟩, fun b hb => ⟨?_, fun x c h => ?_⟩, I.bs, Nat.le_trans I.ok.bsz I.sz, fun b o e hb => ?_, fun b hb z => ?_, I.stack, I.stkFree⟩,
    rfl, I.bare.push hgb, Un.kept kp, ⟨m, hns, fun i x v _ h _ => (nones_get h).elim⟩, fun x c h => ?_, I.hok.fresh (Nat.le_refl _), fun x c h => ?_, fun p hp => ?_, I.hok.kept kp, by simp [nones, gxc]⟩
  · cases h
  · cases h
  · exact Around.frames_deeper (A := X.A.in1.in1) I.ok.frames
  · exact Nat.ne_of_lt (hfp b hb).2
  · cases h
  · rcases (hfp b hb).1.2.2.2.1 with z | z
    · exact I.ok.noex b o e z
    · exact absurd (Nat.lt_of_lt_of_le (Heap.lt_size e) (Nat.le_trans I.ok.bsz z)) (Nat.lt_irrefl _)
  · rcases List.mem_cons.mp (I.stkSub b z) with z | z
    · exact (hfp b hb).1.2.1 z
    · exact (hfp b hb).1.2.2.1 z
  · cases h
  · cases h
  · have hp : p = (a, go) := by
      rcases List.mem_append.mp hp with z | z
      · exact List.mem_singleton.mp z
      · cases z
    subst hp
    have hlt : s.heap.objs.size ≤ a := by omega
    refine ⟨hgo, I.hok.fresh hlt, ?_, fun z => ?_, hgc⟩
    · show a ≠ s.heap.objs.size
      omega
    · rcases List.mem_cons.mp (I.stkSub a z) with z | z
      · have := I.lt
        rw [← z] at this
        exact absurd (Nat.lt_of_lt_of_le this hlt) (Nat.lt_irrefl _)
      · exact I.nofs hlt z
/-! the protocol -/
def GFin (Y : Cx) (n : Nat) (Q : VK) (b : Bool) (s : Shared) : Prop := ∃ H', Inv Y [] (nones n) H' s ∧ Q (.bl b) H'
def gxR (Y : Cx) (n : Nat) (Q : VK) : GenEnd := fun _ _ r s1 => ((r = .ok (.ret .none) ∨ r = .ok .next) ∧ GFin Y n Q true s1) ∨ ∃ e, r = .error e ∧ False
def gxY (Y : Cx) (n : Nat) (Q : VK) : Protocol := fun _ _ v s1 kap => ∃ b H', v = .bool b ∧ Inv Y [] (nones n) H' s1 ∧ (b = false → Q (.bl false) H') ∧ (b = true → ∀ s', s'.heap = s1.heap → s'.os = s1.os → AllBare s'.gens → kap (.send .none) s')
def GTurn (n : Nat) (J : It) (gr : TG) (te : TE) (Q : VK) (W : Nat → Nat → Hp → Prop) : Prop := ∀ i m H, W i m H →
  (J.stop i H ∧ Q (.bl true) H) ∨ (J.go i H ∧ ∃ Nx : Hp → Prop, (∀ H', Nx H' → ∃ m', m' < m ∧ W (i + 1) m' H') ∧ ∀ x H', J.yld i H x H' → gr x (nones n) H' fun σ2 H2 => te σ2 H2 fun y H3 => ∃ b, y = .bl b ∧ (b = true → Nx H3) ∧ (b = false → Q (.bl false) H3))
def tAllG (P : Addr) (n : Nat) (wi : TI) (gr : TG) (te : TE) : TE := fun σ H Q => wi σ H fun J H1 => GxR.TabG H1 P ∧ ∀ H2, GxR.Tabbed P H1 H2 → ∃ W : Nat → Nat → Hp → Prop, (∃ m, W 0 m H2) ∧ GTurn n J gr te Q W
theorem Inv.same {Y : Cx} {pins : List (Addr × Obj)} {σ : L2.St} {H : Hp} {s s' : Shared} (I : Inv Y pins σ H s) (h : s'.heap = s.heap) (o : s'.os = s.os) (b : AllBare s'.gens) : Inv Y pins σ H s' :=
  I.call' (ch := []) o (by rw [h]; exact Un.refl) (by rw [h]; exact I.hok) b fun b z => by simp at z
theorem Inv.kepts {Y : Cx} {pins : List (Addr × Obj)} {σ : L2.St} {H : Hp} {s s' : Shared} (I : Inv Y pins σ H s) (k : ∀ b o, s.heap.get? b = some o → s'.heap.get? b = some o) (o : s'.os = s.os) (b : AllBare s'.gens) : Inv Y pins σ H s' :=
  I.call' (ch := []) o (Un.kept k) (I.hok.kept k) b fun b z => by simp at z
theorem seg_gx {Y : Cx} {A : Around} {n : Nat} {elt tg iter : Expr} {scope : Scope} {pos : Pos} {it : Addr} {fp : List Addr} {tn : Nat → Heap → Prop} {J : It} {gr : TG} {te : TE} {Q : VK} {W : Nat → Nat → Hp → Prop}
    (hA : A.deeper Y.env = Y.A) (hex : Y.ex = fp) (hc : Y.calm = true) (hN : Y.N.length = n) (hpn : ∀ p ∈ Y.pn, p.1 ∉ fp) (hxe : Y.xe = fun _ _ => False) (hco : Y.env.scope.isCoroutine = false) (T : Turn Y.prog Y.w Y.K tg J fp it tn) (pg : PG Y tg gr) (pe : PE Y elt te) (turn : GTurn n J gr te Q W) :
    ∀ (N m i : Nat) (H : Hp) (s₀ s : Shared), m < N → W i m H → Inv Y [] (nones n) H s → tn i s.heap → (∀ b ∈ fp, H b = none) →
      Seg (model Y.prog Y.w) A (gxR Y n Q) (gxY Y n Q) N s₀ (.compLoop (.GeneratorExp elt [⟨tg, iter, [], 0⟩] scope pos) 0 (.ref it) .none Y.env) ((model Y.prog Y.w).den (.compLoop (.GeneratorExp elt [⟨tg, iter, [], 0⟩] scope pos) 0 (.ref it) .none Y.env)) [] s := by
  have hov : A.over (.compLoop (.GeneratorExp elt [⟨tg, iter, [], 0⟩] scope pos) 0 (.ref it) .none Y.env) [] = Y.A := by
    rw [← hA]
    rfl
  intro N
  induction N with
  | zero => intro m i H s₀ s h; omega
  | succ N ih =>
    intro m i H s₀ s hm w I st nf
    have fk : ∀ {σ' : L2.St} {H' : Hp} {s' : Shared}, Inv Y [] σ' H' s' → (∀ b ∈ fp, H' b = none) → ∀ b ∈ fp, FpOk Y [] H' b := fun {σ' H' s'} I' hn b hb => by
      have he := I'.ok.exf b (by rw [hex]; exact hb)
      exact ⟨hn b hb, he.1, I'.ok.exfs b (by rw [hex]; exact hb), .inl (by rw [hex]; exact hb), he.2, fun p hp z => by
        rw [List.append_nil] at hp
        exact hpn p hp (z ▸ hb)⟩
    show Seg _ A _ _ _ s₀ _ ((compTurn (.GeneratorExp elt [⟨tg, iter, [], 0⟩] scope pos) 0 (.ref it) .none Y.env).onRaise (leaving Y.env)) [] s
    rw [compTurn_gen, Sem.onRaise_eq_wrap]
    refine seg_bind_wrap (wpAny_standAt ?_)
    refine seg_bind_wrap ?_
    rw [hov]
    rcases turn i m H w with ⟨stop, qq⟩ | ⟨go, Nx, hNx, step⟩
    · refine thnF (T.done Y rfl rfl rfl hc i [] s _ H (fun _ _ => False) I (fk I nf) st stop) fun r s6 ⟨hr, I6⟩ => ?_
      subst hr
      exact seg_end (.ok .next) (.inl ⟨.inr rfl, H, I6, qq⟩)
    · refine thnF (T.item Y rfl rfl rfl hc i [] s _ H (fun _ _ => False) I (fk I nf) st go) fun r s6 ⟨u, hr, h6⟩ => ?_
      subst hr
      refine seg_bind_wrap ?_
      rw [hov]
      refine thnF h6 fun _ s7 ⟨x, H7, I7, r7, y7, st7, n7⟩ => ?_
      have I7' := I7.pinned (fk I7 n7) (T.obj _ _ st7)
      refine seg_bind_wrap ?_
      rw [hov]
      refine wpAny_mono (pg.run _ s7 _ H7 x u _ I7' r7 (step x H7 y7)) (fun _ s8 ⟨σ8, H8, I8, q8⟩ => ?_) fun _ _ e => ?_
      · refine seg_bind_wrap ?_
        rw [hov]
        refine wpAny_tests_nil ?_
        simp only [if_true]
        have hy : ∀ v, yieldOut Y.env v = yieldValue v := fun v => by simp only [yieldOut, hco, Bool.false_eq_true, if_false]
        simp only [hy]
        rw [Sem.bind_eq_wrap', Sem.bind_eq_wrap', Sem.wrap_wrap, Sem.wrap_wrap]
        refine seg_wrap ?_
        rw [hov]
        refine wpAny_mono (pe.run _ s8 σ8 H8 _ I8 q8) (fun z s10 ⟨yv, H10, I10, r10, b, eb, qt, qf⟩ => ?_) fun _ _ e => ?_
        · subst eb
          have ez : z = .bool b := r10
          subst ez
          have l10 := I10.len
          have pin' : ∀ b ∈ fp, ∀ o, s7.heap.get? b = some o → s10.heap.get? b = some o ∧ H10 b = none := fun b hb o e =>
            let z := I10.pin (b, o) (List.mem_append_right _ (List.mem_append_right _ (mem_pinsAt hb e)))
            ⟨z.1, z.2.1⟩
          have I11 : Inv Y [] (nones n) H10 s10 := (I10.unpinned (pins := [])).weak (by rw [l10, hN]; simp) fun i v e => (nones_get e).elim
          refine seg_at (seg_yield rfl rfl rfl ⟨b, H10, rfl, I11, qf, fun hb s' e1 e2 e3 => ?_⟩)
          obtain ⟨m', hm', w'⟩ := hNx _ (qt hb)
          refine seg_again rfl (ih m' (i + 1) H10 s' s' (by omega) w' (Inv.same I11 e1 e2 e3) (T.keep _ _ _ st7 fun b hb o e => by rw [e1]; exact (pin' b hb o e).1) fun b hb => ?_)
          obtain ⟨o, e, _⟩ := T.obj _ _ st7 b hb
          exact (pin' b hb o e).2
        · rw [hxe] at e
          exact e.elim
      · rw [hxe] at e
        exact e.elim
/-- the consumer's loop -/
theorem all_loopG {Y : Cx} {A : Around} {n a g : Nat} {Q : VK} {R : Result → Shared → Prop} {go : Obj} (hh : A.handled = none) (hd : A.depth < recursionLimit) (hpn : Y.pn = [(a, go)]) (hgn : ∀ h : Heap, h.get? a = some go → h.IsGen a g)
    (hQ : ∀ b s', GFin Y n Q b s' → R (.ok (.ret (.bool b))) s') : ∀ (N : Nat) (s : Shared), s.heap.IsGen a g → s.heap.NoLimit →
      (∃ gs, s.gens[g]? = some gs ∧ gs.Goes (model Y.prog Y.w) A.in1.in1 (gxR Y n Q) (gxY Y n Q) N (.send .none) (s.setGen g .running)) →
      codeAny (model Y.prog Y.w) A (.builtin "all.loop" ⟨[.ref a], []⟩) R s := by
  have gen : ∀ {pins : List (Addr × Obj)} {σ : L2.St} {H : Hp} {s : Shared}, Inv Y pins σ H s → s.heap.IsGen a g := fun {pins σ H s} I => hgn _ (I.pin (a, go) (List.mem_append_left _ (by rw [hpn]; exact List.mem_singleton.mpr rfl))).1
  have goes : ∀ {gs : GenState} {B : Around} {N : Nat} {r : Resume} {s : Shared}, gs.Goes (model Y.prog Y.w) B (gxR Y n Q) (gxY Y n Q) N r s →
      gs.Goes (model Y.prog Y.w) B (fun _ _ r s1 => ((r = .ok (.ret .none) ∨ r = .ok .next) ∧ GFin Y n Q true s1) ∨ ∃ e, r = .error e ∧ False) (gxY Y n Q) N r s := fun h => h
  have fin : ∀ {s₁ : Shared} {h' : Heap}, GFin Y n Q true s₁ → (∀ b o, s₁.heap.get? b = some o → h'.get? b = some o) → GFin Y n Q true { s₁.setGen g .finished with heap := h' } := fun {s₁ h'} ⟨H', I, q⟩ k => ⟨H', Inv.kepts I k rfl (allBare_setGen I.bare rfl), q⟩
  intro N
  induction N with
  | zero =>
    intro s hg hl ⟨gs, hgs, hgo⟩
    refine codeAny_builtin F.entry_all_loop ?_
    rw [Around.under_plainId F.plain_all_loop _]
    show wpAny _ A.in1 (pyNext (.ref a) >>= _) _ _ s
    refine wpAny_bind (next_genG (A := A.in1) (Er := fun _ _ => False) hh hl hd hg hgs (goes hgo) (fun v s₁ gs' hbare hv => ?_) (fun s₁ hp h' hk => ?_) fun e s₁ he => he.elim)
    · obtain ⟨b, H', rfl, I, qf, k⟩ := hv
      cases b with
      | true => exact (k rfl s₁ rfl rfl I.bare).elim
      | false =>
        refine wpAny_bind (wpAny_holding (wpAny_truthy_bool ?_))
        refine wpAny_bind (wpAny_letGo ?_)
        simp only [Bool.false_eq_true, if_false]
        refine wpAny_bind (wpAny_rule (wpAny_pure ?_))
        exact hQ false _ ⟨H', Inv.same I rfl rfl (allBare_setGen I.bare hbare), qf rfl⟩
    · refine wpAny_bind (wpAny_rule (wpAny_pure ?_))
      exact hQ true _ (fin hp hk)
  | succ N ih =>
    intro s hg hl ⟨gs, hgs, hgo⟩
    have hgl : g < s.gens.size := (Array.getElem?_eq_some_iff.mp hgs).1
    refine codeAny_builtin F.entry_all_loop ?_
    rw [Around.under_plainId F.plain_all_loop _]
    show wpAny _ A.in1 (pyNext (.ref a) >>= _) _ _ s
    refine wpAny_bind (wpAny_gsz (n := g + 1) hgl (next_genG (A := A.in1) (Er := fun _ _ => False) hh hl hd hg hgs (goes hgo) (fun v s₁ gs' hbare hv => ?_) (fun s₁ hp h' hk => ?_) fun e s₁ he => he.elim))
    · intro hsz
      have hsz1 : g < s₁.gens.size := by
        have q : (s₁.setGen g gs').gens.size = s₁.gens.size := setGen_size _ _ _
        have hsz' : g + 1 ≤ (s₁.setGen g gs').gens.size := hsz
        omega
      obtain ⟨b, H', rfl, I, qf, k⟩ := hv
      refine wpAny_bind (wpAny_holding (wpAny_truthy_bool ?_))
      refine wpAny_bind (wpAny_letGo ?_)
      cases b with
      | true =>
        simp only [if_true]
        refine wpAny_pure ⟨plainId_quiet F.plain_all_loop _, ih _ (show s₁.heap.IsGen a g from gen I) (show s₁.heap.NoLimit from I.nolimit) ⟨gs', setGen_at hsz1, ?_⟩⟩
        exact k rfl _ rfl rfl (allBare_setGen (s := s₁.setGen g gs') (allBare_setGen I.bare hbare) rfl)
      | false =>
        simp only [Bool.false_eq_true, if_false]
        refine wpAny_bind (wpAny_rule (wpAny_pure ?_))
        exact hQ false _ ⟨H', Inv.same I rfl rfl (allBare_setGen I.bare hbare), qf rfl⟩
    · intro hsz
      refine wpAny_bind (wpAny_rule (wpAny_pure ?_))
      exact hQ true _ (fin hp hk)
section
variable {X : Cx}
theorem clo_nil {cells : List (Str × Addr)} {scope : Scope} (S : GScp scope) : cloFrom cells scope.names [] = [] := by
  have key : ∀ (l : List (Str × NameKind)) (acc : List (Str × Addr)), (∀ y ∈ l, y.2 ≠ .free) → cloFrom cells l acc = acc := by
    intro l
    induction l with
    | nil => intro acc _; rfl
    | cons y r ih =>
      intro acc hy
      obtain ⟨x, kd⟩ := y
      unfold cloFrom
      have h1 : kd ≠ .free := hy (x, kd) List.mem_cons_self
      have h2 : (kd == NameKind.free) = false := by cases kd <;> first | rfl | exact absurd rfl h1
      simp only [h2]
      exact ih acc fun y hy' => hy y (List.mem_cons_of_mem _ hy')
  exact key _ _ S.free
/-- the generator is made -/
theorem gx_make {c P : Addr} {elt iter tg : Expr} {gpos : Pos} {scope : Scope} {N : List Str} {k : Nat} {wi : TI} {pins : List (Addr × Obj)} {σ : L2.St} {H : Hp} {s : Shared} {Q' : Value → Shared → Prop} {R : It → Hp → Prop} (hr : Room (k + 1) X.A) (hcl : X.calm = true) (TB : GxR.TabB X.base X.mg c P) (hcode : X.env.code = .ref c) (S : GScp scope)
    (hi : PI X tg iter wi) (hs : ∀ v, genFold iter X.env v = pure v) (I : Inv X pins σ H s) (h : wi σ H fun J H1 => GxR.TabG H1 P ∧ R J H1)
    (hQ : ∀ (it : Addr) (fp : List Addr) (tn : Nat → Heap → Prop) (J : It) (H1 H2 : Hp) (s4 : Shared) (code : Value) (h5 : Heap) (tk g : Nat) (go : Obj) (cenv : Env), R J H1 → GxR.Tabbed P H1 H2 → Inv X pins σ H2 s4 → Turn X.prog X.w X.K tg J fp it tn → tn 0 h5 → (∀ b ∈ fp, FpOk X pins H2 b ∧ b < s4.heap.objs.size) → cenv = genEnv scope [] s4.heap.objs.size code builtinsNs X.env →
      g = s4.gens.size → (∀ h : Heap, h.get? (s4.heap.objs.size + 1) = some go → h.IsGen (s4.heap.objs.size + 1) g) → h5.get? (s4.heap.objs.size + 1) = some go →
      Inv (gxc X s4 H2 N cenv fp [(s4.heap.objs.size + 1, go)]) [] (nones N.length) H2 { s4 with gens := s4.gens.push (.fresh (.compStart (.GeneratorExp elt [⟨tg, iter, [], 0⟩] scope gpos) 0 (.ref it) .none cenv)), toks := tk, heap := h5 } →
      Q' (.ref (s4.heap.objs.size + 1)) { s4 with gens := s4.gens.push (.fresh (.compStart (.GeneratorExp elt [⟨tg, iter, [], 0⟩] scope gpos) 0 (.ref it) .none cenv)), toks := tk, heap := h5 }) :
    wpAny (model X.prog X.w) X.A (eval (.GeneratorExp elt [⟨tg, iter, [], 0⟩] scope gpos) X.env) Q' X.xe s := by
  have hclo : closureFor scope X.env = pure [] := by
    rw [← clo_nil (cells := X.env.cells) S]
    exact closure_ok fun y hy e => absurd e (S.free y hy)
  refine wpAny_GeneratorExp_make S.co hclo S.cell S.dot S.kind (by have := hr.dp; omega) ?_ hs
  refine thn (hi.run pins s σ H _ I h) fun xv s1 hx => thn hx fun itv s2 h2 => ?_
  obtain ⟨it, fp, tn, J, H2, e, I2, T, st2, f2, ⟨ps, hP, ht⟩, q⟩ := h2
  subst e
  refine ⟨I2.nolimit, ?_⟩
  have hPs : s2.heap.get? P = some { cls := .none, data := .fields ps } := I2.hok P _ hP
  have cd : PySem.W.CodeHd s2.heap c P := TB.code.keeps I2.bk
  have cont : ∀ (code : Value) (h3 : Heap) (tk : Nat) (ps' : Array Value), Heap.ExtBut P s2.heap h3 → s2.heap.objs.size ≤ h3.objs.size → h3.get? P = some { cls := .none, data := .fields ps' } → (∃ more, ps' = ps ++ more) → TriplesOk ps'.toList →
      wpAny (model X.prog X.w) X.A (builtinsFor X.env.globals X.env.builtins) (fun bi s₄ =>
        ∀ h', h'.Ns s₄.heap.objs.size (fun y => if y = ".0" then some (.ref it) else none) → Heap.SameBut s₄.heap.objs.size (s₄.heap.push { cls := .type "frame", data := .dict #[] }) h' →
          Q' (.ref h'.objs.size) { s₄ with
            gens := s₄.gens.push (.fresh (.compStart (.GeneratorExp elt [⟨tg, iter, [], 0⟩] scope gpos) 0 (.ref it) .none (genEnv scope [] s₄.heap.objs.size code bi X.env))),
            toks := s₄.toks + 1 + 1 + 1,
            heap := h'.push { cls := .type "generator", data := .fields #[.int s₄.gens.size 0, .str "<genexpr>" (s₄.toks + 1), .str (X.env.qual ++ "<genexpr>") (s₄.toks + 1 + 1)] } }) X.xe { s2 with heap := h3, toks := tk } := by
    intro code h3 tk ps' hx hsz hP3 hmore ht3
    obtain ⟨bm, ob, e1, e2, e3, e4, e5, e6, e7, e8⟩ := TB.bm
    have keep3 : ∀ b u, b ≠ P → s2.heap.get? b = some u → h3.get? b = some u := fun b u hb e => hx b u hb e
    refine wpAny_builtinsFor (m := X.mg) (by rw [I2.ok.glob]; exact (I2.mod.glob.keeps I2.bk).extBut hx TB.gP) e1 e2 (keep3 _ _ e4 (I2.bk _ _ e5)) e6 e7 e8 ?_
    obtain ⟨more, rfl⟩ := hmore
    have J4 := GxR.inv_tab (h' := h3) (g' := s2.gens) (d' := s2.drawn) (t' := tk) I2 hP (fun b o hb e => keep3 b o hb e) hP3 I2.bare
    have sz : ∀ b ∈ fp, b < s2.heap.objs.size := fun b hb => by
      obtain ⟨o, e, _⟩ := T.obj _ _ st2 b hb
      exact Heap.lt_size e
    have nP : ∀ b ∈ fp, b ≠ P := fun b hb z => by
      have := (f2 b hb).1
      rw [z, hP] at this
      cases this
    intro h' hn' hs'
    have hsz' : h'.objs.size = h3.objs.size + 1 := by rw [hs'.1, Heap.size_push]
    have keep' : ∀ b o, h3.get? b = some o → h'.get? b = some o := fun b o e => hs'.extBut b o (Nat.ne_of_lt (Heap.lt_size e)) (Heap.get?_push_of_some _ e)
    have kg : ∀ (go : Obj) b o, h3.get? b = some o → (h'.push go).get? b = some o := fun go b o e => Heap.get?_push_of_some _ (keep' b o e)
    have hgo : ∀ go : Obj, go.isFreed = false → (h'.push go).get? (h3.objs.size + 1) = some go := fun go hz => by
      have := Heap.get?_push_size h' (o := go) hz
      rw [hsz'] at this
      exact this
    rw [hsz']
    have f4 : ∀ b ∈ fp, FpOk X pins (upd H2 P (.tbl (ps ++ more))) b ∧ b < h3.objs.size := fun b hb =>
      ⟨⟨by rw [upd_ne (nP b hb)]; exact (f2 b hb).1, (f2 b hb).2⟩, Nat.lt_of_lt_of_le (sz b hb) hsz⟩
    refine hQ it fp tn J H2 (upd H2 P (.tbl (ps ++ more))) { s2 with heap := h3, toks := tk } code _ _ s2.gens.size { cls := .type "generator", data := .fields #[.int s2.gens.size 0, .str "<genexpr>" (tk + 1), .str (X.env.qual ++ "<genexpr>") (tk + 1 + 1)] } _ q ⟨⟨ps ++ more, upd_same, ht3⟩, fun b hb => upd_ne hb⟩ J4 T
      (T.keep _ _ _ st2 fun b hb o e => kg _ b o (keep3 b o (nP b hb) e)) f4 rfl rfl (fun h e => ⟨_, _, _, e, rfl, rfl, rfl⟩) (hgo _ rfl) ?_
    exact gx_start J4 hcl S f4 (hn'.push _) (kg _) rfl (hgo _ rfl) (fun v z => by cases z) rfl
  cases hf : codeAmong gpos ps.toList with
  | none =>
    refine wpAny_genexprCodeX hcode (cd.code hPs ht) (cd.tab hPs) hf fun c' h' tk hx hge hlt hco' _ htab' _ => ?_
    obtain ⟨o1, vs, f1, tf, fl, tg, inF, tx, tt, op, _, _, _, _, _, _, _, _, _, htr, _⟩ := hco'
    exact cont _ h' tk _ hx (Nat.le_trans hge (Nat.le_of_lt hlt)) htab'.2 ⟨_, rfl⟩ htr
  | some cv =>
    refine wpAny_genexprCode_hit hcode (cd.code hPs ht) hf ?_
    exact cont cv s2.heap s2.toks ps (Heap.ExtBut.refl _ _) (Nat.le_refl _) hPs ⟨#[], by simp⟩ ht
theorem pe_allG {c P : Addr} {elt iter tg : Expr} {p pos gpos : Pos} {scope : Scope} {N : List Str} {n k : Nat} {wi : TI} {gr : TG} {te : TE} (hr : Room (k + 1) X.A) (hcl : X.calm = true) (hm : X.mg "all" = none) (TB : GxR.TabB X.base X.mg c P) (hcode : X.env.code = .ref c) (S : GScp scope) (hN : N.length = n)
    (hi : PI X tg iter wi)
    (hgr : ∀ (s : Shared) (H : Hp) (C : Addr) (code : Value) (fp : List Addr) (pn : List (Addr × Obj)), PG (gxc X s H N (genEnv scope [] C code builtinsNs X.env) fp pn) tg gr)
    (he : ∀ (s : Shared) (H : Hp) (C : Addr) (code : Value) (fp : List Addr) (pn : List (Addr × Obj)), PE (gxc X s H N (genEnv scope [] C code builtinsNs X.env) fp pn) elt te)
    (hg : Gl X "all" := by rfl) (hs : ∀ v, genFold iter X.env v = pure v := by intro _; rfl)
    (hst : starEach [.GeneratorExp elt [⟨tg, iter, [], 0⟩] scope gpos] X.env = (false, eval (.GeneratorExp elt [⟨tg, iter, [], 0⟩] scope gpos) X.env) :: starEach [] X.env := by rfl) :
    PE X (.Call (.Name "all" p) [.GeneratorExp elt [⟨tg, iter, [], 0⟩] scope gpos] [] pos) (tAllG P n wi gr te) := by
  refine ⟨fun pins s σ H Q I h => ?_⟩
  refine wpAny_Call_Name_kw (ld_blt I hg hm (by rfl) ?_)
  refine PyProof.Rows.callWith_builtin1 ?_ hst (by rfl)
  rw [hst]
  show wpAny _ _ (spliced ((false, eval (.GeneratorExp elt [⟨tg, iter, [], 0⟩] scope gpos) X.env) :: backTo pos (starEach [] X.env))) _ _ s
  refine Calls.spliced_cons (gx_make (N := N) hr hcl TB hcode S hi hs I h fun it fp tn J H1 H2 s4 code h5 tk g go cenv q htab I4 T st f4 ecv eg hgen hgo I5 => ?_)
  refine Calls.spliced_nil ?_
  obtain ⟨W, ⟨m, w⟩, turn⟩ := q H2 htab
  subst hN
  have Iall := I5
  generalize hY : gxc X s4 H2 N cenv fp [(s4.heap.objs.size + 1, go)] = Y at I5
  generalize hs5 : ({ s4 with gens := s4.gens.push (.fresh (.compStart (.GeneratorExp elt [⟨tg, iter, [], 0⟩] scope gpos) 0 (.ref it) .none cenv)), toks := tk, heap := h5 } : Shared) = s5 at I5 ⊢
  have hpn : Y.pn = [(s4.heap.objs.size + 1, go)] := by rw [← hY]; rfl
  have hg5 : s5.heap.IsGen (s4.heap.objs.size + 1) g := by rw [← hs5]; exact hgen _ hgo
  refine call_function_tree F.kind_all F.plain_all F.entry_all (F.args_all1 _) ?_
  unfold Builtin.«all»
  refine wpAny_bind (m := oneArg "all" _) (wpAny_pure ?_)
  refine wpAny_bind (wpAny_pyIter_gen hg5 ?_)
  refine wpAny_pure ⟨plainId_quiet F.plain_all_loop _, ?_⟩
  have hgs : s5.gens[g]? = some (.fresh (.compStart (.GeneratorExp elt [⟨tg, iter, [], 0⟩] scope gpos) 0 (.ref it) .none cenv)) := by
    rw [← hs5, eg]
    exact Array.getElem?_push_size ..
  have hdep : X.A.depth < recursionLimit := by have := hr.dp; omega
  have hp : model X.prog X.w = model Y.prog Y.w := by rw [← hY]; rfl
  rw [hp]
  refine all_loopG (A := X.A) (Y := Y) (n := N.length) (Q := Q) (go := go) hr.hd hdep hpn (fun h e => hgen h e) (fun b s' hf => ?_) (m + 1) s5 hg5 I5.nolimit ⟨_, hgs, rfl, ?_⟩
  · subst hY
    obtain ⟨H', I6, qq⟩ := hf
    have ex4 : ∀ b ∈ fp, (b ∈ X.ex ∨ X.s_0.heap.objs.size ≤ b) ∧ b ≠ X.env.locals ∧ (∀ x c, X.env.cells.lookup x = some c → c ≠ b) ∧ ∀ p ∈ X.pn ++ pins, p.1 ≠ b := fun b hb => ⟨(f4 b hb).1.2.2.2.1, (f4 b hb).1.2.1, (f4 b hb).1.2.2.2.2.1, (f4 b hb).1.2.2.2.2.2⟩
    have I7 : Inv X pins σ H' s' := I4.call' (ch := fp) I6.os I6.base I6.hok I6.bare ex4
    exact ⟨.bl b, H', I7, rfl, qq⟩
  · have I6 : Inv Y [] (nones N.length) H2 (s5.setGen g .running) := Inv.same I5 rfl rfl (allBare_setGen I5.bare rfl)
    have st6 : tn 0 (s5.setGen g .running).heap := by
      show tn 0 s5.heap
      rw [← hs5]; exact st
    have ecve : Y.env = cenv := by rw [← hY]; rfl
    have nf : ∀ b ∈ fp, H2 b = none := fun b hb => (f4 b hb).1.1
    have loop : Seg (model Y.prog Y.w) X.A.in1.in1 (gxR Y N.length Q) (gxY Y N.length Q) (m + 1) (s5.setGen g .running) (.compLoop (.GeneratorExp elt [⟨tg, iter, [], 0⟩] scope gpos) 0 (.ref it) .none Y.env) ((model Y.prog Y.w).den (.compLoop (.GeneratorExp elt [⟨tg, iter, [], 0⟩] scope gpos) 0 (.ref it) .none Y.env)) [] (s5.setGen g .running) := by
      refine seg_gx (A := X.A.in1.in1) (fp := fp) (tn := tn) (J := J) (gr := gr) (te := te) (W := W) ?_ ?_ ?_ ?_ ?_ ?_ ?_ ?_ ?_ ?_ turn (m + 1) m 0 H2 _ _ (Nat.lt_succ_self _) w I6 st6 nf
      · subst hY; rfl
      · subst hY; rfl
      · subst hY; rfl
      · subst hY; rfl
      · intro p hp hb
        rw [hpn] at hp
        rw [List.mem_singleton.mp hp] at hb
        have := (f4 _ hb).2
        have h9 : s4.heap.objs.size + 1 < s4.heap.objs.size := this
        omega
      · subst hY; rfl
      · subst hY; subst ecv; exact S.co
      · subst hY; exact T
      · subst hY; subst ecv; exact hgr _ _ _ _ _ _
      · subst hY; subst ecv; exact he _ _ _ _ _ _
    have st0 : ∀ (A : Around) (s : Shared) (Q : Value → Shared → Prop) (E : Value → Shared → Prop), s.heap = s5.heap → Q (.ref it) s → wpAny (model Y.prog Y.w) A (pyIter (.ref it)) Q E s := fun A s Q E hs hq => by
      rw [← hp]
      refine T.self A 0 s Q E ?_ hq
      rw [hs, ← hs5]; exact st
    rw [ecve] at loop
    show Seg _ X.A.in1.in1 _ _ _ _ _ ((compStart (.GeneratorExp elt [⟨tg, iter, [], 0⟩] scope gpos) 0 (.ref it) .none cenv).onRaise (leaving cenv)) [] _
    unfold compStart
    rw [Sem.onRaise_eq_wrap]
    show Seg _ X.A.in1.in1 _ _ _ _ _ ((ask >>= _).wrap _ _ _ _) [] _
    refine seg_bind_wrap (wpAny_askSetting ?_)
    split
    · exact seg_again rfl loop
    · refine seg_bind_wrap (wpAny_rule (seg_bind_wrap (wpAny_standAt (seg_bind_wrap (st0 _ _ _ _ rfl (seg_again rfl loop))))))
end
end DL
set_option Elab.async false
set_option linter.all false
set_option maxRecDepth 100000
set_option autoImplicit false
/-! DL7: what is walked, as lists of data; for, comprehensions, all over them. -/
namespace DL
open PySem PySem.Spec PyProof.Rows L2
section
variable {g : Gb} {W : WX} {Z : Zn} {S S' H H' : Hp} {τ τ' : List V} {θ θ' : List O} {σ : Sg} {ρ : En} {Q Q' : VK} {m ma mb mc : E} {o oi : O} {v : V} {i : Nat}
/-! a shared dict is locked for good -/
theorem St.lock {a : Addr} {kvs : List (Key × V)} {od : Obj} (st : St g Z S H τ θ σ ρ) (hs : S a = some (.dK kvs)) : ∃ S', Ex S S' ∧ St g Z S' (upd H a (.frz od (.dK kvs))) τ θ σ ρ ∧ S' a = some (.frz od (.dK kvs)) := by
  obtain ⟨A, α, h⟩ := st
  have ha : H a = some (.dK kvs) := h.bs.sub _ _ hs
  have ex : Ex S (upd S a (.frz od (.dK kvs))) := fun b u q => by
    by_cases z : b = a
    · subst z; rw [hs] at q; cases q; exact .inr ⟨kvs, od, rfl, upd_same⟩
    · exact .inl (by rw [upd_ne z]; exact q)
  have na : ∀ b, (b ∈ A ∨ ∃ i, b ∈ α i) → b ≠ a := fun b m z => by
    have := (h.own b m).1
    rw [z, hs] at this; cases this
  have kp : ∀ b, (b ∈ A ∨ ∃ i, b ∈ α i) → upd H a (.frz od (.dK kvs)) b = H b := fun b m => upd_ne (na b m)
  refine ⟨_, ex, ⟨A, α, ⟨fun b u q => ?_, h.bs.mono.trans ex, fun b h1 h2 => ?_, fun b u h1 h2 h3 => ?_, fun b u h1 => ?_, fun p m => ?_, fun p m => ?_⟩, RelOs.mono ex θ τ A (fun b m => kp b (.inl m)) h.tmp, h.len,
    fun i o hi => let ⟨v, q, r⟩ := h.slot i o hi; ⟨v, q, RelO.mono ex o v (α i) (fun b m => kp b (.inr ⟨i, m⟩)) r⟩, h.ndA, h.nd, h.dis, h.disA, fun b m => ?_, h.pin⟩, upd_same⟩
  · by_cases z : b = a
    · subst z; rw [upd_same] at q ⊢; exact q
    · rw [upd_ne z] at q ⊢; exact h.bs.sub b u q
  · by_cases z : b = a
    · exact h.bs.new b (by rw [z, hs]; simp) h2
    · rw [upd_ne z] at h1; exact h.bs.new b h1 h2
  · by_cases z : b = a
    · subst z
      rcases h.bs.frm b u h1 h2 h3 with q | ⟨_, _, _, _, q⟩
      · rw [ha] at q; cases q
        refine .inr ⟨fun z0 => ?_, kvs, od, rfl, upd_same⟩
        rcases h.bs.new b (by rw [hs]; simp) z0 with z3 | z3
        · rw [h1] at z3; cases z3
        · exact h2 z3
      · rw [ha] at q; cases q
    · rw [upd_ne z]; exact h.bs.frm b u h1 h2 h3
  · by_cases z : b = a
    · subst z; exact ⟨_, upd_same⟩
    · rw [upd_ne z]; exact h.bs.dom b u h1
  · obtain ⟨ps, e, t⟩ := (h.bs.tbl p m).ex ex
    exact ⟨ps, by rw [upd_ne fun z => by rw [z, ha] at e; cases e]; exact e, t⟩
  · rw [upd_ne fun z => by have := h.bs.tbS p m; rw [z, hs] at this; cases this]; exact h.bs.tbS p m
  · obtain ⟨q1, ⟨u, q2⟩, q3⟩ := h.own b m
    exact ⟨by rw [upd_ne (na b m)]; exact q1, ⟨u, by rw [kp b m]; exact q2⟩, q3⟩
def tLkA (td : TE) : TE := fun σ H Q => td σ H fun x H1 => ∃ d kvs, x = .ref d ∧ ((∃ o, H1 d = some (.frz o (.dK kvs)) ∧ Q x H1) ∨ (H1 d = some (.dK kvs) ∧ ∀ o, Q x (upd H1 d (.frz o (.dK kvs)))))
theorem pe_lkA {X : Cx} {e : Expr} {td : TE} (h : PE X e td) : PE X e (tLkA td) := by
  refine ⟨fun pins s σ H Q I hw => ?_⟩
  refine thn (h.run pins s σ H _ I hw) fun u s1 ⟨x, H1, I1, rx, d, kvs, ex, q⟩ => ?_
  rcases q with ⟨o, h1, q⟩ | ⟨h1, q⟩
  · exact ⟨x, H1, I1, rx, q⟩
  · obtain ⟨od, I2⟩ := I1.lock h1 trivial
    exact ⟨x, _, I2, rx, q od⟩
/-! ### what is walked -/
def PostI (g : Gb) (W : WX) (Z : Zn) (S : Hp) (τ : List V) (θ : List O) (σ : Sg) (r : R) (items : D → Option (List D)) (R : It → Hp → Prop) : Prop := match r with
  | .ok o ρ => match items o.d.view with
    | some ds => ∀ J S' H', Ex S S' → St g Z S' H' τ θ σ ρ → WkS g J S' ds → R J H'
    | none => False
  | .exc x ρ => ∀ d S' H', Ex S S' → St g Z S' H' τ θ σ ρ → ExnAt g S' H' x d → W (.ref (g.cn x.c)) d σ H'
  | .stuck => False
structure IterS (g : Gb) (W : WX) (m : E) (items : D → Option (List D)) (wi : TI) : Prop where
  run : ∀ (Z : Zn) (S H : Hp) (τ : List V) (θ : List O) (σ : Sg) (ρ : En) (R : It → Hp → Prop), St g Z S H τ θ σ ρ → PostI g W Z S τ θ σ (m ρ) items R → wi σ H R
theorem le_at {o0 : O} {ρ0 : En} (st : St g Z S H τ θ σ ρ) (h : m ρ = .ok o0 ρ0) (hk : ∀ v S1 H1, Ex S S1 → St g Z S1 H1 τ θ σ ρ0 → Rep g S1 o0.d v → Q' v H1) : LE g W m σ H Q' := by
  refine ⟨Z, S, τ, θ, ρ, st, ?_⟩
  rw [h]
  intro v S1 H1 e1 st1
  obtain ⟨S2, e2, st2, r⟩ := St.pop st1
  exact hk v S2 H1 (e1.trans e2) st2 r
theorem le_exc {x : Exn} {ρ0 : En} (st : St g Z S H τ θ σ ρ) (h : m ρ = .exc x ρ0) (post : ∀ d S' H', Ex S S' → St g Z S' H' τ θ σ ρ0 → ExnAt g S' H' x d → W (.ref (g.cn x.c)) d σ H') : LE g W m σ H Q' := by
  refine ⟨Z, S, τ, θ, ρ, st, ?_⟩
  rw [h]
  exact post
/-- .. that is a dict, locked from here on -/
theorem le_lock {o0 : O} {ρ0 : En} {kds : List (Key × D)} (st : St g Z S H τ θ σ ρ) (h : m ρ = .ok o0 ρ0) (hv : o0.d.view = .dct kds)
    (hk : ∀ a od kvs S1 H1, Ex S S1 → St g Z S1 H1 τ θ σ ρ0 → S1 a = some (.frz od (.dK kvs)) → RepK g S1 kds kvs → Q' (.ref a) H1) : tLkA (LE g W m) σ H Q' := by
  refine le_at st h fun v S1 H1 e1 st1 r => ?_
  have r := r.view
  rw [hv] at r
  obtain ⟨a, kvs, rfl, ha, rk⟩ := r
  refine ⟨a, kvs, rfl, ?_⟩
  rcases ha with ha | ⟨od, ha⟩
  · refine .inr ⟨st1.sub _ _ ha, fun od => ?_⟩
    obtain ⟨S2, e2, st2, h2⟩ := st1.lock (od := od) ha
    exact hk a od kvs S2 _ (e1.trans e2) st2 h2 (RepK.mono e2 _ _ rk)
  · exact .inl ⟨od, st1.sub _ _ ha, hk a od kvs S1 H1 e1 st1 ha rk⟩
def keyDD : Key → D
  | .inl i => .int i
  | .inr x => .str x
theorem rep_key {k : Key} : Rep g S (keyDD k) (kV k) := by
  cases k <;> rfl
theorem RepK.get : ∀ {kds : List (Key × D)} {kvs : List (Key × V)} {i : Nat} {p : Key × D}, RepK g S kds kvs → kds[i]? = some p → ∃ v, kvs[i]? = some (p.1, v) ∧ Rep g S p.2 v
  | [], _, i, p, _, h => by simp at h
  | (k, d) :: kds, _, 0, p, ⟨v, r, e, a, b⟩, h => by
    simp at h
    subst h e
    exact ⟨v, rfl, a⟩
  | (k, d) :: kds, _, i + 1, p, ⟨v, r, e, a, b⟩, h => by
    subst e
    obtain ⟨v', h1, h2⟩ := RepK.get (i := i) b (by simpa using h)
    exact ⟨v', by simpa using h1, h2⟩
theorem wk_keys {a : Addr} {od : Obj} {kds : List (Key × D)} {kvs : List (Key × V)} {S1 : Hp} (h : S1 a = some (.frz od (.dK kvs))) (r : RepK g S1 kds kvs) : WkS g (Itk a od kvs) S1 (kds.map fun p => keyDD p.1) where
  go := fun i d S H e1 e2 hi => by
    have q : H a = some (.frz od (.dK kvs)) := e2 _ _ (e1.at h)
    rw [List.getElem?_map] at hi
    cases h1 : kds[i]? with
    | none => rw [h1] at hi; cases hi
    | some p =>
      rw [h1] at hi; cases hi
      obtain ⟨v, h2, _⟩ := r.get h1
      refine ⟨⟨q, (List.getElem?_eq_some_iff.mp h2).1⟩, fun x H' y => ?_⟩
      obtain ⟨e, k, v', y1, y2⟩ := y
      subst e
      rw [h2] at y1; cases y1; subst y2
      exact New.same e2 rep_key
  stop := fun S H e1 e2 => ⟨e2 _ _ (e1.at h), by rw [List.length_map, r.len]; exact Nat.le_refl _⟩
/-! the readings -/
def iLks (K : PySem.W.Frag) (tl : TE) : TI := fun σ H R => iAny K tl σ H R ∨ iKeys (tLkA tl) σ H R
/-- what a value that is walked hands out -/
def itV : D → Option (List D)
  | .dct kds => some (kds.map fun p => keyDD p.1)
  | d => itemsD d
def itVals : D → Option (List D)
  | .dct kds => some (kds.map (·.2))
  | _ => none
def itItems : D → Option (List D)
  | .dct kds => some (kds.map fun p => .tup [keyDD p.1, p.2])
  | _ => none
theorem postI_split {r : R} {items : D → Option (List D)} {R : It → Hp → Prop} (post : PostI g W Z S τ θ σ r items R) :
    (∃ o ρ1 ds, r = .ok o ρ1 ∧ items o.d.view = some ds ∧ ∀ J S' H', Ex S S' → St g Z S' H' τ θ σ ρ1 → WkS g J S' ds → R J H') ∨
    ∃ x ρ1, r = .exc x ρ1 ∧ ∀ d S' H', Ex S S' → St g Z S' H' τ θ σ ρ1 → ExnAt g S' H' x d → W (.ref (g.cn x.c)) d σ H' := by
  cases r with
  | ok o ρ1 =>
    cases h : items o.d.view with
    | none => simp only [PostI, h] at post
    | some ds => simp only [PostI, h] at post; exact .inl ⟨o, ρ1, ds, rfl, h, post⟩
  | exc x ρ1 => exact .inr ⟨x, ρ1, rfl, post⟩
  | stuck => exact post.elim
theorem it_val : IterS g W m itV (iLks g.K (LE g W m)) := by
  refine ⟨fun Z S H τ θ σ ρ R st post => ?_⟩
  rcases postI_split post with ⟨o, ρ1, ds, h, hv, k⟩ | ⟨x, ρ1, h, k⟩
  · cases hd : o.d.view with
    | lst xs =>
      rw [hd] at hv; cases hv
      refine .inl (.inl (le_at st h fun v S1 H1 e1 st1 r => ?_))
      have r := r.view
      rw [hd] at r
      obtain ⟨a, vs, rfl, ha, ra⟩ := r
      exact ⟨a, rfl, ⟨vs, .inl (.inl (st1.sub.lst ha))⟩, k _ S1 H1 e1 st1 (wk_list ha ra)⟩
    | tup xs =>
      rw [hd] at hv; cases hv
      refine .inl (.inr (.inl (le_at st h fun v S1 H1 e1 st1 r => ?_)))
      have r := r.view
      rw [hd] at r
      obtain ⟨a, vs, rfl, ha, ra⟩ := r
      exact ⟨a, rfl, ⟨vs, st1.sub.sqT ha⟩, k _ S1 H1 e1 st1 (wk_tup ha ra)⟩
    | scr ns =>
      rw [hd] at hv; cases hv
      refine .inl (.inl (le_at st h fun v S1 H1 e1 st1 r => ?_))
      have r := r.view
      rw [hd] at r
      obtain ⟨a, rfl, ha⟩ := r
      exact ⟨a, rfl, ⟨_, st1.sub.sqL ha⟩, k _ S1 H1 e1 st1 (wk_scr ha)⟩
    | str z =>
      rw [hd] at hv; cases hv
      refine .inl (.inr (.inr (le_at st h fun v S1 H1 e1 st1 r => ?_)))
      have r := r.view
      rw [hd] at r
      exact ⟨z, r, k _ S1 H1 e1 st1 wk_str⟩
    | dct kds =>
      rw [hd] at hv; cases hv
      exact .inr (le_lock st h hd fun a od kvs S1 H1 e1 st1 ha rk => ⟨a, od, rfl, .inl ⟨kvs, st1.sub _ _ ha, k _ S1 H1 e1 st1 (wk_keys ha rk)⟩⟩)
    | _ => rw [hd] at hv; cases hv
  · exact .inl (.inl (le_exc st h k))
theorem la_one {Qa : List V → Hp → Prop} (h : LE g W m σ H fun v H1 => Qa [v] H1) : LA g W [m] σ H Qa := le_one h
def itRng : D → Option (List D)
  | .int j => if -(2 ^ 60) < j ∧ j < 2 ^ 60 then some (rangeD 0 j) else none
  | _ => none
theorem it_rng1 : IterS g W m itRng (iRng1 (LA g W [m])) := by
  refine ⟨fun Z S H τ θ σ ρ R st post => ?_⟩
  rcases postI_split post with ⟨o, ρ1, ds, h, hv, k⟩ | ⟨x, ρ1, h, k⟩
  · cases hd : o.d.view with
    | int j =>
      rw [hd] at hv
      unfold itRng at hv
      dsimp only at hv
      split at hv
      · rename_i hb
        cases hv
        refine la_one (le_at st h fun v S1 H1 e1 st1 r => ?_)
        have r := r.view
        rw [hd] at r
        refine ⟨j, by rw [show v = .int j from r], by omega, by omega, ?_⟩
        have e0 : rangeD 0 j = (List.range j.toNat).map fun (i : Nat) => D.int (0 + (i : Int)) := by
          show (List.range (j - 0).toNat).map _ = _
          rw [Int.sub_zero]
        rw [e0] at k
        exact k _ S1 H1 e1 st1 wk_range
      · cases hv
    | _ => rw [hd] at hv; cases hv
  · exact la_one (le_exc st h k)
/-! ### for -/
def sForI (items : D → Option (List D)) (m : E) (tg : Tg) (body : Sm) : Sm := fun ρ => (m ρ).toO fun o ρ1 => match items o.d.view with
  | some ds => forL tg body ds ρ1
  | none => .stuck
theorem ls_forI {gr : TG} {tg : Tg} {body : Sm} {En : Ends} {items : D → Option (List D)} {wi : TI} (it : IterS g W m items wi) (ht : TgS g gr tg) (q : LS g W (sForI items m tg body) En σ H) : tFor wi gr (LS g W body) En σ H := by
  obtain ⟨Z, S, ρ, st, post⟩ := q
  refine it.run Z S H [] [] σ ρ _ st ?_
  unfold sForI at post
  cases h : m ρ with
  | stuck => rw [h] at post; exact post.elim
  | exc x ρ1 => rw [h] at post; exact fun d S1 H1 e1 st1 xa => post d σ S1 H1 e1 st1 xa
  | ok o ρ1 =>
    rw [h] at post
    simp only [R.toO] at post
    unfold PostI
    dsimp only
    cases hi : items o.d.view with
    | none => rw [hi] at post; exact post.elim
    | some ds => rw [hi] at post; exact fun J S' H' e st' wk => for_walk wk ht st' (PostO.mono e post)
end
end DL
set_option Elab.async false
set_option linter.all false
set_option maxRecDepth 100000
set_option autoImplicit false
/-! DL8: comprehensions; all over a generator expression. -/
namespace DL
open PySem PySem.Spec PyProof.Rows L2
section
variable {g : Gb} {W : WX} {Z : Zn} {S S' H H' : Hp} {τ τ' : List V} {θ θ' : List O} {σ σ' : Sg} {ρ : En} {Q Q' : VK} {m ma mb mc : E} {o oi : O} {v : V} {i : Nat}
def wipeE (ρ : En) : List Nat → En
  | [] => ρ
  | v :: vs => (wipeE ρ vs).set v .no
theorem wipeE_len (ρ : En) : ∀ vs : List Nat, (wipeE ρ vs).length = ρ.length
  | [] => rfl
  | v :: vs => by unfold wipeE; rw [List.length_set, wipeE_len ρ vs]
theorem wipeE_get {s : Sl} (hs : s ≠ .no) : ∀ {vs : List Nat} {i : Nat}, (wipeE ρ vs)[i]? = some s → ρ[i]? = some s ∧ i ∉ vs
  | [], i, h => ⟨h, List.not_mem_nil⟩
  | v :: vs, i, h => by
    unfold wipeE at h
    by_cases hi : v = i
    · subst hi
      by_cases hv : v < (wipeE ρ vs).length
      · rw [List.getElem?_set_self hv] at h; cases h; exact absurd rfl hs
      · rw [List.getElem?_eq_none (by simpa using hv)] at h; cases h
    · rw [List.getElem?_set_ne hi] at h
      obtain ⟨h1, h2⟩ := wipeE_get hs h
      exact ⟨h1, fun m => by rcases List.mem_cons.mp m with z | z; exact hi z.symm; exact h2 z⟩
theorem wipe_get {σ : Sg} : ∀ {vs : List Nat} {i : Nat}, i ∉ vs → (wipe σ vs)[i]? = σ[i]?
  | [], i, _ => rfl
  | v :: vs, i, h => by
    unfold wipe
    rw [List.getElem?_set_ne (fun z => h (by rw [z]; exact List.mem_cons_self)), wipe_get fun m => h (List.mem_cons_of_mem _ m)]
/-- the slots vs are let go of -/
theorem St.wipe {vs : List Nat} (st : St g Z S H τ θ σ ρ) (hl : σ'.length = σ.length) (hk : ∀ i, i ∉ vs → σ'[i]? = σ[i]?) : St g Z S H τ θ σ' (wipeE ρ vs) := by
  obtain ⟨A, α, h⟩ := st
  refine ⟨A, α, h.bs, h.tmp, by rw [wipeE_len, hl]; exact h.len, fun i o hi => ?_, h.ndA, h.nd, h.dis, h.disA, h.own, fun i o hi => ?_⟩
  · rcases hi with hi | hi
    · obtain ⟨h1, h2⟩ := wipeE_get (by simp) hi
      rw [hk i h2]; exact h.slot i o (.inl h1)
    · obtain ⟨h1, h2⟩ := wipeE_get (by simp) hi
      rw [hk i h2]; exact h.slot i o (.inr h1)
  · obtain ⟨h1, h2⟩ := wipeE_get (by simp) hi
    rw [hk i h2]; exact h.pin i o h1
/-- the object at l, held by the last temps, changes; what they held may go into it -/
theorem Hold.mutT {A A1 A2 An : List Addr} {α : Nat → List Addr} {τn : List V} {θn : List O} {l : Addr} {u : HO} (h : Hold g Z S H (τ ++ τ') (θ ++ θ') σ ρ A α) (eA : A = A1 ++ A2) (r1 : RelOs g S H θ τ A1) (hl : l ∈ A2) (rn : RelOs g S (upd H l u) θn τn An) (nd : An.Nodup) (hA : ∀ a ∈ An, a ∈ A2) :
    St g Z S (upd H l u) (τ ++ τn) (θ ++ θn) σ ρ := by
  subst eA
  obtain ⟨n1, n2, n3⟩ := List.nodup_append.mp h.ndA
  have hlo := h.own l (.inl (List.mem_append_right _ hl))
  have k : ∀ a, a ≠ l → upd H l u a = H a := fun a z => upd_ne z
  have h1l : ∀ a ∈ A1, a ≠ l := fun a m z => n3 a m l hl z
  have hil : ∀ j, ∀ a ∈ α j, a ≠ l := fun j a m z => h.disA j a m (by rw [z]; exact List.mem_append_right _ hl)
  refine ⟨A1 ++ An, α, ⟨fun a u' q => ?_, h.bs.mono, h.bs.new, fun a u' h1 h2 h3 => ?_, fun a u' h1 => ?_, fun p m => ?_, h.bs.tbS⟩,
    (RelOs.mono (Ex.refl _) θ τ A1 (fun a m => k a (h1l a m)) r1).append rn, h.len, fun j o hj => ?_, List.nodup_append.mpr ⟨n1, nd, fun a m b m2 z => n3 a m b (hA b m2) z⟩, h.nd, h.dis, fun j a m m2 => ?_, fun a m => ?_, h.pin⟩
  · rw [k a fun z => by rw [z, hlo.1] at q; cases q]
    exact h.bs.sub a u' q
  · rw [k a fun z => by
      subst z
      rcases hlo.2.2.1 with q | q
      · exact h2 q
      · rw [h1] at q; cases q]
    exact h.bs.frm a u' h1 h2 h3
  · by_cases z : a = l
    · subst z; exact ⟨_, upd_same⟩
    · obtain ⟨u2, q⟩ := h.bs.dom a u' h1; exact ⟨u2, by rw [k a z]; exact q⟩
  · obtain ⟨ps, q1, q2⟩ := h.bs.tbl p m
    exact ⟨ps, by rw [k p fun z => hlo.2.2.2 (z ▸ m)]; exact q1, q2⟩
  · obtain ⟨v', q, r'⟩ := h.slot j o hj
    exact ⟨v', q, RelO.mono (Ex.refl _) o v' (α j) (fun a m => k a (hil j a m)) r'⟩
  · rcases List.mem_append.mp m2 with z | z
    · exact h.disA j a m (List.mem_append_left _ z)
    · exact h.disA j a m (List.mem_append_right _ (hA a z))
  · have m' : (a ∈ A1 ++ A2 ∨ ∃ j, a ∈ α j) := by
      rcases m with m | m
      · rcases List.mem_append.mp m with m | m
        · exact .inl (List.mem_append_left _ m)
        · exact .inl (List.mem_append_right _ (hA a m))
      · exact .inr m
    obtain ⟨q1, ⟨u2, q2⟩, q3⟩ := h.own a m'
    refine ⟨q1, ?_, q3⟩
    by_cases z : a = l
    · subst z; exact ⟨_, upd_same⟩
    · exact ⟨u2, by rw [k a z]; exact q2⟩
theorem rel1 {L : Addr} {os : List O} {A : List Addr} (r : RelO g S H (.lst os) (.ref L) A) : ∃ acc A', H L = some (.lst acc) ∧ A = L :: A' ∧ RelOs g S H os acc A' := by
  obtain ⟨l, vs, A', e, q, eA, r'⟩ := r
  cases e
  exact ⟨vs, A', q, eA, r'⟩
/-- the last temp goes into the list ahead of it -/
theorem St.appT {L : Addr} {os : List O} {oy : O} {y : V} (st : St g Z S H ((τ ++ [.ref L]) ++ [y]) ((θ ++ [.lst os]) ++ [oy]) σ ρ) : ∃ acc, H L = some (.lst acc) ∧ acc.length = os.length ∧ St g Z S (upd H L (.lst (acc ++ [y]))) (τ ++ [.ref L]) (θ ++ [.lst (os ++ [oy])]) σ ρ := by
  have tl := st.tlen
  obtain ⟨A, α, h⟩ := st
  have h : Hold g Z S H (τ ++ ([.ref L] ++ [y])) (θ ++ ([.lst os] ++ [oy])) σ ρ A α := by rw [← List.append_assoc, ← List.append_assoc]; exact h
  obtain ⟨A1, A2, eA, r1, r2⟩ := h.tmp.split (by simp at tl; omega)
  obtain ⟨A3, A4, eA2, r3, r4⟩ := RelOs.split (by rfl) r2
  have r3 := r3.oneInv
  have r4 := r4.oneInv
  obtain ⟨acc, A', hL, e3, r5⟩ := rel1 r3
  have nd2 : A2.Nodup := by have := h.ndA; rw [eA] at this; exact (List.nodup_append.mp this).2.1
  rw [eA2, e3] at nd2
  have nd2' : (L :: (A' ++ A4)).Nodup := by simpa using nd2
  obtain ⟨nL, nd3⟩ := List.nodup_cons.mp nd2'
  have kk : ∀ a, a ∈ A' ∨ a ∈ A4 → upd H L (.lst (acc ++ [y])) a = H a := fun a m => upd_ne fun z => nL (by rw [← z]; exact List.mem_append.mpr m)
  refine ⟨acc, hL, r5.len, ?_⟩
  refine h.mutT (An := L :: (A' ++ A4)) eA r1 (by rw [eA2, e3]; simp) ?_ nd2' (fun a m => by rw [eA2, e3]; simpa using m)
  refine RelOs.one ⟨L, _, _, rfl, upd_same, rfl, ?_⟩
  exact (RelOs.mono (Ex.refl _) os acc A' (fun a m => kk a (.inl m)) r5).append (RelOs.one (RelO.mono (Ex.refl _) oy y A4 (fun a m => kk a (.inr m)) r4))
/-! list comprehensions -/
abbrev W0x : WX := fun _ _ _ _ => False
def lcL (vs : List Nat) (tg : Tg) (mt : Option E) (me : E) : List D → List O → En → Option (List O × En)
  | [], acc, ρ => some (acc, ρ)
  | d :: ds, acc, ρ => match tg d ρ with
    | none => none
    | some ρ1 => match mt with
      | none => match me ρ1 with
        | .ok o ρ2 => lcL vs tg mt me ds (acc ++ [o]) (wipeE ρ2 vs)
        | _ => none
      | some t => match t ρ1 with
        | .ok (.sh (.bl true)) ρ2 => match me ρ2 with
          | .ok o ρ3 => lcL vs tg mt me ds (acc ++ [o]) (wipeE ρ3 vs)
          | _ => none
        | .ok (.sh (.bl false)) ρ2 => lcL vs tg mt me ds acc (wipeE ρ2 vs)
        | _ => none
def eLc (vs : List Nat) (items : D → Option (List D)) (m : E) (tg : Tg) (mt : Option E) (me : E) : E := fun ρ => (m ρ).bind fun o ρ1 => match items o.d.view with
  | some ds => if ds.length ≤ 1000000 then match lcL vs tg mt me ds [] (wipeE ρ1 vs) with
    | some (os, ρ2) => .ok (.lst os) ρ2
    | none => .stuck else .stuck
  | none => .stuck
/-- a target that sets no other slots than vs -/
structure TgV (g : Gb) (gr : TG) (tg : Tg) (vs : List Nat) : Prop where
  run : ∀ Z S H τ θ σ ρ (d : D) v ρ1 (Q : L2.St → Hp → Prop), St g Z S H τ θ σ ρ → Rep g S d v → tg d ρ = some ρ1 → (∀ σ', (wipe σ' vs = wipe σ vs) → St g Z S H τ θ σ' ρ1 → Q σ' H) → gr v σ H Q
def ttO (g : Gb) : Option E → TT
  | none => tYes
  | some t => LT g W0x t
/-- the turns of a list comprehension -/
def LcP (g : Gb) (Z : Zn) (S1 : Hp) (τ : List V) (θ : List O) (σ : Sg) (vs : List Nat) (tg : Tg) (mt : Option E) (me : E) (ds : List D) (L : Addr) (Q : VK) (i : Nat) : Hp → Prop := fun H => ∃ S ρ acc os ρ', Ex S1 S ∧ St g Z S H (τ ++ [.ref L]) (θ ++ [.lst acc]) (L2.wipe σ vs) (wipeE ρ vs) ∧
  acc.length ≤ i ∧ lcL vs tg mt me (ds.drop i) acc (wipeE ρ vs) = some (os, ρ') ∧ ∀ S' H', Ex S S' → St g Z S' H' (τ ++ [.ref L]) (θ ++ [.lst os]) σ ρ' → Q (.ref L) H'
theorem wipe_unwipe {vs : List Nat} (st : St g Z S H τ θ (wipe σ vs) (wipeE ρ vs)) : St g Z S H τ θ σ (wipeE ρ vs) := by
  obtain ⟨A, α, h⟩ := st
  have hl := h.len
  rw [wipe_length] at hl
  refine ⟨A, α, h.bs, h.tmp, hl, fun i o hi => ?_, h.ndA, h.nd, h.dis, h.disA, h.own, fun i o hi => ?_⟩
  · have hn : i ∉ vs := by rcases hi with hi | hi <;> exact (wipeE_get (by simp) hi).2
    rw [← wipe_get (σ := σ) hn]; exact h.slot i o hi
  · have hn : i ∉ vs := (wipeE_get (by simp) hi).2
    rw [← wipe_get (σ := σ) hn]; exact h.pin i o hi
theorem wipe_idem {σ : Sg} : ∀ {vs : List Nat} {i : Nat}, i ∈ vs → i < σ.length → (wipe σ vs)[i]? = some none
  | [], i, h, _ => by cases h
  | v :: vs, i, h, hl => by
    unfold wipe
    by_cases z : v = i
    · subst z; rw [List.getElem?_set_self (by rw [wipe_length]; exact hl)]
    · rw [List.getElem?_set_ne z]
      rcases List.mem_cons.mp h with q | q
      · exact absurd q.symm z
      · exact wipe_idem q hl
theorem wipe_wipe {σ : Sg} {vs : List Nat} : wipe (wipe σ vs) vs = wipe σ vs := by
  refine List.ext_getElem? fun i => ?_
  by_cases h : i ∈ vs
  · by_cases hl : i < σ.length
    · rw [wipe_idem h (by rw [wipe_length]; exact hl), wipe_idem h hl]
    · rw [List.getElem?_eq_none (by rw [wipe_length, wipe_length]; omega), List.getElem?_eq_none (by rw [wipe_length]; omega)]
  · rw [wipe_get h]
theorem le_lc {vs : List Nat} {items : D → Option (List D)} {wi : TI} {gr : TG} {tg : Tg} {mt : Option E} {me : E} (it : IterS g W m items wi) (ht : TgV g gr tg vs) (q : LE g W (eLc vs items m tg mt me) σ H Q) : tLc wi gr (ttO g mt) (LE g W0x me) vs σ H Q := by
  obtain ⟨Z, S0, τ, θ, ρ0, st0, post⟩ := q
  refine it.run Z S0 H τ θ σ ρ0 _ st0 ?_
  unfold eLc at post
  cases h : m ρ0 with
  | stuck => rw [h] at post; exact post.elim
  | exc x ρ1 => rw [h] at post; exact post
  | ok o ρ1 =>
    rw [h] at post
    simp only [R.bind] at post
    unfold PostI
    dsimp only
    cases hi : items o.d.view with
    | none => rw [hi] at post; exact post.elim
    | some ds =>
      rw [hi] at post
      dsimp only at post ⊢
      split at post
      · rename_i hlen
        cases hlc : lcL vs tg mt me ds [] (wipeE ρ1 vs) with
        | none => rw [hlc] at post; exact post.elim
        | some p =>
          obtain ⟨os, ρ'⟩ := p
          rw [hlc] at post
          intro J S1 H1 e01 st1 wk L hL
          obtain ⟨S2, e12, st2⟩ := st1.push (New.lst (ds := []) (vs := []) st1.sub rfl hL)
          have st2 : St g Z S2 (upd H1 L (.lst [])) (τ ++ [.ref L]) (θ ++ [.lst []]) σ ρ1 := st2
          refine ⟨fun i m H => m = ds.length - i ∧ i ≤ ds.length ∧ LcP g Z S2 τ θ σ vs tg mt me ds L Q i H, ⟨ds.length, by simp, Nat.zero_le _, S2, ρ1, [], os, ρ', Ex.refl _, ?_, Nat.le_refl _, by rw [List.drop_zero]; exact hlc, fun S' H' e st' => post _ S' H' ((e01.trans e12).trans e) st'⟩, ?_⟩
          · exact St.wipe st2 (wipe_length _ _) fun i hi => wipe_get hi
          rintro i m H ⟨rfl, hile, S, ρ, acc, os, ρ', e, st, hacc, hl, k⟩
          by_cases hlt : i < ds.length
          · have hd : ds[i]? = some ds[i] := List.getElem?_eq_getElem hlt
            obtain ⟨g1, g2⟩ := wk.go i ds[i] S H (e12.trans e) st.sub hd
            refine .inr ⟨g1, LcP g Z S2 τ θ σ vs tg mt me ds L Q (i + 1), fun H' p' => ⟨ds.length - (i + 1), by omega, rfl, hlt, p'⟩, fun x H' y => ?_⟩
            obtain ⟨S3, e3, st3⟩ := st.push (g2 x H' y)
            obtain ⟨S4, e4, st4, r4⟩ := St.pop st3
            have e34 := e3.trans e4
            rw [List.drop_eq_getElem_cons hlt] at hl
            unfold lcL at hl
            cases htg : tg ds[i] (wipeE ρ vs) with
            | none => rw [htg] at hl; cases hl
            | some ρ5 =>
              rw [htg] at hl
              dsimp only at hl
              refine ht.run Z S4 H' _ _ _ _ ds[i] x ρ5 _ st4 r4 htg fun σ5 w5 st5 => ?_
              rw [wipe_wipe] at w5
              have l5 : σ5.length = σ.length := by
                have := congrArg List.length w5
                rw [wipe_length, wipe_length] at this; exact this
              have w5' : ∀ j, j ∉ vs → σ5[j]? = σ[j]? := fun j hj => by
                have q : (wipe σ5 vs)[j]? = (wipe σ vs)[j]? := by rw [w5]
                rw [wipe_get hj, wipe_get hj] at q
                exact q
              refine ⟨w5, ?_⟩
              -- the turn's end
              have back : ∀ {S6 : Hp} {H6 : Hp} {ρ6 : En} {acc6 : List O}, Ex S4 S6 → St g Z S6 H6 (τ ++ [.ref L]) (θ ++ [.lst acc6]) σ5 ρ6 → acc6.length ≤ i + 1 → lcL vs tg mt me (ds.drop (i + 1)) acc6 (wipeE ρ6 vs) = some (os, ρ') → LcP g Z S2 τ θ σ vs tg mt me ds L Q (i + 1) H6 := fun {S6 H6 ρ6 acc6} e6 st6 ha h6 =>
                ⟨S6, ρ6, acc6, os, ρ', (e.trans e34).trans e6, St.wipe st6 (by rw [wipe_length, l5]) fun j hj => by rw [wipe_get hj, w5' j hj], ha, h6, fun S' H' e' st' => k S' H' ((e34.trans e6).trans e') st'⟩
              have elt : ∀ {S6 : Hp} {H6 : Hp} {ρ6 : En} {o7 : O} {ρ7 : En}, Ex S4 S6 → St g Z S6 H6 (τ ++ [.ref L]) (θ ++ [.lst acc]) σ5 ρ6 → me ρ6 = .ok o7 ρ7 → lcL vs tg mt me (ds.drop (i + 1)) (acc ++ [o7]) (wipeE ρ7 vs) = some (os, ρ') →
                  LE g W0x me σ5 H6 fun y H4 => ∃ acc, H4 L = some (.lst acc) ∧ acc.length < sizeLine ∧ LcP g Z S2 τ θ σ vs tg mt me ds L Q (i + 1) (upd H4 L (.lst (acc ++ [y]))) := fun {S6 H6 ρ6 o7 ρ7} e6 st6 hme h7 => by
                refine ⟨Z, S6, _, _, ρ6, st6, ?_⟩
                rw [hme]
                intro v7 S7 H7 e7 st7
                obtain ⟨accv, hL7, hlen7, st8⟩ := st7.appT
                refine ⟨accv, hL7, Nat.lt_of_lt_of_le (by omega : accv.length < 1000000) (show 1000000 ≤ sizeLine by decide), back (e6.trans e7) st8 (by simp; omega) h7⟩
              cases mt with
              | none =>
                dsimp only at hl
                dsimp only [ttO, tYes]
                rw [if_pos rfl]
                split at hl
                · rename_i o7 ρ7 hme
                  exact elt (Ex.refl _) st5 hme hl
                · cases hl
              | some t =>
                dsimp only at hl
                refine ⟨Z, S4, _, _, ρ5, st5, ?_⟩
                split at hl
                · rename_i ρ6 ht6
                  rw [ht6]
                  intro v6 S6 H6 e6 st6
                  obtain ⟨S7, e7, st7, r7⟩ := St.pop st6
                  refine ⟨true, r7, iteT ?_⟩
                  split at hl
                  · rename_i o7 ρ7 hme
                    exact elt (e6.trans e7) st7 hme hl
                  · cases hl
                · rename_i ρ6 ht6
                  rw [ht6]
                  intro v6 S6 H6 e6 st6
                  obtain ⟨S7, e7, st7, r7⟩ := St.pop st6
                  exact ⟨false, r7, iteF (back (e6.trans e7) st7 (by omega) hl)⟩
                · cases hl
          · have e0 : i = ds.length := by omega
            subst e0
            rw [List.drop_of_length_le (Nat.le_refl _)] at hl
            cases hl
            exact .inl ⟨wk.stop S H (e12.trans e) st.sub, k S H (Ex.refl _) (wipe_unwipe st)⟩
      · exact post.elim
/-! targets -/
theorem wipe_set {σ : Sg} {x : Option V} {vs : List Nat} {i : Nat} (h : i ∈ vs) : wipe (σ.set i x) vs = wipe σ vs := by
  refine List.ext_getElem? fun j => ?_
  by_cases hj : j ∈ vs
  · by_cases hl : j < σ.length
    · rw [wipe_idem hj (by rw [List.length_set]; exact hl), wipe_idem hj hl]
    · rw [List.getElem?_eq_none (by rw [wipe_length, List.length_set]; omega), List.getElem?_eq_none (by rw [wipe_length]; omega)]
  · rw [wipe_get hj, wipe_get hj, List.getElem?_set_ne (fun z => hj (by rw [← z]; exact h))]
theorem St.hold {d : D} (st : St g Z S H τ θ σ ρ) (r : Rep g S d v) : St g Z S H (τ ++ [v]) (θ ++ [.sh d]) σ ρ := by
  obtain ⟨A, α, h⟩ := st
  exact ⟨A, α, h.bs, by have := h.tmp.append (RelOs.one (g := g) (S := S) (H := H) (o := .sh d) (v := v) (A := []) ⟨rfl, r⟩); rwa [List.append_nil] at this, h.len, h.slot, h.ndA, h.nd, h.dis, h.disA, h.own, h.pin⟩
theorem tgv_name {vs : List Nat} (hi : i ∈ vs) : TgV g (gName i) (tgN i) vs := by
  refine ⟨fun Z S H τ θ σ ρ d v ρ1 Q st r h k => ?_⟩
  unfold tgN En.set1 at h
  refine k _ (wipe_set hi) ?_
  have st2 := st.hold r
  cases q : ρ[i]? with
  | none => rw [q] at h; cases h
  | some s =>
    rw [q] at h
    have il := (List.getElem?_eq_some_iff.mp q).1
    cases s with
    | b o => cases h
    | no => cases h; exact St.store st2 il fun o' z => by rw [q] at z; cases z
    | v o => cases h; exact St.store st2 il fun o' z => by rw [q] at z; cases z
abbrev Tgs := List D → En → Option En
def tgNil : Tgs := fun ds ρ => match ds with
  | [] => some ρ
  | _ => none
def tgCons (t : Tg) (ts : Tgs) : Tgs := fun ds ρ => match ds with
  | d :: ds => (t d ρ).bind fun ρ1 => ts ds ρ1
  | [] => none
def tgTup (n : Nat) (ts : Tgs) : Tg := fun d ρ => match d.view with
  | .tup ds => if ds.length = n then ts ds ρ else none
  | .lst ds => if ds.length = n then ts ds ρ else none
  | _ => none
structure TgsV (g : Gb) (gr : TGs) (ts : Tgs) (vs : List Nat) : Prop where
  run : ∀ Z S H τ θ σ ρ (ds : List D) xs ρ1 (Q : L2.St → Hp → Prop), St g Z S H τ θ σ ρ → Reps g S ds xs → ts ds ρ = some ρ1 → (∀ σ', (wipe σ' vs = wipe σ vs) → St g Z S H τ θ σ' ρ1 → Q σ' H) → gr xs σ H Q
theorem tgv_nil {vs : List Nat} : TgsV g gNil tgNil vs := by
  refine ⟨fun Z S H τ θ σ ρ ds xs ρ1 Q st r h k => ?_⟩
  cases ds with
  | nil => cases h; exact ⟨r, k σ rfl st⟩
  | cons d ds => cases h
theorem tgv_cons {gr : TG} {grs : TGs} {t : Tg} {ts : Tgs} {vs : List Nat} (h1 : TgV g gr t vs) (h2 : TgsV g grs ts vs) : TgsV g (gCons gr grs) (tgCons t ts) vs := by
  refine ⟨fun Z S H τ θ σ ρ ds xs ρ1 Q st r h k => ?_⟩
  cases ds with
  | nil => cases h
  | cons d ds =>
    obtain ⟨v, rr, e, a, b⟩ := r
    subst e
    unfold tgCons at h
    dsimp only at h
    cases q : t d ρ with
    | none => rw [q] at h; cases h
    | some ρ2 =>
      rw [q] at h
      refine ⟨v, rr, rfl, h1.run Z S H τ θ σ ρ d v ρ2 _ st a q fun σ1 w1 st1 => ?_⟩
      exact h2.run Z S H τ θ σ1 ρ2 ds rr ρ1 _ st1 b h fun σ2 w2 st2 => k σ2 (w2.trans w1) st2
def gSeq (K : PySem.W.Frag) (n : Nat) (t : TGs) : TG := fun v σ H Q => gTup K n t v σ H Q ∨ gUnl K n t v σ H Q
theorem pg_seq {X : Cx} {es : List Expr} {k : Nat} {t : TGs} {n : Nat} {pos : Pos} (hc : X.calm = true) (h : PGs X es t) (hn : (assignEach es X.env).length = n) (hst : (assignEach es X.env).findIdx? (·.1) = none) : PG X (.Tuple es k pos) (gSeq X.K n t) :=
  ⟨fun pins s σ H v u Q I r hw => hw.elim ((pg_tup hc h hn hst).run pins s σ H v u Q I r) ((pg_unl hc h hn hst).run pins s σ H v u Q I r)⟩
theorem tgv_tup {grs : TGs} {ts : Tgs} {n : Nat} {vs : List Nat} (h2 : TgsV g grs ts vs) : TgV g (gSeq g.K n grs) (tgTup n ts) vs := by
  refine ⟨fun Z S H τ θ σ ρ d v ρ1 Q st r h k => ?_⟩
  have r := r.view
  unfold tgTup at h
  cases hd : d.view with
  | tup ds =>
    rw [hd] at h r
    obtain ⟨a, xs, rfl, ha, ra⟩ := r
    dsimp only at h
    split at h
    · rename_i hl
      exact .inl ⟨a, xs, rfl, st.sub.sqT ha, by rw [ra.len]; exact hl, h2.run Z S H τ θ σ ρ ds xs ρ1 _ st ra h k⟩
    · cases h
  | lst ds =>
    rw [hd] at h r
    obtain ⟨a, xs, rfl, ha, ra⟩ := r
    dsimp only at h
    split at h
    · rename_i hl
      exact .inr ⟨a, xs, rfl, .inl (.inl (st.sub.lst ha)), by rw [ra.len]; exact hl, h2.run Z S H τ θ σ ρ ds xs ρ1 _ st ra h k⟩
    · cases h
  | _ => rw [hd] at h; cases h
theorem TgV.s {gr : TG} {tg : Tg} {vs : List Nat} (h : TgV g gr tg vs) : TgS g gr tg := fun Z S H σ ρ d v ρ1 Q st r e k => h.run Z S H [] [] σ ρ d v ρ1 Q st r e fun σ' _ st' => k σ' st'
/-! dict comprehensions -/
def putD {α : Type} (kvs : List (Key × α)) (k : Key) (v : α) : List (Key × α) :=
  if (kvs.any fun kv => decide (kv.1 = k)) = true then kvs.map (fun kv => if kv.1 = k then (kv.1, v) else kv) else kvs ++ [(k, v)]
def dcL (vs : List Nat) (tg : Tg) (mt : Option E) (mk me : E) : List D → List (Key × D) → En → Option (List (Key × D) × En)
  | [], acc, ρ => some (acc, ρ)
  | d :: ds, acc, ρ => match tg d ρ with
    | none => none
    | some ρ1 => match (match mt with
        | none => some (true, ρ1)
        | some t => match t ρ1 with
          | .ok (.sh (.bl b)) ρ2 => some (b, ρ2)
          | _ => none) with
      | none => none
      | some (false, ρ2) => dcL vs tg mt mk me ds acc (wipeE ρ2 vs)
      | some (true, ρ2) => match mk ρ2 with
        | .ok ok ρ3 => match keyD ok.d.view, me ρ3 with
          | some k, .ok o ρ4 => dcL vs tg mt mk me ds (putD acc k o.d) (wipeE ρ4 vs)
          | _, _ => none
        | _ => none
def eDc (vs : List Nat) (items : D → Option (List D)) (m : E) (tg : Tg) (mt : Option E) (mk me : E) : E := fun ρ => (m ρ).bind fun o ρ1 => match items o.d.view with
  | some ds => if ds.length ≤ 1000000 then match dcL vs tg mt mk me ds [] (wipeE ρ1 vs) with
    | some (kds, ρ2) => .ok (.dct (kds.map fun p => (p.1, .sh p.2))) ρ2
    | none => .stuck else .stuck
  | none => .stuck
theorem RepK.put : ∀ {kds : List (Key × D)} {kvs : List (Key × V)} {k : Key} {d : D} {v : V}, RepK g S kds kvs → Rep g S d v → RepK g S (putD kds k d) (putK kvs k v) := by
  have hany : ∀ {kds : List (Key × D)} {kvs : List (Key × V)} (k : Key), RepK g S kds kvs → (kds.any fun kv => decide (kv.1 = k)) = (kvs.any fun kv => decide (kv.1 = k)) := by
    intro kds
    induction kds with
    | nil => intro kvs k r; rw [show kvs = [] from r]; rfl
    | cons p kds ih =>
      intro kvs k r
      obtain ⟨k0, d0⟩ := p
      obtain ⟨v0, rr, e, a, b⟩ := r
      subst e
      simp only [List.any_cons]
      rw [ih k b]
  have hmap : ∀ {kds : List (Key × D)} {kvs : List (Key × V)} {k : Key} {d : D} {v : V}, RepK g S kds kvs → Rep g S d v → RepK g S (kds.map fun kv => if kv.1 = k then (kv.1, d) else kv) (kvs.map fun kv => if kv.1 = k then (kv.1, v) else kv) := by
    intro kds
    induction kds with
    | nil => intro kvs k d v r rd; rw [show kvs = [] from r]; exact rfl
    | cons p kds ih =>
      intro kvs k d v r rd
      obtain ⟨k0, d0⟩ := p
      obtain ⟨v0, rr, e, a, b⟩ := r
      subst e
      simp only [List.map_cons]
      by_cases z : k0 = k
      · simp only [z, if_true]
        exact ⟨v, _, rfl, rd, ih b rd⟩
      · simp only [z, if_false]
        exact ⟨v0, _, rfl, a, ih b rd⟩
  have happ : ∀ {kds : List (Key × D)} {kvs : List (Key × V)} {k : Key} {d : D} {v : V}, RepK g S kds kvs → Rep g S d v → RepK g S (kds ++ [(k, d)]) (kvs ++ [(k, v)]) := by
    intro kds
    induction kds with
    | nil => intro kvs k d v r rd; rw [show kvs = [] from r]; exact ⟨v, [], rfl, rd, rfl⟩
    | cons p kds ih =>
      intro kvs k d v r rd
      obtain ⟨k0, d0⟩ := p
      obtain ⟨v0, rr, e, a, b⟩ := r
      subst e
      exact ⟨v0, _, rfl, a, ih b rd⟩
  intro kds kvs k d v r rd
  unfold putD putK
  rw [hany k r]
  split
  · exact hmap r rd
  · exact happ r rd
theorem New.dct {kds : List (Key × D)} {kvs : List (Key × V)} {p : Addr} (e : Sub S H) (r : RepK g S kds kvs) (hp : H p = none) : New g S H (.dct (kds.map fun p => (p.1, .sh p.2))) (.ref p) (upd H p (.dK kvs)) :=
  ⟨S, [p], Ex.refl _, fun _ h1 h2 => absurd h2 h1, e.trans (Gr.new hp), ⟨p, kvs, [], rfl, upd_same, rfl, RelOK.sh r⟩, by simp, fun a m => by
    have z : a = p := by simpa using m
    subst z
    exact ⟨hp, e.none hp⟩, Gr.new hp⟩
end
end DL
set_option Elab.async false
set_option linter.all false
set_option maxRecDepth 100000
set_option autoImplicit false
/-! DL9: all over a generator expression; blocks' contexts. -/
namespace DL
open PySem PySem.Spec PyProof.Rows L2
section
variable {g : Gb} {W : WX} {Z : Zn} {S S' H H' : Hp} {τ τ' : List V} {θ θ' : List O} {σ σ' : Sg} {ρ : En} {Q Q' : VK} {m ma mb mc : E} {o oi : O} {v : V} {i : Nat}
theorem St.tab {P : Addr} (st : St g Z S H τ θ σ ρ) (hP : P ∈ g.tb) (hN : g.nm P = none) (t : GxR.Tabbed P H H') : St g Z S H' τ θ σ ρ := by
  obtain ⟨A, α, h⟩ := st
  obtain ⟨⟨ps, e, ok⟩, k⟩ := t
  have na : ∀ b, (b ∈ A ∨ ∃ i, b ∈ α i) → H' b = H b := fun b m => k b fun z => (h.own b m).2.2.2 (z ▸ hP)
  refine ⟨A, α, ⟨fun b u q => ?_, h.bs.mono, h.bs.new, fun b u h1 h2 h3 => ?_, fun b u h1 => ?_, fun p m => ?_, h.bs.tbS⟩, RelOs.mono (Ex.refl _) θ τ A (fun b m => na b (.inl m)) h.tmp, h.len,
    fun i o hi => let ⟨v, q, r⟩ := h.slot i o hi; ⟨v, q, RelO.mono (Ex.refl _) o v (α i) (fun b m => na b (.inr ⟨i, m⟩)) r⟩, h.ndA, h.nd, h.dis, h.disA, fun b m => ?_, h.pin⟩
  · rw [k b fun z => by have := h.bs.tbS P hP; rw [← z, q] at this; cases this]; exact h.bs.sub b u q
  · rw [k b fun z => h3 (z ▸ hP)]; exact h.bs.frm b u h1 h2 h3
  · by_cases z : b = P
    · subst z; exact ⟨_, e⟩
    · rw [k b z]; exact h.bs.dom b u h1
  · by_cases z : p = P
    · subst z; exact ⟨ps, e, ok, fun q hq => by rw [hN] at hq; cases hq⟩
    · obtain ⟨qs, q1, q2⟩ := h.bs.tbl p m; exact ⟨qs, by rw [k p z]; exact q1, q2⟩
  · obtain ⟨q1, ⟨u, q2⟩, q3⟩ := h.own b m
    exact ⟨q1, ⟨u, by rw [na b m]; exact q2⟩, q3⟩
theorem St.tabs {P : Addr} (st : St g Z S H τ θ σ ρ) (hP : P ∈ g.tb) : GxR.TabG H P := by
  obtain ⟨A, α, h⟩ := st
  exact (h.bs.tbl P hP).g
theorem St.reset {n : Nat} (st : St g Z S H τ θ σ ρ) (hn : n ≤ σ'.length) : St g Z S H τ θ σ' (List.replicate n .no) := by
  obtain ⟨A, α, h⟩ := st
  have no : ∀ (i : Nat) (s : Sl), (List.replicate n Sl.no)[i]? = some s → s = .no := fun i s q => by
    rw [List.getElem?_replicate] at q
    split at q <;> cases q; rfl
  refine ⟨A, α, h.bs, h.tmp, by rw [List.length_replicate]; exact hn, fun i o hi => ?_, h.ndA, h.nd, h.dis, h.disA, h.own, fun i o hi => by cases no i _ hi⟩
  rcases hi with hi | hi <;> cases no i _ hi
/-- inside a generator's own frame -/
theorem St.inner {n : Nat} (st : St g Z S H τ θ σ ρ) : St g ⟨S, H, [], []⟩ S H [] [] (nones n) (List.replicate n .no) := by
  obtain ⟨A, α, h⟩ := st
  have := st_start (g := g) (n := 0) (k := n) (N := List.replicate n "") (bor := []) (os := []) (vs := []) (A := []) rfl (by simp) ⟨rfl, rfl⟩ List.nodup_nil (fun _ m => (nomatch m)) h.bs.sub (fun p m => ⟨h.bs.tbl p m, h.bs.tbS p m⟩)
  simpa [L2.start, ini, nones] using this
def allL (n : Nat) (tg : Tg) (mb : E) : List D → Option Bool
  | [] => some true
  | d :: ds => match tg d (List.replicate n .no) with
    | none => none
    | some ρ1 => match mb ρ1 with
      | .ok (.sh (.bl true)) _ => allL n tg mb ds
      | .ok (.sh (.bl false)) _ => some false
      | _ => none
def eAllI (n : Nat) (items : D → Option (List D)) (m : E) (tg : Tg) (mb : E) : E := fun ρ => (m ρ).bind fun o ρ1 => match items o.d.view with
  | some ds => match allL n tg mb ds with
    | some b => .ok (.sh (.bl b)) ρ1
    | none => .stuck
  | none => .stuck
theorem le_allI {n : Nat} {P : Addr} {vs : List Nat} {items : D → Option (List D)} {wi : TI} {gr : TG} {tg : Tg} (hP : P ∈ g.tb) (hN : g.nm P = none) (it : IterS g W m items wi) (ht : TgV g gr tg vs) (q : LE g W (eAllI n items m tg mb) σ H Q) : tAllG P n wi gr (LE g W0x mb) σ H Q := by
  obtain ⟨Z, S0, τ, θ, ρ0, st0, post⟩ := q
  refine it.run Z S0 H τ θ σ ρ0 _ st0 ?_
  unfold eAllI at post
  cases h : m ρ0 with
  | stuck => rw [h] at post; exact post.elim
  | exc x ρ1 => rw [h] at post; exact post
  | ok o ρ1 =>
    rw [h] at post
    simp only [R.bind] at post
    unfold PostI
    dsimp only
    cases hi : items o.d.view with
    | none => rw [hi] at post; exact post.elim
    | some ds =>
      rw [hi] at post
      dsimp only at post ⊢
      cases hall : allL n tg mb ds with
      | none => rw [hall] at post; exact post.elim
      | some b0 =>
        rw [hall] at post
        intro J S1 H1 e01 st1 wk
        refine ⟨st1.tabs hP, fun H2 htab => ?_⟩
        have st2 := st1.tab hP hN htab
        have fin : ∀ {S' H'}, St g ⟨S1, H2, [], []⟩ S' H' [] [] (nones n) (List.replicate n .no) → Q (.bl b0) H' := fun {S' H'} c => by
          have c2 : St g ⟨S1, H2, [], []⟩ S' H' [] [] [] [] := St.reset (n := 0) (σ' := []) c (Nat.le_refl _)
          obtain ⟨ex, st3⟩ := st2.after c2
          rw [List.append_nil, List.append_nil] at st3
          exact PostR.fin post (e01.trans ex) st3 (New.flat (d := .bl b0) st3.sub rfl)
        refine ⟨fun i m H => m = ds.length - i ∧ i ≤ ds.length ∧ ∃ S, Ex S1 S ∧ St g ⟨S1, H2, [], []⟩ S H [] [] (nones n) (List.replicate n .no) ∧ allL n tg mb (ds.drop i) = some b0, ⟨ds.length, by simp, Nat.zero_le _, S1, Ex.refl _, st2.inner, by rw [List.drop_zero]; exact hall⟩, ?_⟩
        rintro i m H ⟨rfl, hile, S, e, st, hl⟩
        by_cases hlt : i < ds.length
        · have hd : ds[i]? = some ds[i] := List.getElem?_eq_getElem hlt
          obtain ⟨g1, g2⟩ := wk.go i ds[i] S H e st.sub hd
          refine .inr ⟨g1, fun H' => ∃ S', Ex S1 S' ∧ St g ⟨S1, H2, [], []⟩ S' H' [] [] (nones n) (List.replicate n .no) ∧ allL n tg mb (ds.drop (i + 1)) = some b0, fun H' p' => ⟨ds.length - (i + 1), by omega, rfl, hlt, p'⟩, fun x H' y => ?_⟩
          obtain ⟨S3, e3, st3⟩ := st.push (g2 x H' y)
          obtain ⟨S4, e4, st4, r4⟩ := St.pop (τ := []) (θ := []) st3
          have e34 := e3.trans e4
          rw [List.drop_eq_getElem_cons hlt] at hl
          unfold allL at hl
          cases htg : tg ds[i] (List.replicate n .no) with
          | none => rw [htg] at hl; cases hl
          | some ρ5 =>
            rw [htg] at hl
            dsimp only at hl
            refine ht.run _ S4 H' _ _ _ _ ds[i] x ρ5 _ st4 r4 htg fun σ5 w5 st5 => ?_
            have l5 : σ5.length = n := by
              have := congrArg List.length w5
              rw [wipe_length, wipe_length] at this
              rw [this]; simp [nones]
            refine ⟨_, S4, _, _, ρ5, st5, ?_⟩
            split at hl
            · rename_i ρ6 h6
              rw [h6]
              intro v6 S6 H6 e6 st6
              obtain ⟨S7, e7, st7, r7⟩ := St.pop (τ := []) (θ := []) st6
              exact ⟨true, r7, fun _ => ⟨S7, (e.trans e34).trans (e6.trans e7), St.reset st7 (by simp [nones]), hl⟩, fun z => by cases z⟩
            · rename_i ρ6 h6
              rw [h6]
              cases hl
              intro v6 S6 H6 e6 st6
              obtain ⟨S7, e7, st7, r7⟩ := St.pop (τ := []) (θ := []) st6
              exact ⟨false, r7, fun z => (by cases z), fun _ => fin (St.reset st7 (by simp [nones]))⟩
            · cases hl
        · have e0 : i = ds.length := by omega
          subst e0
          rw [List.drop_of_length_le (Nat.le_refl _)] at hl
          cases hl
          exact .inl ⟨wk.stop S H e st.sub, fin st⟩
end
/-! blocks' contexts -/
theorem takes_none {X : Cx} (h : X.xe = fun _ _ => False) : Takes X W0x := fun u s' x => by
  obtain ⟨_, _, _, _, _, _, _, _, _, _, _, _, _, _, _, _, w⟩ := x
  exact w.elim
theorem po_none {X : Cx} (h : X.xe = fun _ _ => False) : PassesOwn (model X.prog X.w) X.A X.env X.xe := by
  rw [h]
  exact PassesOwn.never
theorem cxt_blk {X : Cx} {g : Gb} {W : WX} {j : Nat} (C : Cxt X g W j) (s : Shared) (H : Hp) (scope : Scope) (cenv : Env) (fp : List Addr) : Cxt (X.blk s H scope cenv fp) g W0x j :=
  ⟨C.K, C.calm, C.nd, takes_none rfl, po_none rfl, C.rm, C.gd, C.sys⟩
theorem cxt_gx {X : Cx} {g : Gb} {W : WX} {j : Nat} (C : Cxt X g W (j + 1)) (s : Shared) (H : Hp) (N : List Str) (hN : N.Nodup) (cenv : Env) (fp : List Addr) (pn : List (Addr × Obj)) : Cxt (gxc X s H N cenv fp pn) g W0x j :=
  ⟨C.K, rfl, hN, takes_none rfl, po_none rfl, by
    have r := C.rm
    refine ⟨r.hd, ?_, ?_⟩
    · have := r.dp
      show X.A.depth + 1 + 3 * j + 5 < _
      omega
    · have := r.un
      show X.A.units + 1 + 1 + 3 + 16 * j + 200 < _
      omega, C.gd, C.sys⟩
/-! targets -/
inductive TD where
  | nm (i : Nat) | tp (ts : List TD)
mutual
def TD.gr (K : PySem.W.Frag) : TD → TG
  | .nm i => gName i
  | .tp ts => gSeq K ts.length (TD.grs K ts)
def TD.grs (K : PySem.W.Frag) : List TD → TGs
  | [] => gNil
  | t :: ts => gCons (t.gr K) (TD.grs K ts)
end
mutual
def TD.tg : TD → Tg
  | .nm i => tgN i
  | .tp ts => tgTup ts.length (TD.tgs ts)
def TD.tgs : List TD → Tgs
  | [] => tgNil
  | t :: ts => tgCons t.tg (TD.tgs ts)
end
mutual
def TD.ok (vs : List Nat) : TD → Bool
  | .nm i => decide (i ∈ vs)
  | .tp ts => TD.oks vs ts
def TD.oks (vs : List Nat) : List TD → Bool
  | [] => true
  | t :: ts => t.ok vs && TD.oks vs ts
end
mutual
theorem TD.v {g : Gb} {vs : List Nat} : ∀ (t : TD), t.ok vs = true → TgV g (t.gr g.K) t.tg vs
  | .nm i, h => by unfold TD.gr TD.tg; exact tgv_name (by simpa [TD.ok] using h)
  | .tp ts, h => by unfold TD.gr TD.tg; exact tgv_tup (TD.vs' ts (by simpa [TD.ok] using h))
theorem TD.vs' {g : Gb} {vs : List Nat} : ∀ (ts : List TD), TD.oks vs ts = true → TgsV g (TD.grs g.K ts) (TD.tgs ts) vs
  | [], h => by unfold TD.grs TD.tgs; exact tgv_nil
  | t :: ts, h => by
    unfold TD.oks at h
    rw [Bool.and_eq_true] at h
    unfold TD.grs TD.tgs
    exact tgv_cons (TD.v t h.1) (TD.vs' ts h.2)
end
mutual
def TD.ix : TD → List Nat
  | .nm i => [i]
  | .tp ts => TD.ixs ts
def TD.ixs : List TD → List Nat
  | [] => []
  | t :: ts => t.ix ++ TD.ixs ts
end
mutual
theorem TD.ok_mono {vs us : List Nat} (h : ∀ i ∈ vs, i ∈ us) : ∀ t : TD, t.ok vs = true → t.ok us = true
  | .nm i, e => by simp [TD.ok] at e ⊢; exact h i e
  | .tp ts, e => by simp [TD.ok] at e ⊢; exact TD.oks_mono h ts e
theorem TD.oks_mono {vs us : List Nat} (h : ∀ i ∈ vs, i ∈ us) : ∀ ts : List TD, TD.oks vs ts = true → TD.oks us ts = true
  | [], e => rfl
  | t :: ts, e => by
    unfold TD.oks at e ⊢
    rw [Bool.and_eq_true] at e ⊢
    exact ⟨TD.ok_mono h t e.1, TD.oks_mono h ts e.2⟩
end
mutual
theorem TD.okI : ∀ t : TD, t.ok t.ix = true
  | .nm i => by simp [TD.ok, TD.ix]
  | .tp ts => by simp only [TD.ok, TD.ix]; exact TD.oksI ts
theorem TD.oksI : ∀ ts : List TD, TD.oks (TD.ixs ts) ts = true
  | [] => rfl
  | t :: ts => by
    unfold TD.oks TD.ixs
    rw [Bool.and_eq_true]
    exact ⟨TD.ok_mono (fun i m => List.mem_append_left _ m) t (TD.okI t), TD.oks_mono (fun i m => List.mem_append_right _ m) ts (TD.oksI ts)⟩
end
section
variable {X : Cx} {g : Gb} {W : WX} {j : Nat} {pos : Pos}
theorem gd_nm {x : Str} {px : Pos} (C : Cxt X g W j) (i : Nat) (hi : X.N[i]? = some x := by rfl) (hx : Loc X.env.scope x := by first | exact Or.inl rfl | exact Or.inr rfl) (hf : X.fn x = true ∨ X.env.scope.names.lookup x = some .local := by first | exact .inl rfl | exact .inr rfl | assumption) :
    PG X (.Name x px) ((TD.nm i).gr g.K) := by unfold TD.gr; exact pg_name C.nd hi hx hf
theorem gd_tp {es : List Expr} {k : Nat} {ts : List TD} (C : Cxt X g W j) (h : PGs X es (TD.grs g.K ts)) (hn : (assignEach es X.env).length = ts.length := by rfl) (hst : (assignEach es X.env).findIdx? (·.1) = none := by rfl) : PG X (.Tuple es k pos) ((TD.tp ts).gr g.K) := by
  unfold TD.gr
  rw [← C.K] at h ⊢
  exact pg_seq C.calm h hn hst
theorem gd_nil : PGs X [] (TD.grs g.K []) := by unfold TD.grs; exact pgs_nil
theorem gd_cons {e : Expr} {es : List Expr} {t : TD} {ts : List TD} (h1 : PG X e (t.gr g.K)) (h2 : PGs X es (TD.grs g.K ts)) (hs : (assignEach (e :: es) X.env).map (·.2) = assign e X.env :: (assignEach es X.env).map (·.2) := by rfl) : PGs X (e :: es) (TD.grs g.K (t :: ts)) := by
  unfold TD.grs
  exact pgs_cons h1 h2 hs
/-! what is walked -/
def PIt (X : Cx) (g : Gb) (W : WX) (tge e : Expr) (items : D → Option (List D)) (m : E) : Prop := ∃ wi, PI X tge e wi ∧ IterS g W m items wi
variable {a b tge : Expr} {ma mb m : E}
theorem id_val (C : Cxt X g W j) (h : PE X a (LE g W ma)) : PIt X g W tge a itV ma := by
  refine ⟨_, ?_, it_val⟩
  rw [← C.K]
  exact PI_or (PI_or (pi_list h) (PI_or (pi_tup h) (pi_str h))) (pi_keys (pe_lkA h))
theorem id_rng1 {p : Pos} (hm : X.mg "range" = none) (h : PE X a (LE g W ma)) (hg : Gl X "range" := by rfl) (hs : starEach [a] X.env = [(false, eval a X.env)] := by rfl) : PIt X g W tge (.Call (.Name "range" p) [a] [] pos) itRng ma :=
  ⟨_, pi_range1 hg hm (ad_cons h ad_nil hs) hs, it_rng1⟩
/-! for, comprehensions, all -/
variable {iter elt kx : Expr} {items : D → Option (List D)} {t : TD} {mt me mk : E} {scope : Scope} {own : List (Str × Nat)} {ct : Expr}
theorem sd_for {aa : List Stmt} {sa : Sm} (C : Cxt X g W j) (hi : PIt X g W tge iter items m) (hg : PG X tge (t.gr g.K)) (hb : PSs X aa (LS g W sa)) (hf : ∀ x, foldedSetIterable iter X.env x = pure x := by intro _; rfl) : PS X (.For tge iter aa [] pos) (LS g W (sForI items m t.tg sa)) := by
  obtain ⟨wi, h1, h2⟩ := hi
  exact PS_imp (ps_for C.po C.calm h1 hg hb hf) fun _ _ _ q => ls_forI h2 (TD.v t (TD.okI t)).s q
abbrev BlkPG (X : Cx) (g : Gb) (j : Nat) (scope : Scope) (tge : Expr) (t : TD) : Prop := ∀ (s : Shared) (H : Hp) (C : Addr) (cl : List (Str × Addr)) (fp : List Addr), Cxt (X.blk s H scope (compEnvC scope cl C X.env) fp) g W0x j → PG (X.blk s H scope (compEnvC scope cl C X.env) fp) tge (t.gr g.K)
abbrev BlkPE (X : Cx) (g : Gb) (j : Nat) (scope : Scope) (e : Expr) (m : E) : Prop := ∀ (s : Shared) (H : Hp) (C : Addr) (cl : List (Str × Addr)) (fp : List Addr), Cxt (X.blk s H scope (compEnvC scope cl C X.env) fp) g W0x j → PE (X.blk s H scope (compEnvC scope cl C X.env) fp) e (LE g W0x m)
abbrev BlkPT (X : Cx) (g : Gb) (j : Nat) (scope : Scope) (e : Expr) (m : E) : Prop := ∀ (s : Shared) (H : Hp) (C : Addr) (cl : List (Str × Addr)) (fp : List Addr), Cxt (X.blk s H scope (compEnvC scope cl C X.env) fp) g W0x j → PT (X.blk s H scope (compEnvC scope cl C X.env) fp) e (LT g W0x m)
theorem pd_lcT (own : List (Str × Nat)) (C : Cxt X g W j) (hi : PIt X g W tge iter items m) (hg : BlkPG X g j scope tge t) (ht : BlkPT X g j scope ct mt) (he : BlkPE X g j scope elt me) (ok : blkC X.N X.env.scope scope own = true := by rfl) (hv : t.ok (own.map (·.2)) = true := by rfl) (hs : ∀ x, foldedSetIterable iter X.env x = pure x := by intro _; rfl) :
    PE X (.ListComp elt [⟨tge, iter, [ct], 0⟩] scope pos) (LE g W (eLc (own.map (·.2)) items m t.tg (some mt) me)) := by
  obtain ⟨wi, h1, h2⟩ := hi
  exact PE_imp (pe_lc C.calm C.nd h1 (blkOk_by ok) (fun s H c cl fp => hg s H c cl fp (cxt_blk C s H scope _ fp)) (fun s H c cl fp => pts_one (ht s H c cl fp (cxt_blk C s H scope _ fp))) (fun s H c cl fp => he s H c cl fp (cxt_blk C s H scope _ fp)) hs) fun _ _ _ q => le_lc h2 (TD.v t hv) q
/-- the def's own code object and its table -/
def CodeN (X : Cx) (g : Gb) (q : Option Str) : Prop := ∃ c P, GxR.TabB X.base X.mg c P ∧ X.env.code = .ref c ∧ P ∈ g.tb ∧ g.nm P = q
abbrev CodeAt (X : Cx) (g : Gb) : Prop := CodeN X g none
def gsc (scope : Scope) : Bool := (match scope.kind with | .function => true | _ => false) && (!scope.isCoroutine) && (scope.names.all fun y => match y.2 with | .cell => false | .free => false | _ => true) && (match scope.names.lookup (".0" : Str) with | some .local => true | _ => false)
theorem gscp_by {scope : Scope} (h : gsc scope = true) : GScp scope := by
  unfold gsc at h
  simp only [Bool.and_eq_true, List.all_eq_true] at h
  obtain ⟨⟨⟨h1, h2⟩, h3⟩, h4⟩ := h
  refine ⟨?_, by simpa using h2, fun y hy e => ?_, fun y hy e => ?_, ?_⟩
  · split at h1
    · assumption
    · cases h1
  · have := h3 y hy; rw [e] at this; cases this
  · have := h3 y hy; rw [e] at this; cases this
  · split at h4
    · assumption
    · cases h4
theorem pd_all {p gpos : Pos} (N : List Str) (C : Cxt X g W (j + 1)) (K : CodeAt X g) (hm : X.mg "all" = none) (hi : PIt X g W tge iter items m)
    (hgr : ∀ (s : Shared) (H : Hp) (C : Addr) (code : Value) (fp : List Addr) (pn : List (Addr × Obj)), Cxt (gxc X s H N (genEnv scope [] C code builtinsNs X.env) fp pn) g W0x j → PG (gxc X s H N (genEnv scope [] C code builtinsNs X.env) fp pn) tge (t.gr g.K))
    (he : ∀ (s : Shared) (H : Hp) (C : Addr) (code : Value) (fp : List Addr) (pn : List (Addr × Obj)), Cxt (gxc X s H N (genEnv scope [] C code builtinsNs X.env) fp pn) g W0x j → PE (gxc X s H N (genEnv scope [] C code builtinsNs X.env) fp pn) elt (LE g W0x me))
    (nd : N.Nodup := by decide +kernel) (S : gsc scope = true := by rfl) (hg : Gl X "all" := by rfl) (hs : ∀ v, genFold iter X.env v = pure v := by intro _; rfl)
    (hst : starEach [.GeneratorExp elt [⟨tge, iter, [], 0⟩] scope gpos] X.env = (false, eval (.GeneratorExp elt [⟨tge, iter, [], 0⟩] scope gpos) X.env) :: starEach [] X.env := by rfl) :
    PE X (.Call (.Name "all" p) [.GeneratorExp elt [⟨tge, iter, [], 0⟩] scope gpos] [] pos) (LE g W (eAllI N.length items m t.tg me)) := by
  obtain ⟨c, P, TB, hc, hP, hN⟩ := K
  obtain ⟨wi, h1, h2⟩ := hi
  exact PE_imp (pe_allG C.rm C.calm hm TB hc (gscp_by S) rfl h1 (fun s H c cd fp pn => hgr s H c cd fp pn (cxt_gx C s H N nd _ fp pn)) (fun s H c cd fp pn => he s H c cd fp pn (cxt_gx C s H N nd _ fp pn)) hg hs hst) fun _ _ _ q => le_allI hP hN h2 (TD.v t (TD.okI t)) q
end
end DL
set_option Elab.async false
set_option linter.all false
set_option maxRecDepth 100000
/-! DLE: == and != of data. -/
namespace DL.Ne
open PySem PySem.SeqAt
open AutoSeq1 (wpAny_loadPart')
open MeetsSeq MeetsSeq2 MeetsSeq3 SeqRoads2
section
variable {prog : Program} {w : World}
theorem ne_loopI (l b : Addr) (items items2 : Array Value) (n n2 : Nat) (dd dd2 : Option Addr) (sl sl2 : Array (Option Value)) (hsz : items.size = items2.size) (e : Nat → Bool) (k : Nat) :
    ∀ i : Nat, items.size - i = k → MeetsIn prog w (Builtin.«list.__eq__.loop» ⟨[.ref l, .ref b, rawInt i, rawInt 3], []⟩)
      (fun A R s => s.heap.get? l = some { cls := .type "list", dict := dd, data := .seq items n, slots := sl } ∧ s.heap.get? b = some { cls := .type "list", dict := dd2, data := .seq items2 n2, slots := sl2 } ∧
        (∀ j (h1 : j < items.size) (h2 : j < items2.size), EqIn prog w A.in1 s items[j] items2[j] (e j)) ∧
        R (.ok (.ret (.bool (!((List.range items.size).drop i).all e)))) s) := by
  induction k with
  | zero =>
    intro i hk A R s h
    obtain ⟨hp, g, d, tk, os⟩ := s; obtain ⟨hl, hb, he, h⟩ := h
    wp_walk using wpAny_loadPart' hl, wpAny_loadPart' hb
    have hi1 : items[((i : Nat) : Int).toNat]? = none := by simp; omega
    have hi2 : items2[((i : Nat) : Int).toNat]? = none := by simp; omega
    have hd : (List.range items.size).drop i = [] := by simp; omega
    rw [hd] at h
    rw [hi1, hi2]
    wp_walk using wpAny_loadPart' hl, wpAny_loadPart' hb
    show R (.ok (.ret (.bool (items.size != items2.size)))) _
    rw [hsz]
    simpa using h
  | succ k ih =>
    intro i hk A R s h
    obtain ⟨hp, g, d, tk, os⟩ := s; obtain ⟨hl, hb, he, h⟩ := h
    wp_walk using wpAny_loadPart' hl, wpAny_loadPart' hb
    have hlt : i < items.size := by omega
    have hlt2 : i < items2.size := by omega
    have hi1 : items[((i : Nat) : Int).toNat]? = some items[i] := by simp [hlt]
    have hi2 : items2[((i : Nat) : Int).toNat]? = some items2[i] := by simp [hlt2]
    have hd : (List.range items.size).drop i = i :: (List.range items.size).drop (i + 1) := by simp [List.drop_eq_getElem_cons, hlt]
    have hc : ((i : Int) + 1) = ((i + 1 : Nat) : Int) := by push_cast; rfl
    rw [hd, List.all_cons] at h
    rw [hi1, hi2]
    refine wpAny_bind (he i hlt hlt2 _ _ ?_)
    cases hb' : e i with
    | true =>
      rw [hb'] at h
      wp_walk
      rw [hc]
      exact ⟨plainId_quiet plain_eq_loop _, codeAny_builtin entry_eq_loop (by
        rw [Around.under_plainId plain_eq_loop _]
        exact ih (i + 1) (by omega) A R _ ⟨hl, hb, he, by simpa using h⟩)⟩
    | false =>
      rw [hb'] at h
      wp_walk using wpAny_loadPart' hl, wpAny_loadPart' hb
      rw [hi1, hi2]
      wp_walk
      simpa using h
theorem list_neI (l b : Addr) (items items2 : Array Value) (n n2 : Nat) (dd dd2 : Option Addr) (sl sl2 : Array (Option Value)) (hsz : items.size = items2.size) (e : Nat → Bool) :
    MeetsIn prog w (Builtin.«list.__ne__» ⟨[.ref l, .ref b], []⟩)
      (fun A R s => s.heap.get? l = some { cls := .type "list", dict := dd, data := .seq items n, slots := sl } ∧ s.heap.get? b = some { cls := .type "list", dict := dd2, data := .seq items2 n2, slots := sl2 } ∧
        (∀ j (h1 : j < items.size) (h2 : j < items2.size), EqIn prog w A.in1 s items[j] items2[j] (e j)) ∧
        R (.ok (.ret (.bool (!(List.range items.size).all e)))) s) := by
  intro A R s h
  obtain ⟨hp, g, d, tk, os⟩ := s; obtain ⟨hl, hb, he, h⟩ := h
  have f3 := AutoSeq1.sub_list_list
  have hne : ¬ (items.size != items2.size) = true := by simp [hsz]
  wp_walk using wpAny_loadPart' hl, wpAny_loadPart' hb
  exact ⟨plainId_quiet plain_eq_loop _, codeAny_builtin entry_eq_loop (by
    rw [Around.under_plainId plain_eq_loop _]
    exact ne_loopI l b items items2 n n2 dd dd2 sl sl2 hsz e _ 0 rfl A R _ ⟨hl, hb, he, by simpa using h⟩)⟩
theorem tuple_neI (l b : Addr) (items items2 : Array Value) (n n2 : Nat) (dd dd2 : Option Addr) (sl sl2 : Array (Option Value)) (e : Nat → Bool) :
    MeetsIn prog w (Builtin.«tuple.__ne__» ⟨[.ref l, .ref b], []⟩)
      (fun A R s => s.heap.get? l = some { cls := .type "tuple", dict := dd, data := .seq items n, slots := sl } ∧ s.heap.get? b = some { cls := .type "tuple", dict := dd2, data := .seq items2 n2, slots := sl2 } ∧
        (∀ j (h1 : j < items.size) (h2 : j < items2.size), EqIn prog w A.in1 s items[j] items2[j] (e j)) ∧
        R (.ok (.ret (.bool (!((List.range (min items.size items2.size)).all e && items.size == items2.size))))) s) :=
  .of_wp fun A R s h => by
    obtain ⟨hp, g, d, tk, os⟩ := s; obtain ⟨hl, hb, he, h⟩ := h
    have f2 := AutoSeq1.sub_tuple_tuple
    have hZ : (items.toList.zip items2.toList).length = min items.size items2.size := by simp
    wp_walk using wpAny_loadPart' hl, wpAny_loadPart' hb, wpAny_forIn_list _ (fun rest b s' => b.1 = none ∧ s' = ⟨hp, g, d, tk, os⟩ ∧ ∃ i, rest = (items.toList.zip items2.toList).drop i ∧
      R (.ok (.ret (.bool (!(((List.range (min items.size items2.size)).drop i).all e && items.size == items2.size))))) ⟨hp, g, d, tk, os⟩) _
    case turn =>
      rintro ⟨y, x⟩ rest b s' ⟨hb', rfl, i, hz, hR⟩
      have hlt : i < (items.toList.zip items2.toList).length := by
        rcases Nat.lt_or_ge i (items.toList.zip items2.toList).length with h' | h'
        · exact h'
        · rw [List.drop_of_length_le h'] at hz; cases hz
      have hm : i < min items.size items2.size := hZ ▸ hlt
      have h1 : i < items.size := Nat.lt_of_lt_of_le hm (Nat.min_le_left _ _)
      have h2 : i < items2.size := Nat.lt_of_lt_of_le hm (Nat.min_le_right _ _)
      rw [List.drop_eq_getElem_cons hlt] at hz
      injection hz with hyx hrest
      have hy : y = items[i] := by have := congrArg Prod.fst hyx; simpa using this
      have hx : x = items2[i] := by have := congrArg Prod.snd hyx; simpa using this
      subst hy hx
      have hd : (List.range (min items.size items2.size)).drop i = i :: (List.range (min items.size items2.size)).drop (i + 1) := by simp [List.drop_eq_getElem_cons, hm]
      rw [hd, List.all_cons] at hR
      refine wpAny_bind (he i h1 h2 _ _ ?_)
      cases hy : e i with
      | true =>
        rw [hy] at hR
        wp_walk
        exact ⟨rfl, rfl, i + 1, hrest, by simpa using hR⟩
      | false =>
        rw [hy] at hR
        wp_walk
        exact ⟨_, rfl, by simpa using hR⟩
    case fin =>
      rintro ⟨b1, b2⟩ s' ⟨hb', rfl, i, hz, hR⟩
      simp only at hb'
      subst hb'
      have hge : min items.size items2.size ≤ i := by
        rcases Nat.lt_or_ge i (items.toList.zip items2.toList).length with h' | h'
        · rw [List.drop_eq_getElem_cons h'] at hz; cases hz
        · exact hZ ▸ h'
      rw [List.drop_of_length_le (by simpa using hge)] at hR
      wp_walk
      exact ⟨_, rfl, by simpa [Builtin.Tuple.tupleCompareSizes, bne] using hR⟩
    case h =>
      exact ⟨rfl, rfl, 0, rfl, by simpa using h⟩
variable {A : Around} {s : Shared}
theorem ne_lists {E : Value → Shared → Prop} {l b : Addr} {items items2 : Array Value} {e : Nat → Bool} {Q : Value → Shared → Prop} (hl : s.heap.IsList l items) (hb : s.heap.IsList b items2) (hsz : items.size = items2.size) (hu : A.units < cLine)
    (he : ∀ j (h1 : j < items.size) (h2 : j < items2.size), EqIn prog w A.in1 s items[j] items2[j] (e j)) (h : Q (.bool (!(List.range items.size).all e)) s) : wpAny (model prog w) A (richCompare .NotEq (.ref l) (.ref b)) Q E s := by
  obtain ⟨⟨cls, dd, data, sl⟩, ho, hc, n, hd⟩ := id hl
  obtain ⟨⟨cls2, dd2, data2, sl2⟩, ho2, hc2, n2, hd2⟩ := id hb
  simp only at hc hd hc2 hd2
  subst hc hd hc2 hd2
  exact wpAny_richCompare_same_room (T := "list") (op := .NotEq) ⟨_, ho, rfl⟩ ⟨_, ho2, rfl⟩ F.slot_list_ne (call_meetsIn F.slot_list_ne ⟨_, ho, rfl⟩ F.entry_list_ne (F.args_list_ne_2 _ _) (list_neI l b items items2 n n2 dd dd2 sl sl2 hsz e)
    ⟨ho, ho2, he, show Value.bool (!(List.range items.size).all e) ≠ Value.notImplemented ∧ Q (.bool (!(List.range items.size).all e)) s from ⟨(fun x => nomatch x), h⟩⟩) hu
theorem ne_tuples {E : Value → Shared → Prop} {l b : Addr} {items items2 : Array Value} {e : Nat → Bool} {Q : Value → Shared → Prop} (hl : s.heap.IsTuple l items) (hb : s.heap.IsTuple b items2) (hu : A.units < cLine)
    (he : ∀ j (h1 : j < items.size) (h2 : j < items2.size), EqIn prog w A.in1 s items[j] items2[j] (e j)) (h : Q (.bool (!((List.range (min items.size items2.size)).all e && items.size == items2.size))) s) :
    wpAny (model prog w) A (richCompare .NotEq (.ref l) (.ref b)) Q E s := by
  obtain ⟨⟨cls, dd, data, sl⟩, ho, hc, n, hd⟩ := id hl
  obtain ⟨⟨cls2, dd2, data2, sl2⟩, ho2, hc2, n2, hd2⟩ := id hb
  simp only at hc hd hc2 hd2
  subst hc hd hc2 hd2
  exact wpAny_richCompare_same_room (T := "tuple") (op := .NotEq) ⟨_, ho, rfl⟩ ⟨_, ho2, rfl⟩ F.slot_tuple_ne (call_meetsIn F.slot_tuple_ne ⟨_, ho, rfl⟩ F.entry_tuple_ne (F.args_tuple_ne_2 _ _) (tuple_neI l b items items2 n n2 dd dd2 sl sl2 e)
    ⟨ho, ho2, he, show Value.bool (!((List.range (min items.size items2.size)).all e && items.size == items2.size)) ≠ Value.notImplemented ∧ Q (.bool (!((List.range (min items.size items2.size)).all e && items.size == items2.size))) s from ⟨(fun x => nomatch x), h⟩⟩) hu
end
section
open PySem.W
variable {prog : Program} {w : World} {K : Type} [DecidableEq K] {knd : KeyKind prog w K} {A : Around} {E : Value → Shared → Prop} {s : Shared}
theorem ne_dicts {a b : Addr} {ka kb : List (K × Value)} {r : Bool} {Q : Value → Shared → Prop} (ha : (a == sysModules) = false) (hb : (b == sysModules) = false)
    (da : s.heap.DictOf knd a ka) (db : s.heap.DictOf knd b kb) (hu : A.units < cLine) (hits : ka.length = kb.length → KeqHitsIn prog w A.in1 s kb ka r) (h : Q (.bool (!(ka.length == kb.length && r))) s) :
    wpAny (model prog w) A (compareOp .NotEq (.ref a) (.ref b)) Q E s := by
  refine wpAny_richCompare_same_room (op := .NotEq) da.typeIs db.typeIs PySem.F.slot_dict_ne (wpAny_call_entry PySem.F.slot_dict_ne da.typeIs PySem.F.entry_dict_ne ?_ (PySem.F.args_dict_ne_2 _ _)) hu
  show wpAny _ _ (Builtin.Dict.dictSlotArgs "__ne__" ⟨[.ref a, .ref b], []⟩ >>= _) _ _ s
  refine wpAny_bind ?_
  unfold Builtin.Dict.dictSlotArgs
  refine wpAny_bind (wpAny_notOrdered_dict da.typeIs ?_)
  show wpAny _ _ (pure (Value.ref a, Value.ref b)) _ _ s
  refine wpAny_pure ?_
  refine wpAny_bind (wpAny_isInstance (T := "dict") db.typeIs PySem.F.sub_dict_dict ?_)
  simp only [Bool.not_true, Bool.false_eq_true, if_false]
  refine wpAny_bind (wpAny_pure (wpAny_bind (wpAny_pure ?_)))
  refine wpAny_bind (keq_samePairsIn ha hb da db hits ?_)
  refine wpAny_pure ⟨_, rfl, ?_, ?_⟩
  · exact fun x => nomatch x
  · simpa using h
end
end DL.Ne
set_option Elab.async false
set_option linter.all false
set_option maxRecDepth 100000
set_option autoImplicit false
/-! DLE: == and != of data, as a function. -/
namespace DL
open PySem PySem.Spec PyProof.Rows L2
/-- flat against flat, flat against a list or a tuple, a list against a tuple -/
def eqF : D → D → Option Bool
  | .non, .non => some true
  | .bl a, .bl b => some (a == b)
  | .int a, .int b => some (a == b)
  | .str a, .str b => some (a == b)
  | .bl a, .int b => some ((if a then 1 else 0) == b)
  | .int a, .bl b => some (a == (if b then 1 else 0))
  | .non, .bl _ => some false
  | .non, .int _ => some false
  | .non, .str _ => some false
  | .bl _, .non => some false
  | .bl _, .str _ => some false
  | .int _, .non => some false
  | .int _, .str _ => some false
  | .str _, .non => some false
  | .str _, .bl _ => some false
  | .str _, .int _ => some false
  | .non, .lst _ => some false
  | .lst _, .non => some false
  | .non, .tup _ => some false
  | .tup _, .non => some false
  | .bl _, .lst _ => some false
  | .lst _, .bl _ => some false
  | .bl _, .tup _ => some false
  | .tup _, .bl _ => some false
  | .int _, .lst _ => some false
  | .lst _, .int _ => some false
  | .int _, .tup _ => some false
  | .tup _, .int _ => some false
  | .str _, .lst _ => some false
  | .lst _, .str _ => some false
  | .str _, .tup _ => some false
  | .tup _, .str _ => some false
  | .lst _, .tup _ => some false
  | .tup _, .lst _ => some false
  | _, _ => none
def eqAll (f : D → D → Option Bool) : List D → List D → Option Bool
  | x :: xs, y :: ys => (f x y).bind fun a => (eqAll f xs ys).map fun b => a && b
  | _, _ => some true
def eqKs (f : D → D → Option Bool) (ls : List (Key × D)) : List (Key × D) → Option Bool
  | (k, x) :: ks => match lookK k ls with
    | none => some false
    | some y => (f x y).bind fun a => (eqKs f ls ks).map fun b => a && b
  | [] => some true
def eqN : Nat → D → D → Option Bool
  | 0, _, _ => none
  | n + 1, x, y => match x.view, y.view with
    | .lst xs, .lst ys => if xs.length = ys.length then eqAll (eqN n) xs ys else some false
    | .tup xs, .tup ys => (eqAll (eqN n) xs ys).map fun b => b && xs.length == ys.length
    | .dct ks, .dct ls => if ks.length = ls.length then eqKs (eqN n) ls ks else some false
    | a, b => eqF a b
section
variable {X : Cx} {g : Gb} {S H : Hp} {s : Shared} {pins : List (Addr × Obj)} {σ : L2.St}
open SeqAt (EqIn EqAt RcAt RcNeAt)
theorem RepK.lookV {k : Key} : ∀ {kds : List (Key × D)} {kvs : List (Key × V)}, RepK g S kds kvs → (lookK k kds = none ∧ valV kvs k = none) ∨ ∃ d v, lookK k kds = some d ∧ valV kvs k = some v ∧ Rep g S d v
  | [], kvs, r => by rw [show kvs = [] from r]; exact .inl ⟨rfl, rfl⟩
  | (k0, d0) :: kds, kvs, ⟨v0, rr, e, a, b⟩ => by
    subst e
    by_cases z : k0 = k
    · refine .inr ⟨d0, v0, ?_, valV_pos z, a⟩
      simp [lookK, List.find?_cons, z]
    · have e1 : lookK k ((k0, d0) :: kds) = lookK k kds := by simp [lookK, List.find?_cons, z]
      have e2 : valV ((k0, v0) :: rr) k = valV rr k := valV_neg z
      rw [e1, e2]
      exact RepK.lookV b
theorem eqAll_get {f : D → D → Option Bool} : ∀ {xs ys : List D} {b : Bool}, eqAll f xs ys = some b → ∃ e : Nat → Bool, (∀ (i : Nat) x y, xs[i]? = some x → ys[i]? = some y → f x y = some (e i)) ∧ b = (List.range (min xs.length ys.length)).all e
  | [], ys, b, h => by cases h; exact ⟨fun _ => true, fun i x y h => by simp at h, by simp⟩
  | x :: xs, [], b, h => by cases h; exact ⟨fun _ => true, fun i x y _ h => by simp at h, by simp⟩
  | x :: xs, y :: ys, b, h => by
    unfold eqAll at h
    cases h1 : f x y with
    | none => rw [h1] at h; cases h
    | some a =>
      rw [h1] at h
      dsimp only [Option.bind] at h
      cases h2 : eqAll f xs ys with
      | none => rw [h2] at h; cases h
      | some c =>
        rw [h2] at h
        cases h
        obtain ⟨e, q1, q2⟩ := eqAll_get h2
        refine ⟨fun i => match i with | 0 => a | i + 1 => e i, fun i x' y' hx hy => ?_, ?_⟩
        · cases i with
          | zero => simp at hx hy; subst hx hy; exact h1
          | succ i => exact q1 i x' y' (by simpa using hx) (by simpa using hy)
        · simp only [List.length_cons, Nat.succ_min_succ, List.range_succ_eq_map, List.all_cons, List.all_map]
          rw [q2]
          rfl
/-- flat and mixed kinds -/
theorem eqF_at {A : Around} {x y : D} {vx vy : V} {v u : Value} {b : Bool} (I : L2.Inv X pins σ H s) (hK : X.K = g.K) (sb : Sub S H) (hu : A.units < cLine) (h : eqF x y = some b) (rx : Rep g S x vx) (ry : Rep g S y vy) (rv : RelV vx v) (ru : RelV vy u) :
    EqAt A s v u b ∧ RcAt A s v u b ∧ RcNeAt A s v u (!b) := by
  have ls : ∀ {a : Addr} {vs : List V}, S a = some (.lst vs) → ∃ its, s.heap.IsList a its := fun {a vs} e => by
    obtain ⟨us, _, p, _⟩ := I.list (.inl (.inl (sb.lst e)))
    exact ⟨_, p.isList⟩
  have ts : ∀ {a : Addr} {vs : List V}, SqT g.K S a vs → ∃ its, s.heap.IsTuple a its := fun {a vs} e => by
    rw [← hK] at e
    obtain ⟨us, _, p, _⟩ := I.tuple (sb.sqT e)
    exact ⟨_, p⟩
  unfold eqF at h
  split at h
  · cases h
    cases rx; cases rv
    cases ry; cases ru
    exact ⟨SeqAt.EqAt.same _, SeqAt.RcAt.none_none, by first | exact SeqAt.RcNeAt.none_none | simpa using SeqAt.RcNeAt.none_none (A := A) (s := s)⟩
  · cases h
    cases rx; cases rv
    cases ry; cases ru
    exact ⟨SeqAt.EqAt.bool_bool _ _, SeqAt.RcAt.bool_bool _ _, by first | exact SeqAt.RcNeAt.bool_bool _ _ | simpa using SeqAt.RcNeAt.bool_bool _ _ (A := A) (s := s)⟩
  · cases h
    cases rx; obtain ⟨t0, rfl⟩ := rv
    cases ry; obtain ⟨t1, rfl⟩ := ru
    exact ⟨SeqAt.EqAt.int_int _ _ _ _, SeqAt.RcAt.int_int _ _ _ _, by first | exact SeqAt.RcNeAt.int_int _ _ _ _ | simpa using SeqAt.RcNeAt.int_int _ _ _ _ (A := A) (s := s)⟩
  · cases h
    cases rx; obtain ⟨t0, rfl⟩ := rv
    cases ry; obtain ⟨t1, rfl⟩ := ru
    exact ⟨SeqAt.EqAt.str_str _ _ _ _, SeqAt.RcAt.str_str _ _ _ _, by first | exact SeqAt.RcNeAt.str_str _ _ _ _ | simpa using SeqAt.RcNeAt.str_str _ _ _ _ (A := A) (s := s)⟩
  · cases h
    cases rx; cases rv
    cases ry; obtain ⟨t1, rfl⟩ := ru
    exact ⟨SeqAt.EqAt.bool_int _ _ _, SeqAt.RcAt.bool_int _ _ _, by first | exact SeqAt.RcNeAt.bool_int _ _ _ | simpa using SeqAt.RcNeAt.bool_int _ _ _ (A := A) (s := s)⟩
  · cases h
    cases rx; obtain ⟨t0, rfl⟩ := rv
    cases ry; cases ru
    exact ⟨SeqAt.EqAt.int_bool _ _ _, SeqAt.RcAt.int_bool _ _ _, by first | exact SeqAt.RcNeAt.int_bool _ _ _ | simpa using SeqAt.RcNeAt.int_bool _ _ _ (A := A) (s := s)⟩
  · cases h
    cases rx; cases rv
    cases ry; cases ru
    exact ⟨SeqAt.EqAt.none_bool _, SeqAt.RcAt.none_bool _, by first | exact SeqAt.RcNeAt.none_bool _ | simpa using SeqAt.RcNeAt.none_bool _ (A := A) (s := s)⟩
  · cases h
    cases rx; cases rv
    cases ry; obtain ⟨t1, rfl⟩ := ru
    exact ⟨SeqAt.EqAt.none_int _ _, SeqAt.RcAt.none_int _ _, by first | exact SeqAt.RcNeAt.none_int _ _ | simpa using SeqAt.RcNeAt.none_int _ _ (A := A) (s := s)⟩
  · cases h
    cases rx; cases rv
    cases ry; obtain ⟨t1, rfl⟩ := ru
    exact ⟨SeqAt.EqAt.none_str _ _, SeqAt.RcAt.none_str _ _, by first | exact SeqAt.RcNeAt.none_str _ _ | simpa using SeqAt.RcNeAt.none_str _ _ (A := A) (s := s)⟩
  · cases h
    cases rx; cases rv
    cases ry; cases ru
    exact ⟨SeqAt.EqAt.bool_none _, SeqAt.RcAt.bool_none _, by first | exact SeqAt.RcNeAt.bool_none _ | simpa using SeqAt.RcNeAt.bool_none _ (A := A) (s := s)⟩
  · cases h
    cases rx; cases rv
    cases ry; obtain ⟨t1, rfl⟩ := ru
    exact ⟨SeqAt.EqAt.bool_str _ _ _, SeqAt.RcAt.bool_str _ _ _, by first | exact SeqAt.RcNeAt.bool_str _ _ _ | simpa using SeqAt.RcNeAt.bool_str _ _ _ (A := A) (s := s)⟩
  · cases h
    cases rx; obtain ⟨t0, rfl⟩ := rv
    cases ry; cases ru
    exact ⟨SeqAt.EqAt.int_none _ _, SeqAt.RcAt.int_none _ _, by first | exact SeqAt.RcNeAt.int_none _ _ | simpa using SeqAt.RcNeAt.int_none _ _ (A := A) (s := s)⟩
  · cases h
    cases rx; obtain ⟨t0, rfl⟩ := rv
    cases ry; obtain ⟨t1, rfl⟩ := ru
    exact ⟨SeqAt.EqAt.int_str _ _ _ _, SeqAt.RcAt.int_str _ _ _ _, by first | exact SeqAt.RcNeAt.int_str _ _ _ _ | simpa using SeqAt.RcNeAt.int_str _ _ _ _ (A := A) (s := s)⟩
  · cases h
    cases rx; obtain ⟨t0, rfl⟩ := rv
    cases ry; cases ru
    exact ⟨SeqAt.EqAt.str_none _ _, SeqAt.RcAt.str_none _ _, by first | exact SeqAt.RcNeAt.str_none _ _ | simpa using SeqAt.RcNeAt.str_none _ _ (A := A) (s := s)⟩
  · cases h
    cases rx; obtain ⟨t0, rfl⟩ := rv
    cases ry; cases ru
    exact ⟨SeqAt.EqAt.str_bool _ _ _, SeqAt.RcAt.str_bool _ _ _, by first | exact SeqAt.RcNeAt.str_bool _ _ _ | simpa using SeqAt.RcNeAt.str_bool _ _ _ (A := A) (s := s)⟩
  · cases h
    cases rx; obtain ⟨t0, rfl⟩ := rv
    cases ry; obtain ⟨t1, rfl⟩ := ru
    exact ⟨SeqAt.EqAt.str_int _ _ _ _, SeqAt.RcAt.str_int _ _ _ _, by first | exact SeqAt.RcNeAt.str_int _ _ _ _ | simpa using SeqAt.RcNeAt.str_int _ _ _ _ (A := A) (s := s)⟩
  · cases h
    cases rx; cases rv
    obtain ⟨a1, vs1, rfl, h1, _⟩ := ry; cases ru; obtain ⟨its1, p1⟩ := ls h1
    exact ⟨SeqAt.EqAt.none_list p1 hu, SeqAt.RcAt.none_list p1 hu, by first | exact SeqAt.RcNeAt.none_list p1 hu | simpa using SeqAt.RcNeAt.none_list p1 hu (A := A) (s := s)⟩
  · cases h
    obtain ⟨a0, vs0, rfl, h0, _⟩ := rx; cases rv; obtain ⟨its0, p0⟩ := ls h0
    cases ry; cases ru
    exact ⟨SeqAt.EqAt.list_none p0 hu, SeqAt.RcAt.list_none p0 hu, by first | exact SeqAt.RcNeAt.list_none p0 hu | simpa using SeqAt.RcNeAt.list_none p0 hu (A := A) (s := s)⟩
  · cases h
    cases rx; cases rv
    obtain ⟨a1, vs1, rfl, h1, _⟩ := ry; cases ru; obtain ⟨its1, p1⟩ := ts h1
    exact ⟨SeqAt.EqAt.none_tuple p1 hu, SeqAt.RcAt.none_tuple p1 hu, by first | exact SeqAt.RcNeAt.none_tuple p1 hu | simpa using SeqAt.RcNeAt.none_tuple p1 hu (A := A) (s := s)⟩
  · cases h
    obtain ⟨a0, vs0, rfl, h0, _⟩ := rx; cases rv; obtain ⟨its0, p0⟩ := ts h0
    cases ry; cases ru
    exact ⟨SeqAt.EqAt.tuple_none p0 hu, SeqAt.RcAt.tuple_none p0 hu, by first | exact SeqAt.RcNeAt.tuple_none p0 hu | simpa using SeqAt.RcNeAt.tuple_none p0 hu (A := A) (s := s)⟩
  · cases h
    cases rx; cases rv
    obtain ⟨a1, vs1, rfl, h1, _⟩ := ry; cases ru; obtain ⟨its1, p1⟩ := ls h1
    exact ⟨SeqAt.EqAt.bool_list _ p1 hu, SeqAt.RcAt.bool_list _ p1 hu, by first | exact SeqAt.RcNeAt.bool_list _ p1 hu | simpa using SeqAt.RcNeAt.bool_list _ p1 hu (A := A) (s := s)⟩
  · cases h
    obtain ⟨a0, vs0, rfl, h0, _⟩ := rx; cases rv; obtain ⟨its0, p0⟩ := ls h0
    cases ry; cases ru
    exact ⟨SeqAt.EqAt.list_bool _ p0 hu, SeqAt.RcAt.list_bool _ p0 hu, by first | exact SeqAt.RcNeAt.list_bool _ p0 hu | simpa using SeqAt.RcNeAt.list_bool _ p0 hu (A := A) (s := s)⟩
  · cases h
    cases rx; cases rv
    obtain ⟨a1, vs1, rfl, h1, _⟩ := ry; cases ru; obtain ⟨its1, p1⟩ := ts h1
    exact ⟨SeqAt.EqAt.bool_tuple _ p1 hu, SeqAt.RcAt.bool_tuple _ p1 hu, by first | exact SeqAt.RcNeAt.bool_tuple _ p1 hu | simpa using SeqAt.RcNeAt.bool_tuple _ p1 hu (A := A) (s := s)⟩
  · cases h
    obtain ⟨a0, vs0, rfl, h0, _⟩ := rx; cases rv; obtain ⟨its0, p0⟩ := ts h0
    cases ry; cases ru
    exact ⟨SeqAt.EqAt.tuple_bool _ p0 hu, SeqAt.RcAt.tuple_bool _ p0 hu, by first | exact SeqAt.RcNeAt.tuple_bool _ p0 hu | simpa using SeqAt.RcNeAt.tuple_bool _ p0 hu (A := A) (s := s)⟩
  · cases h
    cases rx; obtain ⟨t0, rfl⟩ := rv
    obtain ⟨a1, vs1, rfl, h1, _⟩ := ry; cases ru; obtain ⟨its1, p1⟩ := ls h1
    exact ⟨SeqAt.EqAt.int_list _ _ p1 hu, SeqAt.RcAt.int_list _ _ p1 hu, by first | exact SeqAt.RcNeAt.int_list _ _ p1 hu | simpa using SeqAt.RcNeAt.int_list _ _ p1 hu (A := A) (s := s)⟩
  · cases h
    obtain ⟨a0, vs0, rfl, h0, _⟩ := rx; cases rv; obtain ⟨its0, p0⟩ := ls h0
    cases ry; obtain ⟨t1, rfl⟩ := ru
    exact ⟨SeqAt.EqAt.list_int _ _ p0 hu, SeqAt.RcAt.list_int _ _ p0 hu, by first | exact SeqAt.RcNeAt.list_int _ _ p0 hu | simpa using SeqAt.RcNeAt.list_int _ _ p0 hu (A := A) (s := s)⟩
  · cases h
    cases rx; obtain ⟨t0, rfl⟩ := rv
    obtain ⟨a1, vs1, rfl, h1, _⟩ := ry; cases ru; obtain ⟨its1, p1⟩ := ts h1
    exact ⟨SeqAt.EqAt.int_tuple _ _ p1 hu, SeqAt.RcAt.int_tuple _ _ p1 hu, by first | exact SeqAt.RcNeAt.int_tuple _ _ p1 hu | simpa using SeqAt.RcNeAt.int_tuple _ _ p1 hu (A := A) (s := s)⟩
  · cases h
    obtain ⟨a0, vs0, rfl, h0, _⟩ := rx; cases rv; obtain ⟨its0, p0⟩ := ts h0
    cases ry; obtain ⟨t1, rfl⟩ := ru
    exact ⟨SeqAt.EqAt.tuple_int _ _ p0 hu, SeqAt.RcAt.tuple_int _ _ p0 hu, by first | exact SeqAt.RcNeAt.tuple_int _ _ p0 hu | simpa using SeqAt.RcNeAt.tuple_int _ _ p0 hu (A := A) (s := s)⟩
  · cases h
    cases rx; obtain ⟨t0, rfl⟩ := rv
    obtain ⟨a1, vs1, rfl, h1, _⟩ := ry; cases ru; obtain ⟨its1, p1⟩ := ls h1
    exact ⟨SeqAt.EqAt.str_list _ _ p1 hu, SeqAt.RcAt.str_list _ _ p1 hu, by first | exact SeqAt.RcNeAt.str_list _ _ p1 hu | simpa using SeqAt.RcNeAt.str_list _ _ p1 hu (A := A) (s := s)⟩
  · cases h
    obtain ⟨a0, vs0, rfl, h0, _⟩ := rx; cases rv; obtain ⟨its0, p0⟩ := ls h0
    cases ry; obtain ⟨t1, rfl⟩ := ru
    exact ⟨SeqAt.EqAt.list_str _ _ p0 hu, SeqAt.RcAt.list_str _ _ p0 hu, by first | exact SeqAt.RcNeAt.list_str _ _ p0 hu | simpa using SeqAt.RcNeAt.list_str _ _ p0 hu (A := A) (s := s)⟩
  · cases h
    cases rx; obtain ⟨t0, rfl⟩ := rv
    obtain ⟨a1, vs1, rfl, h1, _⟩ := ry; cases ru; obtain ⟨its1, p1⟩ := ts h1
    exact ⟨SeqAt.EqAt.str_tuple _ _ p1 hu, SeqAt.RcAt.str_tuple _ _ p1 hu, by first | exact SeqAt.RcNeAt.str_tuple _ _ p1 hu | simpa using SeqAt.RcNeAt.str_tuple _ _ p1 hu (A := A) (s := s)⟩
  · cases h
    obtain ⟨a0, vs0, rfl, h0, _⟩ := rx; cases rv; obtain ⟨its0, p0⟩ := ts h0
    cases ry; obtain ⟨t1, rfl⟩ := ru
    exact ⟨SeqAt.EqAt.tuple_str _ _ p0 hu, SeqAt.RcAt.tuple_str _ _ p0 hu, by first | exact SeqAt.RcNeAt.tuple_str _ _ p0 hu | simpa using SeqAt.RcNeAt.tuple_str _ _ p0 hu (A := A) (s := s)⟩
  · cases h
    obtain ⟨a0, vs0, rfl, h0, _⟩ := rx; cases rv; obtain ⟨its0, p0⟩ := ls h0
    obtain ⟨a1, vs1, rfl, h1, _⟩ := ry; cases ru; obtain ⟨its1, p1⟩ := ts h1
    exact ⟨SeqAt.EqAt.list_tuple p0 p1 hu, SeqAt.RcAt.list_tuple p0 p1 hu, by first | exact SeqAt.RcNeAt.list_tuple p0 p1 hu | simpa using SeqAt.RcNeAt.list_tuple p0 p1 hu (A := A) (s := s)⟩
  · cases h
    obtain ⟨a0, vs0, rfl, h0, _⟩ := rx; cases rv; obtain ⟨its0, p0⟩ := ts h0
    obtain ⟨a1, vs1, rfl, h1, _⟩ := ry; cases ru; obtain ⟨its1, p1⟩ := ls h1
    exact ⟨SeqAt.EqAt.tuple_list p0 p1 hu, SeqAt.RcAt.tuple_list p0 p1 hu, by first | exact SeqAt.RcNeAt.tuple_list p0 p1 hu | simpa using SeqAt.RcNeAt.tuple_list p0 p1 hu (A := A) (s := s)⟩
  · cases h
theorem relV_inj : ∀ {x y : V} {u : Value}, RelV x u → RelV y u → x = y := by
  intro x y u h1 h2
  cases x <;> cases y <;> first
    | (cases h1; cases h2; exact Eq.refl _)
    | (obtain ⟨t, rfl⟩ := h1; obtain ⟨t', e⟩ := h2; cases e; rfl)
    | (obtain ⟨t, rfl⟩ := h1; obtain ⟨t', e⟩ := h2; cases e)
    | (obtain ⟨t, rfl⟩ := h1; cases h2)
    | (obtain ⟨t, rfl⟩ := h2; cases h1)
    | (cases h1; cases h2)
theorem vals_inj : ∀ {xs ys : List V} {us : List Value}, Vals xs us → Vals ys us → xs = ys
  | _, _, _, .nil, .nil => rfl
  | _, _, _, .cons a b, .cons c d => by rw [relV_inj a c, vals_inj b d]
theorem sqT_inj {a : Addr} {xs ys : List V} (I : L2.Inv X pins σ H s) (h1 : SqT X.K H a xs) (h2 : SqT X.K H a ys) : xs = ys := by
  obtain ⟨its, r1, p1, _⟩ := I.tuple h1
  obtain ⟨its2, r2, p2, _⟩ := I.tuple h2
  obtain ⟨o, e, _, n, d⟩ := p1
  obtain ⟨o2, e2, _, n2, d2⟩ := p2
  rw [e] at e2; cases e2
  rw [d] at d2
  have : its = its2 := by
    have := Data.seq.inj d2
    exact congrArg Array.toList this.1
  subst this
  exact vals_inj r1 r2
theorem dk_nodup {a : Addr} {kvs : List (Key × V)} (I : L2.Inv X pins σ H s) (h : Rd H a (.dK kvs)) : (kvs.map (·.1)).Nodup := by
  obtain ⟨_, _, vs, kv, o, es, ep, _, _, _, _, _, nd⟩ := h.ok I.hok
  have key : ∀ {ks : List (Key × V)} {us : List (Key × Value)}, KV ks us → ks.map (·.1) = us.map (·.1) := by
    intro ks us h
    unfold KV at h
    induction h with
    | nil => rfl
    | cons a b ih => simp [a.1, ih]
  rw [key kv]; exact nd
theorem valV_mem {k : Key} {v : V} : ∀ {kvs : List (Key × V)}, (kvs.map (·.1)).Nodup → (k, v) ∈ kvs → valV kvs k = some v
  | [], _, h => by cases h
  | (k0, v0) :: kvs, nd, h => by
    obtain ⟨n1, n2⟩ := List.nodup_cons.mp nd
    rcases List.mem_cons.mp h with z | z
    · cases z; exact valV_pos rfl
    · rw [valV_neg fun e => n1 (by rw [show k0 = k from e]; exact List.mem_map.mpr ⟨(k, v), z, rfl⟩)]
      exact valV_mem n2 z
theorem eqKs_same {f : D → D → Option Bool} {kvs : List (Key × V)} {ls : List (Key × D)} (nd : (kvs.map (·.1)).Nodup) (rl : RepK g S ls kvs) (hf : ∀ x y v c, Rep g S x v → Rep g S y v → f x y = some c → c = true) :
    ∀ {ks : List (Key × D)} {us : List (Key × V)} {b : Bool}, RepK g S ks us → (∀ p ∈ us, p ∈ kvs) → eqKs f ls ks = some b → b = true
  | [], us, b, _, _, h => by cases h; rfl
  | (k, x) :: ks, us, b, ⟨v, rr, e, a, r⟩, hm, h => by
    subst e
    unfold eqKs at h
    have hv := valV_mem nd (hm (k, v) List.mem_cons_self)
    rcases RepK.lookV (k := k) rl with ⟨_, z⟩ | ⟨d, v2, h1, h2, h3⟩
    · rw [hv] at z; cases z
    · rw [hv] at h2; cases h2
      rw [h1] at h
      dsimp only at h
      cases h4 : f x d with
      | none => rw [h4] at h; cases h
      | some c =>
        rw [h4] at h
        dsimp only [Option.bind] at h
        cases h5 : eqKs f ls ks with
        | none => rw [h5] at h; cases h
        | some c2 =>
          rw [h5] at h
          cases h
          rw [hf _ _ _ _ a h3 h4, eqKs_same nd rl hf r (fun p m => hm p (List.mem_cons_of_mem _ m)) h5]
          rfl
theorem eqN_same (I : L2.Inv X pins σ H s) (hK : X.K = g.K) (sb : Sub S H) : ∀ (n : Nat) (x y : D) (v : V) (b : Bool), Rep g S x v → Rep g S y v → eqN n x y = some b → b = true
  | 0, _, _, _, _, _, _, h => by cases h
  | n + 1, x, y, v, b, rx, ry, h => by
    have rx := rx.view
    have ry := ry.view
    unfold eqN at h
    have fl : ∀ {a c : D} {b : Bool}, Rep g S a v → Rep g S c v → eqF a c = some b → b = true := fun {a c b} ra rc h => by
      unfold eqF at h
      split at h <;> first
        | (cases h; done)
        | (cases h; have := ra.symm.trans rc; cases this; simp; done)
        | (cases h; rfl)
        | (exfalso; obtain ⟨_, _, e, _⟩ := ra; have := e.symm.trans rc; cases this)
        | (exfalso; obtain ⟨_, _, e, _⟩ := rc; have := e.symm.trans ra; cases this)
        | (exfalso; have := ra.symm.trans rc; cases this; done)
        | skip
      · exfalso
        obtain ⟨a1, vs1, e1, h1, _⟩ := ra
        obtain ⟨a2, vs2, e2, h2, _⟩ := rc
        rw [e1] at e2; cases e2
        obtain ⟨_, _, p1, _⟩ := I.list (.inl (.inl (sb.lst h1)))
        rw [← hK] at h2
        obtain ⟨_, _, p2, _⟩ := I.tuple (sb.sqT h2)
        exact SeqAt.ne_of_list_tuple p1.isList p2 rfl
      · exfalso
        obtain ⟨a1, vs1, e1, h1, _⟩ := ra
        obtain ⟨a2, vs2, e2, h2, _⟩ := rc
        rw [e1] at e2; cases e2
        obtain ⟨_, _, p1, _⟩ := I.list (.inl (.inl (sb.lst h2)))
        rw [← hK] at h1
        obtain ⟨_, _, p2, _⟩ := I.tuple (sb.sqT h1)
        exact SeqAt.ne_of_list_tuple p1.isList p2 rfl
    have al : ∀ {xs ys : List D} {vs : List V} {b : Bool}, Reps g S xs vs → Reps g S ys vs → eqAll (eqN n) xs ys = some b → b = true := fun {xs ys vs b} r1 r2 h => by
      obtain ⟨e, q1, q2⟩ := eqAll_get h
      rw [q2, List.all_eq_true]
      intro i hi
      have hi := List.mem_range.mp hi
      have h1 : i < xs.length := by omega
      have h2 : i < ys.length := by omega
      obtain ⟨v1, w1, u1⟩ := r1.get (List.getElem?_eq_getElem h1)
      obtain ⟨v2, w2, u2⟩ := r2.get (List.getElem?_eq_getElem h2)
      rw [w1] at w2; cases w2
      exact eqN_same I hK sb n _ _ _ _ u1 u2 (q1 i _ _ (List.getElem?_eq_getElem h1) (List.getElem?_eq_getElem h2))
    split at h
    · rename_i xs ys ex ey
      rw [ex] at rx; rw [ey] at ry
      obtain ⟨a, vs, e1, h1, r1⟩ := rx
      obtain ⟨a2, vs2, e2, h2, r2⟩ := ry
      rw [e1] at e2; cases e2
      rw [h1] at h2; cases h2
      split at h
      · exact al r1 r2 h
      · rename_i hl
        exact absurd (r1.len.symm.trans r2.len) hl
    · rename_i xs ys ex ey
      rw [ex] at rx; rw [ey] at ry
      obtain ⟨a, vs, e1, h1, r1⟩ := rx
      obtain ⟨a2, vs2, e2, h2, r2⟩ := ry
      rw [e1] at e2; cases e2
      rw [← hK] at h1 h2
      have := sqT_inj I (sb.sqT h1) (sb.sqT h2)
      subst this
      cases h3 : eqAll (eqN n) xs ys with
      | none => rw [h3] at h; cases h
      | some c =>
        rw [h3] at h
        cases h
        rw [al r1 r2 h3, r1.len.symm.trans r2.len]
        simp
    · rename_i ks ls ex ey
      rw [ex] at rx; rw [ey] at ry
      obtain ⟨a, vs, e1, h1, r1⟩ := rx
      obtain ⟨a2, vs2, e2, h2, r2⟩ := ry
      rw [e1] at e2; cases e2
      have : vs = vs2 := by
        rcases h1 with h1 | ⟨o, h1⟩
        · rcases h2 with h2 | ⟨o2, h2⟩
          · rw [h1] at h2; cases h2; rfl
          · rw [h1] at h2; cases h2
        · rcases h2 with h2 | ⟨o2, h2⟩
          · rw [h1] at h2; cases h2
          · rw [h1] at h2; cases h2; rfl
      subst this
      split at h
      · exact eqKs_same (dk_nodup I (sb.rd h1)) r2 (fun x y v c r1 r2 h => eqN_same I hK sb n x y v c r1 r2 h) r1 (fun p m => m) h
      · rename_i hl
        exact absurd (r1.len.symm.trans r2.len) hl
    · exact fl rx ry h
/-- the items of two sequences -/
theorem items_eq {P : Program} {w : World} {A : Around} {f : D → D → Option Bool} {xs ys : List D} {vs us : List V} {its its2 : List Value} {e : Nat → Bool}
    (hf : ∀ x y v u vv uu c, Rep g S x v → Rep g S y u → RelV v vv → RelV u uu → f x y = some c → EqIn P w A s vv uu c)
    (q : ∀ (i : Nat) x y, xs[i]? = some x → ys[i]? = some y → f x y = some (e i)) (r1 : Reps g S xs vs) (r2 : Reps g S ys us) (v1 : Vals vs its) (v2 : Vals us its2) :
    ∀ j (h1 : j < its.toArray.size) (h2 : j < its2.toArray.size), EqIn P w A s its.toArray[j] its2.toArray[j] (e j) := by
  intro j h1 h2
  have l1 : j < vs.length := by rw [v1.length]; simpa using h1
  have l2 : j < us.length := by rw [v2.length]; simpa using h2
  obtain ⟨d1, a1, b1⟩ := r1.getV (List.getElem?_eq_getElem l1)
  obtain ⟨d2, a2, b2⟩ := r2.getV (List.getElem?_eq_getElem l2)
  obtain ⟨w1, c1, e1⟩ := v1.get (List.getElem?_eq_getElem l1)
  obtain ⟨w2, c2, e2⟩ := v2.get (List.getElem?_eq_getElem l2)
  have f1 : its.toArray[j] = w1 := by
    have : its[j]? = some w1 := c1
    rw [List.getElem?_eq_getElem (by simpa using h1)] at this
    simpa using this
  have f2 : its2.toArray[j] = w2 := by
    have : its2[j]? = some w2 := c2
    rw [List.getElem?_eq_getElem (by simpa using h2)] at this
    simpa using this
  rw [f1, f2]
  exact hf _ _ _ _ _ _ _ b1 b2 e1 e2 (q j _ _ a1 a2)
theorem hits_eq {P : Program} {w : World} {A : Around} {f : D → D → Option Bool} {ls : List (Key × D)} {lvs : List (Key × V)} {kb : List (Key × Value)} (rl : RepK g S ls lvs) (rb : KV lvs kb)
    (hf : ∀ x y v u vv uu c, Rep g S x v → Rep g S y u → RelV v vv → RelV u uu → f x y = some c → EqIn P w A s vv uu c) :
    ∀ {ks : List (Key × D)} {kvs : List (Key × V)} {ka : List (Key × Value)} {b : Bool}, RepK g S ks kvs → KV kvs ka → eqKs f ls ks = some b → PySem.W.KeqHitsIn P w A s kb ka b
  | [], kvs, ka, b, r, kv, h => by
    rw [show kvs = [] from r] at kv
    cases kv
    cases h
    exact .nil
  | (k, x) :: ks, kvs, ka, b, ⟨v, rr, e, a, r⟩, kv, h => by
    subst e
    unfold KV at kv
    cases kv with
    | @cons p q ps qs h0 t =>
      obtain ⟨key, vv⟩ := q
      obtain ⟨h1, h2⟩ := h0
      have h1 : k = key := h1
      subst h1
      unfold eqKs at h
      rcases RepK.lookV (k := k) rl with ⟨z1, z2⟩ | ⟨d, v2, z1, z2, z3⟩
      · rw [z1] at h
        cases h
        have rr : L2.RelO (valV lvs k) (valueAt kb k) := rb.val k
        rw [z2] at rr
        refine .miss ?_
        cases hq : valueAt kb k with
        | none => rfl
        | some y => rw [hq] at rr; exact rr.elim
      · rw [z1] at h
        dsimp only at h
        have rr : L2.RelO (valV lvs k) (valueAt kb k) := rb.val k
        rw [z2] at rr
        obtain ⟨y, hy, ry⟩ := rr.some_of
        cases h4 : f x d with
        | none => rw [h4] at h; cases h
        | some c =>
          rw [h4] at h
          dsimp only [Option.bind] at h
          cases h5 : eqKs f ls ks with
          | none => rw [h5] at h; cases h
          | some c2 =>
            rw [h5] at h
            cases h
            exact .hit hy (hf _ _ _ _ _ _ _ a z3 h2 ry h4) (hits_eq rl rb hf r t h5)
/-- the comparison of two structures -/
theorem eqR_at (I : L2.Inv X pins σ H s) (hK : X.K = g.K) (sb : Sub S H) {A : Around} {n : Nat} (hu : A.units < cLine)
    (hf : ∀ x y v u vv uu c, Rep g S x v → Rep g S y u → RelV v vv → RelV u uu → eqN n x y = some c → EqIn X.prog X.w A.in1 s vv uu c) {x y : D} {vx vy : V} {v u : Value} {b : Bool} (h : eqN (n + 1) x y = some b) (rx : Rep g S x vx) (ry : Rep g S y vy) (rv : RelV vx v) (ru : RelV vy u) (E Q : Value → Shared → Prop) :
    (Q (.bool b) s → wpAny (model X.prog X.w) A (compareOp .Eq v u) Q E s) ∧ (Q (.bool (!b)) s → wpAny (model X.prog X.w) A (compareOp .NotEq v u) Q E s) := by
  have rx := rx.view
  have ry := ry.view
  unfold eqN at h
  split at h
  · rename_i xs ys ex ey
    rw [ex] at rx; rw [ey] at ry
    obtain ⟨a, vs, rfl, h1, r1⟩ := rx
    obtain ⟨a2, vs2, rfl, h2, r2⟩ := ry
    cases rv; cases ru
    obtain ⟨its, w1, p1, _⟩ := I.list (.inl (.inl (sb.lst h1)))
    obtain ⟨its2, w2, p2, _⟩ := I.list (.inl (.inl (sb.lst h2)))
    have l1 : its.toArray.size = xs.length := by rw [List.size_toArray, ← w1.length, r1.len]
    have l2 : its2.toArray.size = ys.length := by rw [List.size_toArray, ← w2.length, r2.len]
    split at h
    · rename_i hl
      obtain ⟨e, q1, q2⟩ := eqAll_get h
      have q2 : b = (List.range its.toArray.size).all e := by rw [q2, l1, ← hl, Nat.min_self]
      have it := items_eq hf q1 r1 r2 w1 w2
      exact ⟨fun q => SeqAt.rcIn_lists p1.isList p2.isList (by rw [l1, l2, hl]) hu it (by rw [← q2]; exact q), fun q => Ne.ne_lists p1.isList p2.isList (by rw [l1, l2, hl]) hu it (by rw [← q2]; exact q)⟩
    · rename_i hl
      cases h
      have hne : (its.toArray.size != its2.toArray.size) = true := by rw [l1, l2]; simpa using hl
      exact ⟨fun q => SeqAt.RcAt.lists_lengths p1.isList p2.isList hne hu _ _ _ _ q, fun q => SeqAt.RcNeAt.lists_lengths p1.isList p2.isList hne hu _ _ _ _ q⟩
  · rename_i xs ys ex ey
    rw [ex] at rx; rw [ey] at ry
    obtain ⟨a, vs, rfl, h1, r1⟩ := rx
    obtain ⟨a2, vs2, rfl, h2, r2⟩ := ry
    cases rv; cases ru
    rw [← hK] at h1 h2
    obtain ⟨its, w1, p1, _⟩ := I.tuple (sb.sqT h1)
    obtain ⟨its2, w2, p2, _⟩ := I.tuple (sb.sqT h2)
    have l1 : its.toArray.size = xs.length := by rw [List.size_toArray, ← w1.length, r1.len]
    have l2 : its2.toArray.size = ys.length := by rw [List.size_toArray, ← w2.length, r2.len]
    cases h3 : eqAll (eqN n) xs ys with
    | none => rw [h3] at h; cases h
    | some c =>
      rw [h3] at h
      cases h
      obtain ⟨e, q1, q2⟩ := eqAll_get h3
      have it := items_eq hf q1 r1 r2 w1 w2
      have q3 : (c && xs.length == ys.length) = ((List.range (min its.toArray.size its2.toArray.size)).all e && its.toArray.size == its2.toArray.size) := by rw [q2, l1, l2]
      exact ⟨fun q => SeqAt.rcIn_tuples p1 p2 hu it (by rw [← q3]; exact q), fun q => Ne.ne_tuples p1 p2 hu it (by rw [← q3]; exact q)⟩
  · rename_i ks ls ex ey
    rw [ex] at rx; rw [ey] at ry
    obtain ⟨a, vs, rfl, h1, r1⟩ := rx
    obtain ⟨a2, vs2, rfl, h2, r2⟩ := ry
    cases rv; cases ru
    obtain ⟨_, ya, va, ka, da⟩ := (sb.rd h1).ok I.hok
    obtain ⟨_, yb, vb, kb, db⟩ := (sb.rd h2).ok I.hok
    have l1 : va.length = ks.length := by rw [← ka.length, r1.len]
    have l2 : vb.length = ls.length := by rw [← kb.length, r2.len]
    split at h
    · rename_i hl
      have e : (va.length == vb.length && b) = b := by rw [l1, l2, hl]; simp
      exact ⟨fun q => PySem.W.keq_eqIn (knd := mixKind X.prog X.w) (r := b) ya yb da db hu (fun _ => hits_eq r2 kb hf r1 ka h) (by rw [e]; exact q), fun q => Ne.ne_dicts (knd := mixKind X.prog X.w) (r := b) ya yb da db hu (fun _ => hits_eq r2 kb hf r1 ka h) (by rw [e]; exact q)⟩
    · rename_i hl
      cases h
      have e : (va.length == vb.length && true) = false := by rw [l1, l2]; simpa using hl
      exact ⟨fun q => PySem.W.keq_eqIn (knd := mixKind X.prog X.w) (r := true) ya yb da db hu (fun z => absurd (l1.symm.trans (z.trans l2)) hl) (by rw [e]; exact q), fun q => Ne.ne_dicts (knd := mixKind X.prog X.w) (r := true) ya yb da db hu (fun z => absurd (l1.symm.trans (z.trans l2)) hl) (by rw [e]; exact q)⟩
  · obtain ⟨_, q1, q2⟩ := eqF_at (A := A) I hK sb hu h rx ry rv ru
    exact ⟨fun q => q1 _ _ _ _ q, fun q => q2 _ _ _ _ q⟩
theorem eqN_at (I : L2.Inv X pins σ H s) (hK : X.K = g.K) (sb : Sub S H) : ∀ (n : Nat) (A : Around), A.units + n < cLine → ∀ (x y : D) (vx vy : V) (v u : Value) (b : Bool), Rep g S x vx → Rep g S y vy → RelV vx v → RelV vy u → eqN n x y = some b → EqIn X.prog X.w A s v u b
  | 0, _, _, _, _, _, _, _, _, _, _, _, _, _, h => by cases h
  | n + 1, A, hu, x, y, vx, vy, v, u, b, rx, ry, rv, ru, h => by
    have step := fun E Q => (eqR_at I hK sb (A := A) (n := n) (by omega) (fun x y vx vy v u c r1 r2 r3 r4 hc => eqN_at I hK sb n A.in1 (by show A.units + 1 + n < cLine; omega) x y vx vy v u c r1 r2 r3 r4 hc) h rx ry rv ru E Q).1
    by_cases hr : ∃ a c, v = .ref a ∧ u = .ref c
    · obtain ⟨a, c, rfl, rfl⟩ := hr
      by_cases e : a = c
      · subst e
        have := relV_inj rv ru
        subst this
        rw [eqN_same I hK sb (n + 1) x y vx b rx ry h]
        exact (SeqAt.EqAt.same _).inModel _ _
      · exact SeqAt.EqIn.of_refs e step
    · have rx' := rx.view
      have ry' := ry.view
      unfold eqN at h
      split at h
      · rename_i ex ey
        rw [ex] at rx'; rw [ey] at ry'
        obtain ⟨a, _, rfl, _⟩ := rx'
        obtain ⟨c, _, rfl, _⟩ := ry'
        exact absurd ⟨a, c, rv, ru⟩ hr
      · rename_i ex ey
        rw [ex] at rx'; rw [ey] at ry'
        obtain ⟨a, _, rfl, _⟩ := rx'
        obtain ⟨c, _, rfl, _⟩ := ry'
        exact absurd ⟨a, c, rv, ru⟩ hr
      · rename_i ex ey
        rw [ex] at rx'; rw [ey] at ry'
        obtain ⟨a, _, rfl, _⟩ := rx'
        obtain ⟨c, _, rfl, _⟩ := ry'
        exact absurd ⟨a, c, rv, ru⟩ hr
      · exact (eqF_at (A := A) I hK sb (by omega) h rx' ry' rv ru).1.inModel _ _
/-! the operators -/
def rEqN (g : Gb) : R2 := fun x y H Q => ∃ S dx dy b, Sub S H ∧ Rep g S dx x ∧ Rep g S dy y ∧ eqN 60 dx dy = some b ∧ Q (.bl b) H
def rNeN (g : Gb) : R2 := fun x y H Q => ∃ S dx dy b, Sub S H ∧ Rep g S dx x ∧ Rep g S dy y ∧ eqN 60 dx dy = some b ∧ Q (.bl (!b)) H
theorem op_eqN (hK : X.K = g.K) (hu : X.A.units + 64 < cLine) : OpR X (compareOp .Eq) (rEqN g) := by
  intro pins s σ H x y v u Q I rv ru h
  obtain ⟨S, dx, dy, b, sb, rx, ry, e, q⟩ := h
  exact (eqR_at I hK sb (A := X.A) (n := 59) (by omega) (fun x y vx vy v u c r1 r2 r3 r4 hc => eqN_at I hK sb 59 X.A.in1 (by show X.A.units + 1 + 59 < cLine; omega) x y vx vy v u c r1 r2 r3 r4 hc) e rx ry rv ru _ _).1 ⟨.bl b, H, I, rfl, q⟩
theorem op_neN (hK : X.K = g.K) (hu : X.A.units + 64 < cLine) : OpR X (compareOp .NotEq) (rNeN g) := by
  intro pins s σ H x y v u Q I rv ru h
  obtain ⟨S, dx, dy, b, sb, rx, ry, e, q⟩ := h
  exact (eqR_at I hK sb (A := X.A) (n := 59) (by omega) (fun x y vx vy v u c r1 r2 r3 r4 hc => eqN_at I hK sb 59 X.A.in1 (by show X.A.units + 1 + 59 < cLine; omega) x y vx vy v u c r1 r2 r3 r4 hc) e rx ry rv ru _ _).2 ⟨.bl (!b), H, I, rfl, q⟩
def dEq : D → D → Option O := fun x y => (eqN 60 x y).map fun b => .sh (.bl b)
def dNe : D → D → Option O := fun x y => (eqN 60 x y).map fun b => .sh (.bl (!b))
theorem os_eqN : OpS g (rEqN g) dEq := fun S H x y dx dy o Q e rx ry hf k => by
  unfold dEq at hf
  cases h : eqN 60 dx dy with
  | none => rw [h] at hf; cases hf
  | some b => rw [h] at hf; cases hf; exact ⟨S, dx, dy, b, e, rx, ry, h, k _ H (New.flat (d := .bl b) e rfl)⟩
theorem os_neN : OpS g (rNeN g) dNe := fun S H x y dx dy o Q e rx ry hf k => by
  unfold dNe at hf
  cases h : eqN 60 dx dy with
  | none => rw [h] at hf; cases hf
  | some b => rw [h] at hf; cases hf; exact ⟨S, dx, dy, b, e, rx, ry, h, k _ H (New.flat (d := .bl (!b)) e rfl)⟩
theorem Cxt.hu64 {X : Cx} {g : Gb} {W : WX} {j : Nat} (c : Cxt X g W j) : X.A.units + 64 < cLine := by have := c.rm.un; omega
section
variable {W : WX} {j : Nat} {a b : Expr} {ma mb : E} {pos : Pos}
theorem pd_eq (C : Cxt X g W j) (ha : PE X a (LE g W ma)) (hb : PE X b (LE g W mb)) : PE X (.Compare a [.Eq] [b] pos) (LE g W (eBin dEq ma mb)) := PE_imp (pe_cmpR (op_eqN C.K C.hu64) ha hb (nomark _)) fun _ _ _ q => le_bin os_eqN q
theorem qd_eq (C : Cxt X g W j) (ha : PE X a (LE g W ma)) (hb : PE X b (LE g W mb)) : PT X (.Compare a [.Eq] [b] pos) (LT g W (eBin dEq ma mb)) := pt_of (op_eqN C.K C.hu64) os_eqN ha hb (nomark _)
theorem qd_ne (C : Cxt X g W j) (ha : PE X a (LE g W ma)) (hb : PE X b (LE g W mb)) : PT X (.Compare a [.NotEq] [b] pos) (LT g W (eBin dNe ma mb)) := pt_of (op_neN C.K C.hu64) os_neN ha hb (nomark _)
end
end
end DL
set_option Elab.async false
set_option linter.all false
set_option maxRecDepth 100000
set_option autoImplicit false
/-! DLA: built-in methods and functions, slices, displays. -/
namespace DL
open PySem PySem.Spec PyProof.Rows L2
section
variable {X : Cx} {g : Gb} {W : WX} {Z : Zn} {S S' H H' : Hp} {τ τ' : List V} {θ θ' : List O} {σ σ' : Sg} {ρ : En} {Q Q' : VK} {m mo ma mb mc : E} {ms : List E} {o oi : O} {v : V} {i j : Nat}
/-! ### methods of texts -/
def MetS (g : Gb) (r : V → List V → Hp → VK → Prop) (f : D → List D → Option O) : Prop := ∀ S H x xs dx ds o (Q : VK), Sub S H → Rep g S dx x → Reps g S ds xs → f dx.view (ds.map D.view) = some o → (∀ v H', New g S H o v H' → Q v H') → r x xs H Q
def eBm (f : D → List D → Option O) (mo : E) (ms : List E) : E := fun ρ => (mo ρ).bind fun o ρ1 => (evs ms ρ1).bind fun os ρ2 => R.of (f o.d.view ((O.ds os).map D.view)) ρ2
/-- the receiver's kind -/
def isT (T : String) : D → Bool
  | .str _ => T == "str"
  | .lst _ => T == "list"
  | .scr _ => T == "list"
  | _ => false
def eTy (T : String) (mo : E) : E := fun ρ => (mo ρ).bind fun o ρ1 => if isT T o.d.view then .ok o ρ1 else .stuck
theorem ty_rel {T : String} {A : List Addr} (sb : Sub S H) : ∀ {o : O} {v : V}, isT T o.d.view = true → RelO g S H o v A → tyV g.K T v H
  | .sh d, v, h, r => by
    have r := r.2.view
    have h : isT T d.view = true := h
    cases hd : d.view with
    | str z => rw [hd] at r h; rw [show v = .str z from r]; exact (by simpa [isT] using h : T = "str")
    | lst xs =>
      rw [hd] at r h
      obtain ⟨a, vs, rfl, ha, _⟩ := r
      exact .inl ⟨by simpa [isT] using h, vs, .inl (.inl (sb.lst ha))⟩
    | scr ns =>
      rw [hd] at r h
      obtain ⟨a, rfl, ha⟩ := r
      exact .inl ⟨by simpa [isT] using h, _, sb.sqL ha⟩
    | _ => rw [hd] at h; cases h
  | .lst os, v, h, r => by
    obtain ⟨l, vs, _, rfl, hl, _⟩ := r
    exact .inl ⟨by simpa [isT, O.d, D.view] using h, vs, .inl (.inl hl)⟩
  | .dct kos, _, h, _ => by cases h
  | .ins c fs, _, h, _ => by cases h
  | .tag n o, v, h, r => ty_rel sb (o := o) h r.2
  | .tup os, _, h, _ => by cases h
theorem le_bm {T : String} {r : V → List V → Hp → VK → Prop} {f : D → List D → Option O} (hs : MetS g r f) (q : LE g W (eBm f (eTy T mo) ms) σ H Q) : tBM g.K T r (LE g W mo) (LA g W ms) σ H Q := by
  obtain ⟨Z, S, τ, θ, ρ, st, post⟩ := q
  refine ⟨Z, S, τ, θ, ρ, st, ?_⟩
  unfold eBm eTy at post
  cases h : mo ρ with
  | stuck => rw [h] at post; exact post.elim
  | exc x ρ1 => rw [h] at post; exact post
  | ok o ρ1 =>
    rw [h] at post
    intro v S1 H1 e1 st1
    by_cases hT : isT T o.d.view = true
    · simp only [DL.R.bind, if_pos hT] at post
      refine ⟨?_, ?_⟩
      · obtain ⟨A, α, hd⟩ := id st1
        obtain ⟨A1, A2, _, _, r2⟩ := hd.tmp.split st.tlen
        exact ty_rel hd.bs.sub hT r2.oneInv
      · have post := PostR.mono e1 post
        refine ⟨Z, S1, _, _, ρ1, st1, ?_⟩
        cases h2 : evs ms ρ1 with
        | stuck => rw [h2] at post; exact post.elim
        | exc x ρ2 =>
          rw [h2] at post
          intro d S2 H2 e2 st2 xa
          obtain ⟨S3, e3, st3, _⟩ := St.pop st2
          exact post d S3 H2 (e2.trans e3) st3 (xa.mono e3)
        | ok os ρ2 =>
          rw [h2] at post
          simp only [RA.bind] at post
          intro vs S2 H2 e2 st2
          obtain ⟨o', hf, post2⟩ := post.of
          have l2 := st2.tlen
          have l0 := st.tlen
          have st2 : St g Z S2 H2 (τ ++ ([v] ++ vs)) (θ ++ ([o] ++ os)) σ ρ2 := by rw [← List.append_assoc, ← List.append_assoc]; exact st2
          have lv : vs.length = os.length := by simp at l2; omega
          obtain ⟨S3, e3, st3, rep⟩ := St.popN (os.length + 1) ([v] ++ vs) ([o] ++ os) (by simp; omega) (by simp) st2
          obtain ⟨v0, rr, ee, r1, r2⟩ := rep
          cases ee
          exact hs S3 H2 v vs _ _ o' Q st3.sub r1 r2 hf fun v' H' n => PostR.fin (PostR.mono (e2.trans e3) post2) (Ex.refl _) st3 n
    · simp only [DL.R.bind, if_neg hT] at post
      exact post.elim
/-- a method that answers a flat value -/
theorem mets_flat {r : V → List V → Hp → VK → Prop} {f : D → List D → Option O} (h : ∀ H x xs dx ds o (Q : VK) S, Rep g S dx x → Reps g S ds xs → f dx ds = some o → ∃ d : D, o = .sh d ∧ d.flat = true ∧ (Q d.val H → r x xs H Q)) : MetS g r f := fun S H x xs dx ds o Q e rx rs hf k => by
  have rs' : Reps g S (ds.map D.view) xs := by
    clear hf
    induction ds generalizing xs with
    | nil => exact rs
    | cons d ds ih => obtain ⟨v, rr, e, a, b⟩ := rs; subst e; exact ⟨v, rr, rfl, a.view, ih _ b⟩
  obtain ⟨d, rfl, hd, hq⟩ := h H x xs _ _ o Q S rx.view rs' hf
  exact hq (k _ H (New.flat e hd))
theorem reps_one {d : D} {xs : List V} (r : Reps g S [d] xs) : ∃ v, xs = [v] ∧ Rep g S d v := by
  obtain ⟨v, rr, e, a, b⟩ := r
  rw [show rr = [] from b] at e
  exact ⟨v, e, a⟩
def strsO (ys : List Str) : O := .lst ((ys.map D.str).map .sh)
variable {a b : Expr} {es : List Expr} {pos apos : Pos} {lv : Nat}
/-! ### slices -/
def prt (lo : Option E) (ρ : En) (k : Option Int → En → R) : R := match lo with
  | none => k none ρ
  | some e => (e ρ).bind fun o ρ1 => match o.d.view with
    | .int i => k (some i) ρ1
    | _ => .stuck
def eSl (f : D → Option Int → Option Int → Option O) (m : E) (lo hi : Option E) : E := fun ρ => (m ρ).bind fun o ρ1 => prt lo ρ1 fun l ρ2 => prt hi ρ2 fun h ρ3 => R.of (f o.d.view l h) ρ3
def LO (g : Gb) (W : WX) : Option E → TO
  | none => tNoPart
  | some e => tPart (LE g W e)
def SlS (g : Gb) (r : V → Option Int → Option Int → Hp → VK → Prop) (f : D → Option Int → Option Int → Option O) : Prop := ∀ S H x dx lo hi o (Q : VK), Sub S H → Rep g S dx x → f dx.view lo hi = some o → (∀ v H', New g S H o v H' → Q v H') → r x lo hi H Q
theorem le_sl {r : V → Option Int → Option Int → Hp → VK → Prop} {f : D → Option Int → Option Int → Option O} {lo hi : Option E} (hs : SlS g r f) (q : LE g W (eSl f m lo hi) σ H Q) : tSl r (LE g W m) (LO g W lo) (LO g W hi) σ H Q := by
  obtain ⟨Z, S, τ, θ, ρ, st, post⟩ := q
  refine step0 st post fun o1 ρ1 v1 S1 H1 e1 st1 post1 => ?_
  -- the parts keep the value held
  have key : ∀ {lo : Option E} {k : Option Int → En → R} {S1 H1 : Hp} {ρ1 : En} {Qo : Option Int → Hp → Prop}, St g Z S1 H1 (τ ++ [v1]) (θ ++ [o1]) σ ρ1 → PostR g W Z S1 τ θ σ (prt lo ρ1 k) Q →
      (∀ l ρ2 S2 H2, Ex S1 S2 → St g Z S2 H2 (τ ++ [v1]) (θ ++ [o1]) σ ρ2 → PostR g W Z S2 τ θ σ (k l ρ2) Q → Qo l H2) → LO g W lo σ H1 Qo := fun {lo k S1 H1 ρ1 Qo} st1 post1 hk => by
    cases lo with
    | none => exact hk none ρ1 S1 H1 (Ex.refl _) st1 post1
    | some e =>
      refine stepN (n := 1) st1 rfl rfl post1 fun o2 ρ2 v2 S2 H2 e2 st2 post2 => ?_
      have st2 : St g Z S2 H2 ((τ ++ [v1]) ++ [v2]) ((θ ++ [o1]) ++ [o2]) σ ρ2 := by rw [List.append_assoc, List.append_assoc]; exact st2
      obtain ⟨S3, e3, st3, r3⟩ := St.pop st2
      cases hv : o2.d.view with
      | int i =>
        rw [hv] at post2
        have r3 := r3.view
        rw [hv] at r3
        exact ⟨i, r3, hk (some i) ρ2 S3 H2 (e2.trans e3) st3 (PostR.mono e3 post2)⟩
      | _ => rw [hv] at post2; exact post2.elim
  refine key st1 post1 fun l ρ2 S2 H2 e2 st2 post2 => key st2 post2 fun h ρ3 S3 H3 e3 st3 post3 => ?_
  obtain ⟨S4, e4, st4, r4⟩ := St.pop st3
  obtain ⟨o', hf, post4⟩ := post3.of
  exact hs S4 H3 v1 o1.d l h o' Q st4.sub r4 hf fun v' H' n => PostR.fin (PostR.mono e4 post4) (Ex.refl _) st4 n
def cutG {α : Type} (xs : List α) (lo hi : Option Int) : List α := (xs.drop (HT.sIx xs.length 0 lo)).take (HT.sIx xs.length xs.length hi - HT.sIx xs.length 0 lo)
theorem cut_rep {ds : List D} {vs : List V} {lo hi : Option Int} (r : Reps g S ds vs) : Reps g S (cutG ds lo hi) (cutV vs lo hi) := by
  unfold cutG cutV
  rw [r.len]
  exact Reps.take _ (Reps.drop _ r)
def dSl : D → Option Int → Option Int → Option O
  | .str z, lo, hi => if z.length ≤ 1000000 then oS (Txt.slice z lo hi) else none
  | .lst ds, lo, hi => some (.lst ((cutG ds lo hi).map .sh))
  | .tup ds, lo, hi => if HT.sIx ds.length 0 lo = 0 ∧ HT.sIx ds.length ds.length hi = ds.length then none else some (.sh (.tup (cutG ds lo hi)))
  | _, _, _ => none
def rSlAny (K : PySem.W.Frag) : V → Option Int → Option Int → Hp → VK → Prop := fun x lo hi H Q => C8.rSlX x lo hi H Q ∨ (rSlL K x lo hi H Q ∨ rSlT K x lo hi H Q)
theorem ss_sl : SlS g (rSlAny g.K) dSl := fun S H x dx lo hi o Q e rx hf k => by
  have rx := rx.view
  unfold dSl at hf
  split at hf
  · rename_i z h1
    rw [h1] at rx
    split at hf
    · rename_i hz
      cases hf
      exact .inl ⟨z, rx, Nat.le_trans hz (show 1000000 ≤ sizeLine by decide), k _ H (New.flat (d := .str _) e rfl)⟩
    · cases hf
  · rename_i ds h1
    rw [h1] at rx
    cases hf
    obtain ⟨a, vs, rfl, ha, ra⟩ := rx
    exact .inr (.inl ⟨a, vs, rfl, .inl (.inl (e.lst ha)), fun p hp => k _ _ (New.lst e (cut_rep ra) hp)⟩)
  · rename_i ds h1
    rw [h1] at rx
    split at hf
    · cases hf
    · rename_i hn
      cases hf
      obtain ⟨a, vs, rfl, ha, ra⟩ := rx
      exact .inr (.inr ⟨a, vs, rfl, e.sqT ha, by rw [ra.len]; exact hn, fun p hp => k _ _ (New.tup e (cut_rep ra) hp)⟩)
  · cases hf
theorem od_none : PO X none (LO g W none) := L2.po_none
theorem od_some {e : Expr} {m : E} (h : PE X e (LE g W m)) : PO X (some e) (LO g W (some m)) := L2.po_some h
theorem pd_sl {lo hi : Option Expr} {ml mh : Option E} {p2 : Pos} (C : Cxt X g W lv) (ha : PE X a (LE g W ma)) (hl : PO X lo (LO g W ml)) (hu : PO X hi (LO g W mh)) : PE X (.Subscript a (.Slice lo hi none p2) pos) (LE g W (eSl dSl ma ml mh)) :=
  PE_imp (pe_slice (SlR.or C8.sl_txt (SlR.or sl_list sl_tup)) ha hl hu) fun _ _ _ q => by
    have := le_sl ss_sl q
    rw [← C.K] at this
    exact this
end
end DL
set_option Elab.async false
set_option linter.all false
set_option maxRecDepth 100000
set_option autoImplicit false
/-! DLB: sorting, conversions, dicts' methods, isinstance. -/
namespace DL
open PySem PySem.Spec PyProof.Rows L2
/-! sorted -/
theorem sorted_unique {α : Type} {le : α → α → Prop} (anti : ∀ a b, le a b → le b a → a = b) : ∀ {xs ys : List α}, xs.Perm ys → xs.Pairwise le → ys.Pairwise le → xs = ys
  | [], ys, p, _, _ => p.nil_eq
  | x :: xs, [], p, _, _ => p.symm.nil_eq.symm
  | x :: xs, y :: ys, p, h1, h2 => by
    obtain ⟨a1, b1⟩ := List.pairwise_cons.mp h1
    obtain ⟨a2, b2⟩ := List.pairwise_cons.mp h2
    have e : x = y := by
      by_cases z : x = y
      · exact z
      · have m1 : x ∈ ys := by
          rcases List.mem_cons.mp (p.subset List.mem_cons_self) with q | q
          · exact absurd q z
          · exact q
        have m2 : y ∈ xs := by
          rcases List.mem_cons.mp (p.symm.subset List.mem_cons_self) with q | q
          · exact absurd q.symm z
          · exact q
        exact anti _ _ (a1 _ m2) (a2 _ m1)
    subst e
    rw [sorted_unique anti (List.perm_cons _ |>.mp p) b1 b2]
def leS (a b : Str) : Bool := !ltCps b.cps.toList a.cps.toList
theorem leS_iff {a b : Str} : leS a b = true ↔ ¬ b.cps.toList < a.cps.toList := by
  unfold leS
  rw [ltCps_eq]
  simp
theorem leS_total (a b : Str) : (leS a b || leS b a) = true := by
  rw [Bool.or_eq_true, leS_iff, leS_iff]
  by_cases h : b.cps.toList < a.cps.toList
  · exact .inr (List.lt_asymm h)
  · exact .inl h
theorem leS_trans (a b c : Str) (h1 : leS a b = true) (h2 : leS b c = true) : leS a c = true := by
  rw [leS_iff] at *
  exact List.le_trans (α := Nat) (l₁ := a.cps.toList) (l₂ := b.cps.toList) (l₃ := c.cps.toList) h1 h2
theorem leS_anti (a b : Str) (h1 : leS a b = true) (h2 : leS b a = true) : a = b := by
  rw [leS_iff] at *
  have : a.cps.toList = b.cps.toList := List.le_antisymm (α := Nat) h1 h2
  obtain ⟨x⟩ := a
  obtain ⟨y⟩ := b
  congr 1
  exact Array.toList_inj.mp this
def srtS (xs : List Str) : List Str := xs.mergeSort leS
theorem srtS_perm (xs : List Str) : (srtS xs).Perm xs := List.mergeSort_perm xs leS
theorem srtS_sorted (xs : List Str) : (srtS xs).Pairwise fun a b => leS a b = true := List.pairwise_mergeSort leS_trans leS_total xs
section
variable {X : Cx} {g : Gb} {W : WX} {Z : Zn} {S S' H H' : Hp} {τ τ' : List V} {θ θ' : List O} {σ σ' : Sg} {ρ : En} {Q Q' : VK} {m mo ma mb mc : E} {ms : List E} {o oi : O} {v : V} {i j : Nat}
theorem CallR_or {f : Value} {r r' : List V → Hp → VK → Prop} (h : CallR X f r) (h' : CallR X f r') : CallR X f (fun xs H Q => r xs H Q ∨ r' xs H Q) := fun pins s σ H xs us Q I rv q => q.elim (h pins s σ H xs us Q I rv) (h' pins s σ H xs us Q I rv)
/-! list, dict, tuple of a value -/
def dList : List D → Option O
  | [.lst ds] => some (.lst (ds.map .sh))
  | [.tup ds] => some (.lst (ds.map .sh))
  | [.dct kds] => some (.lst ((kds.map fun p => keyDD p.1).map .sh))
  | _ => none
/-- pairs, as a dict takes them -/
def pairsOf : List D → Option (List (Key × D))
  | [] => some []
  | d :: ds => match d.view with
    | .tup [a, b] => match keyD a.view with
      | some k => (pairsOf ds).map fun r => (k, b) :: r
      | none => none
    | _ => none
def mergeD (kds more : List (Key × D)) : List (Key × D) := more.foldl (fun acc kv => putD acc kv.1 kv.2) kds
def dDict : List D → Option O
  | [.dct kds] => some (.dct (kds.map fun p => (p.1, .sh p.2)))
  | [.lst ds] => (pairsOf ds).map fun kds => .dct ((mergeD [] kds).map fun p => (p.1, .sh p.2))
  | _ => none
end
end DL
set_option Elab.async false
set_option linter.all false
set_option maxRecDepth 100000
set_option autoImplicit false
/-! DLC: dict(..), displays, get, isinstance, reads of what one owns, pairs of names. -/
namespace DL
open PySem PySem.Spec PyProof.Rows L2
def tyN : D → Option String
  | .non => some "NoneType"
  | .bl _ => some "bool"
  | .int _ => some "int"
  | .str _ => some "str"
  | .lst _ => some "list"
  | .tup _ => some "tuple"
  | .dct _ => some "dict"
  | _ => none
theorem kit_NoneType_bool (K : PySem.W.Frag) : PySem.W.kitOne K (.type "NoneType") (.type "bool") = some false := by kernel_rfl
theorem kit_NoneType_int (K : PySem.W.Frag) : PySem.W.kitOne K (.type "NoneType") (.type "int") = some false := by kernel_rfl
theorem kit_NoneType_str (K : PySem.W.Frag) : PySem.W.kitOne K (.type "NoneType") (.type "str") = some false := by kernel_rfl
theorem kit_NoneType_list (K : PySem.W.Frag) : PySem.W.kitOne K (.type "NoneType") (.type "list") = some false := by kernel_rfl
theorem kit_NoneType_tuple (K : PySem.W.Frag) : PySem.W.kitOne K (.type "NoneType") (.type "tuple") = some false := by kernel_rfl
theorem kit_NoneType_dict (K : PySem.W.Frag) : PySem.W.kitOne K (.type "NoneType") (.type "dict") = some false := by kernel_rfl
theorem kit_bool_bool (K : PySem.W.Frag) : PySem.W.kitOne K (.type "bool") (.type "bool") = some true := by kernel_rfl
theorem kit_bool_int (K : PySem.W.Frag) : PySem.W.kitOne K (.type "bool") (.type "int") = some true := by kernel_rfl
theorem kit_bool_str (K : PySem.W.Frag) : PySem.W.kitOne K (.type "bool") (.type "str") = some false := by kernel_rfl
theorem kit_bool_list (K : PySem.W.Frag) : PySem.W.kitOne K (.type "bool") (.type "list") = some false := by kernel_rfl
theorem kit_bool_tuple (K : PySem.W.Frag) : PySem.W.kitOne K (.type "bool") (.type "tuple") = some false := by kernel_rfl
theorem kit_bool_dict (K : PySem.W.Frag) : PySem.W.kitOne K (.type "bool") (.type "dict") = some false := by kernel_rfl
theorem kit_int_bool (K : PySem.W.Frag) : PySem.W.kitOne K (.type "int") (.type "bool") = some false := by kernel_rfl
theorem kit_int_int (K : PySem.W.Frag) : PySem.W.kitOne K (.type "int") (.type "int") = some true := by kernel_rfl
theorem kit_int_str (K : PySem.W.Frag) : PySem.W.kitOne K (.type "int") (.type "str") = some false := by kernel_rfl
theorem kit_int_list (K : PySem.W.Frag) : PySem.W.kitOne K (.type "int") (.type "list") = some false := by kernel_rfl
theorem kit_int_tuple (K : PySem.W.Frag) : PySem.W.kitOne K (.type "int") (.type "tuple") = some false := by kernel_rfl
theorem kit_int_dict (K : PySem.W.Frag) : PySem.W.kitOne K (.type "int") (.type "dict") = some false := by kernel_rfl
theorem kit_str_bool (K : PySem.W.Frag) : PySem.W.kitOne K (.type "str") (.type "bool") = some false := by kernel_rfl
theorem kit_str_int (K : PySem.W.Frag) : PySem.W.kitOne K (.type "str") (.type "int") = some false := by kernel_rfl
theorem kit_str_str (K : PySem.W.Frag) : PySem.W.kitOne K (.type "str") (.type "str") = some true := by kernel_rfl
theorem kit_str_list (K : PySem.W.Frag) : PySem.W.kitOne K (.type "str") (.type "list") = some false := by kernel_rfl
theorem kit_str_tuple (K : PySem.W.Frag) : PySem.W.kitOne K (.type "str") (.type "tuple") = some false := by kernel_rfl
theorem kit_str_dict (K : PySem.W.Frag) : PySem.W.kitOne K (.type "str") (.type "dict") = some false := by kernel_rfl
theorem kit_list_bool (K : PySem.W.Frag) : PySem.W.kitOne K (.type "list") (.type "bool") = some false := by kernel_rfl
theorem kit_list_int (K : PySem.W.Frag) : PySem.W.kitOne K (.type "list") (.type "int") = some false := by kernel_rfl
theorem kit_list_str (K : PySem.W.Frag) : PySem.W.kitOne K (.type "list") (.type "str") = some false := by kernel_rfl
theorem kit_list_list (K : PySem.W.Frag) : PySem.W.kitOne K (.type "list") (.type "list") = some true := by kernel_rfl
theorem kit_list_tuple (K : PySem.W.Frag) : PySem.W.kitOne K (.type "list") (.type "tuple") = some false := by kernel_rfl
theorem kit_list_dict (K : PySem.W.Frag) : PySem.W.kitOne K (.type "list") (.type "dict") = some false := by kernel_rfl
theorem kit_tuple_bool (K : PySem.W.Frag) : PySem.W.kitOne K (.type "tuple") (.type "bool") = some false := by kernel_rfl
theorem kit_tuple_int (K : PySem.W.Frag) : PySem.W.kitOne K (.type "tuple") (.type "int") = some false := by kernel_rfl
theorem kit_tuple_str (K : PySem.W.Frag) : PySem.W.kitOne K (.type "tuple") (.type "str") = some false := by kernel_rfl
theorem kit_tuple_list (K : PySem.W.Frag) : PySem.W.kitOne K (.type "tuple") (.type "list") = some false := by kernel_rfl
theorem kit_tuple_tuple (K : PySem.W.Frag) : PySem.W.kitOne K (.type "tuple") (.type "tuple") = some true := by kernel_rfl
theorem kit_tuple_dict (K : PySem.W.Frag) : PySem.W.kitOne K (.type "tuple") (.type "dict") = some false := by kernel_rfl
theorem kit_dict_bool (K : PySem.W.Frag) : PySem.W.kitOne K (.type "dict") (.type "bool") = some false := by kernel_rfl
theorem kit_dict_int (K : PySem.W.Frag) : PySem.W.kitOne K (.type "dict") (.type "int") = some false := by kernel_rfl
theorem kit_dict_str (K : PySem.W.Frag) : PySem.W.kitOne K (.type "dict") (.type "str") = some false := by kernel_rfl
theorem kit_dict_list (K : PySem.W.Frag) : PySem.W.kitOne K (.type "dict") (.type "list") = some false := by kernel_rfl
theorem kit_dict_tuple (K : PySem.W.Frag) : PySem.W.kitOne K (.type "dict") (.type "tuple") = some false := by kernel_rfl
theorem kit_dict_dict (K : PySem.W.Frag) : PySem.W.kitOne K (.type "dict") (.type "dict") = some true := by kernel_rfl
def isaB (t T : String) : Option Bool := if T ∈ ["bool", "int", "str", "list", "tuple", "dict"] then some (t == T || (t == "bool" && T == "int")) else none
theorem kit_isa {K : PySem.W.Frag} {t T : String} {b : Bool} (ht : t ∈ ["NoneType", "bool", "int", "str", "list", "tuple", "dict"]) (h : isaB t T = some b) : PySem.W.kitOne K (.type t) (.type T) = some b := by
  unfold isaB at h
  split at h
  · rename_i hT
    cases h
    simp only [List.mem_cons, List.not_mem_nil, or_false] at ht hT
    rcases ht with rfl | rfl | rfl | rfl | rfl | rfl | rfl <;> rcases hT with rfl | rfl | rfl | rfl | rfl | rfl
    · exact kit_NoneType_bool K
    · exact kit_NoneType_int K
    · exact kit_NoneType_str K
    · exact kit_NoneType_list K
    · exact kit_NoneType_tuple K
    · exact kit_NoneType_dict K
    · exact kit_bool_bool K
    · exact kit_bool_int K
    · exact kit_bool_str K
    · exact kit_bool_list K
    · exact kit_bool_tuple K
    · exact kit_bool_dict K
    · exact kit_int_bool K
    · exact kit_int_int K
    · exact kit_int_str K
    · exact kit_int_list K
    · exact kit_int_tuple K
    · exact kit_int_dict K
    · exact kit_str_bool K
    · exact kit_str_int K
    · exact kit_str_str K
    · exact kit_str_list K
    · exact kit_str_tuple K
    · exact kit_str_dict K
    · exact kit_list_bool K
    · exact kit_list_int K
    · exact kit_list_str K
    · exact kit_list_list K
    · exact kit_list_tuple K
    · exact kit_list_dict K
    · exact kit_tuple_bool K
    · exact kit_tuple_int K
    · exact kit_tuple_str K
    · exact kit_tuple_list K
    · exact kit_tuple_tuple K
    · exact kit_tuple_dict K
    · exact kit_dict_bool K
    · exact kit_dict_int K
    · exact kit_dict_str K
    · exact kit_dict_list K
    · exact kit_dict_tuple K
    · exact kit_dict_dict K
  · cases h
section
variable {X : Cx} {g : Gb} {W : WX} {Z : Zn} {S S' H H' : Hp} {τ τ' : List V} {θ θ' : List O} {σ σ' : Sg} {ρ : En} {Q Q' : VK} {m mo ma mb mc : E} {ms : List E} {o oi : O} {v : V} {i j : Nat}
theorem tyx_of {d : D} {t : String} (sb : Sub S H) (h : tyN d = some t) (r : Rep g S d v) : TyX g.K H v (.type t) := by
  unfold tyN at h
  split at h <;> first | (cases h; done) | cases h
  · rw [show v = .non from r]; exact .base .non
  · rw [show v = .bl _ from r]; exact .base (.bl _)
  · rw [show v = .int _ from r]; exact .base (.int _)
  · rw [show v = .str _ from r]; exact .base (.str _)
  · obtain ⟨a, vs, rfl, ha, _⟩ := r; exact .base (.lst (sb.lst ha))
  · obtain ⟨a, vs, rfl, ha, _⟩ := r
    rcases sb.sqT ha with q | ⟨o, its, n, q1, q2, _⟩
    · rcases q with q | ⟨o, q⟩
      · exact .base (.tup q)
      · exact .fTuple q
    · exact .kTuple q1 q2
  · obtain ⟨a, kvs, rfl, ha, _⟩ := r
    rcases sb.rd ha with q | ⟨o, q⟩
    · exact .base (.dK q)
    · exact .fDict q
theorem tyN_mem {d : D} {t : String} (h : tyN d = some t) : t ∈ ["NoneType", "bool", "int", "str", "list", "tuple", "dict"] := by
  unfold tyN at h
  split at h <;> cases h <;> simp
def tysOf : List D → Option (List String)
  | [] => some []
  | .op (.ty T) :: r => (tysOf r).map fun l => T :: l
  | _ :: _ => none
def isaAny (t : String) : List String → Option Bool
  | [] => some false
  | T :: r => match isaB t T with
    | some true => some true
    | some false => isaAny t r
    | none => none
def dIsi : List D → Option O
  | [d, .op (.ty T)] => (tyN d).bind fun t => (isaB t T).bind fun b => oB b
  | [d, .tup ds] => (tyN d).bind fun t => (tysOf ds).bind fun l => (isaAny t l).bind fun b => oB b
  | _ => none
theorem tysOf_rep : ∀ {ds : List D} {vs : List V} {l : List String}, tysOf ds = some l → Reps g S ds vs → Paired ClsV vs (l.map Value.type)
  | [], vs, l, h, r => by cases h; rw [show vs = [] from r]; exact .nil
  | d :: ds, vs, l, h, ⟨v, rr, e, a, r⟩ => by
    subst e
    unfold tysOf at h
    split at h <;> rename_i heq
    · cases heq
    · cases heq
      cases h2 : tysOf ds with
      | none => rw [h2] at h; cases h
      | some l2 =>
        rw [h2] at h
        cases h
        rw [show v = .ty _ from a]
        exact .cons (.ty _) (tysOf_rep h2 r)
    · cases h
theorem isaAny_kit {K : PySem.W.Frag} {t : String} (ht : t ∈ ["NoneType", "bool", "int", "str", "list", "tuple", "dict"]) : ∀ {l : List String} {b : Bool}, isaAny t l = some b → PySem.W.kitAny K (.type t) (l.map Value.type) = some b
  | [], b, h => by cases h; rfl
  | T :: l, b, h => by
    unfold isaAny at h
    rw [List.map_cons]
    unfold PySem.W.kitAny
    cases hb : isaB t T with
    | none => rw [hb] at h; cases h
    | some c =>
      rw [hb] at h
      rw [kit_isa ht hb]
      cases c with
      | true => cases h; rfl
      | false => exact isaAny_kit ht h
def rIsiS (K : PySem.W.Frag) : List V → Hp → VK → Prop := fun xs H Q => ∃ (x : V) (tp : Addr) (cs : List V) (t : Value) (us : List Value) (b : Bool), xs = [x, .ref tp] ∧ SqT K H tp cs ∧ Paired ClsV cs us ∧ TyX K H x t ∧ PySem.W.kitAny K t us = some b ∧ Q (.bl b) H
theorem call_isiS : CallR X (.builtin "isinstance") (rIsiS X.K) := by
  intro pins s σ H xs us Q I r h
  obtain ⟨x, tp, cs, t, ws, b, rfl, hT, k, ty, e, q⟩ := h
  obtain ⟨u1, u2, rfl, r1, r2⟩ := vals2 r
  cases (show u2 = Value.ref tp from r2)
  obtain ⟨P, Z, p, hx⟩ := kit_of I r1 ty
  obtain ⟨its, rv, ⟨o, h1, h2, n, h3⟩, _⟩ := I.tuple hT
  have e3 := ClsV.all k rv
  subst e3
  obtain ⟨oc, od, dt, sl⟩ := o
  simp only at h2 h3
  subst h2 h3
  exact PySem.W.kia_tup Z I.kIn p h1 e hx fun tk => ⟨.bl b, H, I.tok tk, rfl, q⟩
def rIsAny (K : PySem.W.Frag) : List V → Hp → VK → Prop := fun xs H Q => rIsi K xs H Q ∨ rIsiS K xs H Q
theorem call_isAny : CallR X (.builtin "isinstance") (rIsAny X.K) := CallR_or call_isi call_isiS
theorem cs_isi : CallS g (rIsAny g.K) dIsi := callS_of fun S H xs ds o Q e r hf k => by
  unfold dIsi at hf
  split at hf
  · rename_i d T
    cases ht : tyN d with
    | none => rw [ht] at hf; cases hf
    | some t =>
      rw [ht] at hf
      dsimp only [Option.bind] at hf
      cases hb : isaB t T with
      | none => rw [hb] at hf; cases hf
      | some b =>
        rw [hb] at hf
        cases hf
        obtain ⟨v, v2, rfl, r1, r2⟩ := reps2 r
        exact .inl ⟨v, .ty T, .type t, .type T, b, by rw [show v2 = .ty T from r2], .ty T, tyx_of e ht r1, kit_isa (tyN_mem ht) hb, k _ H (New.flat (d := .bl b) e rfl)⟩
  · rename_i d ts
    cases ht : tyN d with
    | none => rw [ht] at hf; cases hf
    | some t =>
      rw [ht] at hf
      dsimp only [Option.bind] at hf
      cases hl : tysOf ts with
      | none => rw [hl] at hf; cases hf
      | some l =>
        rw [hl] at hf
        dsimp only [Option.bind] at hf
        cases hb : isaAny t l with
        | none => rw [hb] at hf; cases hf
        | some b =>
          rw [hb] at hf
          cases hf
          obtain ⟨v, v2, rfl, r1, r2⟩ := reps2 r
          obtain ⟨a, vs, rfl, ha, ra⟩ := r2
          exact .inr ⟨v, a, vs, .type t, _, b, rfl, e.sqT ha, tysOf_rep hl ra, tyx_of e ht r1, isaAny_kit (tyN_mem ht) hb, k _ H (New.flat (d := .bl b) e rfl)⟩
  · cases hf
/-! dict(x) -/
/-! numbers -/
/-! d.get(k), d.get(k, c) -/
def eGet2 (mo mk mc : E) : E := fun ρ => (mo ρ).bind fun o ρ1 => match o.d.view with
  | .dct kds => (mk ρ1).bind fun k ρ2 => (mc ρ2).bind fun c ρ3 => match keyD k.d.view with
    | some kk => .ok (.sh ((lookK kk kds).getD c.d)) ρ3
    | none => .stuck
  | _ => .stuck
/-! displays -/
def eDct0 : E := fun ρ => .ok (.dct []) ρ
theorem le_dct0 (q : LE g W eDct0 σ H Q) : tDNewK σ H Q := by
  obtain ⟨Z, S, τ, θ, ρ, st, post⟩ := q
  exact fun p hp => PostR.fin post (Ex.refl _) st (New.dct (kds := []) (kvs := []) st.sub rfl hp)
def flatV : List (V × V) → List V
  | [] => []
  | (k, v) :: r => k :: v :: flatV r
theorem LE.mono {Q Q' : VK} (h : LE g W m σ H Q) (k : ∀ v H1, Q v H1 → Q' v H1) : LE g W m σ H Q' := by
  obtain ⟨Z, S, τ, θ, ρ, st, post⟩ := h
  refine ⟨Z, S, τ, θ, ρ, st, ?_⟩
  cases h : m ρ with
  | ok o ρ1 => rw [h] at post; exact fun v S' H' e st' => k _ _ (post v S' H' e st')
  | exc x ρ1 => rw [h] at post; exact post
  | stuck => rw [h] at post; exact post
theorem LA.mono {Q Q' : List V → Hp → Prop} (h : LA g W ms σ H Q) (k : ∀ v H1, Q v H1 → Q' v H1) : LA g W ms σ H Q' := by
  obtain ⟨Z, S, τ, θ, ρ, st, post⟩ := h
  refine ⟨Z, S, τ, θ, ρ, st, ?_⟩
  cases h : evs ms ρ with
  | ok o ρ1 => rw [h] at post; exact fun v S' H' e st' => k _ _ (post v S' H' e st')
  | exc x ρ1 => rw [h] at post; exact post
  | stuck => rw [h] at post; exact post
/-! x, y = a, b with plain names -/
def sPar (i j : Nat) (ma mb : E) : Sm := fun ρ => match evs [ma, mb] ρ with
  | .ok [o1, o2] ρ1 => match ρ1[i]?, ρ1[j]? with
    | some (.b _), _ => .stuck
    | _, some (.b _) => .stuck
    | some _, some _ => .next ((ρ1.set j (.v o2)).set i (.v o1))
    | _, _ => .stuck
  | .ok _ _ => .stuck
  | .exc x ρ1 => .exc x ρ1
  | .stuck => .stuck
theorem ls_par {D : Ends} (hij : i ≠ j) (q : LS g W (sPar i j ma mb) D σ H) : tPar i j (LA g W [ma, mb]) D σ H := by
  obtain ⟨Z, S, ρ, st, post⟩ := q
  refine ⟨Z, S, [], [], ρ, st, ?_⟩
  unfold sPar at post
  cases h : evs [ma, mb] ρ with
  | stuck => rw [h] at post; exact post.elim
  | exc x ρ1 => rw [h] at post; exact fun d S1 H1 e1 st1 xa => post d σ S1 H1 e1 st1 xa
  | ok os ρ1 =>
    rw [h] at post
    have lo := evs_len h
    intro vs S1 H1 e1 st1
    have l1 := st1.tlen
    obtain ⟨o1, o2, rfl⟩ : ∃ o1 o2, os = [o1, o2] := by
      match os, lo with
      | [a, b], _ => exact ⟨a, b, rfl⟩
    obtain ⟨v1, v2, rfl⟩ : ∃ v1 v2, vs = [v1, v2] := by
      have : vs.length = 2 := by simpa using l1
      match vs, this with
      | [a, b], _ => exact ⟨a, b, rfl⟩
    refine ⟨v1, v2, rfl, ?_⟩
    dsimp only at post
    have st1 : St g Z S1 H1 ([v1] ++ [v2]) ([o1] ++ [o2]) σ ρ1 := st1
    split at post
    · exact post.elim
    · exact post.elim
    · rename_i s1 s2 h1 h2 n1 n2
      have il := (List.getElem?_eq_some_iff.mp n1).1
      have jl := (List.getElem?_eq_some_iff.mp n2).1
      have st2 := St.store (i := j) (τ := [v1]) (θ := [o1]) st1 jl fun o' z => by
        rw [n2] at z
        cases z
        exact h2 o' rfl
      have st3 := St.store (i := i) (τ := []) (θ := []) st2 (by rw [List.length_set]; exact il) fun o' z => by
        rw [List.getElem?_set_ne (Ne.symm hij)] at z
        rw [n1] at z
        cases z
        exact h1 o' rfl
      rw [List.set_comm _ _ hij]
      exact post _ S1 H1 e1 st3
    · exact post.elim
end
end DL
set_option Elab.async false
set_option linter.all false
set_option maxRecDepth 100000
set_option autoImplicit false
/-! DLD: reads of what one owns (nothing is shared by them), wrappers. -/
namespace DL
open PySem PySem.Spec PyProof.Rows L2
section
variable {X : Cx} {g : Gb} {W : WX} {Z : Zn} {S S' S3 H H' : Hp} {τ τ' : List V} {θ θ' : List O} {σ σ' : Sg} {ρ : En} {Q Q' : VK} {m mo ma mb mc : E} {ms : List E} {o oi : O} {v : V} {i j : Nat}
/-- nothing of it stands elsewhere -/
def flatO : O → Bool
  | .sh d => d.flat
  | .lst os => os.all fun o => match o with | .sh d => d.flat | _ => false
  | .dct kos => kos.all fun p => match p.2 with | .sh d => d.flat | _ => false
  | _ => false
def peekD (i : Nat) (ρ : En) : Option D := (slO (ρ.getD i .no)).map O.d
/-- the result if it is flat -/
def R.fl (oo : Option O) : E := fun ρ => match oo with
  | some o => if flatO o then .ok o ρ else .stuck
  | none => .stuck
/-- f(x), x a slot's -/
def eCBP (f : List D → Option O) (i : Nat) : E := fun ρ => match peekD i ρ with
  | some d => R.fl (f [d.view]) ρ
  | none => .stuck
/-- e op x -/
def eBinPR (f : D → D → Option O) (ma : E) (i : Nat) : E := fun ρ => (ma ρ).bind fun o1 ρ2 => match peekD i ρ2 with
  | some d => R.fl (f o1.d.view d.view) ρ2
  | none => .stuck
/-- x.get(k, c) -/
def eGetP2 (i : Nat) (mk mc : E) : E := fun ρ => match peekD i ρ with
  | some (.dct _) => (mk ρ).bind fun k ρ2 => (mc ρ2).bind fun c ρ3 => match peekD i ρ3 with
    | some (.dct kds) => match keyD k.d.view with
      | some kk => R.fl (some (.sh ((lookK kk kds).getD c.d))) ρ3
      | none => .stuck
    | _ => .stuck
  | _ => .stuck
/-! x.pop(k), x a dict -/
def popK (k : Key) (kos : List (Key × O)) : List (Key × O) := kos.filter fun p => decide (p.1 ≠ k)
theorem RelOK.drop {k : Key} : ∀ {kos : List (Key × O)} {kvs : List (Key × V)} {A : List Addr}, RelOK g S H kos kvs A → A.Nodup → ∃ A', RelOK g S H (popK k kos) (dropK kvs k) A' ∧ A'.Nodup ∧ ∀ a ∈ A', a ∈ A
  | [], _, _, ⟨e1, e2⟩, _ => by subst e1 e2; exact ⟨[], ⟨rfl, rfl⟩, List.nodup_nil, fun _ m => m⟩
  | (k0, o) :: kos, _, _, ⟨v, r, A1, A2, e, eA, x, y⟩, nd => by
    subst e eA
    obtain ⟨n1, n2, n3⟩ := List.nodup_append.mp nd
    obtain ⟨A', y', nd', sub⟩ := RelOK.drop (k := k) y n2
    by_cases z : k0 = k
    · refine ⟨A', ?_, nd', fun a m => List.mem_append_right _ (sub a m)⟩
      have e1 : popK k ((k0, o) :: kos) = popK k kos := by simp [popK, z]
      have e2 : dropK ((k0, v) :: r) k = dropK r k := by simp [dropK, z]
      rw [e1, e2]; exact y'
    · refine ⟨A1 ++ A', ?_, List.nodup_append.mpr ⟨n1, nd', fun a m b m2 => n3 a m b (sub b m2)⟩, fun a m => ?_⟩
      · have e1 : popK k ((k0, o) :: kos) = (k0, o) :: popK k kos := by simp [popK, z]
        have e2 : dropK ((k0, v) :: r) k = (k0, v) :: dropK r k := by simp [dropK, z]
        rw [e1, e2]; exact ⟨v, _, A1, A', rfl, rfl, x, y'⟩
      · rcases List.mem_append.mp m with m | m
        · exact List.mem_append_left _ m
        · exact List.mem_append_right _ (sub a m)
def eDPop (i : Nat) (mk : E) : E := fun ρ => match slO (ρ.getD i .no) with
  | some (.dct _) => (mk ρ).bind fun k ρ2 => match slO (ρ2.getD i .no) with
    | some (.dct kos) => match keyD k.d.view with
      | some kk => match lkO kk kos with
        | some (.sh d) => .ok (.sh d) (ρ2.set i ((ρ2.getD i .no).re (.dct (popK kk kos))))
        | _ => .stuck
      | none => .stuck
    | _ => .stuck
  | _ => .stuck
/-- x.pop(e), a list or a dict -/
def ePopX (i : Nat) (m : E) : E := fun ρ => match slO (ρ.getD i .no) with
  | some (.dct _) => eDPop i m ρ
  | _ => ePopAt i m ρ
end
end DL
set_option Elab.async false
set_option linter.all false
set_option maxRecDepth 100000
set_option autoImplicit false
/-! DLX: wrappers. -/
namespace DL
open PySem PySem.Spec PyProof.Rows L2
section
variable {X : Cx} {g : Gb} {W : WX} {lv : Nat} {a b c : Expr} {ma mb mc mo : E} {ms : List E} {es : List Expr} {pos apos : Pos} {i j : Nat}
theorem bootX_isinstance : bootBuiltins "isinstance" = some (.builtin "isinstance") := by decide +kernel
theorem pd_isinstance {p : Pos} (C : Cxt X g W lv) (hm : X.mg "isinstance" = none) (ha : PA X (a :: es) (LA g W ms)) (hg : Gl X "isinstance" := by rfl) (he : starEach (a :: es) X.env = (false, eval a X.env) :: starEach es X.env := by rfl) (hpl : (backTo pos (starEach es X.env)).any (·.1) = false := by rfl) :
    PE X (.Call (.Name "isinstance" p) (a :: es) [] pos) (LE g W (eCB dIsi ms)) := PE_imp (pe_callB call_isAny hg hm bootX_isinstance ha (he := he) (hpl := hpl)) fun _ _ _ q => by first | exact le_callB cs_isi q | (rw [C.K]; exact le_callB cs_isi q)
/-! displays -/
theorem pd_dct0 : PE X (.Dict [] [] pos) (LE g W eDct0) := PE_imp pe_dnewK fun _ _ _ q => le_dct0 q
/-! pairs of names -/
theorem sd_par {x y : Str} {px py pt : Pos} {kt k2 : Nat} {pt2 : Pos} (C : Cxt X g W lv) (i j : Nat) (ha : PA X [a, b] (LA g W [ma, mb])) (hi : X.N[i]? = some x := by rfl) (hj : X.N[j]? = some y := by rfl) (hij : i ≠ j := by decide) (hx : X.env.scope.names.lookup x = some .local := by rfl) (hy : X.env.scope.names.lookup y = some .local := by rfl)
    (hw : swappedStores [.Tuple [.Name x px, .Name y py] kt pt] (.Tuple [a, b] k2 pt2) X.env = pure (some [x, y]) := by rfl) (hs : swapsWithSole [.Tuple [.Name x px, .Name y py] kt pt] (.Tuple [a, b] k2 pt2) pos.line X.env = pure false := by rfl) :
    PS X (.Assign [.Tuple [.Name x px, .Name y py] kt pt] (.Tuple [a, b] k2 pt2) pos) (LS g W (sPar i j ma mb)) := PS_imp (ps_par C.calm C.nd hi hj hij hx hy ha hw hs) fun _ _ _ q => ls_par hij q
end
end DL
set_option Elab.async false
set_option linter.all false
set_option maxRecDepth 100000
set_option autoImplicit false
/-! DLY: more statements; defs with a generator expression. -/
namespace DL
open PySem PySem.Spec PyProof.Rows L2
theorem bootT_int : bootBuiltins "int" = some (.type "int") := by decide +kernel
theorem bootT_str : bootBuiltins "str" = some (.type "str") := by decide +kernel
theorem bootT_bool : bootBuiltins "bool" = some (.type "bool") := by decide +kernel
theorem bootT_list : bootBuiltins "list" = some (.type "list") := by decide +kernel
section
variable {X : Cx} {g : Gb} {W : WX} {Z : Zn} {S S' S3 H H' : Hp} {τ τ' : List V} {θ θ' : List O} {σ σ' : Sg} {ρ : En} {Q Q' : VK} {m mo ma mb mc : E} {ms : List E} {o oi : O} {v : V} {i j l lv : Nat} {a b c : Expr} {pos : Pos}
/-! what is never reached -/
/-! (..) = e -/
def sAsg (m : E) (tg : Tg) : Sm := fun ρ => (m ρ).toO fun o ρ1 => match tg o.d ρ1 with
  | some ρ2 => .next ρ2
  | none => .stuck
theorem ls_asg {D : Ends} {gr : TG} {tg : Tg} (ht : TgS g gr tg) (q : LS g W (sAsg m tg) D σ H) : tAsg (LE g W m) gr D σ H := by
  obtain ⟨Z, S, ρ, st, post⟩ := q
  refine sstep st post fun o1 ρ1 v1 S1 H1 e1 st1 post1 => ?_
  obtain ⟨S2, e2, st2, r⟩ := St.pop (τ := []) (θ := []) st1
  split at post1
  · rename_i ρ2 h
    exact ht Z S2 H1 σ ρ1 o1.d v1 ρ2 _ st2 r h fun σ' st' => post1 σ' S2 H1 e2 st'
  · exact post1.elim
theorem sd_asg {tge : Expr} {t : TD} (C : Cxt X g W lv) (ha : PE X a (LE g W ma)) (hg : PG X tge (t.gr g.K)) (hs : swapsWithSole [tge] a pos.line X.env = pure false := by rfl) (hw : swappedStores [tge] a X.env = pure none := by rfl)
    (h1 : (assignEach [tge] X.env).map (·.2) = [assign tge X.env] := by rfl) : PS X (.Assign [tge] a pos) (LS g W (sAsg ma t.tg)) := PS_imp (ps_asg ha hg hs hw h1) fun _ _ _ q => ls_asg (TD.v t (TD.okI t)).s q
/-! x, y, z = a, b, c -/
end
/-! name = {k: v for ..} on one line -/
/-! defs that hold a generator expression -/
def DefG (g : Gb) (mg : Str → Option Value) (base : Heap) (x : Str) (st : Stmt) (ps : List Str) (dds : List D) (nq : Option Str) : Prop :=
  ∃ (f : Addr) (fd : FuncData) (ds : List Value) (dvs : List V), DefK g.K x x st f fd ∧ mg x = some (.ref f) ∧ PySem.W.keepIn g.K (.ref f) = true ∧ Binds g.K fd ps ds ∧ Vals dvs ds ∧ (∀ S, Reps g S dds dvs) ∧ ∃ c P, GxR.TabB base mg c P ∧ fd.code = .ref c ∧ P ∈ g.tb ∧ g.nm P = nq
theorem cal_okG {P : Program} {w : World} {mg : Str → Option Value} {base : Heap} {g : Gb} {x : Str} {st : Stmt} {N ps : List Str} {j n k : Nat} {bor : List Bool} {m : Sm} {dds : List D} {nq : Option Str} (T : DefG g mg base x st ps dds nq) (Sc : FnScope N ps (defScope st)) (hp : ps.length = n) (hN : N.length = n + k) (hps : ps = parN (defArgs st) := by rfl)
    (hbody : ∀ (f : Addr) (cdv : Value) (A : Around) (outer : List PySem.Env) (s : Shared) (H : Hp) (E : XK), CodeN (cxOf (L2.CX P w) P w g.K mg base N x (defScope st) f cdv A outer s H E) g nq → Room j (A.deeper (envOfC x (defScope st) s.heap.objs.size f cdv)) → A.guards = some [] →
      PSs (cxOf (L2.CX P w) P w g.K mg base N x (defScope st) f cdv A outer s H E) (defBody st) (LS g (WF E) m)) : Cal P w mg base g (j + 1) x n dds (mkFn n k bor m) := by
  obtain ⟨f, fd, ds, dvs, F, hm, kp, b, d, hd, c, P, tb, hc, hP, hQ⟩ := T
  exact ⟨f, fd, ps, ds, dvs, def_ok F Sc hp hN fun cdv A outer s H E e hr => hbody f cdv A outer s H E ⟨c, P, tb, e ▸ hc, hP, hQ⟩ hr, hm, kp, b, d, hd, .of F hps⟩
end DL
set_option Elab.async false
set_option linter.all false
set_option maxRecDepth 100000
set_option autoImplicit false
/-! DLR: repr. -/
namespace DL
open PySem PySem.Spec PyProof.Rows L2
def keyPy : Key → PyData
  | .inl i => .int i
  | .inr x => .str x
mutual
def D.py : D → Option PyData
  | .non => some .none
  | .bl b => some (.bool b)
  | .int i => some (.int i)
  | .str x => some (.str x)
  | .lst ds => (D.pys ds).map .list
  | .tup ds => (D.pys ds).map .tuple
  | .dct kds => (D.pyk kds).map .dict
  | .scr ns => some (.list (ns.map .int))
  | .lab _ d => d.py
  | _ => none
def D.pys : List D → Option (List PyData)
  | [] => some []
  | d :: ds => d.py.bind fun p => (D.pys ds).map fun r => p :: r
def D.pyk : List (Key × D) → Option (List (PyData × PyData))
  | [] => some []
  | (k, d) :: ds => d.py.bind fun p => (D.pyk ds).map fun r => (keyPy k, p) :: r
end
section
variable {X : Cx} {g : Gb} {S H : Hp} {s : Shared} {pins : List (Addr × Obj)} {σ : L2.St}
theorem sys_ne_lst {a : Addr} {xs : List V} (I : L2.Inv X pins σ H s) (hs : ∃ mm, X.base.Ns sysModules mm) (h : SqL X.K H a xs) : a ≠ sysModules := fun z => by
  subst z
  obtain ⟨mm, o, es, ep, e, d, _⟩ := hs
  obtain ⟨its, _, ⟨o2, n, e2, _, _, d2⟩, _⟩ := I.list h
  rw [I.bk _ _ e] at e2
  cases e2
  rw [d] at d2
  cases d2
theorem key_reads {h : Heap} {k : Key} {u : Value} (hk : keyIs k u = true) : Reads h u (keyPy k) [] := by
  rcases keyIs_shape hk with ⟨i, t, rfl, rfl⟩ | ⟨x, t, rfl, rfl⟩
  · exact Reads.int i t
  · exact Reads.str x t
theorem ints_reads {h : Heap} : ∀ {ns : List Int} {us : List Value}, Vals (ns.map V.int) us → ReadsAll h us (ns.map PyData.int) []
  | [], us, r => by cases r; exact ReadsAll.nil
  | n :: ns, us, r => by
    rw [List.map_cons] at r
    cases r with
    | cons a b =>
      obtain ⟨t, rfl⟩ := a
      exact ReadsAll.cons (as := []) (bs := []) (Reads.int n t) (ints_reads b)
mutual
theorem py_reads (I : L2.Inv X pins σ H s) (hK : X.K = g.K) (sb : Sub S H) (hs : ∃ mm, X.base.Ns sysModules mm) : ∀ (d : D) (p : PyData) (v : V) (u : Value), d.py = some p → Rep g S d v → RelV v u → ∃ as, Reads s.heap u p as ∧ sysModules ∉ as
  | .non, p, v, u, h, r, ru => by cases h; cases r; cases ru; exact ⟨_, Reads.none, by simp⟩
  | .bl b, p, v, u, h, r, ru => by cases h; cases r; cases ru; exact ⟨_, Reads.bool b, by simp⟩
  | .int i, p, v, u, h, r, ru => by cases h; cases r; obtain ⟨t, rfl⟩ := ru; exact ⟨_, Reads.int i t, by simp⟩
  | .str x, p, v, u, h, r, ru => by cases h; cases r; obtain ⟨t, rfl⟩ := ru; exact ⟨_, Reads.str x t, by simp⟩
  | .lst ds, p, v, u, h, ⟨a, vs, e, q, rr⟩, ru => by
    subst e
    cases ru
    unfold D.py at h
    cases h2 : D.pys ds with
    | none => rw [h2] at h; cases h
    | some ps =>
      rw [h2] at h
      cases h
      have hq : SqL X.K H a vs := .inl (.inl (sb.lst q))
      obtain ⟨its, rv, ⟨o, n, ho, hc, _, hd⟩, _⟩ := I.list hq
      obtain ⟨as, hr, hn⟩ := py_readsAll I hK sb hs ds ps vs its h2 rr rv
      refine ⟨_, Reads.list ho hc hd hr, fun m => ?_⟩
      rcases List.mem_cons.mp m with z | z
      · exact sys_ne_lst I hs hq z.symm
      · exact hn z
  | .tup ds, p, v, u, h, ⟨a, vs, e, q, rr⟩, ru => by
    subst e
    cases ru
    unfold D.py at h
    cases h2 : D.pys ds with
    | none => rw [h2] at h; cases h
    | some ps =>
      rw [h2] at h
      cases h
      have hq : SqT X.K H a vs := by rw [hK]; exact sb.sqT q
      obtain ⟨its, rv, ⟨o, ho, hc, n, hd⟩, _⟩ := I.tuple hq
      obtain ⟨as, hr, hn⟩ := py_readsAll I hK sb hs ds ps vs its h2 rr rv
      exact ⟨_, Reads.tuple ho hc hd hr, hn⟩
  | .dct kds, p, v, u, h, ⟨a, kvs, e, q, rr⟩, ru => by
    subst e
    cases ru
    unfold D.py at h
    cases h2 : D.pyk kds with
    | none => rw [h2] at h; cases h
    | some ps =>
      rw [h2] at h
      cases h
      obtain ⟨_, ya, vs, kv, o, es, ep, h1, hx, hdt, _, pr, _⟩ := (sb.rd q).ok I.hok
      obtain ⟨as, bs, r1, r2, n1, n2⟩ := py_readsKv I hK sb hs kds ps kvs vs es.toList h2 rr kv pr
      refine ⟨_, Reads.dict h1 hx.1 hdt r1 r2, fun m => ?_⟩
      rcases List.mem_append.mp m with m | m
      · rcases List.mem_cons.mp m with z | z
        · rw [← z] at ya; simp at ya
        · exact n1 z
      · exact n2 m
  | .scr ns, p, v, u, h, ⟨a, e, q⟩, ru => by
    subst e
    cases ru
    cases h
    have hq : SqL X.K H a (ns.map V.int) := by rw [hK]; exact sb.sqL q
    obtain ⟨its, rv, ⟨o, n, ho, hc, _, hd⟩, _⟩ := I.list hq
    refine ⟨_, Reads.list ho hc hd (ints_reads (us := its) rv), fun m => ?_⟩
    have z : sysModules = a := by simpa using m
    exact sys_ne_lst I hs hq z.symm
  | .lab _ d, p, v, u, h, r, ru => py_reads I hK sb hs d p v u (by unfold D.py at h; exact h) r.2 ru
  | .ins _ _, p, v, u, h, r, ru => by cases h
  | .exn _ _, p, v, u, h, r, ru => by cases h
  | .op _, p, v, u, h, r, ru => by cases h
  | .gh _ _, p, v, u, h, r, ru => by cases h
theorem py_readsAll (I : L2.Inv X pins σ H s) (hK : X.K = g.K) (sb : Sub S H) (hs : ∃ mm, X.base.Ns sysModules mm) : ∀ (ds : List D) (ps : List PyData) (vs : List V) (us : List Value), D.pys ds = some ps → Reps g S ds vs → Vals vs us → ∃ as, ReadsAll s.heap us ps as ∧ sysModules ∉ as
  | [], ps, vs, us, h, r, ru => by cases h; rw [show vs = [] from r] at ru; cases ru; exact ⟨_, ReadsAll.nil, by simp⟩
  | d :: ds, ps, vs, us, h, ⟨v, rr, e, a, b⟩, ru => by
    subst e
    cases ru with
    | cons r1 r2 =>
      unfold D.pys at h
      cases h1 : d.py with
      | none => rw [h1] at h; cases h
      | some p =>
        rw [h1] at h
        dsimp only [Option.bind] at h
        cases h2 : D.pys ds with
        | none => rw [h2] at h; cases h
        | some q =>
          rw [h2] at h
          cases h
          obtain ⟨as, q1, n1⟩ := py_reads I hK sb hs d p v _ h1 a r1
          obtain ⟨bs, q2, n2⟩ := py_readsAll I hK sb hs ds q rr _ h2 b r2
          exact ⟨_, ReadsAll.cons q1 q2, fun m => (List.mem_append.mp m).elim n1 n2⟩
theorem py_readsKv (I : L2.Inv X pins σ H s) (hK : X.K = g.K) (sb : Sub S H) (hs : ∃ mm, X.base.Ns sysModules mm) : ∀ (kds : List (Key × D)) (ps : List (PyData × PyData)) (kvs : List (Key × V)) (vs : List (Key × Value)) (es : List DictEntry), D.pyk kds = some ps → RepK g S kds kvs → KV kvs vs → PySem.Pairs (mixKind X.prog X.w) es vs →
    ∃ as bs, ReadsAll s.heap (es.map (·.key)) (ps.map (·.1)) as ∧ ReadsAll s.heap (es.map (·.val)) (ps.map (·.2)) bs ∧ sysModules ∉ as ∧ sysModules ∉ bs
  | [], ps, kvs, vs, es, h, r, kv, pr => by
    cases h
    rw [show kvs = [] from r] at kv
    cases kv
    cases pr
    exact ⟨_, _, ReadsAll.nil, ReadsAll.nil, by simp, by simp⟩
  | (k, d) :: kds, ps, kvs, vs, es, h, ⟨v, rr, e, a, b⟩, kv, pr => by
    subst e
    unfold KV at kv
    cases kv with
    | @cons p0 q0 ps0 qs0 h0 t =>
      obtain ⟨key, vv⟩ := q0
      obtain ⟨e1, e2⟩ := h0
      have e1 : k = key := e1
      subst e1
      unfold D.pyk at h
      cases h1 : d.py with
      | none => rw [h1] at h; cases h
      | some p =>
        rw [h1] at h
        dsimp only [Option.bind] at h
        cases h2 : D.pyk kds with
        | none => rw [h2] at h; cases h
        | some q =>
          rw [h2] at h
          cases h
          cases pr with
          | @cons e0 kv0 es0 kvs0 c1 c2 c3 =>
            obtain ⟨as, q1, n1⟩ := py_reads I hK sb hs d p v vv h1 a e2
            obtain ⟨as2, bs2, q2, q3, n2, n3⟩ := py_readsKv I hK sb hs kds q rr qs0 es0 h2 b t c3
            refine ⟨[] ++ as2, as ++ bs2, ReadsAll.cons (key_reads c1) q2, ReadsAll.cons (show Reads s.heap e0.val p as from by rw [c2]; exact q1) q3, by simpa using n2, fun m => (List.mem_append.mp m).elim n1 n3⟩
end
end
def dRepr : List D → Option O
  | [d] => d.py.bind fun p => if p.showable = true ∧ p.depth ≤ 60 ∧ p.shown.length ≤ 1000000 then oS p.shown else none
  | _ => none
def rReprD (g : Gb) : List V → Hp → VK → Prop := fun xs H Q => ∃ S d p v, xs = [v] ∧ Sub S H ∧ Rep g S d v ∧ d.py = some p ∧ p.showable = true ∧ p.depth ≤ 60 ∧ p.shown.length ≤ 1000000 ∧ Q (.str p.shown) H
section
variable {X : Cx} {g : Gb}
theorem call_reprD (hK : X.K = g.K) (hgd : X.A.guards = some []) (hs : ∃ mm, X.base.Ns sysModules mm) (hu : X.A.units + 64 < cLine) : CallR X (.builtin "repr") (rReprD g) := by
  intro pins s σ H xs us Q I r h
  obtain ⟨S, d, p, v, rfl, sb, rd, hp, h1, h2, h3, q⟩ := h
  obtain ⟨u, rfl, rv⟩ := Vals.one r
  obtain ⟨as, hr, hn⟩ := py_reads I hK sb hs d p v u hp rd rv
  have hz : p.shown.length ≤ sizeLine := Nat.le_trans h3 (show 1000000 ≤ sizeLine by decide)
  have fin : ∀ (h' : Heap) (w : Tok) (tk : Nat), (∀ b o, s.heap.get? b = some o → h'.get? b = some o) → EP X pins σ Q (.str p.shown w) { s with heap := h', toks := tk } := fun h' w tk k => ⟨.str p.shown, H, I.kept (t' := tk) k, ⟨w, rfl⟩, q⟩
  cases hr with
  | none => exact P.repr_of_none (fin s.heap _ _ fun _ _ e => e)
  | bool b => exact P.repr_of_bool (by simpa [PyData.shown] using fin s.heap s.toks (s.toks + 1) fun _ _ e => e)
  | int i t => exact P.repr_of_int (by simpa [PyData.showable] using h1) (fin s.heap _ _ fun _ _ e => e)
  | str x t => exact P.repr_of_str (fin s.heap _ _ fun _ _ e => e) hz
  | list a1 a2 a3 a4 => exact repr_of_reads' (.list a1 a2 a3 a4) h1 (fun _ => hn) hgd (by omega) (fun _ _ e => e) fin hz
  | tuple a1 a2 a3 a4 => exact repr_of_reads' (.tuple a1 a2 a3 a4) h1 (fun _ => hn) hgd (by omega) (fun _ _ e => e) fin hz
  | dict a1 a2 a3 a4 a5 => exact repr_of_reads' (.dict a1 a2 a3 a4 a5) h1 (fun _ => hn) hgd (by omega) (fun _ _ e => e) fin hz
theorem cs_repr : CallS g (rReprD g) dRepr := callS_of fun S H xs ds o Q e r hf k => by
  unfold dRepr at hf
  split at hf
  · rename_i d
    obtain ⟨v, rfl, rv⟩ := reps_one r
    cases h : d.py with
    | none => rw [h] at hf; cases hf
    | some p =>
      rw [h] at hf
      dsimp only [Option.bind] at hf
      split at hf
      · rename_i hz
        cases hf
        exact ⟨S, d, p, v, rfl, e, rv, h, hz.1, hz.2.1, hz.2.2, k _ H (New.flat (d := .str _) e rfl)⟩
      · cases hf
  · cases hf
theorem bootX_repr : bootBuiltins "repr" = some (.builtin "repr") := by decide +kernel
variable {W : WX} {lv : Nat} {a : Expr} {ms : List E} {es : List Expr} {pos : Pos} {i : Nat}
theorem pd_repr {p : Pos} (C : Cxt X g W lv) (hm : X.mg "repr" = none) (ha : PA X (a :: es) (LA g W ms)) (hg : Gl X "repr" := by rfl) (he : starEach (a :: es) X.env = (false, eval a X.env) :: starEach es X.env := by rfl) (hpl : (backTo pos (starEach es X.env)).any (·.1) = false := by rfl) :
    PE X (.Call (.Name "repr" p) (a :: es) [] pos) (LE g W (eCB dRepr ms)) := PE_imp (pe_callB (call_reprD C.K C.gd C.sys C.hu64) hg hm bootX_repr ha (he := he) (hpl := hpl)) fun _ _ _ q => le_callB cs_repr q
end
end DL
set_option Elab.async false
set_option linter.all false
set_option maxRecDepth 100000
set_option autoImplicit false
/-! DLK: calls with keywords. -/
namespace DL
open PySem PySem.Spec PyProof.Rows L2
/-- the parameters' values: places among the positional values and the keywords' -/
def gK {α : Type} (d : α) (n m : Nat) (pm : List Nat) (us ws : List α) : List α := if us.length = n ∧ ws.length = m then pm.map fun i => (us ++ ws).getD i d else []
theorem vals_getD {vs : List V} {us : List Value} (r : Vals vs us) (i : Nat) : RelV (vs.getD i .non) (us.getD i .none) := by
  rw [List.getD_eq_getElem?_getD, List.getD_eq_getElem?_getD]
  by_cases h : i < vs.length
  · obtain ⟨u, h1, h2⟩ := r.get (List.getElem?_eq_getElem h)
    rw [List.getElem?_eq_getElem h, h1]
    exact h2
  · rw [List.getElem?_eq_none (by omega), List.getElem?_eq_none (by rw [← r.length]; omega)]
    exact rfl
theorem vals_perm {vs : List V} {us : List Value} (r : Vals vs us) : ∀ pm : List Nat, Vals (pm.map fun i => vs.getD i .non) (pm.map fun i => us.getD i .none)
  | [] => .nil
  | i :: pm => .cons (vals_getD r i) (vals_perm r pm)
theorem kb_of {K : PySem.W.Frag} {fd : FuncData} {ps ks : List Str} {n : Nat} {pm : List Nat} (hp : ps.length = pm.length) (h0 : ps ≠ [])
    (h : ∀ us ws : List Value, us.length = n → ws.length = ks.length → bindArgs fd ⟨us, ks.zip ws⟩ = pure (ps.zip (pm.map fun i => (us ++ ws).getD i .none))) : KBinds K fd ps ks (gK .none n ks.length pm) (gK .non n ks.length pm) where
  to := fun s us ws _ hl => by
    unfold gK at hl ⊢
    split at hl
    · rename_i e
      rw [if_pos e]
      exact .of_eq (h us ws e.1 e.2)
    · cases ps with
      | nil => exact absurd rfl h0
      | cons _ _ => cases hl
  rel := fun {vs us zs ws} r rz => by
    unfold gK
    rw [r.length, rz.length]
    split
    · exact vals_perm (r.append rz) pm
    · exact .nil
section
variable {X : Cx} {CX : CXT} {k : Nat} {f : Addr} {fd : FuncData} {ps ks : List Str} {sp : Sp} {E : L2.St → XK} {x : Str} {p pos : Pos} {e : Expr} {es : List Expr} {kws : List Keyword} {t tk : TA} {gg : List Value → List Value → List Value} {gV : List V → List V → List V}
theorem run_fnkW {pins : List (Addr × Obj)} {σ : L2.St} {H : Hp} {s : Shared} {Q : VK} {us ws : List Value} {vs zs : List V} (F : FnW X.prog X.w X.K X.mg X.base CX k f fd ps sp) (hr : Room k X.A) (hgd : X.A.guards = some []) (hb : KBinds X.K fd ps ks gg gV) (hx : PassesAt CX X σ (E σ))
    (I : L2.Inv X pins σ H s) (r : Vals vs us) (rz : Vals zs ws) (h : sp (gV vs zs) H Q (E σ)) : wpAny (model X.prog X.w) X.A (call (.ref f) us (ks.zip ws)) (EP X pins σ Q) X.xe s := by
  have r2 := hb.rel r rz
  have hl : (gg us ws).length = ps.length := by rw [← r2.length]; exact F.len _ _ _ _ h
  refine wpAny_call (codeAny_mono (F.run X.A X.stack s H ⟨us, ks.zip ws⟩ (gg us ws) (gV vs zs) Q (E σ) hr hgd I.env0 (hb.to s us ws I.kIn hl) r2 h) fun r s' hq => ?_)
  cases r with
  | error e => exact hx pins H s e s' I hq
  | ok fl =>
    cases fl with
    | ret u => exact I.after hq
    | next => exact False.elim hq
    | brk => exact False.elim hq
    | cont => exact False.elim hq
theorem pe_callKW0 (F : FnW X.prog X.w X.K X.mg X.base CX k f fd ps sp) (hr : Room k X.A) (hgd : X.A.guards = some []) (hg : Gl X x) (hm : X.mg x = some (.ref f)) (hk : PySem.W.keepIn X.K (.ref f) = true) (hb : KBinds X.K fd ps ks gg gV) (hx : ∀ σ, PassesAt CX X σ (E σ))
    (hkw : PK X kws tk) (hall : (backToKw pos (keywordEach kws X.env)).all (·.1.isSome) = true) (hks : (backToKw pos (keywordEach kws X.env)).filterMap (·.1) = ks)
    (hdb : (x == ("__debug__" : Str)) = false) (hpl : ((backTo pos (starEach [] X.env)).any (·.1) || (backToKw pos (keywordEach kws X.env)).any (·.1.isNone)) = false) :
    PE X (.Call (.Name x p) [] kws pos) (fun σ H Q => tk σ H fun zs H2 => sp (gV [] zs) H2 Q (E σ)) := by
  refine ⟨fun pins s σ H Q I h => ?_⟩
  refine wpAny_Call_Name_kw (ld_glob I hg hm ?_ hdb)
  refine PySem.W.callWith_KW0 (h₀ := X.base) I.ok.mod.kin hk hall (thn (hkw.run pos pins s σ H _ I h) fun ws s2 ⟨zs, H2, I2, rz, q2⟩ => ⟨I2.kIn, ?_⟩) hpl
  rw [hks]
  exact run_fnkW F hr hgd hb (hx σ) I2 (.nil : Vals [] []) rz q2
end
section
variable {X : Cx} {g : Gb} {W : WX} {Z : Zn} {S S' H H' : Hp} {τ τ' : List V} {θ θ' : List O} {σ σ' : Sg} {ρ : En} {Q Q' : VK} {ms ms1 ms2 : List E} {v : V} {j : Nat}
/-- f(.., k = e, ..): pm the places of the parameters' values -/
def eCallK (fn : List O → R) (pm : List Nat) (ms : List E) : E := fun ρ => (evs ms ρ).bind fun os ρ1 => after (fn ((pm.map fun i => (O.ds os).getD i .non).map .sh)) ρ1
theorem reps_perm {ds : List D} {vs : List V} (r : Reps g S ds vs) : ∀ pm : List Nat, Reps g S (pm.map fun i => ds.getD i .non) (pm.map fun i => vs.getD i .non)
  | [] => rfl
  | i :: pm => by
    refine ⟨_, _, rfl, ?_, reps_perm r pm⟩
    show Rep g S (ds.getD i D.non) (vs.getD i V.non)
    rw [List.getD_eq_getElem?_getD, List.getD_eq_getElem?_getD]
    by_cases h : i < ds.length
    · obtain ⟨v, h1, h2⟩ := r.get (List.getElem?_eq_getElem h)
      rw [List.getElem?_eq_getElem h, h1]
      exact h2
    · rw [List.getElem?_eq_none (by omega), List.getElem?_eq_none (by rw [r.len]; omega)]
      exact rfl
theorem le_callK {n : Nat} {fn : List O → R} {pm : List Nat} {E : XK} (hn : pm.length = n) (hE : ∀ cls d H, W cls d σ H → E cls d H) (q : LE g W (eCallK fn pm ms) σ H Q) : LA g W ms σ H fun vs H1 => vs.length = ms.length ∧ spD g n fn (pm.map fun i => vs.getD i .non) H1 Q E := by
  obtain ⟨Z, S, τ, θ, ρ, st, post⟩ := q
  refine stepA' st post fun os ρ1 vs S1 H1 e1 l1 l2 st1 post1 => ⟨l1, ?_⟩
  obtain ⟨S2, e2, st2, rep⟩ := St.popN os.length vs os (by omega) rfl st1
  refine call_sp st2 (reps_perm rep pm) (by rw [List.length_map]; exact hn) hE (PostR.mono e2 post1)
/-- .. a def that may be called with n values and these keywords -/
def KwT (g : Gb) (mg : Str → Option Value) (x : Str) (ks : List Str) (n : Nat) (pm : List Nat) : Prop := ∃ (f : Addr) (fd : FuncData) (ps : List Str), mg x = some (.ref f) ∧ FdAt g.K f fd ps ∧ KBinds g.K fd ps ks (gK .none n ks.length pm) (gK .non n ks.length pm)
theorem kwT_of {mg : Str → Option Value} {x : Str} {ks ps : List Str} {n : Nat} {pm : List Nat} {f : Addr} {fd : FuncData} {oc : Value} {od : Option Addr} {osl : Array (Option Value)} (hm : mg x = some (.ref f)) (lk : g.K.lookup f = some ⟨oc, od, .func fd, osl⟩) (hps : ps = parN fd.params) (hp : ps.length = pm.length) (h0 : ps ≠ [])
    (h : ∀ us ws : List Value, us.length = n → ws.length = ks.length → bindArgs fd ⟨us, ks.zip ws⟩ = pure (ps.zip (pm.map fun i => (us ++ ws).getD i .none))) : KwT g mg x ks n pm := ⟨f, fd, ps, hm, ⟨⟨oc, od, osl, lk⟩, hps⟩, kb_of hp h0 h⟩
theorem gK_on {α : Type} {d : α} {n m : Nat} {pm : List Nat} {us ws : List α} (h1 : us.length = n) (h2 : ws.length = m) : gK d n m pm us ws = pm.map fun i => (us ++ ws).getD i d := if_pos ⟨h1, h2⟩
variable {kws : List Keyword} {kpos : Pos} {nm : Option Str} {x : Str} {p pos : Pos} {a e : Expr} {es : List Expr} {ma m : E}
theorem kd_nil : PK X [] (LA g W []) := ⟨fun pos pins s σ H Q I h => pk_nil.run pos pins s σ H Q I (la_nil h)⟩
theorem kd_cons (ha : PE X e (LE g W m)) (hr : PK X kws (LA g W ms)) : PK X (⟨nm, e, kpos⟩ :: kws) (LA g W (m :: ms)) := ⟨fun pos pins s σ H Q I h => (pk_cons ha hr).run pos pins s σ H Q I (la_cons h)⟩
theorem pd_callK0 {k n : Nat} {ks : List Str} {pm : List Nat} {dds : List D} {fn : List O → R} (C : Cxt X g W j) (F : Cal X.prog X.w X.mg X.base g k x n dds fn) (T : KwT g X.mg x ks 0 pm) (hkw : PK X kws (LA g W ms2)) (hk : k ≤ j := by decide) (hn : pm.length = n := by rfl) (h2 : ms2.length = ks.length := by rfl) (hg : Gl X x := by rfl) (hdb : (x == ("__debug__" : Str)) = false := by decide)
    (hall : (backToKw pos (keywordEach kws X.env)).all (·.1.isSome) = true := by rfl) (hks : (backToKw pos (keywordEach kws X.env)).filterMap (·.1) = ks := by rfl)
    (hpl : ((backTo pos (starEach [] X.env)).any (·.1) || (backToKw pos (keywordEach kws X.env)).any (·.1.isNone)) = false := by rfl) : PE X (.Call (.Name x p) [] kws pos) (LE g W (eCallK fn pm ms2)) := by
  obtain ⟨f, fd, ps, ds, dvs, F, hm, kp, b, d, hd, ⟨oc, od, osl, lk⟩, hps⟩ := F
  obtain ⟨f2, fd2, ps2, hm2, ⟨⟨oc2, od2, osl2, lk2⟩, hps2⟩, kb⟩ := T
  obtain rfl : f = f2 := by
    have e := hm.symm.trans hm2
    cases e
    rfl
  obtain rfl : fd = fd2 := by
    have e := lk.symm.trans lk2
    cases e
    rfl
  obtain rfl : ps = ps2 := hps.trans hps2.symm
  rw [← C.K] at F kp kb
  refine PE_imp (pe_callKW0 F (C.rm.mono hk) C.gd hg hm kp kb (passAt C.tk) hkw hall hks hdb hpl) fun σ H Q q => ?_
  refine (le_callK (E := WE W σ) hn (fun cls d H h => h) q).mono fun zs H2 ⟨l2, r2⟩ => ?_
  rw [gK_on (show ([] : List V).length = 0 from rfl) (show zs.length = ks.length by rw [l2, h2])]
  exact r2
end
end DL
set_option Elab.async false
set_option linter.all false
set_option maxRecDepth 100000
set_option autoImplicit false
/-! DLZ: the end of a law. -/
namespace DL
open PySem PySem.Spec PyProof.Rows L2
/-- the abstract heap at the top: the tables, and the script where it is no object of the module -/
def topH (w : Bool) (a : Addr) (o : Obj) (xs : List V) (tb : List Addr) : Hp := fun b => if b ∈ tb then some (.tbl #[]) else if w = true ∧ b = a then some (.frz o (.lst xs)) else none
theorem topH_tb {w : Bool} {a : Addr} {o : Obj} {xs : List V} {tb : List Addr} {b : Addr} (h : b ∈ tb) : topH w a o xs tb b = some (.tbl #[]) := if_pos h
theorem topH_a {a : Addr} {o : Obj} {xs : List V} {tb : List Addr} (h : a ∉ tb) : topH true a o xs tb a = some (.frz o (.lst xs)) := (if_neg h).trans (if_pos ⟨rfl, rfl⟩)
theorem topH_cases {w : Bool} {a : Addr} {o : Obj} {xs : List V} {tb : List Addr} {b : Addr} {u : HO} (h : topH w a o xs tb b = some u) : (b ∈ tb ∧ u = .tbl #[]) ∨ (b ∉ tb ∧ w = true ∧ b = a ∧ u = .frz o (.lst xs)) := by
  unfold topH at h
  split at h
  · rename_i m
    cases h
    exact .inl ⟨m, rfl⟩
  · rename_i m
    split at h
    · rename_i e
      cases h
      exact .inr ⟨m, e.1, e.2, rfl⟩
    · cases h
theorem law_callD {P : Program} {w : World} {g : Gb} {mg mb : Str → Option Value} {k : Nat} {fa a : Addr} {cs : List (Addr × Addr)} {fn : List O → R} {s₁ : Shared} {vs : List Value} {ns : List Int}
    (KX : g.K.In s₁.heap) (hns : s₁.heap.Ns mainGlobals mg) (hb : s₁.heap.Ns builtinsNs mb) (hbb : ∀ x : Str, x ≠ "__name__" → mb x = bootBuiltins x) (hlim : s₁.heap.NoLimit) (hsy : ∃ mm, s₁.heap.Ns sysModules mm) (hg : s₁.gens = #[])
    (htb : g.tb = cs.map (·.2)) (hT : ∀ p ∈ cs, s₁.heap.get? p.2 = some { cls := .none, data := .fields #[] }) (nT : ∀ p ∈ cs, g.K.lookup p.2 = none) (C : ∀ p ∈ cs, PySem.W.CodeHd s₁.heap p.1 p.2)
    (hbm : ∃ (bm : Addr) (ob : Obj), mg "__builtins__" = some (.ref bm) ∧ bm ≠ builtinsNs ∧ s₁.heap.get? bm = some ob ∧ ob.cls = .type "module" ∧ ob.dict = some builtinsNs ∧ ob.data = .plain)
    (ha : s₁.heap.get? a = some { cls := .type "list", data := .seq vs.toArray }) (hi : IntsAre vs ns) (hl : ns.length ≤ sizeLine) (hr : Room k callerA) (hfa : mg "law" = some (.ref fa))
    (F : ∀ base : Heap, g.K.In base → base.Ns mainGlobals mg → (∃ mm, base.Ns sysModules mm) → (∀ p ∈ cs, GxR.TabB base mg p.1 p.2) → Cal P w mg base g k "law" 1 [] fn)
    (hfn : ∃ ρ, fn [.sh (.scr ns)] = .ok (.sh (.bl true)) ρ) :
    codeAny (model P w) callerA (.call (.ref fa) ⟨[.ref a], []⟩) (fun r s' => r = .ok (.ret (.bool true)) ∧ OldK s₁.heap s'.heap ∧ s'.os = s₁.os ∧ AllBare s'.gens) s₁ := by
  have rv := vals_ints hi
  have lenV := hi.length
  have tbl : ∀ b ∈ g.tb, ∃ p ∈ cs, p.2 = b := fun b m => by
    rw [htb] at m
    exact List.mem_map.mp m
  have isT : ∀ b ∈ g.tb, s₁.heap.get? b = some { cls := .none, data := .fields #[] } := fun b m => by
    obtain ⟨p, hp, e⟩ := tbl b m
    rw [← e]
    exact hT p hp
  have nK : ∀ b ∈ g.tb, g.K.lookup b = none := fun b m => by
    obtain ⟨p, hp, e⟩ := tbl b m
    rw [← e]
    exact nT p hp
  have mT : ∀ p ∈ cs, p.2 ∈ g.tb := fun p hp => by
    rw [htb]
    exact List.mem_map.mpr ⟨p, hp, rfl⟩
  have aT : a ∉ g.tb := fun m => by
    have e := (isT a m).symm.trans ha
    have e2 : Data.fields #[] = Data.seq vs.toArray _ := congrArg Obj.data (Option.some.inj e)
    cases e2
  -- the script: shown to the law, or one of the module's own objects
  obtain ⟨sw, hw, SL⟩ : ∃ sw : Bool, (sw = true → g.K.lookup a = none) ∧ ∀ H : Hp, (sw = true → H a = some (.frz { cls := .type "list", data := .seq vs.toArray } (.lst (ns.map V.int)))) → SqL g.K H a (ns.map V.int) := by
    cases hk : g.K.lookup a with
    | some o =>
      have e := (KX a o hk).symm.trans ha
      cases e
      exact ⟨false, fun z => (nomatch z), fun H _ => .inr ⟨_, vs.toArray, _, hk, rfl, rfl, rfl, by rw [List.size_toArray, lenV]; exact hl, by simpa using rv⟩⟩
    | none => exact ⟨true, fun _ => rfl, fun H z => .inl (.inr ⟨_, z rfl⟩)⟩
  obtain ⟨H, hH⟩ : ∃ H, H = topH sw a { cls := .type "list", data := .seq vs.toArray } (ns.map V.int) g.tb := ⟨_, rfl⟩
  have hTb : ∀ b ∈ g.tb, H b = some (.tbl #[]) := fun b m => by rw [hH]; exact topH_tb m
  have obj : ∀ b u, H b = some u → (b ∈ g.tb ∧ u = .tbl #[]) ∨ (sw = true ∧ b = a ∧ u = .frz { cls := .type "list", data := .seq vs.toArray } (.lst (ns.map V.int))) := fun b u e => by
    rw [hH] at e
    rcases topH_cases e with z | ⟨_, z1, z2, z3⟩
    · exact .inl z
    · exact .inr ⟨z1, z2, z3⟩
  have hok : HOk P w H s₁.heap := fun b u e => by
    rcases obj b u e with ⟨m, rfl⟩ | ⟨_, rfl, rfl⟩
    · exact isT b m
    · exact ⟨ha, by rw [List.length_map]; exact hl, vs, _, rv, ha⟩
  -- what is neither a list nor an empty table is in the base
  have out : ∀ b o, s₁.heap.get? b = some o → (∀ xs n, o.data ≠ .seq xs n) → o.data ≠ .fields #[] → (hidT s₁.heap H).get? b = some o := fun b o e h1 h2 => by
    refine hidT_get e ?_
    cases q : H b with
    | none => rfl
    | some u =>
      rcases obj b u q with ⟨m, _⟩ | ⟨_, z, _⟩
      · rw [isT b m] at e
        cases e
        exact absurd rfl h2
      · rw [z, ha] at e
        cases e
        exact absurd rfl (h1 _ _)
  have nsB : ∀ {b : Addr} {m : Str → Option Value}, s₁.heap.Ns b m → (hidT s₁.heap H).Ns b m := fun {b m} ⟨o, es, ep, e, d, r⟩ =>
    ⟨o, es, ep, out b o e (fun xs n z => by rw [d] at z; cases z) (fun z => by rw [d] at z; cases z), d, r⟩
  have KB : g.K.In (hidT s₁.heap H) := fun b o e => hidT_get (KX b o e) (by
    cases q : H b with
    | none => rfl
    | some u =>
      rcases obj b u q with ⟨m, _⟩ | ⟨z1, z, _⟩
      · rw [nK b m] at e
        cases e
      · rw [z, hw z1] at e
        cases e)
  have hM : L2.Mod g.K mg (hidT s₁.heap H) := ⟨KB, nsB hns, ⟨mb, nsB hb, hbb⟩, let ⟨mc, h1, h2⟩ := hlim; ⟨mc, nsB h1, h2⟩⟩
  have TB : ∀ p ∈ cs, GxR.TabB (hidT s₁.heap H) mg p.1 p.2 := fun p hp => by
    refine ⟨?_, ?_, fun z => ?_⟩
    · obtain ⟨o, us, file, tf, flags, tg, inF, text, tt, e1, r1, r2, r3, rest⟩ := C p hp
      refine ⟨o, us, file, tf, flags, tg, inF, text, tt, out p.1 o e1 (fun xs n z => ?_) (fun z => ?_), r1, r2, r3, rest⟩
      · rw [r2] at z
        cases z
      · rw [r2] at z
        cases z
        simp at r3
    · obtain ⟨bm, ob, b1, b2, b3, b4, b5, b6⟩ := hbm
      refine ⟨bm, ob, b1, b2, fun q => ?_, fun q => ?_, out bm ob b3 (fun xs n z => ?_) (fun z => ?_), b4, b5, b6⟩
      · obtain ⟨o, es, ep, e, hd, _⟩ := hns
        rw [q, e] at b3
        cases b3
        rw [hd] at b6
        cases b6
      · rw [q, hT p hp] at b3
        cases b3
        cases b6
      · rw [b6] at z
        cases z
      · rw [b6] at z
        cases z
    · obtain ⟨o, es, ep, e, hd, _⟩ := hns
      rw [z, hT p hp] at e
      cases e
      cases hd
  obtain ⟨mm, hmm⟩ := hsy
  obtain ⟨f, fd, ps, ds, dvs, FF, hm, kp, bi, vd, rd, _⟩ := F _ KB (nsB hns) ⟨mm, nsB hmm⟩ TB
  obtain rfl : fa = f := by
    have e := hfa.symm.trans hm
    cases e
    rfl
  have hds : ds = [] := by
    have h0 := rd (fun _ => none)
    have h1 : dvs.length = 0 := h0.len
    have h2 := vd.length
    rw [h1] at h2
    exact List.eq_nil_of_length_eq_zero h2.symm
  subst hds
  obtain ⟨ρ, hρ⟩ := hfn
  have hsp : spD g 1 fn [.ref a] H (fun v _ => v = .bl true) fun _ _ _ => False := by
    refine ⟨rfl, fun b => if b ∈ g.tb then none else H b, [.sh (.scr ns)], [], ?_, List.nodup_nil, fun _ m => (nomatch m), fun b u e => ?_, fun p m => ⟨⟨#[], hTb p m, trivial, fun q _ pos cv hc => by simp [codeAmong] at hc⟩, if_pos m⟩, ?_⟩
    · refine ⟨.ref a, [], [], [], rfl, rfl, ⟨rfl, a, rfl, SL _ fun z => ?_⟩, ⟨rfl, rfl⟩⟩
      show (if a ∈ g.tb then none else H a) = _
      rw [if_neg aT, hH, z]
      exact topH_a aT
    · dsimp only at e
      split at e
      · cases e
      · exact e
    · rw [hρ]
      intro v S' H' ⟨A, α, h⟩
      obtain ⟨v', vs', A1, A2, e1, e2, r1, r2⟩ := h.tmp
      cases e1
      exact r1.2
  have hps : ps.length = 1 := (FF.len _ _ _ _ hsp).symm
  have e0 : Env0 P w g.K mg (hidT s₁.heap H) callerA [] s₁ H := ⟨rfl, hM, fun b o e => of_hidT e, Nat.le_of_eq (hidT_size _ _), trivial, fun b hb => absurd (show b ∈ ([] : List Addr) from hb) (by simp), hok, .of_eq hg⟩
  refine codeAny_mono (FF.run callerA [] s₁ H ⟨[.ref a], []⟩ [.ref a] [.ref a] _ _ hr rfl e0 (bi s₁ [.ref a] KX (by rw [hps]; rfl)) (.cons rfl .nil) hsp) fun r s' h => ?_
  match r, h with
  | .error e, ⟨_, _, _, _, _, _, _, _, _, _, _, _, z⟩ => exact z.elim
  | .ok .next, h => exact False.elim h
  | .ok .brk, h => exact False.elim h
  | .ok .cont, h => exact False.elim h
  | .ok (.ret u), ⟨v, H', os, bare, un, hok', r', q⟩ =>
    have q' : v = .bl true := q
    subst q'
    obtain rfl : u = Value.bool true := r'
    have key : ∀ b o, b ∉ g.tb → s₁.heap.get? b = some o → s'.heap.get? b = some o := fun b o nb e => by
      cases q : H b with
      | none => exact un.keep b o e q (by intro z; exact absurd (show b ∈ ([] : List Addr) from z) (by simp)) (by simp)
      | some u =>
        rcases obj b u q with ⟨m, _⟩ | ⟨_, _, rfl⟩
        · exact absurd m nb
        · obtain ⟨e1, _⟩ := hok b _ q
          obtain ⟨e2, _⟩ := hok' b _ (un.frzs b _ _ q)
          rw [e] at e1
          cases e1
          exact e2
    have grown : ∀ b ∈ g.tb, ∃ more : Array Value, s'.heap.get? b = some { cls := .none, data := .fields more } := fun b m => by
      obtain ⟨more, z⟩ := un.tbls b #[] (hTb b m)
      exact ⟨_, hok' b _ z⟩
    refine ⟨rfl, ⟨fun b o e => ?_, fun b o e => ?_⟩, os, bare⟩
    · by_cases m : b ∈ g.tb
      · obtain ⟨p, hp, rfl⟩ := tbl b m
        obtain ⟨more, hm⟩ := grown p.2 m
        rw [hT p hp] at e
        cases e
        exact .inr (.inl ⟨((C p hp).tab (hT p hp)).isCodeTable, rfl, #[], more, rfl, by rw [Array.empty_append]; exact hm⟩)
      · exact .inl (key b o m e)
    · by_cases m : b ∈ g.tb
      · obtain ⟨more, hm⟩ := grown b m
        exact ⟨_, hm⟩
      · exact ⟨o, key b o m e⟩
/-- what the law's row has to bring at the head's heap h -/
def LawD (l : PySem.W.OpenLaw) (w : World) (K : PySem.W.Frag) (k n : Nat) (mg : Str → Option Value) (h : Heap) : Prop :=
  ∃ (g : Gb) (cs : List (Addr × Addr)) (fn : List O → R), g.K = K ∧ g.tb = cs.map (·.2) ∧ (∀ p ∈ cs, h.get? p.2 = some { cls := .none, data := .fields #[] }) ∧ (∀ p ∈ cs, K.lookup p.2 = none) ∧ (∀ p ∈ cs, PySem.W.CodeHd h p.1 p.2) ∧
    (∀ base : Heap, K.In base → base.Ns mainGlobals mg → (∃ mm, base.Ns sysModules mm) → (∀ p ∈ cs, GxR.TabB base mg p.1 p.2) → Cal l.prog w mg base g k "law" 1 [] fn) ∧
    ∀ ns : List Int, ns.length ≤ n → (∀ z ∈ ns, Builtin.Int.intBits z ≤ 1048576) → ∃ ρ, fn [.sh (.scr ns)] = .ok (.sh (.bl true)) ρ
/-- the tables of code objects, as the top left them -/
def TabsD (q : Program) (K : PySem.W.Frag) (h : Heap) : Prop := ∀ (x : Str) (c P : Addr), ((recsOf q).find? (fun e => e.name == x)).isSome = true → PySem.W.tabIn K x = some (c, P) → PySem.W.CodeHd h c P ∧ h.get? P = some { cls := .none, data := .fields #[] }
theorem walk_D {l : PySem.W.OpenLaw} {n k : Nat} {q : Program} {loose : List Str} {XP : (Str → Option Value) → Heap → Prop} {YP : World → Heap → Prop} {d : DefRec} {K : Params → PySem.W.Frag}
    (hn : l.most = some n) (hn2 : n ≤ sizeLine) (hdf : d.params.defaults = []) (hnm : d.name = "law") (himp : importsNone q = true) (hr : Room k callerA) (hY : ∀ (w : World) (h : Heap), YP w h → (K w.params).In h)
    (F : ∀ (w : World) (mg : Str → Option Value) (h : Heap), YP w h → (K w.params).In h → h.Ns mainGlobals mg → TabsD q (K w.params) h → LawD l w (K w.params) k n mg h) :
    PySem.W.WalkO q loose XP YP l.row.toRowW d [] (fun f vs => PySem.call f vs) := by
  refine Att.attach_callB hn hdf fun w s₀ s₁ mg mb fa o pm cd doc a vs ns G Y ho hd hcd hmg hobj hints hlen hbits hg => ?_
  have KX := hY w _ Y
  have TT : TabsD q (K w.params) s₁.heap := fun x c P h1 h2 => by
    obtain ⟨d2, h3⟩ := Option.isSome_iff_exists.mp h1
    exact PySem.W.tab_of G.T KX h3 h2
  obtain ⟨g, cs, fn, hK, htb, hT, nT, C, hF, hfn⟩ := F w mg _ Y KX G.T.g TT
  obtain ⟨mm, hmm, _⟩ := (G.T.seer himp).mods
  rw [← hK] at KX nT hF
  exact law_callD KX G.T.g G.T.b G.T.builtins G.T.nolimit ⟨mm, hmm⟩ hg htb hT nT C G.T.bmain hobj hints (Nat.le_trans hlen hn2) hr (hnm ▸ hmg) hF (hfn ns hlen hbits)
/-! the facts of the text, from the written part -/
section
variable {g : Gb} {h base : Heap} {mg : Str → Option Value} {f : Addr} {x : Str} {st : Stmt} {ps : List Str} {oc kV dc pm cd ct : Value} {od an : Option Addr} {sl : Array (Option Value)}
theorem defT_of (X : g.K.In h) (G : h.Ns mainGlobals mg) (a : PySem.W.nsIn g.K mainGlobals x = some (some (.ref f)))
    (l : g.K.lookup f = some ⟨oc, od, .func (PySem.W.fnOf x x (defArgs st) (defBody st) (defScope st) .none kV dc pm an cd ct), sl⟩) (c : PySem.W.codeIn g.K cd x = true) (k : PySem.W.keepIn g.K (.ref f) = true)
    (hb : ∀ us : List Value, us.length = ps.length → bindArgs (PySem.W.fnOf x x (defArgs st) (defBody st) (defScope st) .none kV dc pm an cd ct) ⟨us, []⟩ = pure (ps.zip us)) : DefT g mg x st ps [] :=
  ⟨f, _, [], [], ⟨_, _, _, _, _, _, _, _, _, _, rfl, l, c⟩, PySem.W.mg_of X G a, k, .all hb, .nil, fun _ => rfl⟩
theorem defG_of {cc P : Addr} (X : g.K.In h) (G : h.Ns mainGlobals mg) (a : PySem.W.nsIn g.K mainGlobals x = some (some (.ref f)))
    (l : g.K.lookup f = some ⟨oc, od, .func (PySem.W.fnOf x x (defArgs st) (defBody st) (defScope st) .none kV dc pm an cd ct), sl⟩) (c : PySem.W.codeIn g.K cd x = true) (k : PySem.W.keepIn g.K (.ref f) = true)
    (hb : ∀ us : List Value, us.length = ps.length → bindArgs (PySem.W.fnOf x x (defArgs st) (defBody st) (defScope st) .none kV dc pm an cd ct) ⟨us, []⟩ = pure (ps.zip us))
    {nq : Option Str} (hc : cd = .ref cc) (hP : P ∈ g.tb) (hQ : g.nm P = nq) (T : GxR.TabB base mg cc P) : DefG g mg base x st ps [] nq :=
  ⟨f, _, [], [], ⟨_, _, _, _, _, _, _, _, _, _, rfl, l, c⟩, PySem.W.mg_of X G a, k, .all hb, .nil, fun _ => rfl, cc, P, T, hc, hP, hQ⟩
theorem kw_of {ks : List Str} {n : Nat} {pl : List Nat} (X : g.K.In h) (G : h.Ns mainGlobals mg) (a : PySem.W.nsIn g.K mainGlobals x = some (some (.ref f)))
    (l : g.K.lookup f = some ⟨oc, od, .func (PySem.W.fnOf x x (defArgs st) (defBody st) (defScope st) .none kV dc pm an cd ct), sl⟩) (hps : ps = parN (defArgs st)) (hp : ps.length = pl.length) (h0 : ps ≠ [])
    (hb : ∀ us ws : List Value, us.length = n → ws.length = ks.length → bindArgs (PySem.W.fnOf x x (defArgs st) (defBody st) (defScope st) .none kV dc pm an cd ct) ⟨us, ks.zip ws⟩ = pure (ps.zip (pl.map fun i => (us ++ ws).getD i .none))) : KwT g mg x ks n pl :=
  kwT_of (PySem.W.mg_of X G a) l hps hp h0 hb
theorem tabIn_of {K : PySem.W.Frag} {tc : Value} {td : Option Addr} {tsl : Array (Option Value)} {tv : Array Value} {cc P : Addr} (a : PySem.W.nsIn K mainGlobals x = some (some (.ref f)))
    (l : K.lookup f = some ⟨oc, od, .func (PySem.W.fnOf x x (defArgs st) (defBody st) (defScope st) .none kV dc pm an cd ct), sl⟩) (hc : cd = .ref cc) (lc : K.lookup cc = some ⟨tc, td, .fields tv, tsl⟩) (hv : (tv[11]? : Option Value) = some (.ref P)) : PySem.W.tabIn K x = some (cc, P) := by
  subst hc
  unfold PySem.W.tabIn
  simp only [a, l, lc, hv, PySem.W.fnOf]
theorem con_of {d : V} {v : Value} (X : g.K.In h) (G : h.Ns mainGlobals mg) (a : PySem.W.nsIn g.K mainGlobals x = some (some v)) (r : RelV d v) : ∃ u, mg x = some u ∧ RelV d u := ⟨v, PySem.W.mg_of X G a, r⟩
end
end DL
set_option Elab.async false
set_option linter.all false
set_option maxRecDepth 100000
set_option autoImplicit false
/-! DLV: d.clear(). -/
namespace DL
open PySem PySem.Spec PyProof.Rows L2
section
variable {X : Cx} {g : Gb} {W : WX} {Z : Zn} {S S' H H' : Hp} {τ τ' : List V} {θ θ' : List O} {σ σ' : Sg} {ρ : En} {Q Q' : VK} {ms : List E} {v : V} {j i : Nat} {y : Str} {py apos pos : Pos}
/-- x.clear(), a dict -/
def eClr (i : Nat) : E := fun ρ => match slO (ρ.getD i .no) with
  | some (.dct _) => .ok (.sh .non) (ρ.set i ((ρ.getD i .no).re (.dct [])))
  | _ => .stuck
end
end DL
set_option Elab.async false
set_option linter.all false
set_option maxRecDepth 100000
set_option autoImplicit false
/-! DLU: an expression that only looks: all that the frame owns is lent while it runs, and is owned again behind it. -/
namespace DL
open PySem PySem.Spec PyProof.Rows L2
/-- never changed, by any one: flat values, and tuples of such -/
def D.imm : D → Bool
  | .tup ds => imms ds
  | .any => true
  | .lab _ .any => true
  | d => d.flat
where imms : List D → Bool
  | [] => true
  | d :: ds => d.imm && imms ds
mutual
def ownO : O → Bool
  | .sh d => d.imm
  | .lst os => ownOs os
  | .dct kos => ownOk kos
  | .ins _ fs => ownOf fs
  | .tag _ o => ownO o
  | .tup os => ownOs os
def ownOs : List O → Bool
  | [] => true
  | o :: os => ownO o && ownOs os
def ownOk : List (Key × O) → Bool
  | [] => true
  | (_, o) :: os => ownO o && ownOk os
def ownOf : List (Str × O) → Bool
  | [] => true
  | (_, o) :: os => ownO o && ownOf os
end
/-- what stands at an owned address -/
def Knd (u : HO) : Prop := (∃ xs, u = .lst xs) ∨ (∃ kvs, u = .dK kvs) ∨ (∃ c d fs, u = .ins c d fs) ∨ ∃ x, u = .own x
mutual
theorem RelO.knd {g : Gb} {S H : Hp} : ∀ (o : O) v A, RelO g S H o v A → ∀ a ∈ A, ∃ u, H a = some u ∧ Knd u
  | .sh d, v, A, ⟨e, _⟩, a, m => by subst e; cases m
  | .lst os, v, A, ⟨l, vs, A', e, q, eA, r⟩, a, m => by
    subst eA
    rcases List.mem_cons.mp m with z | m
    · rw [z]; exact ⟨_, q, .inl ⟨_, rfl⟩⟩
    · exact RelOs.knd os vs A' r a m
  | .dct os, v, A, ⟨l, vs, A', e, q, eA, r⟩, a, m => by
    subst eA
    rcases List.mem_cons.mp m with z | m
    · rw [z]; exact ⟨_, q, .inr (.inl ⟨_, rfl⟩)⟩
    · exact RelOK.knd os vs A' r a m
  | .ins c os, v, A, ⟨x, dx, vs, A', e, q, q2, eA, r⟩, a, m => by
    subst eA
    rcases List.mem_cons.mp m with z | m
    · rw [z]; exact ⟨_, q, .inr (.inr (.inl ⟨_, _, _, rfl⟩))⟩
    rcases List.mem_cons.mp m with z | m
    · rw [z]; exact ⟨_, q2, .inr (.inr (.inr ⟨_, rfl⟩))⟩
    · exact RelOF.knd os vs A' r a m
  | .tag n o, v, A, ⟨e, r⟩, a, m => RelO.knd o v A r a m
  | .tup os, v, A, ⟨_, vs, _, _, r⟩, a, m => RelOs.knd os vs A r a m
theorem RelOs.knd {g : Gb} {S H : Hp} : ∀ (os : List O) vs A, RelOs g S H os vs A → ∀ a ∈ A, ∃ u, H a = some u ∧ Knd u
  | [], _, _, ⟨_, e⟩, a, m => by subst e; cases m
  | o :: os, _, _, ⟨v, r, A1, A2, e, eA, x, y⟩, a, m => by
    subst eA
    rcases List.mem_append.mp m with m | m
    · exact RelO.knd o v A1 x a m
    · exact RelOs.knd os r A2 y a m
theorem RelOK.knd {g : Gb} {S H : Hp} : ∀ (os : List (Key × O)) vs A, RelOK g S H os vs A → ∀ a ∈ A, ∃ u, H a = some u ∧ Knd u
  | [], _, _, ⟨_, e⟩, a, m => by subst e; cases m
  | (_, o) :: os, _, _, ⟨v, r, A1, A2, e, eA, x, y⟩, a, m => by
    subst eA
    rcases List.mem_append.mp m with m | m
    · exact RelO.knd o v A1 x a m
    · exact RelOK.knd os r A2 y a m
theorem RelOF.knd {g : Gb} {S H : Hp} : ∀ (os : List (Str × O)) vs A, RelOF g S H os vs A → ∀ a ∈ A, ∃ u, H a = some u ∧ Knd u
  | [], _, _, ⟨_, e⟩, a, m => by subst e; cases m
  | (_, o) :: os, _, _, ⟨v, r, A1, A2, e, eA, x, y⟩, a, m => by
    subst eA
    rcases List.mem_append.mp m with m | m
    · exact RelO.knd o v A1 x a m
    · exact RelOF.knd os r A2 y a m
end
/-- S without what B holds -/
def less (S : Hp) (B : List Addr) : Hp := fun a => if a ∈ B then none else S a
theorem less_in {S : Hp} {B : List Addr} {a : Addr} (h : a ∈ B) : less S B a = none := if_pos h
theorem less_out {S : Hp} {B : List Addr} {a : Addr} (h : a ∉ B) : less S B a = S a := if_neg h
section
variable {g : Gb} {S H S' H' : Hp} {B : List Addr}
mutual
theorem Rep.imm (hB : ∀ a ∈ B, ∀ xs, ¬ Rd S a (.tup xs)) : ∀ (d : D) v, d.imm = true → Rep g S d v → Rep g (less S B) d v
  | .non, _, _, r => r
  | .bl _, _, _, r => r
  | .int _, _, _, r => r
  | .str _, _, _, r => r
  | .tup ds, v, h, ⟨a, vs, e, q, b⟩ => by
    refine ⟨a, vs, e, ?_, Reps.imm hB ds vs (by simpa [D.imm] using h) b⟩
    rcases q with q | q
    · have n : a ∉ B := fun m => hB a m vs q
      left
      unfold Rd at q ⊢
      rw [less_out n]; exact q
    · exact .inr q
  | .lst ds, _, h, _ => by simp [D.imm, D.flat] at h
  | .dct ds, _, h, _ => by simp [D.imm, D.flat] at h
  | .ins _ ds, _, h, _ => by simp [D.imm, D.flat] at h
  | .exn _ ds, _, h, _ => by simp [D.imm, D.flat] at h
  | .any, _, _, _ => True.intro
  | .lab _ d, v, h, ⟨e, r⟩ => by
    cases d with
    | any => exact ⟨e, True.intro⟩
    | _ => simp [D.imm, D.flat] at h
  | .scr _, _, h, _ => by simp [D.imm, D.flat] at h
  | .op _, _, _, r => r
  | .gh _ _, _, h, _ => by simp [D.imm, D.flat] at h
theorem Reps.imm (hB : ∀ a ∈ B, ∀ xs, ¬ Rd S a (.tup xs)) : ∀ (ds : List D) vs, D.imm.imms ds = true → Reps g S ds vs → Reps g (less S B) ds vs
  | [], _, _, r => r
  | d :: ds, _, h, ⟨v, r, e, a, b⟩ => by
    unfold D.imm.imms at h
    rw [Bool.and_eq_true] at h
    exact ⟨v, r, e, Rep.imm hB d v h.1 a, Reps.imm hB ds r h.2 b⟩
end
mutual
theorem RelO.own (hB : ∀ a ∈ B, ∀ xs, ¬ Rd S a (.tup xs)) : ∀ (o : O) v A, ownO o = true → (∀ a ∈ A, H' a = H a) → RelO g S H o v A → RelO g (less S B) H' o v A
  | .sh d, v, A, h, _, ⟨e, r⟩ => ⟨e, Rep.imm hB d v (by simpa [ownO] using h) r⟩
  | .lst os, v, A, h, k, ⟨l, vs, A', e, q, eA, r⟩ => by
    subst eA
    exact ⟨l, vs, A', e, (k l (List.mem_cons_self ..)).trans q, rfl, RelOs.own hB os vs A' (by simpa [ownO] using h) (fun a m => k a (List.mem_cons_of_mem _ m)) r⟩
  | .dct os, v, A, h, k, ⟨l, vs, A', e, q, eA, r⟩ => by
    subst eA
    exact ⟨l, vs, A', e, (k l (List.mem_cons_self ..)).trans q, rfl, RelOK.own hB os vs A' (by simpa [ownO] using h) (fun a m => k a (List.mem_cons_of_mem _ m)) r⟩
  | .ins c os, v, A, h, k, ⟨x, dx, vs, A', e, q, q2, eA, r⟩ => by
    subst eA
    exact ⟨x, dx, vs, A', e, (k x (List.mem_cons_self ..)).trans q, (k dx (List.mem_cons_of_mem _ (List.mem_cons_self ..))).trans q2, rfl,
      RelOF.own hB os vs A' (by simpa [ownO] using h) (fun a m => k a (List.mem_cons_of_mem _ (List.mem_cons_of_mem _ m))) r⟩
  | .tag n o, v, A, h, k, ⟨e, r⟩ => ⟨e, RelO.own hB o v A (by simpa [ownO] using h) k r⟩
  | .tup os, v, A, h, k, ⟨a, vs, e, q, r⟩ => by
    have n : a ∉ B := fun m => hB a m vs (.inl q)
    exact ⟨a, vs, e, by rw [less_out n]; exact q, RelOs.own hB os vs A (by simpa [ownO] using h) k r⟩
theorem RelOs.own (hB : ∀ a ∈ B, ∀ xs, ¬ Rd S a (.tup xs)) : ∀ (os : List O) vs A, ownOs os = true → (∀ a ∈ A, H' a = H a) → RelOs g S H os vs A → RelOs g (less S B) H' os vs A
  | [], _, _, _, _, r => r
  | o :: os, _, _, h, k, ⟨v, r, A1, A2, e, eA, a, b⟩ => by
    subst eA
    unfold ownOs at h
    rw [Bool.and_eq_true] at h
    exact ⟨v, r, A1, A2, e, rfl, RelO.own hB o v A1 h.1 (fun a m => k a (List.mem_append_left _ m)) a, RelOs.own hB os r A2 h.2 (fun a m => k a (List.mem_append_right _ m)) b⟩
theorem RelOK.own (hB : ∀ a ∈ B, ∀ xs, ¬ Rd S a (.tup xs)) : ∀ (os : List (Key × O)) vs A, ownOk os = true → (∀ a ∈ A, H' a = H a) → RelOK g S H os vs A → RelOK g (less S B) H' os vs A
  | [], _, _, _, _, r => r
  | (_, o) :: os, _, _, h, k, ⟨v, r, A1, A2, e, eA, a, b⟩ => by
    subst eA
    unfold ownOk at h
    rw [Bool.and_eq_true] at h
    exact ⟨v, r, A1, A2, e, rfl, RelO.own hB o v A1 h.1 (fun a m => k a (List.mem_append_left _ m)) a, RelOK.own hB os r A2 h.2 (fun a m => k a (List.mem_append_right _ m)) b⟩
theorem RelOF.own (hB : ∀ a ∈ B, ∀ xs, ¬ Rd S a (.tup xs)) : ∀ (os : List (Str × O)) vs A, ownOf os = true → (∀ a ∈ A, H' a = H a) → RelOF g S H os vs A → RelOF g (less S B) H' os vs A
  | [], _, _, _, _, r => r
  | (_, o) :: os, _, _, h, k, ⟨v, r, A1, A2, e, eA, a, b⟩ => by
    subst eA
    unfold ownOf at h
    rw [Bool.and_eq_true] at h
    exact ⟨v, r, A1, A2, e, rfl, RelO.own hB o v A1 h.1 (fun a m => k a (List.mem_append_left _ m)) a, RelOF.own hB os r A2 h.2 (fun a m => k a (List.mem_append_right _ m)) b⟩
end
end
/-! dicts that were locked meanwhile are unlocked behind it -/
inductive Unl (H : Hp) : Hp → Hp → Prop where
  | refl (H1 : Hp) : Unl H H1 H1
  | step {H1 H2 : Hp} {d : Addr} {od : Obj} {kvs : List (Key × V)} (h : H d = some (.dK kvs)) (e : H1 d = some (.frz od (.dK kvs))) (r : Unl H (upd H1 d (.dK kvs)) H2) : Unl H H1 H2
def tUnl (t : TE) : TE := fun σ H Q => t σ H fun v H1 => ∃ H2, Unl H H1 H2 ∧ Q v H2
theorem Unl.inv {X : Cx} {pins : List (Addr × Obj)} {σ : L2.St} {H H1 H2 : Hp} {s : Shared} (nf : ∀ d kvs, H d = some (.dK kvs) → ∀ o' u', X.H_0 d ≠ some (.frz o' u')) (u : Unl H H1 H2) : L2.Inv X pins σ H1 s → L2.Inv X pins σ H2 s := by
  induction u with
  | refl => exact id
  | step h e _ ih => exact fun I => ih (I.unlock e (nf _ _ h))
theorem pe_unl {X : Cx} {e : Expr} {t : TE} (h : PE X e t) : PE X e (tUnl t) := by
  refine ⟨fun pins s σ H Q I hw => ?_⟩
  refine thn (h.run pins s σ H _ I hw) fun v s1 ⟨x, H1, I2, r, H2, u, q⟩ => ?_
  exact ⟨x, H2, u.inv (fun d kvs hd => I.nofrz hd trivial) I2, r, q⟩
theorem unl_all {H H1 : Hp} : ∀ (B : List Addr), (∀ a ∈ B, H1 a = H a ∨ ∃ kvs od, H a = some (.dK kvs) ∧ H1 a = some (.frz od (.dK kvs))) → Unl H H1 (fun a => if a ∈ B then H a else H1 a)
  | [], _ => by simp; exact .refl _
  | b :: B, h => by
    have key : ∀ H1' : Hp, (∀ a, a ≠ b → H1' a = H1 a) → H1' b = H b → Unl H H1' (fun a => if a ∈ b :: B then H a else H1 a) := fun H1' h1 h2 => by
      have hB : ∀ a ∈ B, H1' a = H a ∨ ∃ kvs od, H a = some (.dK kvs) ∧ H1' a = some (.frz od (.dK kvs)) := fun a m => by
        by_cases z : a = b
        · rw [z]; exact .inl h2
        · rw [h1 a z]; exact h a (List.mem_cons_of_mem _ m)
      have := unl_all (H := H) (H1 := H1') B hB
      have e : (fun a => if a ∈ B then H a else H1' a) = (fun a => if a ∈ b :: B then H a else H1 a) := by
        funext a
        by_cases m : a ∈ B
        · rw [if_pos m, if_pos (List.mem_cons_of_mem _ m)]
        · rw [if_neg m]
          by_cases z : a = b
          · rw [z, h2, if_pos List.mem_cons_self]
          · rw [h1 a z, if_neg (by simp [m, z])]
      rw [e] at this
      exact this
    rcases h b List.mem_cons_self with e | ⟨kvs, od, e1, e2⟩
    · exact key H1 (fun _ _ => rfl) e
    · exact .step e1 e2 (key _ (fun a z => upd_ne z) (by rw [upd_same, e1]))
def Sl.lend : Sl → Sl
  | .no => .no
  | .v o => .v (.sh o.d)
  | .b o => .v (.sh o.d)
def lendR (ρ : En) : R → R
  | .ok o _ => if ownO o = true then .ok o ρ else .stuck
  | _ => .stuck
def eLend (m : E) : E := fun ρ => lendR ρ (m (ρ.map Sl.lend))
section
variable {g : Gb} {W : WX} {Z : Zn} {S S' H H' : Hp} {τ : List V} {θ : List O} {σ : Sg} {ρ : En} {Q : VK} {m : E} {X : Cx} {j : Nat} {e : Expr}
/-- all that the slots own -/
def allA (α : Nat → List Addr) : Nat → List Addr
  | 0 => []
  | n + 1 => allA α n ++ α n
theorem mem_allA {α : Nat → List Addr} {a : Addr} : ∀ {n : Nat}, a ∈ allA α n ↔ ∃ i, i < n ∧ a ∈ α i
  | 0 => by simp [allA]
  | n + 1 => by
    unfold allA
    rw [List.mem_append, mem_allA]
    constructor
    · rintro (⟨i, h, m⟩ | m)
      · exact ⟨i, by omega, m⟩
      · exact ⟨n, by omega, m⟩
    · rintro ⟨i, h, m⟩
      by_cases z : i = n
      · exact .inr (z ▸ m)
      · exact .inl ⟨i, by omega, m⟩
theorem le_lend (q : LE g W (eLend m) σ H Q) : tUnl (LE g W m) σ H Q := by
  obtain ⟨Z, S, τ, θ, ρ, ⟨A, α0, hd0⟩, post⟩ := q
  -- what slots beyond the names own is nothing
  have hd : ∃ α, Hold g Z S H τ θ σ ρ A α ∧ ∀ i, (∀ o, ρ[i]? ≠ some (.v o) ∧ ρ[i]? ≠ some (.b o)) → α i = [] := by
    refine ⟨fun i => match ρ[i]? with | some (.v _) => α0 i | some (.b _) => α0 i | _ => [], ⟨hd0.bs, hd0.tmp, hd0.len, fun i o hi => ?_, hd0.ndA, fun i => ?_, fun i k n a m => ?_, fun i a m => ?_, fun a m => ?_, hd0.pin⟩, fun i h => ?_⟩
    · obtain ⟨v, e, r⟩ := hd0.slot i o hi
      refine ⟨v, e, ?_⟩
      rcases hi with hi | hi <;> (simp only [hi]; exact r)
    · show (match ρ[i]? with | some (.v _) => α0 i | some (.b _) => α0 i | _ => []).Nodup
      split
      · exact hd0.nd i
      · exact hd0.nd i
      · exact List.nodup_nil
    · have m' : a ∈ α0 i := by
        (try dsimp only at m); split at m
        · exact m
        · exact m
        · cases m
      have := hd0.dis i k n a m'
      (try dsimp only); split
      · exact this
      · exact this
      · exact List.not_mem_nil
    · have m' : a ∈ α0 i := by
        (try dsimp only at m); split at m
        · exact m
        · exact m
        · cases m
      exact hd0.disA i a m'
    · refine hd0.own a ?_
      rcases m with m | ⟨i, m⟩
      · exact .inl m
      · refine .inr ⟨i, ?_⟩
        (try dsimp only at m); split at m
        · exact m
        · exact m
        · cases m
    · cases hs : ρ[i]? with
      | none => simp only [hs]
      | some s =>
        simp only [hs]
        cases s with
        | no => rfl
        | v o => exact absurd hs (h o).1
        | b o => exact absurd hs (h o).2
  obtain ⟨α, hd, out⟩ := hd
  let B := allA α ρ.length
  have memB : ∀ {a}, a ∈ B ↔ ∃ i, a ∈ α i := fun {a} => by
    constructor
    · intro h; obtain ⟨i, _, m⟩ := mem_allA.mp h; exact ⟨i, m⟩
    · rintro ⟨i, m⟩
      refine mem_allA.mpr ⟨i, ?_, m⟩
      by_cases z : i < ρ.length
      · exact z
      · have : ρ[i]? = none := List.getElem?_eq_none (by omega)
        rw [out i fun o => ⟨by rw [this]; simp, by rw [this]; simp⟩] at m
        cases m
  have hB : ∀ a ∈ B, S a = none ∧ (∃ u, H a = some u) ∧ (a ∈ Z.B ∨ Z.H0 a = none) ∧ a ∉ g.tb := fun a m => hd.own a (.inr (memB.mp m))
  have ex1 : Ex S (join S H B) := join_ex fun a m => (hB a m).1
  have kB : ∀ a ∈ B, ∃ u, H a = some u ∧ Knd u := fun a m => by
    obtain ⟨i, m⟩ := memB.mp m
    cases hs : ρ[i]? with
    | none => rw [out i fun o => ⟨by rw [hs]; simp, by rw [hs]; simp⟩] at m; cases m
    | some s =>
      cases s with
      | no => rw [out i fun o => ⟨by rw [hs]; simp, by rw [hs]; simp⟩] at m; cases m
      | v o => obtain ⟨v, _, r⟩ := hd.slot i o (.inl hs); exact RelO.knd o v _ r a m
      | b o => obtain ⟨v, _, r⟩ := hd.slot i o (.inr hs); exact RelO.knd o v _ r a m
  let Z1 : Zn := ⟨join S H B, H, [], σ⟩
  have st1 : St g Z1 (join S H B) H [] [] σ (ρ.map Sl.lend) := by
    refine ⟨[], fun _ => [], ⟨⟨join_sub hd.bs.sub, Ex.refl _, fun a h1 h2 => absurd h2 h1, fun a u h _ _ => .inl h, fun a u h => ⟨u, h⟩, fun p m => (hd.bs.tbl p m).ex ex1, fun p m => ?_⟩, ⟨rfl, rfl⟩, by rw [List.length_map]; exact hd.len, fun i o hi => ?_, List.nodup_nil, fun _ => List.nodup_nil, fun _ _ _ _ m => (nomatch m), fun _ _ m => (nomatch m), fun a m => ?_, fun i o hi => ?_⟩⟩
    · rw [join_out fun m2 => (hB p m2).2.2.2 m]; exact hd.bs.tbS p m
    · rw [List.getElem?_map] at hi
      have key : ∀ o0 : O, (ρ[i]? = some (.v o0) ∨ ρ[i]? = some (.b o0)) → ∃ v, σ[i]? = some (some v) ∧ RelO g (join S H B) H (.sh o0.d) v [] := fun o0 h0 => by
        obtain ⟨v, e, r⟩ := hd.slot i o0 h0
        exact ⟨v, e, rfl, RelO.rep ex1 o0 v (α i) (fun a m u q => by rw [join_in (memB.mpr ⟨i, m⟩)]; exact q) r⟩
      cases hs : ρ[i]? with
      | none => rw [hs] at hi; rcases hi with hi | hi <;> cases hi
      | some s =>
        rw [hs] at hi
        cases s with
        | no => rcases hi with hi | hi <;> cases hi
        | v o0 => rcases hi with hi | hi <;> cases hi; exact key o0 (.inl hs)
        | b o0 => rcases hi with hi | hi <;> cases hi; exact key o0 (.inr hs)
    · rcases m with m | ⟨_, m⟩ <;> cases m
    · rfl
  refine ⟨Z1, join S H B, [], [], ρ.map Sl.lend, st1, ?_⟩
  unfold eLend at post
  cases hm : m (ρ.map Sl.lend) with
  | stuck => rw [hm] at post; exact post.elim
  | exc x ρ1 => rw [hm] at post; exact post.elim
  | ok o ρ1 =>
    rw [hm] at post
    unfold lendR at post
    dsimp only at post
    by_cases ho : ownO o = true
    case neg => rw [if_neg ho] at post; exact post.elim
    rw [if_pos ho] at post
    intro v S' H' e1 st2
    obtain ⟨A2, α2, h2⟩ := st2
    have h2tmp : RelO g S' H' o v A2 := by have := h2.tmp; exact RelOs.oneInv (by simpa using this)
    have bs2 := h2.bs
    -- the heap behind it
    have hH : ∀ a ∈ B, H' a = H a ∨ ∃ kvs od, H a = some (.dK kvs) ∧ H' a = some (.frz od (.dK kvs)) := fun a m => by
      obtain ⟨u, hu, _⟩ := kB a m
      rcases bs2.frm a u hu List.not_mem_nil (hB a m).2.2.2 with z | ⟨_, kvs, od, z, w⟩
      · exact .inl (z.trans hu.symm)
      · subst z; exact .inr ⟨kvs, od, hu, w⟩
    have SB : ∀ a ∈ B, S' a ≠ none := fun a m z => by
      obtain ⟨u, hu, _⟩ := kB a m
      have : join S H B a = some u := by rw [join_in m]; exact hu
      rcases e1 a u this with q | ⟨_, _, _, q⟩ <;> (rw [z] at q; cases q)
    have tB : ∀ a ∈ B, ∀ xs, ¬ Rd S' a (.tup xs) := fun a m xs r => by
      obtain ⟨u, hu, k⟩ := kB a m
      have j1 : join S H B a = some u := by rw [join_in m]; exact hu
      rcases e1 a u j1 with q | ⟨kvs, o', z, q⟩
      · rcases r with r | ⟨o', r⟩
        · rw [q] at r; cases r
          rcases k with ⟨_, z⟩ | ⟨_, z⟩ | ⟨_, _, _, z⟩ | ⟨_, z⟩ <;> cases z
        · rw [q] at r; cases r
          rcases k with ⟨_, z⟩ | ⟨_, z⟩ | ⟨_, _, _, z⟩ | ⟨_, z⟩ <;> cases z
      · subst z
        rcases r with r | ⟨o'', r⟩ <;> (rw [q] at r; cases r)
    have A2B : ∀ a ∈ A2, a ∉ B := fun a m mb => SB a mb (h2.own a (.inl m)).1
    refine ⟨fun a => if a ∈ B then H a else H' a, unl_all B hH, ?_⟩
    have H2in : ∀ {a}, a ∈ B → (fun a => if a ∈ B then H a else H' a) a = H a := fun {a} m => if_pos m
    have H2out : ∀ {a}, a ∉ B → (fun a => if a ∈ B then H a else H' a) a = H' a := fun {a} m => if_neg m
    have exS : Ex S (less S' B) := fun a u h => by
      have n : a ∉ B := fun m => by rw [(hB a m).1] at h; cases h
      have : join S H B a = some u := by rw [join_out n]; exact h
      rw [less_out n]
      exact e1 a u this
    have keepO : ∀ a, S a = none → a ∉ B → ∀ u, H a = some u → a ∉ g.tb → H' a = some u := fun a hs n u hu ht => by
      rcases bs2.frm a u hu List.not_mem_nil ht with z | ⟨z, _⟩
      · exact z
      · exact absurd (by rw [show Z1.S0 a = join S H B a from rfl, join_out n]; exact hs) z
    refine post v (less S' B) _ exS ⟨A ++ A2, α, ⟨⟨fun a u h => ?_, hd.bs.mono.trans exS, fun a h1 h2' => ?_, fun a u h n1 n2 => ?_, fun a u h => ?_, fun p m => ?_, fun p m => ?_⟩, ?_, hd.len, fun i o' hi => ?_, ?_, hd.nd, hd.dis, fun i a m m2 => ?_, fun a m => ?_, hd.pin⟩⟩
    · have n : a ∉ B := fun m => by rw [less_in m] at h; cases h
      rw [less_out n] at h
      show (if a ∈ B then H a else H' a) = _
      rw [if_neg n]
      exact bs2.sub a u h
    · have n : a ∉ B := fun m => by rw [less_in m] at h1; exact h1 rfl
      rw [less_out n] at h1
      by_cases z : S a = none
      · rcases bs2.new a h1 (by show join S H B a = none; rw [join_out n]; exact z) with q | q
        · exact .inl (hd.bs.fresh q)
        · cases q
      · exact hd.bs.new a z h2'
    · show (if a ∈ B then H a else H' a) = _ ∨ _ ∧ ∃ kvs o, _ ∧ (if a ∈ B then H a else H' a) = _
      have nB : a ∉ B := fun m => by
        rcases (hB a m).2.2.1 with q | q
        · exact n1 q
        · rw [q] at h; cases h
      rw [if_neg nB]
      rcases hd.bs.frm a u h n1 n2 with z | ⟨z1, kvs, od, z2, z3⟩
      · rcases bs2.frm a u z List.not_mem_nil n2 with y | ⟨y1, kvs, od, y2, y3⟩
        · exact .inl y
        · refine .inr ⟨fun y4 => ?_, kvs, od, y2, y3⟩
          have y5 : S a ≠ none := fun y6 => y1 (by show join S H B a = none; rw [join_out nB]; exact y6)
          rcases hd.bs.new a y5 y4 with q | q
          · rw [q] at h; cases h
          · exact n1 q
      · rcases bs2.frm a _ z3 List.not_mem_nil n2 with y | ⟨_, kvs', od', y2, _⟩
        · exact .inr ⟨z1, kvs, od, z2, y⟩
        · cases y2
    · obtain ⟨u', q⟩ := hd.bs.dom a u h
      show ∃ u', (if a ∈ B then H a else H' a) = _
      by_cases n : a ∈ B
      · rw [if_pos n]; exact ⟨u', q⟩
      · rw [if_neg n]; exact bs2.dom a u' q
    · obtain ⟨ps, e, k⟩ := bs2.tbl p m
      refine ⟨ps, ?_, k.1, fun q hq pos cv hc => ?_⟩
      rotate_left
      · obtain ⟨c, hc1, hc2⟩ := k.2 q hq pos cv hc
        refine ⟨c, hc1, ?_⟩
        rw [less_out fun mb => ?_]
        · exact hc2
        · obtain ⟨u, hu, kd⟩ := kB c mb
          have hj : join S H B c = some u := (join_in mb).trans hu
          rcases bs2.mono c u hj with y | ⟨kvs, od, y1, y2⟩
          · rw [hc2] at y
            cases y
            unfold LamX.CodeO at kd
            rcases kd with ⟨_, y⟩ | ⟨_, y⟩ | ⟨_, _, _, y⟩ | ⟨_, y⟩ <;> cases y
          · rw [hc2] at y2
            unfold LamX.CodeO at y2
            cases y2
      show (if p ∈ B then H p else H' p) = _
      rw [if_neg fun mb => (hB p mb).2.2.2 m]
      exact e
    · rw [less_out fun mb => (hB p mb).2.2.2 m]
      exact bs2.tbS p m
    · refine RelOs.append (RelOs.mono exS θ τ A (fun a m => ?_) hd.tmp) (RelOs.one (RelO.own tB o v A2 ho (fun a m => ?_) h2tmp))
      · obtain ⟨s1, ⟨u, hu⟩, s3, s4⟩ := hd.own a (.inl m)
        have nB : a ∉ B := fun mb => by obtain ⟨i, mi⟩ := memB.mp mb; exact hd.disA i a mi m
        show (if a ∈ B then H a else H' a) = _
        rw [if_neg nB, hu]
        exact keepO a s1 nB u hu s4
      · show (if a ∈ B then H a else H' a) = _
        rw [if_neg (A2B a m)]
    · obtain ⟨v', q1, q2⟩ := hd.slot i o' hi
      refine ⟨v', q1, RelO.mono exS o' v' (α i) (fun a m => ?_) q2⟩
      show (if a ∈ B then H a else H' a) = _
      rw [if_pos (memB.mpr ⟨i, m⟩)]
    · refine List.nodup_append.mpr ⟨hd.ndA, h2.ndA, fun a m b m2 z => ?_⟩
      subst z
      obtain ⟨s1, ⟨u, hu⟩, s3, s4⟩ := hd.own a (.inl m)
      rcases (h2.own a (.inl m2)).2.2.1 with q | q
      · cases q
      · have q : H a = none := q
        rw [q] at hu; cases hu
    · rcases List.mem_append.mp m2 with m2 | m2
      · exact hd.disA i a m m2
      · exact A2B a m2 (memB.mpr ⟨i, m⟩)
    · rcases m with m | ⟨i, m⟩
      · rcases List.mem_append.mp m with m | m
        · obtain ⟨s1, ⟨u, hu⟩, s3, s4⟩ := hd.own a (.inl m)
          have nB : a ∉ B := fun mb => by obtain ⟨i, mi⟩ := memB.mp mb; exact hd.disA i a mi m
          refine ⟨?_, ?_, s3, s4⟩
          · rw [less_out nB]
            by_cases z : S' a = none
            · exact z
            · rcases bs2.new a z (by show join S H B a = none; rw [join_out nB]; exact s1) with q | q
              · have q : H a = none := q
                rw [q] at hu; cases hu
              · cases q
          · show ∃ u, (if a ∈ B then H a else H' a) = _
            rw [if_neg nB]
            exact ⟨u, keepO a s1 nB u hu s4⟩
        · obtain ⟨s1, s2, s3, s4⟩ := h2.own a (.inl m)
          refine ⟨?_, ?_, ?_, s4⟩
          · rw [less_out (A2B a m)]; exact s1
          · show ∃ u, (if a ∈ B then H a else H' a) = _
            rw [if_neg (A2B a m)]; exact s2
          · rcases s3 with q | q
            · cases q
            · exact .inr (hd.bs.fresh q)
      · have mb : a ∈ B := memB.mpr ⟨i, m⟩
        obtain ⟨s1, ⟨u, hu⟩, s3, s4⟩ := hB a mb
        refine ⟨less_in mb, ?_, s3, s4⟩
        show ∃ u, (if a ∈ B then H a else H' a) = _
        rw [if_pos mb]; exact ⟨u, hu⟩
def tUnlT (t : TT) : TT := fun σ H Q => t σ H fun b H1 => ∃ H2, Unl H H1 H2 ∧ Q b H2
theorem pt_unl {t : TT} (h : PT X e t) : PT X e (tUnlT t) := by
  refine ⟨fun pins s σ H Q I hw => ?_⟩
  refine thn (h.run pins s σ H _ I hw) fun v s1 ⟨H1, I2, H2, u, q⟩ => ?_
  exact ⟨H2, u.inv (fun d kvs hd => I.nofrz hd trivial) I2, q⟩
theorem lt_lend {Q : Bool → Hp → Prop} (q : LT g W (eLend m) σ H Q) : tUnlT (LT g W m) σ H Q := by
  have q' := le_lend q
  unfold tUnl at q'
  obtain ⟨Z, S, τ, θ, ρ, st, post⟩ := q'
  refine ⟨Z, S, τ, θ, ρ, st, ?_⟩
  cases hm : m ρ with
  | stuck => rw [hm] at post; exact post.elim
  | exc x ρ1 => rw [hm] at post; exact post
  | ok o ρ1 =>
    rw [hm] at post
    intro v S' H' e1 st1
    obtain ⟨H2, u, b, hv, q⟩ := post v S' H' e1 st1
    exact ⟨b, hv, H2, u, q⟩
theorem qd_lend (h : PT X e (LT g W m)) : PT X e (LT g W (eLend m)) := ⟨fun pins s σ H Q I q => (pt_unl h).run pins s σ H Q I (lt_lend q)⟩
theorem pd_lend (h : PE X e (LE g W m)) : PE X e (LE g W (eLend m)) := PE_imp (pe_unl h) fun _ _ _ q => le_lend q
end
end DL
set_option Elab.async false
set_option linter.all false
set_option maxRecDepth 100000
set_option autoImplicit false
/-! DLM1: classes: fields, methods, instances made. -/
namespace DL
open PySem PySem.Spec PyProof.Rows L2
/-! ### the rules, over promises that ask for no repr beneath (FnW) -/
end DL
set_option Elab.async false
set_option linter.all false
set_option maxRecDepth 100000
set_option autoImplicit false
/-! DLM2: classes, lifted: e.f, o.m(..), C(..), self.f = e. -/
namespace DL
open PySem PySem.Spec PyProof.Rows L2
/-- the classes cs hand out their instances' own f -/
def FldOk (g : Gb) (cs : List Str) (f : Str) : Prop := ∀ c ∈ cs, Cls g.K (g.cn c) ∧ NoAttr g.K (g.cn c) f
theorem FldOk.one {g : Gb} {c f : Str} (h : Cls g.K (g.cn c)) (n : NoAttr g.K (g.cn c) f) : FldOk g [c] f := fun d m => by
  rw [List.mem_singleton.mp m]; exact ⟨h, n⟩
theorem FldOk.cons {g : Gb} {c f : Str} {cs : List Str} (h : Cls g.K (g.cn c)) (n : NoAttr g.K (g.cn c) f) (r : FldOk g cs f) : FldOk g (c :: cs) f := fun d m => by
  rcases List.mem_cons.mp m with m | m
  · rw [m]; exact ⟨h, n⟩
  · exact r d m
section
variable {X : Cx} {g : Gb} {W : WX} {Z : Zn} {S S' H H' : Hp} {τ τ' : List V} {θ θ' : List O} {σ σ' : Sg} {ρ : En} {Q Q' : VK} {m mo ma mb mc : E} {ms : List E} {o oi : O} {v : V} {i j n : Nat}
theorem RepF.len : ∀ {ds : List (Str × D)} {vs : List (Str × V)}, RepF g S ds vs → vs.length = ds.length
  | [], _, r => by have e : _ = [] := r; rw [e]; rfl
  | (k, d) :: ds, _, ⟨v, r, e, _, b⟩ => by rw [e, List.length_cons, List.length_cons, RepF.len b]
theorem RelOF.len : ∀ {fs : List (Str × O)} {vs : List (Str × V)} {A : List Addr}, RelOF g S H fs vs A → vs.length = fs.length
  | [], _, _, ⟨e, _⟩ => by rw [e]; rfl
  | (k, o) :: fs, _, _, ⟨v, r, A1, A2, e, eA, a, b⟩ => by rw [e, List.length_cons, List.length_cons, RelOF.len b]
/-! ### e.f -/
def eFld (cs : List Str) (f : Str) (m : E) : E := fun ρ => (m ρ).bind fun o ρ1 => match o.d.view with
  | .ins c fs => if c ∈ cs then match fs.lookup f with
    | some d => .ok (.sh d) ρ1
    | none => .stuck else .stuck
  | _ => .stuck
/-! ### o.m(..) -/
/-- the class c has the def fn as its method m -/
def Met (P : Program) (w : World) (mg : Str → Option Value) (base : Heap) (g : Gb) (k : Nat) (c m : Str) (n : Nat) (dds : List D) (fn : List O → R) : Prop :=
  ∃ (f : Addr) (fd : FuncData) (ps : List Str) (ds : List Value) (dvs : List V), FnW P w g.K mg base (L2.CX P w) k f fd ps (spD g n fn) ∧ Cls g.K (g.cn c) ∧ Meth g.K (g.cn c) m f ∧ Binds g.K fd ps ds ∧ Vals dvs ds ∧ (∀ S, Reps g S dds dvs) ∧ FdAt g.K f fd ps
def eMet (c m : Str) (fn : List O → R) (dds : List D) (mo : E) (ms : List E) : E := fun ρ => (mo ρ).bind fun o ρ1 => match o.d.view with
  | .ins c' fs => if c' = c ∧ (fs.lookup m).isNone = true then (evs ms ρ1).bind fun os ρ2 => after (fn ((o.d.view :: (O.ds os ++ dds)).map .sh)) ρ2 else .stuck
  | _ => .stuck
variable {o e : Expr} {es : List Expr} {pos apos : Pos} {k : Nat}
/-! ### x.m(..), x handed over for change -/
end
end DL
set_option Elab.async false
set_option linter.all false
set_option maxRecDepth 100000
set_option autoImplicit false
/-! DLM3: instances made, fields stored. -/
namespace DL
open PySem PySem.Spec PyProof.Rows L2
end DL
set_option Elab.async false
set_option linter.all false
set_option maxRecDepth 100000
set_option autoImplicit false
/-! DLM4: C(..), self.f = e, properties, isinstance of own classes. -/
namespace DL
open PySem PySem.Spec PyProof.Rows L2
section
variable {X : Cx} {g : Gb} {W : WX} {Z : Zn} {S S' H H' : Hp} {τ τ' : List V} {θ θ' : List O} {σ σ' : Sg} {ρ ρ' : En} {Q Q' : VK} {m mo ma mb mc : E} {ms ms1 ms2 : List E} {o oi : O} {v : V} {i j n : Nat}
variable {e a : Expr} {es : List Expr} {kws : List Keyword} {p pos : Pos} {x : Str} {k : Nat} {ks : List Str}
/-! ### self.f = e -/
def putFO (f : Str) (o : O) : List (Str × O) → List (Str × O)
  | [] => [(f, o)]
  | (h, x) :: r => if h = f then (h, o) :: r else (h, x) :: putFO f o r
theorem RelOF.put {f : Str} {B : List Addr} : ∀ {fs : List (Str × O)} {vs : List (Str × V)} {A : List Addr}, RelOF g S H fs vs A → RelO g S H o v B → ∃ A', RelOF g S H (putFO f o fs) (putF f v vs) A' ∧ (∀ a ∈ A', a ∈ A ∨ a ∈ B) ∧ ((A ++ B).Nodup → A'.Nodup)
  | [], _, _, ⟨e, eA⟩, q => by
    subst e; subst eA
    exact ⟨B, ⟨v, [], B, [], rfl, by simp, q, rfl, rfl⟩, fun a m => .inr m, fun h => by simpa using h⟩
  | (k, x) :: fs, _, _, ⟨w, r, A1, A2, e, eA, a, b⟩, q => by
    subst e; subst eA
    unfold putFO putF
    by_cases z : k = f
    · rw [if_pos z, if_pos z]
      refine ⟨B ++ A2, ⟨v, r, B, A2, rfl, rfl, q, b⟩, fun a m => ?_, fun h => ?_⟩
      · rcases List.mem_append.mp m with m | m
        · exact .inr m
        · exact .inl (List.mem_append_right _ m)
      · obtain ⟨n1, n2, n3⟩ := List.nodup_append.mp h
        obtain ⟨_, n5, _⟩ := List.nodup_append.mp n1
        exact List.nodup_append.mpr ⟨n2, n5, fun a x b y z => n3 b (List.mem_append_right _ y) a x z.symm⟩
    · rw [if_neg z, if_neg z]
      obtain ⟨A', h1, h2, h3⟩ := RelOF.put b q
      refine ⟨A1 ++ A', ⟨w, _, A1, A', rfl, rfl, a, h1⟩, fun a m => ?_, fun h => ?_⟩
      · rcases List.mem_append.mp m with m | m
        · exact .inl (List.mem_append_left _ m)
        · exact (h2 a m).imp (List.mem_append_right _) id
      · obtain ⟨n1, n2, n3⟩ := List.nodup_append.mp h
        obtain ⟨n4, n5, n6⟩ := List.nodup_append.mp n1
        refine List.nodup_append.mpr ⟨n4, h3 (List.nodup_append.mpr ⟨n5, n2, fun a x b y => n3 a (List.mem_append_right _ x) b y⟩), fun a x b y => ?_⟩
        rcases h2 b y with y | y
        · exact n6 a x b y
        · exact n3 a (List.mem_append_left _ x) b y
end
end DL
set_option Elab.async false
set_option linter.all false
set_option maxRecDepth 100000
set_option autoImplicit false
/-! DLM5: more built-in functions: int, str, max, min, sum. -/
namespace DL
open PySem PySem.Spec PyProof.Rows L2
section
variable {X : Cx} {g : Gb} {W : WX} {Z : Zn} {S S' H H' : Hp} {τ τ' : List V} {θ θ' : List O} {σ σ' : Sg} {ρ ρ' : En} {Q Q' : VK} {m mo ma mb mc : E} {ms ms1 ms2 : List E} {o oi : O} {v : V} {i j n : Nat}
/-! int(x) -/
def dInt : List D → Option O
  | [.int i] => oI i
  | [.bl b] => oI (if b then 1 else 0)
  | [.str a] => if a.length ≤ 640 then (intText? a).bind fun n => oI n else none
  | _ => none
def rIntA : List V → Hp → VK → Prop := fun xs H Q => ((∃ i, xs = [.int i] ∧ Q (.int i) H) ∨ ∃ k, xs = [.bl k] ∧ Q (.int (if k then 1 else 0)) H) ∨ ∃ a n, xs = [.str a] ∧ PySem.intText? a = some n ∧ a.length ≤ 640 ∧ Q (.int n) H
theorem call_intA : CallR X (.type "int") rIntA := CallR_or call_int1 call_int_str
theorem cs_int : CallS g rIntA dInt := callS_of fun S H xs ds o Q e r hf k => by
  unfold dInt at hf
  split at hf
  · cases hf
    obtain ⟨v, rfl, rv⟩ := reps_one r
    exact .inl (.inl ⟨_, by rw [show v = .int _ from rv], k _ H (new_flat e rfl rfl)⟩)
  · cases hf
    obtain ⟨v, rfl, rv⟩ := reps_one r
    exact .inl (.inr ⟨_, by rw [show v = .bl _ from rv], k _ H (new_flat e rfl rfl)⟩)
  · rename_i a
    obtain ⟨v, rfl, rv⟩ := reps_one r
    split at hf
    · rename_i hl
      cases hn : intText? a with
      | none => rw [hn] at hf; cases hf
      | some n =>
        rw [hn] at hf
        cases hf
        exact .inr ⟨a, n, by rw [show v = .str _ from rv], hn, hl, k _ H (new_flat e rfl rfl)⟩
    · cases hf
  · cases hf
/-! str(x) -/
def dStr : List D → Option O
  | [.int i] => if i.natAbs.log2 < 1920 then oS (toString i) else none
  | [.str a] => oS a
  | _ => none
def rStrA : List V → Hp → VK → Prop := fun xs H Q => (∃ i, xs = [.int i] ∧ i.natAbs.log2 < 1920 ∧ Q (.str (toString i)) H) ∨ ∃ a, xs = [.str a] ∧ Q (.str a) H
/-! max, min, sum of a list of ints -/
def maxI : List Int → Int
  | [] => 0
  | [a] => a
  | a :: r => max a (maxI r)
variable {a : Expr} {es : List Expr} {pos : Pos} {lv : Nat}
theorem boot_int1 : bootBuiltins "int" = some (.type "int") := by decide +kernel
theorem pd_int1 {p : Pos} (C : Cxt X g W lv) (hm : X.mg "int" = none) (ha : PA X (a :: es) (LA g W ms)) (hg : Gl X "int" := by rfl) (he : starEach (a :: es) X.env = (false, eval a X.env) :: starEach es X.env := by rfl) (hpl : (backTo pos (starEach es X.env)).any (·.1) = false := by rfl) :
    PE X (.Call (.Name "int" p) (a :: es) [] pos) (LE g W (eCB dInt ms)) := PE_imp (pe_callTy call_intA hg hm boot_int1 ha (he := he) (hpl := hpl)) fun _ _ _ q => le_callB cs_int q
theorem pd_neg {z : Int} {k p1 pos} : PE X (.UnaryOp .USub (.Constant (.int z) k p1) pos) (LE g W (eC (.int (-z)))) := PE_imp (pe_un un_neg pe_int) fun _ _ _ q => ⟨z, rfl, le_c (d := .int (-z)) rfl q⟩
end
end DL
set_option Elab.async false
set_option linter.all false
set_option maxRecDepth 100000
set_option autoImplicit false
/-! DLM6: keyword-only parameters with defaults. -/
namespace DL
open PySem PySem.Spec PyProof.Rows L2
/-! facts of the text -/
end DL
set_option Elab.async false
set_option linter.all false
set_option maxRecDepth 100000
set_option autoImplicit false
/-! DLM7: for x in xs: x[k] = c, where xs owns dicts and is not needed any more. -/
namespace DL
open PySem PySem.Spec PyProof.Rows L2
section
variable {g : Gb} {Z : Zn} {S H H' S' : Hp} {τ : List V} {θ : List O} {σ : Sg} {ρ : En} {A : List Addr} {α : Nat → List Addr} {o : O} {v : V} {i j : Nat} {l : Addr} {u : HO}
/-- what no slot owns may change -/
theorem Hold.free (h : Hold g Z S H τ θ σ ρ A α) (hA : l ∉ A) (ha : ∀ i, l ∉ α i) (hS : S l = none) (hB : l ∈ Z.B ∨ Z.H0 l = none) (ht : l ∉ g.tb) : Hold g Z S (upd H l u) τ θ σ ρ A α := by
  have k : ∀ a, a ≠ l → upd H l u a = H a := fun a z => upd_ne z
  refine ⟨⟨fun a u' q => ?_, h.bs.mono, h.bs.new, fun a u' h1 h2 h3 => ?_, fun a u' h1 => ?_, fun p m => ?_, h.bs.tbS⟩, RelOs.mono (Ex.refl _) θ τ A (fun a m => k a fun z => hA (z ▸ m)) h.tmp, h.len, fun n o hn => ?_, h.ndA, h.nd, h.dis, h.disA, fun a m => ?_, h.pin⟩
  · rw [k a fun z => by rw [z, hS] at q; cases q]
    exact h.bs.sub a u' q
  · rw [k a fun z => by
      subst z
      rcases hB with q | q
      · exact h2 q
      · rw [h1] at q; cases q]
    exact h.bs.frm a u' h1 h2 h3
  · by_cases z : a = l
    · subst z; exact ⟨_, upd_same⟩
    · obtain ⟨u2, q⟩ := h.bs.dom a u' h1; exact ⟨u2, by rw [k a z]; exact q⟩
  · obtain ⟨ps, q1, q2⟩ := h.bs.tbl p m
    exact ⟨ps, by rw [k p fun z => ht (z ▸ m)]; exact q1, q2⟩
  · obtain ⟨v', q, r'⟩ := h.slot n o hn
    exact ⟨v', q, RelO.mono (Ex.refl _) o v' (α n) (fun a m => k a fun z => ha n (z ▸ m)) r'⟩
  · obtain ⟨q1, ⟨u', q2⟩, q3⟩ := h.own a m
    refine ⟨q1, ?_, q3⟩
    by_cases z : a = l
    · subst z; exact ⟨_, upd_same⟩
    · exact ⟨u', by rw [k a z]; exact q2⟩
end
end DL
set_option Elab.async false
set_option linter.all false
set_option maxRecDepth 100000
set_option autoImplicit false
/-! DLM8: more of texts: str(x), divmod, rstrip(chars), zfill, find, partition. -/
namespace DL
open PySem PySem.Spec PyProof.Rows L2
section
variable {X : Cx} {g : Gb} {W : WX} {σ : L2.St} {H : Hp} {Q : VK} {ms : List E} {m mo ma mb : E} {lv : Nat} {x : Str} {p pos apos : Pos} {a b : Expr} {es : List Expr}
/-- a text's method with one text -/
def mS2 (c : Str → Str → Bool) (f : Str → Str → D) : D → List D → Option O
  | .str a, [.str b] => if c a b = true then some (.sh (f a b)) else none
  | _, _ => none
theorem ms_s2 {r : V → List V → Hp → VK → Prop} {c : Str → Str → Bool} {f : Str → Str → D} (hf : ∀ a b, (f a b).flat = true) (hr : ∀ a b H Q, c a b = true → Q (f a b).val H → r (.str a) [.str b] H Q) : MetS g r (mS2 c f) := mets_flat fun H x xs dx ds o Q S rx rs h => by
  unfold mS2 at h
  split at h
  · rename_i a b
    split at h
    · rename_i hc
      cases h
      obtain ⟨v, rfl, rv⟩ := reps_one rs
      refine ⟨_, rfl, hf a b, fun q => ?_⟩
      rw [show x = .str a from rx, show v = .str b from rv]
      exact hr a b H Q hc q
    · cases h
  · cases h
/-- .. with one int -/
def mSI (c : Str → Int → Bool) (f : Str → Int → D) : D → List D → Option O
  | .str a, [.int b] => if c a b = true then some (.sh (f a b)) else none
  | _, _ => none
theorem ms_sI {r : V → List V → Hp → VK → Prop} {c : Str → Int → Bool} {f : Str → Int → D} (hf : ∀ a b, (f a b).flat = true) (hr : ∀ a b H Q, c a b = true → Q (f a b).val H → r (.str a) [.int b] H Q) : MetS g r (mSI c f) := mets_flat fun H x xs dx ds o Q S rx rs h => by
  unfold mSI at h
  split at h
  · rename_i a b
    split at h
    · rename_i hc
      cases h
      obtain ⟨v, rfl, rv⟩ := reps_one rs
      refine ⟨_, rfl, hf a b, fun q => ?_⟩
      rw [show x = .str a from rx, show v = .int b from rv]
      exact hr a b H Q hc q
    · cases h
  · cases h
def mRstripC : D → List D → Option O := mS2 (fun a _ => decide (a.length ≤ 1000000)) fun a b => .str (Txt.rstripChars a b)
def mFind : D → List D → Option O := mS2 (fun _ _ => true) fun a b => .int (Txt.find a b)
def mZfill : D → List D → Option O := mSI (fun _ i => PadOk i) fun a i => .str (Txt.zfill a i)
def mPartition : D → List D → Option O
  | .str a, [.str b] => if b.length ≠ 0 ∧ a.length ≤ 1000000 then some (.sh (.tup [.str (Txt.partition a b).1, .str (Txt.partition a b).2.1, .str (Txt.partition a b).2.2])) else none
  | _, _ => none
theorem ms_partition : MetS g (fun x xs H Q => ∃ a b, x = .str a ∧ xs = [.str b] ∧ (b.length == 0) = false ∧ a.length ≤ sizeLine ∧ ∀ p, H p = none → Q (.ref p) (upd H p (.tup [.str (Txt.partition a b).1, .str (Txt.partition a b).2.1, .str (Txt.partition a b).2.2]))) mPartition := fun S H x xs dx ds o Q e rx rs hf k => by
  unfold mPartition at hf
  split at hf
  · rename_i a b h1 h2
    obtain ⟨d, rfl⟩ : ∃ d, ds = [d] := by
      cases ds with
      | nil => cases h2
      | cons d r => cases r with
        | nil => exact ⟨d, rfl⟩
        | cons _ _ => simp at h2
    obtain ⟨v, rfl, rv⟩ := reps_one rs
    have rv := rv.view
    have h2 : d.view = .str b := by simpa using h2
    rw [h2] at rv
    have rx := rx.view
    rw [h1] at rx
    split at hf
    · rename_i hz
      cases hf
      refine ⟨a, b, rx, by rw [show v = .str b from rv], by simpa using hz.1, Nat.le_trans hz.2 (show 1000000 ≤ sizeLine by decide), fun p hp => k _ _ (New.tup e ⟨_, _, rfl, rfl, _, _, rfl, rfl, _, _, rfl, rfl, rfl⟩ hp)⟩
    · cases hf
  · cases hf
theorem pd_rstripC (ho : PE X a (LE g W mo)) (C : Cxt X g W lv) (hb : PE X b (LE g W mb)) (hbase : attributeBase a "rstrip" X.env (eval a X.env) = eval a X.env := by rfl)
    (hfew : ((backTo pos (starEach [b] X.env)).all (fun x => !x.1) && (backToKw pos (keywordEach [] X.env)).all (fun x => x.1.isSome) && decide ([b].length + ([] : List Keyword).length + (if ([] : List Keyword).isEmpty then 0 else 1) < 30)) = true := by rfl)
    (hline : (apos.endLine == pos.line) = true := by rfl) (hs : starEach [b] X.env = (false, eval b X.env) :: starEach [] X.env := by rfl) (hplain : (backTo pos (starEach [] X.env)).any (·.1) = false := by rfl) :
    PE X (.Call (.Attribute a "rstrip" apos) [b] [] pos) (LE g W (eBm mRstripC (eTy "str" mo) [mb])) :=
  PE_imp (pe_bm PySem.F.plainAttrs_str PySem.F.slot_str_rstrip (by first | exact PySem.F.type_str_rstrip | kernel_rfl) mt_rstripChars ho (ad_cons hb ad_nil hs) hbase hfew hline hs hplain) fun _ _ _ q => by
    rw [C.K]; exact le_bm (ms_s2 (c := fun a _ => decide (a.length ≤ 1000000)) (f := fun a b => .str (Txt.rstripChars a b)) (fun _ _ => rfl) fun a b H Q hc q => ⟨a, b, rfl, rfl, Nat.le_trans (of_decide_eq_true hc) (show 1000000 ≤ sizeLine by decide), q⟩) q
theorem pd_zfill (ho : PE X a (LE g W mo)) (C : Cxt X g W lv) (hb : PE X b (LE g W mb)) (hbase : attributeBase a "zfill" X.env (eval a X.env) = eval a X.env := by rfl)
    (hfew : ((backTo pos (starEach [b] X.env)).all (fun x => !x.1) && (backToKw pos (keywordEach [] X.env)).all (fun x => x.1.isSome) && decide ([b].length + ([] : List Keyword).length + (if ([] : List Keyword).isEmpty then 0 else 1) < 30)) = true := by rfl)
    (hline : (apos.endLine == pos.line) = true := by rfl) (hs : starEach [b] X.env = (false, eval b X.env) :: starEach [] X.env := by rfl) (hplain : (backTo pos (starEach [] X.env)).any (·.1) = false := by rfl) :
    PE X (.Call (.Attribute a "zfill" apos) [b] [] pos) (LE g W (eBm mZfill (eTy "str" mo) [mb])) :=
  PE_imp (pe_bm PySem.F.plainAttrs_str PySem.F.slot_str_zfill (by first | exact PySem.F.type_str_zfill | kernel_rfl) mt_zfill ho (ad_cons hb ad_nil hs) hbase hfew hline hs hplain) fun _ _ _ q => by
    rw [C.K]; exact le_bm (ms_sI (c := fun _ i => PadOk i) (f := fun a i => .str (Txt.zfill a i)) (fun _ _ => rfl) fun a b H Q hc q => ⟨a, b, rfl, rfl, hc, q⟩) q
theorem pd_find (ho : PE X a (LE g W mo)) (C : Cxt X g W lv) (hb : PE X b (LE g W mb)) (hbase : attributeBase a "find" X.env (eval a X.env) = eval a X.env := by rfl)
    (hfew : ((backTo pos (starEach [b] X.env)).all (fun x => !x.1) && (backToKw pos (keywordEach [] X.env)).all (fun x => x.1.isSome) && decide ([b].length + ([] : List Keyword).length + (if ([] : List Keyword).isEmpty then 0 else 1) < 30)) = true := by rfl)
    (hline : (apos.endLine == pos.line) = true := by rfl) (hs : starEach [b] X.env = (false, eval b X.env) :: starEach [] X.env := by rfl) (hplain : (backTo pos (starEach [] X.env)).any (·.1) = false := by rfl) :
    PE X (.Call (.Attribute a "find" apos) [b] [] pos) (LE g W (eBm mFind (eTy "str" mo) [mb])) :=
  PE_imp (pe_bm PySem.F.plainAttrs_str PySem.F.slot_str_find (by first | exact PySem.F.type_str_find | kernel_rfl) mt_find ho (ad_cons hb ad_nil hs) hbase hfew hline hs hplain) fun _ _ _ q => by
    rw [C.K]; exact le_bm (ms_s2 (c := fun _ _ => true) (f := fun a b => .int (Txt.find a b)) (fun _ _ => rfl) fun a b H Q hc q => ⟨a, b, rfl, rfl, q⟩) q
theorem pd_partition (ho : PE X a (LE g W mo)) (C : Cxt X g W lv) (hb : PE X b (LE g W mb)) (hbase : attributeBase a "partition" X.env (eval a X.env) = eval a X.env := by rfl)
    (hfew : ((backTo pos (starEach [b] X.env)).all (fun x => !x.1) && (backToKw pos (keywordEach [] X.env)).all (fun x => x.1.isSome) && decide ([b].length + ([] : List Keyword).length + (if ([] : List Keyword).isEmpty then 0 else 1) < 30)) = true := by rfl)
    (hline : (apos.endLine == pos.line) = true := by rfl) (hs : starEach [b] X.env = (false, eval b X.env) :: starEach [] X.env := by rfl) (hplain : (backTo pos (starEach [] X.env)).any (·.1) = false := by rfl) :
    PE X (.Call (.Attribute a "partition" apos) [b] [] pos) (LE g W (eBm mPartition (eTy "str" mo) [mb])) :=
  PE_imp (pe_bm PySem.F.plainAttrs_str PySem.F.slot_str_partition (by first | exact PySem.F.type_str_partition | kernel_rfl) mt_partition ho (ad_cons hb ad_nil hs) hbase hfew hline hs hplain) fun _ _ _ q => by
    rw [C.K]; exact le_bm ms_partition q
/-! divmod -/
def dDivmod : List D → Option O
  | [.int i, .int j] => if 0 < j ∧ j < 1073741824 then some (.sh (.tup [.int (i / j), .int (i % j)])) else none
  | _ => none
theorem cs_divmod : CallS g (fun xs H Q => ∃ i j, xs = [.int i, .int j] ∧ CDiv i j ∧ ∀ p, H p = none → Q (.ref p) (upd H p (.tup [.int (i / j), .int (i % j)]))) dDivmod := callS_of fun S H xs ds o Q e r hf k => by
  unfold dDivmod at hf
  split at hf
  · rename_i i j
    obtain ⟨v1, v2, rfl, r1, r2⟩ := reps2 r
    split at hf
    · rename_i hc
      cases hf
      exact ⟨i, j, by rw [show v1 = .int i from r1, show v2 = .int j from r2], hc, fun p hp => k _ _ (New.tup e ⟨_, _, rfl, rfl, _, _, rfl, rfl, rfl⟩ hp)⟩
    · cases hf
  · cases hf
theorem boot_divmod1 : bootBuiltins "divmod" = some (.builtin "divmod") := by decide +kernel
theorem boot_str1 : bootBuiltins "str" = some (.type "str") := by decide +kernel
theorem pd_divmod (C : Cxt X g W lv) (hm : X.mg "divmod" = none) (ha : PA X (a :: es) (LA g W ms)) (hg : Gl X "divmod" := by rfl) (he : starEach (a :: es) X.env = (false, eval a X.env) :: starEach es X.env := by rfl) (hpl : (backTo pos (starEach es X.env)).any (·.1) = false := by rfl) :
    PE X (.Call (.Name "divmod" p) (a :: es) [] pos) (LE g W (eCB dDivmod ms)) := PE_imp (pe_callB call_divmod hg hm boot_divmod1 ha (he := he) (hpl := hpl)) fun _ _ _ q => le_callB cs_divmod q
/-! str(x) -/
theorem call_strA : CallR X (.type "str") rStrA := CallR_or call_str_int SkE.call_str_str
theorem cs_strA : CallS g rStrA dStr := callS_of fun S H xs ds o Q e r hf k => by
  unfold dStr at hf
  split at hf
  · rename_i i
    obtain ⟨v, rfl, rv⟩ := reps_one r
    split at hf
    · rename_i hl
      cases hf
      exact .inl ⟨i, by rw [show v = .int _ from rv], hl, k _ H (new_flat e rfl rfl)⟩
    · cases hf
  · cases hf
    obtain ⟨v, rfl, rv⟩ := reps_one r
    exact .inr ⟨_, by rw [show v = .str _ from rv], k _ H (new_flat e rfl rfl)⟩
  · cases hf
theorem pd_str1 {p : Pos} (C : Cxt X g W lv) (hm : X.mg "str" = none) (ha : PA X (a :: es) (LA g W ms)) (hg : Gl X "str" := by rfl) (he : starEach (a :: es) X.env = (false, eval a X.env) :: starEach es X.env := by rfl) (hpl : (backTo pos (starEach es X.env)).any (·.1) = false := by rfl) :
    PE X (.Call (.Name "str" p) (a :: es) [] pos) (LE g W (eCB dStr ms)) := PE_imp (pe_callTy call_strA hg hm boot_str1 ha (he := he) (hpl := hpl)) fun _ _ _ q => le_callB cs_strA q
/-! f'..' -/
/-- {e} -/
def eFmt (m : E) : E := fun ρ => (m ρ).bind fun o ρ1 => match o.d.view with
  | .str y => if y.length ≤ 1000000 then .ok (.sh (.str y)) ρ1 else .stuck
  | .int i => if i.natAbs.log2 < 1920 then .ok (.sh (.str (toString i))) ρ1 else .stuck
  | _ => .stuck
/-- the parts one behind the other -/
def eJs : List E → Str → E
  | [], acc => fun ρ => .ok (.sh (.str acc)) ρ
  | m :: ms, acc => fun ρ => (m ρ).bind fun o ρ1 => match o.d.view with
    | .str y => if (acc ++ y).length ≤ 1000000 then eJs ms (acc ++ y) ρ1 else .stuck
    | _ => .stuck
end
section
variable {X : Cx} {g : Gb} {W : WX} {Z : Zn} {S S' H H' : Hp} {τ τ' : List V} {θ θ' : List O} {σ : L2.St} {ρ : En} {Q Q' : VK} {ms : List E} {m : E}
theorem step_flat {k : O → E} (st : St g Z S H τ θ σ ρ) (post : PostR g W Z S τ θ σ ((m ρ).bind k) Q)
    (hk : ∀ o ρ1 v S1 H1, Ex S S1 → St g Z S1 H1 τ θ σ ρ1 → Rep g S1 o.d v → PostR g W Z S1 τ θ σ (k o ρ1) Q → Q' v H1) : LE g W m σ H Q' :=
  step0 st post fun o1 ρ1 v1 S1 H1 e1 st1 post1 => by
    obtain ⟨S2, e2, st2, r⟩ := st1.pop
    exact hk o1 ρ1 v1 S2 H1 (e1.trans e2) st2 r (PostR.mono e2 post1)
theorem le_fmt (q : LE g W (eFmt m) σ H Q) : tFmt (LE g W m) σ H Q := by
  obtain ⟨Z, S, τ, θ, ρ, st, post⟩ := q
  refine step_flat st post fun o ρ1 v S1 H1 e1 st1 r post1 => ?_
  have r := r.view
  split at post1
  · rename_i y hy
    rw [hy] at r
    split at post1
    · rename_i hl
      exact .inl ⟨y, r, Nat.le_trans hl (show 1000000 ≤ sizeLine by decide), PostR.fin post1 (Ex.refl _) st1 (New.flat (d := .str y) st1.sub rfl)⟩
    · exact post1.elim
  · rename_i i hi
    rw [hi] at r
    split at post1
    · rename_i hl
      exact .inr ⟨i, r, hl, PostR.fin post1 (Ex.refl _) st1 (New.flat (d := .str _) st1.sub rfl)⟩
    · exact post1.elim
  · exact post1.elim
theorem le_js : ∀ {ms : List E} {acc : Str} {σ : L2.St} {H : Hp} {Q : VK}, LE g W (eJs ms acc) σ H Q → tJs (ms.map fun m => LE g W m) acc σ H fun out H1 => Q (.str out) H1
  | [], acc, σ, H, Q, q => by
    obtain ⟨Z, S, τ, θ, ρ, st, post⟩ := q
    exact PostR.fin post (Ex.refl _) st (New.flat (d := .str acc) st.sub rfl)
  | m :: ms, acc, σ, H, Q, q => by
    obtain ⟨Z, S, τ, θ, ρ, st, post⟩ := q
    refine step_flat (m := m) (k := fun o ρ1 => match o.d.view with | .str y => if (acc ++ y).length ≤ 1000000 then eJs ms (acc ++ y) ρ1 else .stuck | _ => .stuck) st post fun o ρ1 v S1 H1 e1 st1 r post1 => ?_
    have r := r.view
    split at post1
    · rename_i y hy
      rw [hy] at r
      split at post1
      · rename_i hl
        exact ⟨y, r, Nat.le_trans hl (show 1000000 ≤ sizeLine by decide), le_js ⟨Z, S1, τ, θ, ρ1, st1, post1⟩⟩
      · exact post1.elim
    · exact post1.elim
theorem pd_fmt {e : Expr} {pos : Pos} (he : PE X e (LE g W m)) : PE X (.FormattedValue e (-1) none pos) (LE g W (eFmt m)) := PE_imp (pe_fmt he) fun _ _ _ q => le_fmt q
inductive PJD (X : Cx) (g : Gb) (W : WX) : List Expr → List E → Prop where
  | nil : PJD X g W [] []
  | cons {e : Expr} {m : E} {es : List Expr} {ms : List E} (h : PE X e (LE g W m)) (r : PJD X g W es ms) : PJD X g W (e :: es) (m :: ms)
theorem PJD.pj {es : List Expr} {ms : List E} (h : PJD X g W es ms) : PJ X es (ms.map fun m => LE g W m) := by
  induction h with
  | nil => exact .nil
  | cons h _ ih => exact .cons h ih
theorem pd_fstr {v1 v2 : Expr} {rest : List Expr} {pos : Pos} (h : PJD X g W (v1 :: v2 :: rest) ms) : PE X (.JoinedStr (v1 :: v2 :: rest) pos) (LE g W (eJs ms Str.empty)) := PE_imp (pe_joined h.pj) fun _ _ _ q => le_js q
end
end DL
set_option Elab.async false
set_option linter.all false
set_option maxRecDepth 100000
set_option autoImplicit false
/-! DLM9: own exceptions as values. -/
namespace DL
open PySem PySem.Spec PyProof.Rows L2
section
variable {X : Cx} {o e : Expr} {es : List Expr} {to te : TE} {ta : TA} {f b : Str} {p p' p1 p2 pos : Pos}
/-- B.__init__(self, ..), B an own exception class without own __init__ -/
theorem pe_cinit {B : Addr} {mc : Value} {pl : Sem Bool} (hg : Gl X b) (hm : X.mg b = some (.ref B)) (hga : PySem.W.specialIn X.K (.ref B) "__getattribute__" = some (some (.builtin "type.__getattribute__"))) (hr : PySem.W.readsIn X.K B mc = true)
    (hv : PySem.W.findCls X.K (.ref B) mc "__init__" = some (.val (.builtin "ValueError.__init__"))) (ha : PA X (e :: es) ta)
    (hc : eval (.Call (.Attribute (.Name b p1) "__init__" p2) (e :: es) [] pos) X.env = (do
      let ov ← eval (.Name b p1) X.env
      standAt p2.atName
      let (f, first) ← holding [ov] (getMethod ov "__init__" pl)
      callWith pos f first (backTo pos (starEach (e :: es) X.env)) (backToKw pos (keywordEach [] X.env))) := by rfl)
    (hdb : (b == ("__debug__" : Str)) = false := by decide) (he : starEach (e :: es) X.env = (false, eval e X.env) :: starEach es X.env := by rfl) (hpl : (backTo pos (starEach es X.env)).any (·.1) = false := by rfl) :
    PE X (.Call (.Attribute (.Name b p1) "__init__" p2) (e :: es) [] pos) (tVeI X.K ta) := by
  refine ⟨fun pins s σ H Q I h => ?_⟩
  refine PySem.W.methodCall_KW (ld_glob I hg hm ?_ hdb) hc
  refine PySem.W.method_cls I.kIn hga (PySem.W.cls_value I.kIn hr hv (by decide +kernel) ?_)
  show wpAny _ _ (callWith pos (Value.builtin "ValueError.__init__") [] (backTo pos (starEach (e :: es) X.env)) []) _ _ _
  refine PyProof.Rows.callWith_method1 (thn (ha.run pos pins _ σ H _ (I.tok _) h) fun us s1 ⟨vs, H1, I1, r1, a, C, ws, ev, hl, T, ea, q⟩ => ?_) he hpl
  subst ev
  cases r1 with
  | @cons _ u0 _ ur ra rw' =>
    obtain rfl : u0 = Value.ref a := ra
    have hlen : ur.length ≤ sizeLine := by
      rw [← Paired.length rw', sizeLine_eq]
      omega
    exact oinit_ok T I1 ea hlen fun s' J => ⟨.non, H1, J, rfl, q⟩
end
section
variable {g : Gb} {S H : Hp}
theorem takes00 {X : Cx} : Takes X (fun _ _ _ _ => False) := fun _ _ x => by
  obtain ⟨_, _, _, _, _, _, _, _, _, _, _, _, _, _, _, _, z⟩ := x
  exact z.elim
/-- a new exception -/
theorem New.exn {c fld : Str} {d : D} {y : V} {a dx : Addr} (e : Sub S H) (r : Rep g S d y) (ha : H a = none) (hd : H dx = none) (ne : dx ≠ a) :
    New g S H (.sh (.exn c [(fld, d)])) (.ref a) (upd (upd (upd H a (exo a (g.cn c) none)) dx (exd dx [(fld, y)])) a (exo a (g.cn c) (some dx))) := by
  have hsa : S a = none := e.none ha
  have hsd : S dx = none := e.none hd
  have hs2 : (upd S dx (exd dx [(fld, y)])) a = none := by rw [upd_ne (Ne.symm ne)]; exact hsa
  have ex : Ex S (upd (upd S dx (exd dx [(fld, y)])) a (exo a (g.cn c) (some dx))) := (Ex.new hsd).trans (Ex.new hs2)
  refine ⟨upd (upd S dx (exd dx [(fld, y)])) a (exo a (g.cn c) (some dx)), [], ex, fun b h1 h2 => ?_, fun b u q => ?_, ⟨rfl, a, dx, [(fld, y)], rfl, upd_same, by rw [upd_ne ne]; exact upd_same, y, [], rfl, Rep.mono ex d y r, rfl⟩, List.nodup_nil, fun _ m => (nomatch m), fun b u q => ?_⟩
  · by_cases z : b = a
    · rw [z]; exact ha
    · rw [upd_ne z] at h1
      by_cases z2 : b = dx
      · rw [z2]; exact hd
      · rw [upd_ne z2] at h1; exact absurd h2 h1
  · by_cases z : b = a
    · subst z; rw [upd_same] at q ⊢; exact q
    · rw [upd_ne z] at q ⊢
      by_cases z2 : b = dx
      · subst z2; rw [upd_same] at q ⊢; exact q
      · rw [upd_ne z2] at q ⊢; rw [upd_ne z]; exact e b u q
  · have z : b ≠ a := fun z => by rw [z, ha] at q; cases q
    have z2 : b ≠ dx := fun z => by rw [z, hd] at q; cases q
    rw [upd_ne z, upd_ne z2, upd_ne z]; exact q
/-- what C.__init__(self, y) promises: the field is stored -/
def spExn (C : Addr) (fld : Str) : Sp := fun vs H Q _ => ∃ (a : Addr) (y : V), vs = [.ref a, y] ∧ H a = some (exo a C none) ∧ ∀ dx, H dx = none → dx ≠ a → Q .non (upd (upd H dx (exd dx [(fld, y)])) a (exo a C (some dx)))
/-- an own exception class: its level, its field -/
def ExT (P : Program) (w : World) (mg : Str → Option Value) (base : Heap) (g : Gb) (k : Nat) (c fld : Str) : Prop :=
  ∃ (fI : Addr) (fd : FuncData) (ps : List Str), OexC g.K (g.cn c) ∧ PySem.W.findIn g.K (.ref (g.cn c)) "__init__" = some (some (.ref fI)) ∧ PySem.W.typeIn g.K (.ref fI) = some (.type "function") ∧ FnW P w g.K mg base (L2.CX P w) k fI fd ps (spExn (g.cn c) fld) ∧ mg c = some (.ref (g.cn c)) ∧ Binds g.K fd ps []
variable {X : Cx} {W : WX} {σ : L2.St} {Q : VK} {m : E} {e : Expr} {p pos : Pos} {lv : Nat}
theorem exnInit_ok {P : Program} {w : World} {mg : Str → Option Value} {base : Heap} {qual y fld : Str} {st : Stmt} {f : Addr} {fd : FuncData} {C : Addr} {j : Nat} {msg : Str} (F : DefK g.K "__init__" qual st f fd) (Sc : FnScope ["self", y] ["self", y] (defScope st)) (hC : OexC g.K C) (hno : PySem.W.findIn g.K (.ref C) fld = some none)
    (hbody : ∀ (cdv : Value) (A : Around) (outer : List PySem.Env) (s : Shared) (H : Hp) (E : XK), Room j (A.deeper (envOfC qual (defScope st) s.heap.objs.size f cdv)) → A.guards = some [] →
      PSs (cxOf (L2.CX P w) P w g.K mg base ["self", y] qual (defScope st) f cdv A outer s H E) (defBody st) (tSeq (tDrop (tVeI g.K (tCons (tVar 0) (tCons (tC (.str msg)) tNil)))) (tSeq (tOst g.K fld (tVar 0) (tVar 1)) tNext))) :
    FnW P w g.K mg base (L2.CX P w) (j + 1) f fd ["self", y] (spExn C fld) := by
  obtain ⟨oc, od, dV, kV, doc, pm, an, cdv, ct, osl, rfl, lk, hcd⟩ := F.ex
  refine fnW_of lk hcd Sc (fun vs H Q E h => by obtain ⟨a, y, rfl, _⟩ := h; rfl) fun A outer s H vs Q E hr hgd hsp => ⟨_, hbody cdv A outer s H E hr hgd, ?_⟩
  obtain ⟨a, y, rfl, ha, k⟩ := hsp
  refine ⟨_, rfl, a, C, [.str msg], rfl, by simp, hC, ha, ?_⟩
  exact ⟨_, rfl, _, rfl, a, C, rfl, hC, hno, .inl ⟨ha, fun dx hdx ne => k dx hdx ne⟩⟩
end
end DL
set_option Elab.async false
set_option linter.all false
set_option maxRecDepth 100000
set_option autoImplicit false
/-! DLM10: xs[::-1]. -/
namespace DL
open PySem PySem.Spec PyProof.Rows L2
end DL
set_option Elab.async false
set_option linter.all false
set_option maxRecDepth 100000
set_option maxHeartbeats 4000000
set_option autoImplicit false
/-! DLM11: isinstance of an own exception that has fields. -/
namespace DL
open PySem PySem.Spec PySem.Calls PyProof.Rows PySem.W
section
variable {prog : Program} {w : World} {A : Around} {E : Value → Shared → Prop} {s : Shared} {K : Frag} {x D : Addr} {ox od : Obj}
/-- x.__class__, x an exception with a dict: what HandS.ExcIs shows of one without -/
theorem exc_class {Q : Option Value → Shared → Prop} (C : L2.ExcC K D) (X : K.In s.heap) (I : InstAt s.heap x ox D (some od)) (h : Q (some (.ref D)) { s with toks := s.toks + 1 }) : wpAny (model prog w) A (getAttr? (.ref x) "__class__") Q E s := by
  have hf : findObj K D (some od) "__class__" = some (.bind (.builtin "getset_descriptor.__get__") (.builtin "object.__class__")) := findObj_data (by obtain ⟨cd, hc, _⟩ := any_some C.hd; rw [hc]; rfl) C.ha C.hn C.ht
  obtain ⟨hp, g, d, t, os⟩ := s
  have L0 := I.type (M := model prog w)
  have L1 := looks_findIn (M := model prog w) X C.hg
  have L2 := looks_findIn (M := model prog w) X C.hk
  have L3 := looks_find (M := model prog w) X I hf
  have sub : Looks (model prog w) hp (isInstance (.ref x) (.type "BaseException")) true := L0.andThen (looks_subIn X C.hs)
  have n1 : (Value.builtin "BaseException.__getattribute__" == Value.builtin "object.__getattribute__") = false := by decide +kernel
  have n2 : (onTheHeap (Value.ref D) && Value.builtin "BaseException.__getattribute__" == Value.builtin "object.__getattribute__") = false := by rw [n1]; rfl
  unfold getAttr? getAttrBy? getAttrBy
  refine wpAny_bind (wpAny_mkText (wpAny_bind (wpAny_attempt (wpAny_holding (wpAny_bind (L0.at (wpAny_bind (L1.at ?_))))))))
  show wpAny _ _ (if (onTheHeap (Value.ref D) && Value.builtin "BaseException.__getattribute__" == Value.builtin "object.__getattribute__") = true then _ else _) _ _ _
  rw [n2, if_neg Bool.false_ne_true]
  unfold getAttrByItsOwn hookBefore
  refine wpAny_bind ?_
  rw [if_pos (show onTheHeap (Value.ref D) = true from rfl)]
  refine L2.at (wpAny_bind (wpAny_attempt (wpAny_holding ?_)))
  unfold callGetattribute
  rw [show (false && onTheHeap (Value.builtin "BaseException.__getattribute__")) = false from rfl, if_neg Bool.false_ne_true]
  unfold boundAndCalled
  rw [PySem.F.excAttr_ValueError.ga.bind (.ref x)]
  refine wpAny_bind (wpAny_pure ?_)
  show wpAny _ _ (call (.builtin "BaseException.__getattribute__") [.ref x, .str "__class__" t]) _ _ _
  refine wpAny_call (codeAny_call_builtin PySem.F.excAttr_ValueError.ga.plain PySem.F.entry_bexc_ga ?_)
  refine @check_slot (model prog w) _ _ ⟨hp, g, d, t + 1, os⟩ "BaseException.__getattribute__" "BaseException" "__getattribute__" (.ref x) [.str "__class__" t] [] _ (by decide +kernel) (by decide +kernel) sub (PySem.F.args_bexc_ga (.ref x) (.str "__class__" t)) ?_
  unfold Builtin.«object.__getattribute__»
  refine wpAny_bind (wpAny_of_eq (a := ((Value.ref x : Value), [Value.str "__class__" t])) (by first | rfl | (simp only [slotArgs]; rfl)) ?_)
  refine wpAny_bind (wpAny_pure (wpAny_bind (L0.at (wpAny_bind (L3.at ?_)))))
  show wpAny _ _ (holding [Value.builtin "object.__class__"] (call (.builtin "getset_descriptor.__get__") [.builtin "object.__class__", .ref x, .ref D]) >>= ret) _ _ _
  refine wpAny_bind (wpAny_holding (wpAny_call (class_get (s := ⟨hp, g, d, t + 1, os⟩) (ox := ox) (od := some od) X I C.hm ?_)))
  refine wpAny_pure ?_
  show wpAny _ _ (handedOut (.ref D)) _ _ _
  rw [handedOut_of (v := .ref D) rfl]
  first
    | exact wpAny_pure (wpAny_pure h)
    | exact wpAny_pure h
    | exact wpAny_pure (wpAny_bind (wpAny_pure (wpAny_pure h)))
theorem exc_kit (C : L2.ExcC K D) : KitX K (.ref x) (.ref D) (fun h => InstAt h x ox D (some od)) where
  ty := fun _ _ _ I => I.type
  it := fun _ _ X _ => by
    obtain ⟨cdD, hcD, _⟩ := any_some C.hd
    unfold clsIn at hcD
    split at hcD
    · rename_i c' d' cd' sl' ho
      intro A' Q' E' s' k q
      unfold isType loadHead
      exact wpAny_bind (wpAny_loadPart (k _ _ (X _ _ ho)) (wpAny_pure q))
    · cases hcD
  ne := fun h tp dd its n sl X htp => by
    obtain ⟨cdD, hcD, _⟩ := any_some C.hd
    refine Bool.eq_false_iff.mpr fun q => ?_
    have e : D = tp := Value.ref.inj (beq_iff_eq.mp q)
    subst e
    unfold clsIn at hcD
    split at hcD
    · rename_i c' d' cd' sl' ho
      have z := (X _ _ ho).symm.trans htp
      cases z
    · cases hcD
  ca := fun X I k => exc_class C X I k
end
end DL
namespace DL
open PySem PySem.Spec PyProof.Rows L2
end DL
set_option Elab.async false
set_option linter.all false
set_option maxRecDepth 100000
set_option autoImplicit false
/-! DLM12: x.ljust(n, c). -/
namespace DL
open PySem PySem.Spec PyProof.Rows L2
section
variable {X : Cx} {g : Gb} {W : WX} {σ : L2.St} {H : Hp} {Q : VK} {ms : List E} {m mo ma mb : E} {lv : Nat} {x : Str} {p pos apos : Pos} {a b c : Expr} {es : List Expr}
theorem mt_ljustF : MtR X "str.ljust" (fun x xs H Q => ∃ (a : Str) (i : Int) (f : Str), x = .str a ∧ xs = [.int i, .str f] ∧ PadOk i = true ∧ f.length = 1 ∧ Q (.str (Txt.ljustF a i (f.cps.getD 0 0))) H) := by
  intro pins s σ H x xs v us Q I rx rs h
  obtain ⟨a, i, f, rfl, rfl, hp, hf, h⟩ := h
  obtain ⟨t, rfl⟩ := rx
  cases rs with
  | cons r1 rs =>
    cases rs with
    | cons r2 rs =>
      cases rs
      obtain ⟨u, rfl⟩ := r1
      obtain ⟨z, rfl⟩ := r2
      exact ljust_fill hp hf fun t' k => ⟨.str _, H, I.tok k, ⟨t', rfl⟩, h⟩
def mLjustF : D → List D → Option O
  | .str a, [.int i, .str f] => if PadOk i = true ∧ f.length = 1 then some (.sh (.str (Txt.ljustF a i (f.cps.getD 0 0)))) else none
  | _, _ => none
theorem ms_ljustF : MetS g (fun x xs H Q => ∃ (a : Str) (i : Int) (f : Str), x = .str a ∧ xs = [.int i, .str f] ∧ PadOk i = true ∧ f.length = 1 ∧ Q (.str (Txt.ljustF a i (f.cps.getD 0 0))) H) mLjustF := mets_flat fun H x xs dx ds o Q S rx rs h => by
  unfold mLjustF at h
  split at h
  · rename_i a i f
    split at h
    · rename_i hc
      cases h
      obtain ⟨v1, v2, rfl, r1, r2⟩ := reps2 rs
      refine ⟨_, rfl, rfl, fun q => ?_⟩
      exact ⟨a, i, f, rx, by rw [show v1 = .int i from r1, show v2 = .str f from r2], hc.1, hc.2, q⟩
    · cases h
  · cases h
theorem pd_ljustF (ho : PE X a (LE g W mo)) (C : Cxt X g W lv) (hb : PE X b (LE g W ma)) (hc : PE X c (LE g W mb)) (hbase : attributeBase a "ljust" X.env (eval a X.env) = eval a X.env := by rfl)
    (hfew : ((backTo pos (starEach [b, c] X.env)).all (fun x => !x.1) && (backToKw pos (keywordEach [] X.env)).all (fun x => x.1.isSome) && decide ([b, c].length + ([] : List Keyword).length + (if ([] : List Keyword).isEmpty then 0 else 1) < 30)) = true := by rfl)
    (hline : (apos.endLine == pos.line) = true := by rfl) (hs : starEach [b, c] X.env = (false, eval b X.env) :: starEach [c] X.env := by rfl) (hs2 : starEach [c] X.env = (false, eval c X.env) :: starEach [] X.env := by rfl) (hplain : (backTo pos (starEach [c] X.env)).any (·.1) = false := by rfl) :
    PE X (.Call (.Attribute a "ljust" apos) [b, c] [] pos) (LE g W (eBm mLjustF (eTy "str" mo) [ma, mb])) :=
  PE_imp (pe_bm PySem.F.plainAttrs_str PySem.F.slot_str_ljust (by first | exact PySem.F.type_str_ljust | kernel_rfl) mt_ljustF ho (ad_cons hb (ad_cons hc ad_nil hs2) hs) hbase hfew hline hs hplain) fun _ _ _ q => by rw [C.K]; exact le_bm ms_ljustF q
end
end DL
set_option Elab.async false
set_option linter.all false
set_option maxRecDepth 100000
set_option autoImplicit false
/-! DLM13: isinstance where values may be own exceptions (class c). -/
namespace DL
open PySem PySem.Spec PyProof.Rows L2
end DL
set_option Elab.async false
set_option linter.all false
set_option maxRecDepth 100000
set_option autoImplicit false
/-! DLM14: what the text says of an own exception class; its promise. -/
namespace DL
open PySem PySem.Spec PyProof.Rows L2
/-- the j-th def of a class -/
def defIn (st : Stmt) (j : Nat) : Stmt := match st with
  | .ClassDef (body := body) .. => body.getD j (.Pass ⟨0, 0, 0, 0⟩)
  | _ => .Pass ⟨0, 0, 0, 0⟩
/-- class c(b): def __init__(self, y): b.__init__(self, text); self.fld = y -/
def ExD (g : Gb) (mg : Str → Option Value) (c b fld y qual : Str) (st : Stmt) : Prop :=
  ∃ (fI B : Addr) (fd : FuncData) (mc : Value), OexC g.K (g.cn c) ∧ PySem.W.findIn g.K (.ref (g.cn c)) "__init__" = some (some (.ref fI)) ∧ PySem.W.typeIn g.K (.ref fI) = some (.type "function") ∧ DefK g.K "__init__" qual st fI fd ∧ mg c = some (.ref (g.cn c)) ∧ Binds g.K fd ["self", y] [] ∧
    PySem.W.findIn g.K (.ref (g.cn c)) fld = some none ∧ mg b = some (.ref B) ∧ PySem.W.specialIn g.K (.ref B) "__getattribute__" = some (some (.builtin "type.__getattribute__")) ∧ PySem.W.readsIn g.K B mc = true ∧ PySem.W.findCls g.K (.ref B) mc "__init__" = some (.val (.builtin "ValueError.__init__"))
theorem exT_of {P : Program} {w : World} {mg : Str → Option Value} {base : Heap} {g : Gb} {c b fld y qual msg : Str} {st : Stmt} (D : ExD g mg c b fld y qual st) (Sc : FnScope ["self", y] ["self", y] (defScope st))
    (hbody : ∀ (B : Addr) (mc : Value) (f : Addr) (cdv : Value) (A : Around) (outer : List PySem.Env) (s : Shared) (H : Hp) (E : XK), mg b = some (.ref B) → PySem.W.specialIn g.K (.ref B) "__getattribute__" = some (some (.builtin "type.__getattribute__")) → PySem.W.readsIn g.K B mc = true → PySem.W.findCls g.K (.ref B) mc "__init__" = some (.val (.builtin "ValueError.__init__")) →
      PSs (cxOf (L2.CX P w) P w g.K mg base ["self", y] qual (defScope st) f cdv A outer s H E) (defBody st) (tSeq (tDrop (tVeI g.K (tCons (tVar 0) (tCons (tC (.str msg)) tNil)))) (tSeq (tOst g.K fld (tVar 0) (tVar 1)) tNext))) : ExT P w mg base g 1 c fld := by
  obtain ⟨fI, B, fd, mc, O1, iC, tI, F, hm, hb, hno, mb, hga, hr, hv⟩ := D
  exact ⟨fI, fd, ["self", y], O1, iC, tI, exnInit_ok (j := 0) (msg := msg) F Sc O1 hno fun cdv A outer s H E _ _ => hbody B mc fI cdv A outer s H E mb hga hr hv, hm, hb⟩
end DL
set_option Elab.async false
set_option linter.all false
set_option maxRecDepth 100000
set_option autoImplicit false
/-! DLM15: methods and makes from the text, keywords, isinstance of own classes. -/
namespace DL
open PySem PySem.Spec PyProof.Rows L2
/-! ### how a call's values stand in the parameters behind the first one -/
/-! ### the rules -/
/-! ### lifted -/
end DL
set_option Elab.async false
set_option linter.all false
set_option maxRecDepth 100000
set_option autoImplicit false
/-! DLM16: isinstance(x, C), C an own class. -/
namespace DL
open PySem PySem.Spec PyProof.Rows L2
def tyL : List String := ["NoneType", "bool", "int", "str", "list", "tuple", "dict"]
/-- what the text says of the own classes ks together -/
structure ClsK (g : Gb) (ks : List Str) : Prop where
  hn : PySem.W.specialIn g.K (.builtin "object.__class__") "__get__" = some (some (.builtin "getset_descriptor.__get__"))
  ht : PySem.W.takesIn g.K (.builtin "object.__class__") = some true
  own : ∀ c ∈ ks, Cls g.K (g.cn c) ∧ PySem.W.findIn g.K (.ref (g.cn c)) "__class__" = some (some (.builtin "object.__class__")) ∧ PySem.W.mroIn g.K (g.cn c) (.type "object") = some true ∧ PySem.W.typeIn g.K (.ref (g.cn c)) = some (.type "type")
  ne : ∀ c ∈ ks, ∀ c' ∈ ks, c' ≠ c → g.cn c' ≠ g.cn c ∧ PySem.W.subIn g.K (.ref (g.cn c')) (.ref (g.cn c)) = some false
theorem sub_ref_none (K : PySem.W.Frag) (C : Addr) : PySem.W.subIn K (.type "NoneType") (.ref C) = some false := by kernel_rfl
theorem sub_ref_bool (K : PySem.W.Frag) (C : Addr) : PySem.W.subIn K (.type "bool") (.ref C) = some false := by kernel_rfl
theorem sub_ref_int (K : PySem.W.Frag) (C : Addr) : PySem.W.subIn K (.type "int") (.ref C) = some false := by kernel_rfl
theorem sub_ref_str (K : PySem.W.Frag) (C : Addr) : PySem.W.subIn K (.type "str") (.ref C) = some false := by kernel_rfl
theorem sub_ref_list (K : PySem.W.Frag) (C : Addr) : PySem.W.subIn K (.type "list") (.ref C) = some false := by kernel_rfl
theorem sub_ref_tuple (K : PySem.W.Frag) (C : Addr) : PySem.W.subIn K (.type "tuple") (.ref C) = some false := by kernel_rfl
theorem sub_ref_dict (K : PySem.W.Frag) (C : Addr) : PySem.W.subIn K (.type "dict") (.ref C) = some false := by kernel_rfl
theorem ClsK.ref {g : Gb} {ks : List Str} (T : ClsK g ks) {c : Str} (h : c ∈ ks) {t : Value} {b : Bool} (ne : t ≠ .ref (g.cn c)) (s : PySem.W.subIn g.K t (.ref (g.cn c)) = some b) : PySem.W.kitOne g.K t (.ref (g.cn c)) = some b := by
  obtain ⟨hc, _, _, h2⟩ := T.own c h
  have h1 : (PySem.W.clsIn g.K (g.cn c)).isSome = true := by
    have := hc.hd
    unfold PySem.W.hasDictIn at this
    cases q : PySem.W.clsIn g.K (g.cn c) with
    | none => rw [q] at this; cases this
    | some _ => rfl
  unfold PySem.W.kitOne
  rw [if_neg (by simpa using ne)]
  unfold PySem.W.kitCls
  dsimp only
  rw [if_pos (by rw [h1, h2]; rfl)]
  exact s
theorem ClsK.ty {g : Gb} {ks : List Str} (T : ClsK g ks) {c : Str} (h : c ∈ ks) {t : String} (m : t ∈ tyL) : PySem.W.kitOne g.K (.type t) (.ref (g.cn c)) = some false := by
  refine T.ref h (by intro z; cases z) ?_
  simp only [tyL, List.mem_cons, List.not_mem_nil, or_false] at m
  rcases m with rfl | rfl | rfl | rfl | rfl | rfl | rfl
  · exact sub_ref_none _ _
  · exact sub_ref_bool _ _
  · exact sub_ref_int _ _
  · exact sub_ref_str _ _
  · exact sub_ref_list _ _
  · exact sub_ref_tuple _ _
  · exact sub_ref_dict _ _
def isC (ks : List Str) (c : Str) (d : D) : Option Bool := if c ∈ ks then match d with
  | .ins c' _ => if c' ∈ ks then some (decide (c' = c)) else none
  | d => (tyN d).map fun _ => false else none
section
variable {X : Cx} {g : Gb} {W : WX} {σ : Sg} {H S : Hp} {Q : VK} {m : E} {j : Nat} {ks : List Str} {c : Str} {a : Expr} {p q pos : Pos}
def eIsC (ks : List Str) (c : Str) (m : E) : E := fun ρ => (m ρ).bind fun o ρ1 => match isC ks c o.d.view with
  | some b => .ok (.sh (.bl b)) ρ1
  | none => .stuck
end
end DL
set_option Elab.async false
set_option linter.all false
set_option maxRecDepth 100000
set_option maxHeartbeats 4000000
set_option autoImplicit false
/-! DLM17: sorted(xs, key=lambda x: ..): the sort over what is tracked. -/
namespace DL
open PySem PySem.Spec PyProof.Rows L2
section
variable {X : Cx} {pins : List (Addr × Obj)} {σ : L2.St} {H : Hp} {s : Shared} {a b kS : Addr}
/-- an object of ours that nobody knows: its address -/
structure Tmp (X : Cx) (pins : List (Addr × Obj)) (a : Addr) : Prop where
  loc : a ≠ X.env.locals
  fs : a ∉ X.fs
  new : X.s_0.heap.objs.size ≤ a
  cell : ∀ x c, X.env.cells.lookup x = some c → c ≠ a
  pin : ∀ p ∈ X.pn ++ pins, p.1 ≠ a
theorem Tmp.of (I : L2.Inv X pins σ H s) (h : s.heap.objs.size ≤ a) : Tmp X pins a := by
  obtain ⟨_, h1, h2, h3, h4, h5⟩ := I.fpOk (b := a) (H' := H) h (I.hok.fresh h)
  exact ⟨h1, h2, Nat.le_trans I.sz h, h4, h5⟩
end
end DL
set_option Elab.async false
set_option linter.all false
set_option maxRecDepth 100000
set_option maxHeartbeats 4000000
set_option autoImplicit false
/-! DLM18: a lambda of one parameter, nothing captured; sorted(xs, key=lambda x: ..). -/
namespace DL
open PySem PySem.Spec PyProof.Rows L2
/-! ### the lambda is called -/
/-! ### the lambda is made -/
/-! ### sorted(e, key=lambda x: body) -/
end DL
set_option Elab.async false
set_option linter.all false
set_option maxRecDepth 100000
set_option maxHeartbeats 1000000
set_option autoImplicit false
/-! DLM19: sorted(e, key=lambda x: body), lifted. -/
namespace DL
open PySem PySem.Spec PyProof.Rows L2
/-! ### the keys -/
def keyOf (mb : E) (d : D) : Option Int := match mb [.v (.sh d)] with
  | .ok (.sh (.int k)) _ => some k
  | _ => none
def keysOf (mb : E) : List D → Option (List Int)
  | [] => some []
  | d :: ds => (keyOf mb d).bind fun k => (keysOf mb ds).bind fun ks => some (k :: ks)
def leK {α : Type} (a b : Int × α) : Bool := decide (a.1 ≤ b.1)
def srtK {α : Type} (ps : List (Int × α)) : List α := (ps.mergeSort leK).map (·.2)
def dSrtK (mb : E) (d : D) : Option O := match d with
  | .lst ds => (keysOf mb ds).bind fun ks => if ks.Nodup then some (.lst ((srtK (ks.zip ds)).map .sh)) else none
  | .tup ds => (keysOf mb ds).bind fun ks => if ks.Nodup then some (.lst ((srtK (ks.zip ds)).map .sh)) else none
  | _ => none
end DL
set_option Elab.async false
set_option linter.all false
set_option maxRecDepth 100000
set_option maxHeartbeats 1000000
set_option autoImplicit false
/-! DLM20: dicts merged: {**a, **b}, d.update(e). -/
namespace DL
open PySem PySem.Spec PyProof.Rows L2
end DL
set_option Elab.async false
set_option linter.all false
set_option maxRecDepth 100000
set_option maxHeartbeats 1000000
set_option autoImplicit false
/-! DLM21: {**a, **b}, d.update(e), lifted; t + u of tuples; break; xs.reverse(), xs.extend(ys). -/
namespace DL
open PySem PySem.Spec PyProof.Rows L2
/-! ### rules -/
end DL
set_option Elab.async false
set_option linter.all false
set_option maxRecDepth 100000
set_option autoImplicit false
/-! DLM22: {**a, **b}, d.update(e), t + u, break, xs.reverse(), xs.extend(ys): lifted. -/
namespace DL
open PySem PySem.Spec PyProof.Rows L2
section
variable {X : Cx} {g : Gb} {W : WX} {Z : Zn} {S S' H H' : Hp} {τ τ' : List V} {θ θ' : List O} {σ σ' : Sg} {ρ : En} {Q Q' : VK} {m ma mb : E} {o oi : O} {v : V} {i j n : Nat} {D : Ends}
abbrev shK (kds : List (Key × DL.D)) : List (Key × O) := kds.map fun p => (p.1, .sh p.2)
/-! ### {**a, **b} -/
variable {ea eb e : Expr} {pos apos : Pos} {y : Str} {py : Pos}
/-! ### d.update(e) -/
def isSh : O → Bool
  | .sh _ => true
  | _ => false
/-! ### xs.reverse(), xs.extend(ys) -/
/-! ### t + u, tuples; break, continue -/
end
end DL
set_option Elab.async false
set_option linter.all false
set_option autoImplicit false
/-! DLM23: what is stored is frozen; len(x), i in x, x[i] of own instances. -/
namespace DL
open PySem PySem.Spec PyProof.Rows L2
section
variable {X : Cx} {g : Gb} {W : WX} {Z : Zn} {S S' H H' : Hp} {τ τ' : List V} {θ θ' : List O} {σ σ' : Sg} {ρ : En} {Q Q' : VK} {m mo mk : E} {o : O} {v : V} {i j n k : Nat} {D : Ends} {ms : List E}
/-! ### a value that is frozen -/
def eShr (m : E) : E := fun ρ => (m ρ).bind fun o ρ1 => .ok (.sh o.d) ρ1
theorem le_shr (q : LE g W (eShr m) σ H Q) : LE g W m σ H Q := by
  obtain ⟨Z, S, τ, θ, ρ, st, post⟩ := q
  refine step_flat st post fun o ρ1 v S1 H1 e1 st1 r post1 => ?_
  exact PostR.fin post1 (Ex.refl _) st1 (New.same st1.sub r)
theorem pd_shr {e : Expr} (h : PE X e (LE g W m)) : PE X e (LE g W (eShr m)) := PE_imp h fun _ _ _ q => le_shr q
/-! ### own methods behind len, in, [] -/
/-! their functions -/
end
section
variable {X : Cx} {g : Gb} {W : WX} {j k n : Nat} {mo mk : E} {a b : Expr} {pos p : Pos} {c : Str} {fn : List O → R}
/-- without defaults -/
def Met0 (P : Program) (w : World) (mg : Str → Option Value) (base : Heap) (g : Gb) (k : Nat) (c m : Str) (n : Nat) (fn : List O → R) : Prop :=
  ∃ (f : Addr) (fd : FuncData) (ps : List Str), FnW P w g.K mg base (L2.CX P w) k f fd ps (spD g n fn) ∧ Meth g.K (g.cn c) m f ∧ Binds g.K fd ps [] ∧ FdAt g.K f fd ps
theorem Met.zero {P : Program} {w : World} {mg : Str → Option Value} {base : Heap} {m : Str} (h : Met P w mg base g k c m n [] fn) : Met0 P w mg base g k c m n fn := by
  obtain ⟨f, fd, ps, ds, dvs, F, _, hm, hb, hd, hr, hf⟩ := h
  have e : dvs = [] := hr (fun _ => none)
  subst e
  cases hd
  exact ⟨f, fd, ps, F, hm, hb, hf⟩
end
end DL
set_option Elab.async false
set_option linter.all false
set_option maxRecDepth 100000
set_option autoImplicit false
/-! DLM24: xs[at::-1]. -/
namespace DL
open PySem PySem.Spec PyProof.Rows L2
end DL
set_option Elab.async false
set_option linter.all false
set_option maxRecDepth 100000
set_option autoImplicit false
/-! DLM25: try with several clauses, named or not; raise. -/
namespace DL
open PySem PySem.Spec PyProof.Rows L2
/-- the ends of a clause that binds the slot i: the name is gone behind it -/
def Ends.gone (D : Ends) (i : Nat) : Ends := { nx := fun σ' H' => D.nx (σ'.set i none) H', rt := D.rt, bk := fun σ' H' => D.bk (σ'.set i none) H', ct := fun σ' H' => D.ct (σ'.set i none) H' }
/-- a clause: the class, the name's slot, the suite's reading -/
structure Cl where
  c : Value
  i : Option Nat
  ts : Addr → Value → Option Addr → TS
def Cl.run (k : Cl) (D : Ends) (a : Addr) (cls : Value) (d : Option Addr) (σ : Sg) (H : Hp) : Prop := match k.i with
  | none => k.ts a cls d D σ H
  | some i => k.ts a cls d (Ends.gone D i) (σ.set i (some (.ref a))) H
/-- what the clauses wish of an exception of the body -/
def wCl (K : PySem.W.Frag) (Wout : WX) (D : Ends) : List Cl → WX
  | [] => Wout
  | k :: r => fun cls d σ H => ∃ b, PySem.W.exmOne K cls k.c = some b ∧ (b = true → ∀ a, H a = none → k.run D a cls d σ H) ∧ (b = false → wCl K Wout D r cls d σ H)
/-- a suite reads so, under any caught exception -/
def PSuite (X : Cx) (ss : List Stmt) (ts : Addr → Value → Option Addr → TS) : Prop := ∀ (a : Addr) (oe : Obj) (cls : Value) (d : Option Addr) (pn : List (Addr × Obj)), Zc cls d oe → (∃ vs, oe.data = .fields vs) → PSs (X.suite a ((a, oe) :: pn)) ss (ts a cls d)
inductive ClOk (X : Cx) : List ExceptHandler → List Cl → Prop
  | nil : ClOk X [] []
  | cons {x : Str} {c : Value} {ts : Addr → Value → Option Addr → TS} {b₀ : Stmt} {suite : List Stmt} {np pos' : Pos} {hds : List ExceptHandler} {l : List Cl} (hc : Names X x c) (hsu : PSuite X (b₀ :: suite) ts) (r : ClOk X hds l) :
      ClOk X (.ExceptHandler (some (.Name x np)) none (b₀ :: suite) pos' :: hds) (⟨c, none, ts⟩ :: l)
  | consAs {x n : Str} {i : Nat} {c : Value} {ts : Addr → Value → Option Addr → TS} {b₀ : Stmt} {suite : List Stmt} {np pos' : Pos} {hds : List ExceptHandler} {l : List Cl} (hc : Names X x c) (hi : X.N[i]? = some n) (hln : X.env.kindOf n = some .local) (hsu : PSuite X (b₀ :: suite) ts) (r : ClOk X hds l) :
      ClOk X (.ExceptHandler (some (.Name x np)) (some n) (b₀ :: suite) pos' :: hds) (⟨c, some i, ts⟩ :: l)
section
variable {X : Cx} {body : List Stmt} {h₀ : ExceptHandler} {hds : List ExceptHandler} {l : List Cl} {pos : Pos} {tb : WX → TS} {Wout : WX}
theorem ps_try_mix (hs : X.stack = X.env :: X.outer) (hf : X.env.frame = some X.env.locals) (hN : X.N.Nodup) (tk : Takes X Wout)
    (hb : ∀ (W : WX) (pn : List (Addr × Obj)) (xe : Value → Shared → Prop), Takes (X.tr pn xe) W → PassesOwn (model X.prog X.w) X.A X.env xe → PSs (X.tr pn xe) body (tb W))
    (hh : ClOk X (h₀ :: hds) l) : PS X (.Try body (h₀ :: hds) [] [] pos) (fun D σ H => tb (wCl X.K Wout D l) D σ H) := by
  refine ⟨fun pins s σ H D I h => ?_⟩
  have ok := I.ok
  have hfr : X.A.frames = some (X.env :: X.outer) := by rw [ok.frames, hs]
  refine wpAny_Try_except ?_
  refine wpAny_mono ((hb (wCl X.K Wout D l) (X.pn ++ pins) (fun e s₁ => wpAny (model X.prog X.w) X.A (noteFrame e X.env) (fun _ s₂ => wpAny (model X.prog X.w) X.A (setFlight e none) (fun _ s₃ =>
    wpAny (model X.prog X.w) X.A (handleBy e X.env (h₀ :: hds)) (SP X pins D) X.xe s₃) X.xe s₂) X.xe s₁) (fun u s' xx => ?_) PassesOwn.looking).run [] s σ H D (I.toTry _) h) (fun f s1 hsp => ?_) (fun e s1 he => he)
  · obtain ⟨a, B, sI, pins', σ', H', cls, d, rfl, J', nb, up, sky, na, os, ag, w⟩ := xx
    have J : Inv X pins σ' H' sI := J'.ofTry ok
    have sky' : Sky B (X.env :: X.outer) a (Zc cls d) X.env.locals s'.heap := by rw [← hs]; exact sky
    show wpAny (model X.prog X.w) X.A (noteFrame (.ref a) X.env) _ _ _
    refine Sky.land Zc.steady hfr hf sky' fun h3 fl3 up3 => ?_
    have J3 : Inv X pins σ' H' { s' with heap := h3 } := J.landed nb fl3.1 (up.trans up3) os ag
    obtain ⟨oe3, vs3, he3, hz3, hd3⟩ := fl3.there
    have nfr : a ∉ frs (X.env :: X.outer) := fun hm => by
      obtain ⟨_, o', e', hnf⟩ := fl3.2.2.1.mem hm
      rw [he3] at e'; cases e'
      exact hnf _ hd3
    have nL : a ≠ X.env.locals := fun z => nfr (List.mem_filterMap.mpr ⟨X.env, List.mem_cons_self, by rw [hf, z]⟩)
    have nF : a ∉ X.fs := fun hm => by
      obtain ⟨e, he, q⟩ := List.mem_filterMap.mp hm
      exact nfr (List.mem_filterMap.mpr ⟨e, List.mem_cons_of_mem _ he, q⟩)
    have S3 := J3.suite he3 hd3 na nL nF
    have LT : PySem.W.Looks (model X.prog X.w) h3 (typeOf (.ref a)) cls := fun A Q E s k q => wpAny_typeOf_ref (k _ _ he3) (by rw [hz3.1]; exact q)
    have test : ∀ {x : Str} {c : Value} {np : Pos} {Q : Value → Shared → Prop} {E : Value → Shared → Prop}, Names X x c → Q c { s' with heap := h3 } → wpAny (model X.prog X.w) (X.A.mark (some (.ref a))) (eval (.Name x np) X.env) Q E { s' with heap := h3 } := fun {x c np Q E} hc q => by
      obtain ⟨hg, hdbg, hm | ⟨hm, hv, hnn⟩⟩ := hc
      · exact ld_glob (X := X.suite a ((a, oe3) :: (X.pn ++ pins))) S3 hg hm q hdbg
      · exact ld_blt (X := X.suite a ((a, oe3) :: (X.pn ++ pins))) S3 hg hm hv q hnn hdbg
    have go : ∀ {hds' : List ExceptHandler} {l' : List Cl}, ClOk X hds' l' → wCl X.K Wout D l' cls d σ' H' →
        wpAny (model X.prog X.w) X.A (handleBy (.ref a) X.env hds') (SP X pins D) X.xe { s' with heap := h3 } := by
      intro hds' l' hk
      induction hk with
      | nil =>
        intro w
        refine wpAny_handleBy_nil ?_
        obtain ⟨k1, k2, k3, oe, vs, T, oT, ts', he, hz, hd, h1, hr⟩ := id fl3
        unfold PySem.passOn
        refine wpAny_bind (wpAny_field he hd h1 ?_)
        rw [if_neg (show ¬ ((Value.ref T == Value.none) = true) from by simp)]
        have fin : wpAny (model X.prog X.w) X.A (setFlight (.ref a) X.env.frame) (fun _ s4 => wpAny (model X.prog X.w) X.A (throw (.ref a) : Sem Flow) (SP X pins D) X.xe s4) X.xe { s' with heap := h3 } := by
          rw [hf]
          refine HandSPX.setFlight_upZ fl3 fun h4 hh4 up4 => wpAny_throw (tk _ _ ?_)
          exact ⟨a, B, sI, pins, σ', H', cls, d, rfl, J, nb, (up.trans up3).trans up4, .inr (.inr (by rw [hs]; exact hh4)), na, os, ag, w⟩
        first
          | exact wpAny_bind (wpAny_pure (wpAny_bind fin))
          | exact wpAny_bind fin
      | @cons x c ts b₀ suite np pos' hds2 l2 hc hsu r ih =>
        intro w
        obtain ⟨b, hb1, hyes, hno⟩ := w
        refine wpAny_handleBy_cons (codeAny_handlers_test ?_) (by intro q; cases q)
        have LM := PySem.W.exm_one (M := model X.prog X.w) (J3.kIn) LT hb1
        refine test hc (LM.here ?_)
        cases b with
        | true =>
          refine codeAny_handlers_suite ?_
          refine HandSPX.lands_againZ fl3 fun h4 fl4 up4 => ?_
          have J4 : Inv X pins σ' H' { s' with heap := h4 } := J.landed nb fl4.1 ((up.trans up3).trans up4) os ag
          obtain ⟨oe4, vs4, he4, hz4, hd4⟩ := fl4.there
          have S4 := J4.suite he4 hd4 na nL nF
          refine wpAny_mono ((hsu a oe4 cls d (X.pn ++ pins) hz4 ⟨_, hd4⟩).run [] _ _ H' _ S4 (hyes rfl a na)) (fun f s6 hsp => ?_) (fun _ _ z => False.elim z)
          cases f with
          | next =>
            obtain ⟨σ6, H6, S6, q6⟩ := hsp
            exact ⟨_, _, S6.unsuite ok, q6⟩
          | brk =>
            obtain ⟨σ6, H6, S6, q6⟩ := hsp
            exact ⟨_, _, S6.unsuite ok, q6⟩
          | cont =>
            obtain ⟨σ6, H6, S6, q6⟩ := hsp
            exact ⟨_, _, S6.unsuite ok, q6⟩
          | ret u =>
            obtain ⟨v6, σ6, H6, S6, r6, q6⟩ := hsp
            exact ⟨_, _, _, S6.unsuite ok, r6, q6⟩
        | false =>
          show wpAny _ X.A (handleBy (.ref a) X.env hds2) _ _ _
          exact ih (hno rfl)
      | @consAs x n i c ts b₀ suite np pos' hds2 l2 hc hi hln hsu r ih =>
        intro w
        obtain ⟨b, hb1, hyes, hno⟩ := w
        refine wpAny_handleBy_cons (codeAny_handlers_test ?_) (by intro q; cases q)
        have LM := PySem.W.exm_one (M := model X.prog X.w) (J3.kIn) LT hb1
        refine test hc (LM.here ?_)
        cases b with
        | true =>
          refine codeAny_handlers_suite_as ?_
          refine HandSPX.lands_againZ fl3 fun h4 fl4 up4 => ?_
          have J4 : Inv X pins σ' H' { s' with heap := h4 } := J.landed nb fl4.1 ((up.trans up3).trans up4) os ag
          obtain ⟨oe4, vs4, he4, hz4, hd4⟩ := fl4.there
          have S4 := J4.suite he4 hd4 na nL nF
          refine store_ok (X := X.suite a ((a, oe4) :: (X.pn ++ pins))) (v := .ref a) S4 hN hi (.inl hln) rfl (fun s5 S5 => ?_) (.inr hln)
          refine wpAny_mono ((hsu a oe4 cls d (X.pn ++ pins) hz4 ⟨_, hd4⟩).run [] s5 _ H' _ S5 (hyes rfl a na)) (fun f s6 hsp => ?_) (fun _ _ z => False.elim z)
          have end_ : ∀ {σ6 : L2.St} {H6 : Hp} {Q : Shared → Prop}, Inv (X.suite a ((a, oe4) :: (X.pn ++ pins))) [] σ6 H6 s6 → (∀ s7, Inv X pins (σ6.set i none) H6 s7 → Q s7) →
              wpAny (model X.prog X.w) X.A (do bindName X.env n .none; unbindBehindTheSuite X.env n pos') (fun _ s7 => Q s7) X.xe s6 := fun {σ6 H6 Q} S6 hq => gone_ok (S6.unsuite ok) hN hi hln hq
          cases f with
          | next =>
            obtain ⟨σ6, H6, S6, q6⟩ := hsp
            exact end_ S6 fun s7 J7 => ⟨_, _, J7, q6⟩
          | brk =>
            obtain ⟨σ6, H6, S6, q6⟩ := hsp
            exact end_ S6 fun s7 J7 => ⟨_, _, J7, q6⟩
          | cont =>
            obtain ⟨σ6, H6, S6, q6⟩ := hsp
            exact end_ S6 fun s7 J7 => ⟨_, _, J7, q6⟩
          | ret u =>
            obtain ⟨v6, σ6, H6, S6, r6, q6⟩ := hsp
            exact end_ S6 fun s7 J7 => ⟨_, _, _, J7, r6, q6⟩
        | false =>
          show wpAny _ X.A (handleBy (.ref a) X.env hds2) _ _ _
          exact ih (hno rfl)
    exact go hh w
  · cases f with
    | next =>
      obtain ⟨σ', H', J', q⟩ := hsp
      exact wpAny_execs_nil ⟨σ', H', J'.ofTry ok, q⟩
    | brk =>
      obtain ⟨σ', H', J', q⟩ := hsp
      exact ⟨σ', H', J'.ofTry ok, q⟩
    | cont =>
      obtain ⟨σ', H', J', q⟩ := hsp
      exact ⟨σ', H', J'.ofTry ok, q⟩
    | ret u =>
      obtain ⟨v, σ', H', J', r, q⟩ := hsp
      exact ⟨v, σ', H', J'.ofTry ok, r, q⟩
end
end DL
set_option Elab.async false
set_option linter.all false
set_option maxRecDepth 100000
set_option autoImplicit false
/-! DLM26: try and raise, as functions on data. -/
namespace DL
open PySem PySem.Spec PyProof.Rows L2
/-! ### raise c(e) -/
def sRaise (c fld : Str) (m : E) : Sm := fun ρ => (m ρ).toO fun o ρ1 => .exc ⟨c, [(fld, o.d)]⟩ ρ1
theorem St.grow {g : Gb} {Z : Zn} {S H H' : Hp} {τ : List V} {θ : List O} {σ : Sg} {ρ : En} (h : St g Z S H τ θ σ ρ) (e : Gr H H') : St g Z S H' τ θ σ ρ := let ⟨A, α, h⟩ := h; ⟨A, α, h.grow e⟩
section
variable {X : Cx} {o e : Expr} {es : List Expr} {to te : TE} {ta : TA} {f : Str} {p p' p1 p2 pos : Pos}
/-- raise's C(e, ..): C's own __init__ keeps sp -/
theorem pmk_oexW {CX : CXT} {x : Str} {C fI : Addr} {k : Nat} {fd : FuncData} {ps : List Str} {sp : Sp} {ds : List Value} {dvs : List V} (T : OexC X.K C) (iC : PySem.W.findIn X.K (.ref C) "__init__" = some (some (.ref fI))) (tI : PySem.W.typeIn X.K (.ref fI) = some (.type "function"))
    (F1 : FnW X.prog X.w X.K X.mg X.base CX k fI fd ps sp) (hr : Room (k + 1) X.A) (hgd : X.A.guards = some []) (hb : Binds X.K fd ps ds) (hd : Vals dvs ds) (hx : ∀ σ, PassesAt CX X σ (fun _ _ _ => False)) (hg : Gl X x) (hm : X.mg x = some (.ref C)) (ha : PA X (e :: es) ta)
    (hdb : (x == ("__debug__" : Str)) = false := by decide) (he : starEach (e :: es) X.env = (false, eval e X.env) :: starEach es X.env := by rfl) (hpl : (backTo pos (starEach es X.env)).any (·.1) = false := by rfl) :
    PMk X (.Call (.Name x p) (e :: es) [] pos) (tMkO C sp dvs ta) := by
  intro pins s σ H Q I h
  obtain ⟨nm, q, N, bs, bm, sn, sub, ab, col, dd, k0, k1, k2, k3, k5, hC, hbm⟩ := T.cls
  refine wpAny_Call_Name_kw (ld_glob I hg hm ?_ hdb)
  refine PySem.W.callWith_K (h₀ := X.base) I.ok.mod.kin T.kC (thn (ha.run pos pins s σ H _ I h) fun us s1 ⟨vs, H1, I1, r1, hz, q1⟩ => ⟨I1.kIn, ?_⟩) he hpl
  show wpAny _ _ (call (.ref C) us) _ _ _
  obtain ⟨hp, g, dr, tk, os⟩ := s1
  have hsz : hp.objs.size ≤ hp.objs.size + 1 := Nat.le_succ _
  have hn : H1 (hp.objs.size + 1) = none := I1.hok.fresh hsz
  have hq := q1 (hp.objs.size + 1) hn
  have kk : ∀ b o, hp.get? b = some o → ((hp.push (PySem.W.kdv_tup us)).push (PySem.HandSPX.excO C hp.objs.size)).get? b = some o := fun b o e => Heap.get?_push_of_some _ (Heap.get?_push_of_some _ e)
  have hget : ((hp.push (PySem.W.kdv_tup us)).push (PySem.HandSPX.excO C hp.objs.size)).get? (hp.objs.size + 1) = some (PySem.HandSPX.excO C hp.objs.size) := by heap_get
  have I2 : Inv X pins σ (upd H1 (hp.objs.size + 1) (exo (hp.objs.size + 1) C none)) ⟨(hp.push (PySem.W.kdv_tup us)).push (PySem.HandSPX.excO C hp.objs.size), g, dr, tk, os⟩ :=
    I1.laid (t' := tk) (a := hp.objs.size + 1) (o := exo (hp.objs.size + 1) C none) (h' := (hp.push (PySem.W.kdv_tup us)).push (PySem.HandSPX.excO C hp.objs.size)) kk hsz (exo_ok hget)
  have r2 : Vals (V.ref (hp.objs.size + 1) :: (vs ++ dvs)) (Value.ref (hp.objs.size + 1) :: (us ++ ds)) := .cons rfl (r1.append hd)
  have hl : (Value.ref (hp.objs.size + 1) :: us ++ ds).length = ps.length := by
    have e := r2.length
    rw [F1.len _ _ _ _ hq] at e
    exact e.symm
  have hus : us.length ≤ sizeLine := by
    rw [← Paired.length r1, sizeLine_eq]
    omega
  refine wpAny_call (PySem.HandSPX.call_own F.excBase_ValueError (fun Y => PySem.HandSPX.refsVE_contains Y bm hbm) (I1.kIn _ _ hC) (PySem.W.looks_findIn I1.kIn iC) (fun self => PySem.W.bind_fn I1.kIn self tI) hus
    (codeAny_mono (F1.run _ X.stack _ _ ⟨Value.ref (hp.objs.size + 1) :: us, []⟩ (Value.ref (hp.objs.size + 1) :: (us ++ ds)) _ _ (fun _ _ _ => False) (hr.make C us []) hgd (I2.env0.make C us []) (hb _ (Value.ref (hp.objs.size + 1) :: us) I2.kIn hl) r2 hq) fun r s' hq' => ?_))
  cases r with
  | error er => exact hx σ pins _ _ er s' I2 hq'
  | ok fl =>
    cases fl with
    | ret u =>
      obtain ⟨v, H2, os2, bare2, un2, hok2, rv, ev, d, fs, ea, ed, hd1, q2⟩ := hq'
      subst ev
      obtain ⟨h2, g2, d2, t2, os'⟩ := s'
      exact ⟨rv, mk_end (raises_own T.exC T.tyC) I1 hsz kk un2 hok2 os2 bare2 ea ed hd1 q2⟩
    | next => exact False.elim hq'
    | brk => exact False.elim hq'
    | cont => exact False.elim hq'
end
section
variable {X : Cx} {g : Gb} {W : WX} {Z : Zn} {S S' H H' : Hp} {τ τ' : List V} {θ θ' : List O} {σ : Sg} {ρ : En} {m ma mb mc : E} {ms : List E} {D : Ends} {c fld : Str} {e : Expr} {p pos p' : Pos} {lv k : Nat}
theorem ls_raise (q : LS g W (sRaise c fld m) D σ H) : tMkO (g.cn c) (spExn (g.cn c) fld) [] (LA g W [m]) σ H (fun cls d H' => W cls d σ H') := by
  obtain ⟨Z, S, ρ, st, post⟩ := q
  refine le_one (Qa := fun vs H1 => vs.length ≤ 1000 ∧ _) ?_
  refine sstep st post fun o1 ρ1 v1 S1 H1 e1 st1 post1 => ⟨by simp, fun a ha => ⟨a, v1, rfl, upd_same, fun dx hdx ne => ⟨rfl, dx, [(fld, v1)], upd_same, ?_, ?_, ?_⟩⟩⟩
  · rw [upd_ne ne]; exact upd_same
  · rw [upd_ne ne] at hdx; exact hdx
  · rw [upd_ne ne] at hdx
    obtain ⟨S2, e2, st2, r⟩ := St.pop (τ := []) (θ := []) st1
    refine post1 (some dx) σ S2 _ e2 (st2.grow fun b u hb => ?_) ⟨[(fld, v1)], upd_same, v1, [], rfl, r, rfl⟩
    have z : b ≠ a := fun z => by rw [z, ha] at hb; cases hb
    have z2 : b ≠ dx := fun z => by rw [z, hdx] at hb; cases hb
    rw [upd_ne z2, del_ne z, upd_ne z, upd_ne z2, upd_ne z]
    exact hb
theorem sd_raise (C : Cxt X g W lv) (T : ExT X.prog X.w X.mg X.base g k c fld) (ha : PE X e (LE g W m)) (hk : k + 1 ≤ lv := by decide) (hg : Gl X c := by rfl) (hdb : (c == ("__debug__" : Str)) = false := by decide)
    (he : starEach [e] X.env = (false, eval e X.env) :: starEach [] X.env := by rfl) (hpl : (backTo p' (starEach [] X.env)).any (·.1) = false := by rfl) : PS X (.Raise (some (.Call (.Name c p) [e] [] p')) none pos) (LS g W (sRaise c fld m)) := by
  obtain ⟨fI, fd, ps, O1, iC, tI, F, hm, b⟩ := T
  rw [← C.K] at F O1 iC tI b
  exact PS_imp (ps_raise C.calm C.tk (pmk_oexW O1 iC tI F (C.rm.mono hk) C.gd b .nil (fun σ => passAt (W := fun _ _ _ _ => False) takes00 σ) hg hm (ad_cons ha ad_nil he) hdb he hpl)) fun _ _ _ q => ls_raise q
end
/-! ### try -/
structure Kl where
  h : Str
  i : Option Nat
  f : Exn → Sm
def Out.map (k : En → En) : Out → Out
  | .next ρ => .next (k ρ) | .brk ρ => .brk (k ρ) | .cont ρ => .cont (k ρ) | .ret o ρ => .ret o (k ρ) | .exc x ρ => .exc x (k ρ) | .stuck => .stuck
def Kl.run (k : Kl) (x : Exn) : Sm := fun ρ => match k.i with
  | none => k.f x ρ
  | some i => match ρ[i]? with
    | none => .stuck
    | some _ => (k.f x (wipeE ρ [i])).map fun ρ' => wipeE ρ' [i]
/-- the first clause that names the exception's class -/
def goK (isx : Str → Str → Option Bool) : List Kl → Exn → Sm
  | [], x => fun ρ => .exc x ρ
  | k :: r, x => fun ρ => match isx x.c k.h with
    | none => .stuck
    | some true => k.run x ρ
    | some false => goK isx r x ρ
def sTry (isx : Str → Str → Option Bool) (b : Sm) (ks : List Kl) : Sm := fun ρ => match b ρ with
  | .exc x ρ1 => goK isx ks x ρ1
  | r => r
section
variable {X : Cx} {g : Gb} {W : WX} {isx : Str → Str → Option Bool} {lv : Nat}
/-- a suite does what f says -/
def SuiteD (g : Gb) (X : Cx) (W : WX) (ss : List Stmt) (i : Option Nat) (f : Exn → Sm) : Prop := ∃ ts, PSuite X ss ts ∧ ∀ (D : Ends) (σ : Sg) (H : Hp) (a : Addr) (d : Option Addr) (x : Exn) (Z : Zn) (S : Hp) (ρ : En), (∀ j, i = some j → σ[j]? = some (some (.ref a))) →
  St g Z S H [] [] σ ρ → ExnAt g S H x d → PostO g W Z S (f x ρ) D → ts a (.ref (g.cn x.c)) d D σ H
/-- the clauses do what ks say -/
def PCl (X : Cx) (g : Gb) (W : WX) (isx : Str → Str → Option Bool) (hds : List ExceptHandler) (ks : List Kl) : Prop := ∃ l, ClOk X hds l ∧ ∀ (D : Ends) (σ : Sg) (H : Hp) (Z : Zn) (S : Hp) (ρ : En) (x : Exn) (d : Option Addr), St g Z S H [] [] σ ρ → ExnAt g S H x d → PostO g W Z S (goK isx ks x ρ) D → wCl X.K W D l (.ref (g.cn x.c)) d σ H
theorem pcl_nil : PCl X g W isx [] [] := ⟨[], .nil, fun D σ H Z S ρ x d st xa post => post d σ S H (Ex.refl _) st xa⟩
/-- what the text says of the tests -/
def IsxOk (g : Gb) (isx : Str → Str → Option Bool) : Prop := ∀ c h b, isx c h = some b → PySem.W.exmOne g.K (.ref (g.cn c)) (.ref (g.cn h)) = some b
theorem pcl_cons {h : Str} {np pos' : Pos} {b₀ : Stmt} {ss : List Stmt} {hds : List ExceptHandler} {f : Exn → Sm} {ks : List Kl} (C : Cxt X g W lv) (hi : IsxOk g isx) (hm : X.mg h = some (.ref (g.cn h))) (hs : SuiteD g X W (b₀ :: ss) none f) (r : PCl X g W isx hds ks) (hg : Gl X h := by rfl) (hdb : (h == ("__debug__" : Str)) = false := by decide) :
    PCl X g W isx (.ExceptHandler (some (.Name h np)) none (b₀ :: ss) pos' :: hds) (⟨h, none, f⟩ :: ks) := by
  obtain ⟨ts, h1, h2⟩ := hs
  obtain ⟨l, r1, r2⟩ := r
  refine ⟨_, .cons ⟨hg, hdb, .inl hm⟩ h1 r1, fun D σ H Z S ρ x d st xa post => ?_⟩
  unfold goK at post
  dsimp only at post
  split at post
  · exact post.elim
  · rename_i e
    refine ⟨true, by rw [C.K]; exact hi _ _ _ e, fun _ a na => ?_, (fun z => nomatch z)⟩
    exact h2 D σ H a d x Z S ρ (fun j z => nomatch z) st xa post
  · rename_i e
    exact ⟨false, by rw [C.K]; exact hi _ _ _ e, (fun z => nomatch z), fun _ => r2 D σ H Z S ρ x d st xa post⟩
theorem St.slotNo {Z : Zn} {S H : Hp} {τ : List V} {θ : List O} {σ : Sg} {ρ : En} {i : Nat} (u : Option V) (st : St g Z S H τ θ σ ρ) : St g Z S H τ θ (σ.set i u) (wipeE ρ [i]) :=
  st.wipe (vs := [i]) (by rw [List.length_set]) fun j hj => List.getElem?_set_ne fun z => hj (by rw [z]; exact List.mem_cons_self)
theorem post_gone {Z : Zn} {S : Hp} {D : Ends} {r : Out} {i : Nat} (hx : ∀ x ρ, r ≠ .exc x ρ) (post : PostO g W Z S (r.map fun ρ' => wipeE ρ' [i]) D) : PostO g W Z S r (Ends.gone D i) := by
  cases r with
  | next ρ => exact fun σ' S' H' e st => post _ S' H' e (st.slotNo none)
  | brk ρ => exact fun σ' S' H' e st => post _ S' H' e (st.slotNo none)
  | cont ρ => exact fun σ' S' H' e st => post _ S' H' e (st.slotNo none)
  | ret o ρ => exact fun v σ' S' H' e st => post v _ S' H' e (st.slotNo none)
  | exc x ρ => exact (hx x ρ rfl).elim
  | stuck => exact post
theorem pcl_consAs {h n : Str} {i : Nat} {np pos' : Pos} {b₀ : Stmt} {ss : List Stmt} {hds : List ExceptHandler} {f : Exn → Sm} {ks : List Kl} (C : Cxt X g W lv) (hi : IsxOk g isx) (hm : X.mg h = some (.ref (g.cn h))) (hs : SuiteD g X W (b₀ :: ss) (some i) f) (hx : ∀ y ρ x ρ', f y ρ ≠ .exc x ρ') (r : PCl X g W isx hds ks)
    (hN : X.N[i]? = some n := by rfl) (hln : X.env.kindOf n = some .local := by rfl) (hg : Gl X h := by rfl) (hdb : (h == ("__debug__" : Str)) = false := by decide) :
    PCl X g W isx (.ExceptHandler (some (.Name h np)) (some n) (b₀ :: ss) pos' :: hds) (⟨h, some i, f⟩ :: ks) := by
  obtain ⟨ts, h1, h2⟩ := hs
  obtain ⟨l, r1, r2⟩ := r
  refine ⟨_, .consAs ⟨hg, hdb, .inl hm⟩ hN hln h1 r1, fun D σ H Z S ρ x d st xa post => ?_⟩
  unfold goK at post
  dsimp only at post
  split at post
  · exact post.elim
  · rename_i e
    refine ⟨true, by rw [C.K]; exact hi _ _ _ e, fun _ a na => ?_, (fun z => nomatch z)⟩
    have post : PostO g W Z S (match ρ[i]? with
      | none => .stuck
      | some _ => (f x (wipeE ρ [i])).map fun ρ' => wipeE ρ' [i]) D := post
    split at post
    · exact post.elim
    · rename_i hi2
      have il : i < σ.length := Nat.lt_of_lt_of_le (List.getElem?_eq_some_iff.mp hi2).1 (by obtain ⟨A, α, hh⟩ := st; exact hh.len)
      exact h2 (Ends.gone D i) (σ.set i (some (.ref a))) H a d x Z S (wipeE ρ [i]) (fun j z => by cases z; exact List.getElem?_set_self il) (st.slotNo _) xa (post_gone (fun x' ρ' => hx x _ x' ρ') post)
  · rename_i e
    exact ⟨false, by rw [C.K]; exact hi _ _ _ e, (fun z => nomatch z), fun _ => r2 D σ H Z S ρ x d st xa post⟩
theorem cxt_tr {W' : WX} (C : Cxt X g W lv) {pn : List (Addr × Obj)} {xe : Value → Shared → Prop} (tk : Takes (X.tr pn xe) W') (po : PassesOwn (model X.prog X.w) X.A X.env xe) : Cxt (X.tr pn xe) g W' lv := ⟨C.K, C.calm, C.nd, tk, po, C.rm, C.gd, C.sys⟩
theorem sd_try {body : List Stmt} {h₀ : ExceptHandler} {hds : List ExceptHandler} {pos : Pos} {b : Sm} {ks : List Kl} (C : Cxt X g W lv) (hb : ∀ (W' : WX) (pn : List (Addr × Obj)) (xe : Value → Shared → Prop), Cxt (X.tr pn xe) g W' lv → PSs (X.tr pn xe) body (LS g W' b)) (hh : PCl X g W isx (h₀ :: hds) ks)
    (hs : X.stack = X.env :: X.outer := by rfl) (hf : X.env.frame = some X.env.locals := by rfl) : PS X (.Try body (h₀ :: hds) [] [] pos) (LS g W (sTry isx b ks)) := by
  obtain ⟨l, h1, h2⟩ := hh
  refine PS_imp (ps_try_mix hs hf C.nd C.tk (tb := fun W' => LS g W' b) (fun W' pn xe tk po => hb W' pn xe (cxt_tr C tk po)) h1) fun D σ H q => ?_
  obtain ⟨Z, S, ρ, st, post⟩ := q
  refine ⟨Z, S, ρ, st, ?_⟩
  unfold sTry at post
  cases h : b ρ with
  | exc x ρ1 =>
    rw [h] at post
    exact fun d σ' S' H' e st' xa => h2 D σ' H' Z S' ρ1 x d st' xa (PostO.mono e post)
  | next ρ1 => rw [h] at post; exact post
  | brk ρ1 => rw [h] at post; exact post
  | cont ρ1 => rw [h] at post; exact post
  | ret o ρ1 => rw [h] at post; exact post
  | stuck => rw [h] at post; exact post
end
end DL
set_option Elab.async false
set_option linter.all false
set_option maxRecDepth 100000
set_option autoImplicit false
/-! DLM27: except suites. -/
namespace DL
open PySem PySem.Spec PyProof.Rows L2
section
variable {X : Cx} {g : Gb} {W : WX} {lv : Nat} {Z : Zn} {S H : Hp} {σ : Sg} {ρ : En} {e : Expr} {es : List Expr} {pos p : Pos}
/-- what a suite knows of the caught exception -/
def XP (g : Gb) (i : Option Nat) (a : Addr) (cls : Value) (d : Option Addr) (x : Exn) (S : Hp) (σ : Sg) (H : Hp) : Prop := (∀ j, i = some j → σ[j]? = some (some (.ref a))) ∧ cls = .ref (g.cn x.c) ∧ ExnAt g S H x d
def rX1 (g : Gb) (i : Option Nat) (a : Addr) (cls : Value) (d : Option Addr) (f : Exn → Option D) : TE := fun σ H Q => ∃ S x y, XP g i a cls d x S σ H ∧ f x = some y ∧ ∀ v, Rep g S y v → Q v H
def rXs (g : Gb) (i : Option Nat) (a : Addr) (cls : Value) (d : Option Addr) (f : Exn → Option (List D)) : TA := fun σ H Q => ∃ S x ys, XP g i a cls d x S σ H ∧ f x = some ys ∧ ∀ vs, Reps g S ys vs → Q vs H
/-- an item of a suite's display -/
def PX1 (g : Gb) (X : Cx) (i : Option Nat) (e : Expr) (f : Exn → Option D) : Prop := ∀ (a : Addr) (oe : Obj) (cls : Value) (d : Option Addr) (pn : List (Addr × Obj)), Zc cls d oe → (∃ vs, oe.data = .fields vs) → PE (X.suite a ((a, oe) :: pn)) e (rX1 g i a cls d f)
def PXs (g : Gb) (X : Cx) (i : Option Nat) (es : List Expr) (f : Exn → Option (List D)) : Prop := ∀ (a : Addr) (oe : Obj) (cls : Value) (d : Option Addr) (pn : List (Addr × Obj)), Zc cls d oe → (∃ vs, oe.data = .fields vs) → PA (X.suite a ((a, oe) :: pn)) es (rXs g i a cls d f)
theorem px_nil {i : Option Nat} : PXs g X i [] fun _ => some [] := fun a oe cls d pn hz hf => PA_imp pa_nil fun σ H Q ⟨S, x, ys, _, e, k⟩ => by
  cases e
  exact k [] rfl
def consX (f : Exn → Option D) (fs : Exn → Option (List D)) : Exn → Option (List D) := fun x => match f x, fs x with
  | some y, some ys => some (y :: ys)
  | _, _ => none
theorem px_cons {i : Option Nat} {f : Exn → Option D} {fs : Exn → Option (List D)} (h : PX1 g X i e f) (r : PXs g X i es fs) (he : starEach (e :: es) X.env = (false, eval e X.env) :: starEach es X.env := by rfl) : PXs g X i (e :: es) (consX f fs) := fun a oe cls d pn hz hf =>
  PA_imp (pa_cons (h a oe cls d pn hz hf) (r a oe cls d pn hz hf) he) fun σ H Q ⟨S, x, ys, xp, e, k⟩ => by
    unfold consX at e
    split at e
    · rename_i y ys' e1 e2
      cases e
      exact ⟨S, x, y, xp, e1, fun v rv => ⟨S, x, ys', xp, e2, fun vs rs => k _ ⟨v, vs, rfl, rv, rs⟩⟩⟩
    · cases e
/-- what stands there for any exception -/
theorem px_flat {i : Option Nat} {y : D} (hy : y.flat = true) (h : ∀ a oe pn, PE (X.suite a ((a, oe) :: pn)) e (tC y.val)) : PX1 g X i e fun _ => some y := fun a oe cls d pn hz hf => PE_imp (h a oe pn) fun σ H Q ⟨S, x, y', _, e, k⟩ => by
  cases e
  exact k _ (rep_flat hy)
theorem px_str {i : Option Nat} {s : Str} {k} : PX1 g X i (.Constant (.str s) k pos) fun _ => some (.str s) := px_flat (y := .str s) rfl fun _ _ _ => pe_str
/-- e.f -/
def fldX (h f : Str) : Exn → Option D := fun x => if x.c = h then x.fs.lookup f else none
theorem px_fld {i : Nat} {n f h : Str} (C : Cxt X g W lv) (T : XfC g.K (g.cn h)) (hno : PySem.W.findIn g.K (.ref (g.cn h)) f = some none) (hN : X.N[i]? = some n := by rfl) (hv : Vis X.env.scope n := by first | exact Or.inl rfl | exact Or.inr (Or.inl rfl) | exact Or.inr (Or.inr rfl)) (hd : (n == ("__debug__" : Str)) = false := by decide) (hcd : (n == ("__classdict__" : Str)) = false := by decide)
    (hb : attributeBase (.Name n p) f X.env (eval (.Name n p) X.env) = eval (.Name n p) X.env := by rfl) : PX1 g X (some i) (.Attribute (.Name n p) f pos) (fldX h f) := fun a oe cls d pn hz hf => by
  rw [← C.K] at T hno
  refine PE_imp (pe_xf T hno hz hf (pe_var hN hv hd hcd) hb) fun σ H Q ⟨S, x, y, ⟨h1, h2, xa⟩, e, k⟩ => ?_
  unfold fldX at e
  split at e
  · rename_i hc
    cases d with
    | none => have xa : x.fs = [] := xa; rw [xa] at e; cases e
    | some dd =>
      obtain ⟨fvs, h4, h5⟩ := xa
      obtain ⟨v, l, r⟩ := h5.lookup e
      exact ⟨_, h1 i rfl, rfl, by rw [h2, hc], dd, fvs, v, rfl, h4, l, k v r⟩
  · cases e
/-- isinstance(e, c) -/
def rIsXd (K : PySem.W.Frag) (a : Addr) (cls : Value) (d : Option Addr) : List V → Hp → VK → Prop := fun xs H Q => ∃ (c : V) (cv : Value) (b : Bool) (D dd : Addr) (fs : List (Str × V)), xs = [.ref a, c] ∧ (∀ u, RelV c u → u = cv) ∧ cls = .ref D ∧ d = some dd ∧ L2.ExcC K D ∧ H dd = some (.xd fs) ∧ PySem.W.kitOne K (.ref D) cv = some b ∧ Q (.bl b) H
theorem call_isXd {a : Addr} {oe : Obj} {cls : Value} {d : Option Addr} {pn : List (Addr × Obj)} (hz : Zc cls d oe) (hf : ∃ vs, oe.data = .fields vs) : CallR (X.suite a ((a, oe) :: pn)) (.builtin "isinstance") (rIsXd X.K a cls d) := by
  intro pins s σ H xs us Q I r h
  obtain ⟨c, cv, b, D, dd, fs, rfl, hcv, rfl, rfl, hC, ea, e, q⟩ := h
  obtain ⟨u1, u2, rfl, r1, r2⟩ := vals2 r
  cases (show u1 = Value.ref a from r1)
  have e2 := hcv _ r2
  subst e2
  obtain ⟨hget, _⟩ := I.pin (a, oe) (List.mem_append.mpr (.inl List.mem_cons_self))
  obtain ⟨vs, hv⟩ := hf
  have hx : ObjOk X.prog X.w H s.heap dd (.xd fs) := I.hok dd _ ea
  obtain ⟨mA, hns, hr⟩ := hx
  obtain ⟨od, ho, hl⟩ := lookIn_ns hns
  have J : PySem.W.InstAt s.heap a oe D (some od) := ⟨hget, hz.1, by unfold PySem.W.notCls; rw [hv] <;> rfl, by rw [hz.2]; exact ho⟩
  exact PySem.W.kia_one (exc_kit hC) I.kIn J e (fun z => nomatch z) fun tk => ⟨.bl b, H, I.kept (t' := tk) fun _ _ z => z, rfl, q⟩
def isiX (h : Str) (b : Bool) : Exn → Option D := fun x => if x.c = h then match x.fs with
  | [] => none
  | _ :: _ => some (.bl b) else none
theorem px_isi {i : Nat} {n h : Str} {ce : Expr} {c : V} {cv : Value} {b : Bool} {pi pp : Pos} (C : Cxt X g W lv) (T : L2.ExcC g.K (g.cn h)) (hk : PySem.W.kitOne g.K (.ref (g.cn h)) cv = some b) (hcv : ∀ u, RelV c u → u = cv) (hc : ∀ a oe pn, PE (X.suite a ((a, oe) :: pn)) ce (tC c)) (hm : X.mg "isinstance" = none) (hN : X.N[i]? = some n := by rfl) (hv : Vis X.env.scope n := by first | exact Or.inl rfl | exact Or.inr (Or.inl rfl) | exact Or.inr (Or.inr rfl)) (hd : (n == ("__debug__" : Str)) = false := by decide) (hcd : (n == ("__classdict__" : Str)) = false := by decide)
    (hg : Gl X "isinstance" := by rfl) (he : starEach [.Name n p, ce] X.env = (false, eval (.Name n p) X.env) :: starEach [ce] X.env := by rfl) (he2 : starEach [ce] X.env = (false, eval ce X.env) :: starEach [] X.env := by rfl) (hpl : (backTo pos (starEach [ce] X.env)).any (·.1) = false := by rfl) :
    PX1 g X (some i) (.Call (.Name "isinstance" pi) [.Name n p, ce] [] pos) (isiX h b) := fun a oe cls d pn hz hf => by
  rw [← C.K] at T hk
  refine PE_imp (pe_callB (X := X.suite a ((a, oe) :: pn)) (call_isXd hz hf) hg hm bootX_isinstance (pa_cons (pe_var hN hv hd hcd) (pa_cons (hc a oe pn) pa_nil he2) he) (he := he) (hpl := hpl)) fun σ H Q ⟨S, x, y, ⟨h1, h2, xa⟩, e, k⟩ => ?_
  unfold isiX at e
  split at e
  · rename_i hcx
    cases d with
    | none => have xa : x.fs = [] := xa; rw [xa] at e; cases e
    | some dd =>
      obtain ⟨fvs, h4, h5⟩ := xa
      split at e
      · cases e
      · cases e
        exact ⟨_, h1 i rfl, c, cv, b, g.cn h, dd, fvs, rfl, hcv, by rw [h2, hcx], rfl, T, h4, hk, k _ rfl⟩
  · cases e
/-- the class, in a suite -/
theorem pc_own {c : Str} {B : Addr} {py : Pos} (hm : X.mg c = some (.ref B)) (hg : Gl X c := by rfl) (hd : (c == ("__debug__" : Str)) = false := by decide) : ∀ a oe pn, PE (X.suite a ((a, oe) :: pn)) (.Name c py) (tC (.ref B)) := fun a oe pn => pe_glob (v := .ref B) hg hm rfl hd
theorem pc_ty {c : Str} {T : String} {py : Pos} (hm : X.mg c = none) (hv : bootBuiltins c = some (.type T)) (hg : Gl X c := by rfl) (hn : c ≠ "__name__" := by decide) (hd : (c == ("__debug__" : Str)) = false := by decide) : ∀ a oe pn, PE (X.suite a ((a, oe) :: pn)) (.Name c py) (tC (.ty T)) := fun a oe pn => pe_bltn (v := .ty T) hg hm hv rfl hn hd
theorem rv_ref {B : Addr} : ∀ u, RelV (.ref B) u → u = .ref B := fun u r => r
theorem rv_ty {T : String} : ∀ u, RelV (.ty T) u → u = .type T := fun u r => r
/-- found = [..] -/
def fLst (j : Nat) (fs : Exn → Option (List D)) : Exn → Sm := fun x ρ => match fs x with
  | some ys => if ys.length ≤ 1000 then En.put ρ j (.lst (ys.map .sh)) else .stuck
  | none => .stuck
theorem fLst_exc {j : Nat} {fs : Exn → Option (List D)} : ∀ y ρ x ρ', fLst j fs y ρ ≠ .exc x ρ' := fun y ρ x ρ' => by
  unfold fLst En.put
  repeat' split
  all_goals (intro z; cases z)
theorem su_lst {i : Option Nat} {j : Nat} {y : Str} {py ps : Pos} {fs : Exn → Option (List D)} (C : Cxt X g W lv) (h : PXs g X i es fs) (hi : X.N[j]? = some y := by rfl) (hx : Loc X.env.scope y := by first | exact Or.inl rfl | exact Or.inr rfl) (hs : swapsWith (.List es pos) (some (.Name y py)) ps.line X.env = pure false := by rfl)
    (hf : X.fn y = true ∨ X.env.scope.names.lookup y = some .local := by first | exact .inl rfl | exact .inr rfl | assumption) : SuiteD g X W [.Assign [.Name y py] (.List es pos) ps] i (fLst j fs) := by
  refine ⟨_, fun a oe cls d pn hz hfd => pss_one (ps_set C.nd hi hx (pe_lst (h a oe cls d pn hz hfd)) hs hf), fun D σ H a d x Z S ρ h1 st xa post => ?_⟩
  unfold fLst at post
  split at post
  · rename_i ys e
    split at post
    · rename_i hl
      refine ⟨S, x, ys, ⟨h1, rfl, xa⟩, e, fun vs r => ⟨by rw [r.len, sizeLine_eq]; omega, fun q hq => ?_⟩⟩
      obtain ⟨S2, e2, st2⟩ := st.push (New.lst st.sub r hq)
      exact put_next st2 (PostO.mono e2 post)
    · exact post.elim
  · exact post.elim
end
end DL
set_option Elab.async false
set_option linter.all false
set_option maxRecDepth 100000
set_option autoImplicit false
/-! DLM28: which own exception class is which other's, as a table; what the text says of a caught class. -/
namespace DL
open PySem PySem.Spec PyProof.Rows L2
def isxL (cs hs : List Str) (c h : Str) : Option Bool := if c ∈ cs ∧ h ∈ hs then some (decide (c = h) || decide (h = "CueError")) else none
theorem isxL_ok {g : Gb} {cs hs : List Str} (a : ∀ c ∈ cs, ∀ h ∈ hs, PySem.W.exmOne g.K (.ref (g.cn c)) (.ref (g.cn h)) = some (decide (c = h) || decide (h = "CueError"))) : IsxOk g (isxL cs hs) := fun c h b e => by
  unfold isxL at e
  split at e
  · rename_i k
    rw [a c k.1 h k.2]; exact e
  · cases e
/-- what the text says of a class that a clause names, whose exceptions are looked at -/
def CauT (g : Gb) (h fld : Str) : Prop := XfC g.K (g.cn h) ∧ L2.ExcC g.K (g.cn h) ∧ PySem.W.findIn g.K (.ref (g.cn h)) fld = some none
end DL
set_option Elab.async false
set_option linter.all false
set_option maxRecDepth 100000
set_option autoImplicit false
/-! DLQ1: == of lists and tuples whose items' == runs code, with either answer. -/
set_option Elab.async false
set_option linter.all false
set_option maxRecDepth 100000
set_option autoImplicit false
/-! DLQ2: == of own instances, lists of them, as a function. -/
namespace DL
open PySem PySem.Spec PyProof.Rows L2
/-- the own == of the classes -/
abbrev EqTab := List (Str × (List O → R) × (List (Str × D) → Bool))
def insEq (T : EqTab) (c : Str) (fs : List (Str × D)) (b : D) : Option Bool := (T.lookup c).bind fun fp => if fp.2 fs = true then match fp.1 [.sh (.ins c fs), .sh b] with
  | .ok (.sh (.bl r)) _ => some r
  | _ => none else none
def othD : D → Bool
  | .non => true
  | .bl _ => true
  | .int _ => true
  | .str _ => true
  | .lst _ => true
  | .tup _ => true
  | _ => false
def eqC (T : EqTab) : Nat → D → D → Option Bool
  | 0, _, _ => none
  | n + 1, x, y => match x.view, y.view with
    | .lst xs, .lst ys => if xs.length = ys.length then eqAll (eqC T n) xs ys else some false
    | .tup xs, .tup ys => (eqAll (eqC T n) xs ys).map fun b => b && xs.length == ys.length
    | .ins c fs, .ins c' gs => if c = c' then insEq T c fs (.ins c' gs) else none
    | .ins c fs, b => if othD b then insEq T c fs b else none
    | a, .ins c gs => if othD a then insEq T c gs a else none
    | a, b => eqN (n + 1) a b
/-- of the same thing it says True -/
def ReflE (g : Gb) (c : Str) (fn : List O → R) (pf : List (Str × D) → Bool) : Prop := ∀ (X : Cx) (H S : Hp) (s : Shared) (pins : List (Addr × Obj)) (σ : L2.St) (fs gs : List (Str × D)) (v : V) (b : Bool) (ρ : En), L2.Inv X pins σ H s → X.K = g.K → Sub S H → pf fs = true → Rep g S (.ins c fs) v → Rep g S (.ins c gs) v → fn [.sh (.ins c fs), .sh (.ins c gs)] = .ok (.sh (.bl b)) ρ → b = true
def tyNames : List String := ["NoneType", "bool", "int", "str", "list", "tuple"]
structure EqAp (g : Gb) (c : Str) : Prop where
  l : ∀ T ∈ tyNames, PySem.W.subIn g.K (.type T) (.ref (g.cn c)) = some false
  r : ∀ T ∈ tyNames, PySem.W.subIn g.K (.ref (g.cn c)) (.type T) = some false
  n : PySem.W.findIn g.K (.ref (g.cn c)) "__ne__" = some (some (.builtin "object.__ne__"))
  o : PySem.W.mroIn g.K (g.cn c) (.type "object") = some true
def EqOk (P : Program) (w : World) (mg : Str → Option Value) (base : Heap) (g : Gb) (k : Nat) (T : EqTab) : Prop :=
  ∀ c fn pf, T.lookup c = some (fn, pf) → Met0 P w mg base g k c "__eq__" 2 fn ∧ EqAp g c ∧ ReflE g c fn pf
theorem EqOk.nil {P : Program} {w : World} {mg : Str → Option Value} {base : Heap} {g : Gb} {k : Nat} : EqOk P w mg base g k [] := fun _ _ _ h => by cases h
theorem EqOk.cons {P : Program} {w : World} {mg : Str → Option Value} {base : Heap} {g : Gb} {k n : Nat} {c : Str} {fn : List O → R} {pf : List (Str × D) → Bool} {T : EqTab} (h : Met P w mg base g k c "__eq__" n [] fn) (e : n = 2) (a : EqAp g c) (r : ReflE g c fn pf) (t : EqOk P w mg base g k T) : EqOk P w mg base g k ((c, fn, pf) :: T) := fun c' fn' pf' q => by
  subst e
  unfold List.lookup at q
  split at q
  · rename_i z
    cases q
    have z : c' = c := by simpa using z
    subst z
    exact ⟨h.zero, a, r⟩
  · exact t _ _ _ q
section
variable {X : Cx} {g : Gb} {W : WX} {Z : Zn} {S S' H H' : Hp} {τ τ' : List V} {θ θ' : List O} {σ σ' : Sg} {ρ : En} {Q Q' : VK} {T : EqTab} {k : Nat} {pins : List (Addr × Obj)} {s : Shared}
/-- where the walk stands after a comparison -/
def At (X : Cx) (g : Gb) (Z : Zn) (pins : List (Addr × Obj)) (σi : L2.St) (τ : List V) (θ : List O) (σ : Sg) (ρ : En) (S : Hp) (s' : Shared) : Prop := ∃ S' H', Ex S S' ∧ St g Z S' H' τ θ σ ρ ∧ L2.Inv X pins σi H' s'
variable {A : Around} {x y : V} {u v : Value} {dx dy : D} {b : Bool} {c : Str} {fs gs : List (Str × D)} {fn : List O → R}
theorem At.refl (I : L2.Inv X pins σ' H s) (st : St g Z S H τ θ σ ρ) : At X g Z pins σ' τ θ σ ρ S s := ⟨S, H, Ex.refl _, st, I⟩
end
end DL
set_option Elab.async false
set_option linter.all false
set_option maxRecDepth 100000
set_option autoImplicit false
/-! DLQ3: ==, !=, in by own ==, lifted. -/
namespace DL
open PySem PySem.Spec PyProof.Rows L2
section
variable {X : Cx} {g : Gb} {W : WX} {Z : Zn} {S S' H H' : Hp} {τ τ' : List V} {θ θ' : List O} {σ σ' : Sg} {ρ : En} {Q Q' : VK} {T : EqTab} {k j n : Nat} {ma mb : E} {a b : Expr} {pos : Pos}
def eEqC (T : EqTab) (n : Nat) (ma mb : E) : E := fun ρ => (ma ρ).bind fun o1 ρ1 => (mb ρ1).bind fun o2 ρ2 => match eqC T n o1.d o2.d with
  | some b => .ok (.sh (.bl b)) ρ2
  | none => .stuck
/-! != of two instances of a class -/
/-! x in a list of instances -/
end
end DL
set_option Elab.async false
set_option linter.all false
set_option maxRecDepth 100000
set_option autoImplicit false
/-! DLP1: a part of what a slot owns, by its path. -/
namespace DL
open PySem PySem.Spec PyProof.Rows L2
/-- the j-th part -/
def oKid : O → Nat → Option O
  | .lst os, j => os[j]?
  | .dct kos, j => (kos[j]?).map (·.2)
  | .ins _ fs, j => (fs[j]?).map (·.2)
  | .tag _ o, j => oKid o j
  | .tup os, j => os[j]?
  | _, _ => none
def setK {α : Type} (l : List (α × O)) (j : Nat) (o : O) : List (α × O) := match l[j]? with
  | some p => l.set j (p.1, o)
  | none => l
def oSetKid : O → Nat → O → O
  | .lst os, j, o => .lst (os.set j o)
  | .dct kos, j, o => .dct (setK kos j o)
  | .ins c fs, j, o => .ins c (setK fs j o)
  | .tag n p, j, o => .tag n (oSetKid p j o)
  | .tup os, j, o => .tup (os.set j o)
  | p, _, _ => p
def oGet : List Nat → O → Option O
  | [], o => some o
  | j :: r, o => (oKid o j).bind (oGet r)
def oPut : List Nat → O → O → O
  | [], _, o' => o'
  | j :: r, o, o' => match oKid o j with
    | some k => oSetKid o j (oPut r k o')
    | none => o
def vKid (H : Hp) (v : V) (j : Nat) : Option V := match v with
  | .ref l => match H l with
    | some (.lst vs) => vs[j]?
    | some (.dK kvs) => (kvs[j]?).map (·.2)
    | some (.ins _ _ fvs) => (fvs[j]?).map (·.2)
    | some (.tup vs) => vs[j]?
    | _ => none
  | _ => none
theorem vKid_lst {H : Hp} {l : Addr} {vs : List V} {j : Nat} (h : H l = some (.lst vs)) : vKid H (.ref l) j = vs[j]? := by simp only [vKid, h]
theorem vKid_dct {H : Hp} {l : Addr} {vs : List (Key × V)} {j : Nat} (h : H l = some (.dK vs)) : vKid H (.ref l) j = (vs[j]?).map (·.2) := by simp only [vKid, h]
theorem vKid_ins {H : Hp} {l C dx : Addr} {vs : List (Str × V)} {j : Nat} (h : H l = some (.ins C dx vs)) : vKid H (.ref l) j = (vs[j]?).map (·.2) := by simp only [vKid, h]
theorem vKid_tup {H : Hp} {l : Addr} {vs : List V} {j : Nat} (h : H l = some (.tup vs)) : vKid H (.ref l) j = vs[j]? := by simp only [vKid, h]
def vGet (H : Hp) : List Nat → V → Option V
  | [], v => some v
  | j :: r, v => (vKid H v j).bind (vGet H r)
section
variable {g : Gb} {S S' H H' : Hp}
theorem RelOK.splitAt : ∀ {os : List (Key × O)} {vs : List (Key × V)} {A : List Addr} {j : Nat} {k : Key} {o : O}, RelOK g S H os vs A → os[j]? = some (k, o) → ∃ v A1 Ao A2, vs[j]? = some (k, v) ∧ A = A1 ++ (Ao ++ A2) ∧ RelO g S H o v Ao ∧
    (∀ H' S' o' v' B, Ex S S' → (∀ a, a ∈ A1 ∨ a ∈ A2 → H' a = H a) → RelO g S' H' o' v' B → RelOK g S' H' (os.set j (k, o')) (vs.set j (k, v')) (A1 ++ (B ++ A2)))
  | [], _, _, _, _, _, _, e => by simp at e
  | (k0, p) :: os, _, _, 0, k, o, ⟨v, r, A1, A2, e, eA, x, y⟩, h => by
    have h' : (k0, p) = (k, o) := by simpa using h
    cases h'
    refine ⟨v, [], A1, A2, by rw [e]; rfl, by rw [eA]; rfl, x, fun H' S' o' v' B ex q w => ?_⟩
    rw [e]
    exact ⟨v', r, B, A2, rfl, rfl, w, RelOK.mono ex os r A2 (fun a m => q a (.inr m)) y⟩
  | (k0, p) :: os, _, _, j + 1, k, o, ⟨v, r, A1, A2, e, eA, x, y⟩, h => by
    obtain ⟨v', B1, Bo, B2, h1, h2, h3, h4⟩ := RelOK.splitAt (j := j) (k := k) y (by simpa using h)
    refine ⟨v', A1 ++ B1, Bo, B2, by rw [e]; simpa using h1, by rw [eA, h2, List.append_assoc], h3, fun H' S' o' v2 B ex q w => ?_⟩
    rw [e]
    refine ⟨v, r.set j (k, v2), A1, B1 ++ (B ++ B2), rfl, by rw [List.append_assoc], RelO.mono ex p v A1 (fun a m => q a (.inl (List.mem_append_left _ m))) x, h4 H' S' o' v2 B ex (fun a m => q a ?_) w⟩
    rcases m with m | m
    · exact .inl (List.mem_append_right _ m)
    · exact .inr m
theorem RelOF.splitAt : ∀ {os : List (Str × O)} {vs : List (Str × V)} {A : List Addr} {j : Nat} {k : Str} {o : O}, RelOF g S H os vs A → os[j]? = some (k, o) → ∃ v A1 Ao A2, vs[j]? = some (k, v) ∧ A = A1 ++ (Ao ++ A2) ∧ RelO g S H o v Ao ∧
    (∀ H' S' o' v' B, Ex S S' → (∀ a, a ∈ A1 ∨ a ∈ A2 → H' a = H a) → RelO g S' H' o' v' B → RelOF g S' H' (os.set j (k, o')) (vs.set j (k, v')) (A1 ++ (B ++ A2)))
  | [], _, _, _, _, _, _, e => by simp at e
  | (k0, p) :: os, _, _, 0, k, o, ⟨v, r, A1, A2, e, eA, x, y⟩, h => by
    have h' : (k0, p) = (k, o) := by simpa using h
    cases h'
    refine ⟨v, [], A1, A2, by rw [e]; rfl, by rw [eA]; rfl, x, fun H' S' o' v' B ex q w => ?_⟩
    rw [e]
    exact ⟨v', r, B, A2, rfl, rfl, w, RelOF.mono ex os r A2 (fun a m => q a (.inr m)) y⟩
  | (k0, p) :: os, _, _, j + 1, k, o, ⟨v, r, A1, A2, e, eA, x, y⟩, h => by
    obtain ⟨v', B1, Bo, B2, h1, h2, h3, h4⟩ := RelOF.splitAt (j := j) (k := k) y (by simpa using h)
    refine ⟨v', A1 ++ B1, Bo, B2, by rw [e]; simpa using h1, by rw [eA, h2, List.append_assoc], h3, fun H' S' o' v2 B ex q w => ?_⟩
    rw [e]
    refine ⟨v, r.set j (k, v2), A1, B1 ++ (B ++ B2), rfl, by rw [List.append_assoc], RelO.mono ex p v A1 (fun a m => q a (.inl (List.mem_append_left _ m))) x, h4 H' S' o' v2 B ex (fun a m => q a ?_) w⟩
    rcases m with m | m
    · exact .inl (List.mem_append_right _ m)
    · exact .inr m
theorem list_set_same {α : Type} {l : List α} {j : Nat} {a : α} (h : l[j]? = some a) : l.set j a = l := by
  apply List.ext_getElem?
  intro i
  by_cases e : j = i
  · subst e
    rw [List.getElem?_set_self (List.getElem?_eq_some_iff.mp h).1, h]
  · rw [List.getElem?_set_ne e]
/-- one step down -/
theorem RelO.kid (sb : Sub S H) : ∀ {p o : O} {v : V} {A : List Addr} {j : Nat}, RelO g S H p v A → oKid p j = some o → ∃ v' B1 Bo B2, vKid H v j = some v' ∧ A = B1 ++ (Bo ++ B2) ∧ RelO g S H o v' Bo ∧
    ∀ H' S' o' B, Ex S S' → (∀ a, a ∈ B1 ∨ a ∈ B2 → H' a = H a) → RelO g S' H' o' v' B → RelO g S' H' (oSetKid p j o') v (B1 ++ (B ++ B2))
  | .sh _, _, _, _, _, _, h => by cases h
  | .lst os, o, v, A, j, ⟨l, vs, A', ev, hl, eA, r⟩, h => by
    obtain ⟨v', A1, Ao, A2, h1, h2, h3, h4, _⟩ := r.splitAt (j := j) h
    refine ⟨v', l :: A1, Ao, A2, by rw [ev]; exact (vKid_lst hl).trans h1, by rw [eA, h2]; rfl, h3, fun H' S' o' B ex k w => ?_⟩
    have q := h4 H' S' o' v' B ex (fun a m => k a (m.imp (List.mem_cons_of_mem _) id)) w
    rw [list_set_same h1] at q
    exact ⟨l, vs, A1 ++ (B ++ A2), ev, (k l (.inl List.mem_cons_self)).trans hl, rfl, q⟩
  | .dct kos, o, v, A, j, ⟨l, vs, A', ev, hl, eA, r⟩, h => by
    have h : (kos[j]?).map (·.2) = some o := h
    cases hk : kos[j]? with
    | none => rw [hk] at h; cases h
    | some p =>
      obtain ⟨k0, o0⟩ := p
      rw [hk] at h
      cases h
      obtain ⟨v', A1, Ao, A2, h1, h2, h3, h4⟩ := r.splitAt (j := j) hk
      refine ⟨v', l :: A1, Ao, A2, by rw [ev]; exact (vKid_dct hl).trans (by rw [h1]; rfl), by rw [eA, h2]; rfl, h3, fun H' S' o' B ex k w => ?_⟩
      have q := h4 H' S' o' v' B ex (fun a m => k a (m.imp (List.mem_cons_of_mem _) id)) w
      rw [list_set_same h1] at q
      refine ⟨l, vs, A1 ++ (B ++ A2), ev, (k l (.inl List.mem_cons_self)).trans hl, rfl, ?_⟩
      unfold setK
      rw [hk]
      exact q
  | .ins c fs, o, v, A, j, ⟨x, dx, vs, A', ev, hx, hdx, eA, r⟩, h => by
    have h : (fs[j]?).map (·.2) = some o := h
    cases hk : fs[j]? with
    | none => rw [hk] at h; cases h
    | some p =>
      obtain ⟨k0, o0⟩ := p
      rw [hk] at h
      cases h
      obtain ⟨v', A1, Ao, A2, h1, h2, h3, h4⟩ := r.splitAt (j := j) hk
      refine ⟨v', x :: dx :: A1, Ao, A2, by rw [ev]; exact (vKid_ins hx).trans (by rw [h1]; rfl), by rw [eA, h2]; rfl, h3, fun H' S' o' B ex k w => ?_⟩
      have q := h4 H' S' o' v' B ex (fun a m => k a (m.imp (fun m => List.mem_cons_of_mem _ (List.mem_cons_of_mem _ m)) id)) w
      rw [list_set_same h1] at q
      refine ⟨x, dx, vs, A1 ++ (B ++ A2), ev, (k x (.inl List.mem_cons_self)).trans hx, (k dx (.inl (List.mem_cons_of_mem _ List.mem_cons_self))).trans hdx, rfl, ?_⟩
      unfold setK
      rw [hk]
      exact q
  | .tag n p, o, v, A, j, ⟨e, r⟩, h => by
    obtain ⟨v', B1, Bo, B2, h1, h2, h3, h4⟩ := RelO.kid sb (p := p) r h
    exact ⟨v', B1, Bo, B2, h1, h2, h3, fun H' S' o' B ex k w => ⟨e, h4 H' S' o' B ex k w⟩⟩
  | .tup os, o, v, A, j, ⟨l, vs, ev, hl, r⟩, h => by
    obtain ⟨v', A1, Ao, A2, h1, h2, h3, h4, _⟩ := r.splitAt (j := j) h
    refine ⟨v', A1, Ao, A2, by rw [ev]; exact (vKid_tup (sb _ _ hl)).trans h1, h2, h3, fun H' S' o' B ex k w => ?_⟩
    have q := h4 H' S' o' v' B ex k w
    rw [list_set_same h1] at q
    exact ⟨l, vs, ev, ex.at hl, q⟩
/-- the whole way -/
theorem RelO.at (sb : Sub S H) : ∀ {path : List Nat} {p o : O} {v : V} {A : List Addr}, RelO g S H p v A → oGet path p = some o → ∃ v' B1 Bo B2, vGet H path v = some v' ∧ A = B1 ++ (Bo ++ B2) ∧ RelO g S H o v' Bo ∧
    ∀ H' S' o' B, Ex S S' → (∀ a, a ∈ B1 ∨ a ∈ B2 → H' a = H a) → RelO g S' H' o' v' B → RelO g S' H' (oPut path p o') v (B1 ++ (B ++ B2))
  | [], p, o, v, A, r, h => by
    cases h
    exact ⟨v, [], A, [], rfl, by simp, r, fun H' S' o' B _ _ w => by simpa [oPut] using w⟩
  | j :: path, p, o, v, A, r, h => by
    have h : (oKid p j).bind (oGet path) = some o := h
    cases hk : oKid p j with
    | none => rw [hk] at h; cases h
    | some k =>
      rw [hk] at h
      obtain ⟨v1, B1, Bo, B2, h1, h2, h3, h4⟩ := r.kid sb hk
      obtain ⟨v2, C1, Co, C2, i1, i2, i3, i4⟩ := RelO.at sb (path := path) h3 h
      refine ⟨v2, B1 ++ C1, Co, C2 ++ B2, by unfold vGet; rw [h1]; exact i1, by rw [h2, i2]; simp [List.append_assoc], i3, fun H' S' o' B ex kk w => ?_⟩
      have q := i4 H' S' o' B ex (fun a m => kk a (m.imp (List.mem_append_right _) (List.mem_append_left _))) w
      have q2 := h4 H' S' (oPut path k o') _ ex (fun a m => kk a (m.imp (List.mem_append_left _) (List.mem_append_right _))) q
      unfold oPut
      rw [hk]
      have e : B1 ++ ((C1 ++ (B ++ C2)) ++ B2) = (B1 ++ C1) ++ (B ++ (C2 ++ B2)) := by simp [List.append_assoc]
      rw [← e]
      exact q2
end
end DL
set_option Elab.async false
set_option linter.all false
set_option maxRecDepth 100000
set_option autoImplicit false
/-! DLP2: a part changes in place; places in the text. -/
namespace DL
open PySem PySem.Spec PyProof.Rows L2
section
variable {X : Cx} {g : Gb} {W : WX} {Z : Zn} {S S' H H' : Hp} {τ τ' : List V} {θ θ' : List O} {σ σ' : Sg} {ρ ρ' : En} {Q Q' : VK} {m mo ma mb mc : E} {o oi : O} {v : V} {i j n : Nat}
/-! ### places in the text, the last step first -/
inductive PStep where
  | ix (n : Int) | kv (j : Nat) | fd (cs : List Str) (f : Str)
end
end DL
set_option Elab.async false
set_option linter.all false
set_option maxRecDepth 100000
set_option autoImplicit false
/-! DLP3: stores and appends at places. -/
namespace DL
open PySem PySem.Spec PyProof.Rows L2
/-- what the own == of these classes looks at -/
def pfCue : List (Str × D) → Bool := fun _ => true
def pfShow : List (Str × D) → Bool := fun fs => match fs.lookup (Str.ofString "_cues") with
  | some d => match d.view with
    | .lst _ => true
    | _ => false
  | none => false
end DL
set_option Elab.async false
set_option linter.all false
set_option maxRecDepth 100000
set_option autoImplicit false
/-! DLP4: list(d.values()); while. -/
namespace DL
open PySem PySem.Spec PyProof.Rows L2
end DL
set_option Elab.async false
set_option linter.all false
set_option maxRecDepth 100000
set_option autoImplicit false
/-! DLP5: str(x) by an own __str__; f-strings of one part. -/
namespace DL
open PySem PySem.Spec PyProof.Rows L2
end DL
set_option Elab.async false
set_option linter.all false
set_option maxRecDepth 100000
set_option autoImplicit false
/-! DLP6: the truth of dicts and lists. -/
namespace DL
open PySem PySem.Spec PyProof.Rows L2
end DL
set_option Elab.async false
set_option linter.all false
set_option maxRecDepth 100000
set_option autoImplicit false
/-! DLP7: a lend whose result may hold frozen things, if they hold no list and only lists of frozen things are lent. -/
namespace DL
open PySem PySem.Spec PyProof.Rows L2
mutual
def noD : D → Bool
  | .lst _ => false
  | .scr _ => false
  | .exn _ _ => false
  | .tup ds => noDs ds
  | .dct kds => noDk kds
  | .ins _ fs => noDf fs
  | .lab _ d => noD d
  | .any => true
  | .non => true
  | .bl _ => true
  | .int _ => true
  | .str _ => true
  | .op _ => true
  | .gh _ _ => false
def noDs : List D → Bool
  | [] => true
  | d :: ds => noD d && noDs ds
def noDk : List (Key × D) → Bool
  | [] => true
  | (_, d) :: ds => noD d && noDk ds
def noDf : List (Str × D) → Bool
  | [] => true
  | (_, d) :: ds => noD d && noDf ds
end
mutual
def noO : O → Bool
  | .sh d => noD d
  | .lst os => noOs os
  | .dct kos => noOk kos
  | .ins _ fs => noOf fs
  | .tag _ o => noO o
  | .tup os => noOs os
def noOs : List O → Bool
  | [] => true
  | o :: os => noO o && noOs os
def noOk : List (Key × O) → Bool
  | [] => true
  | (_, o) :: os => noO o && noOk os
def noOf : List (Str × O) → Bool
  | [] => true
  | (_, o) :: os => noO o && noOf os
end
section
variable {g : Gb} {S H S' H' : Hp} {B : List Addr}
theorem less_rd {a : Addr} {u : HO} (hB : ∀ a ∈ B, ∃ xs, S a = some (.lst xs)) (hu : ∀ xs, u ≠ .lst xs) (h : Rd S a u) : Rd (less S B) a u := by
  have n : a ∉ B := fun m => by
    obtain ⟨xs, q⟩ := hB a m
    rcases h with h | ⟨o, h⟩
    · rw [q] at h; cases h; exact hu xs rfl
    · rw [q] at h; cases h
  unfold Rd at h ⊢
  rw [less_out n]; exact h
theorem less_at {a : Addr} {u : HO} (hB : ∀ a ∈ B, ∃ xs, S a = some (.lst xs)) (hu : ∀ xs, u ≠ .lst xs) (h : S a = some u) : less S B a = some u := by
  have n : a ∉ B := fun m => by
    obtain ⟨xs, q⟩ := hB a m
    rw [q] at h; cases h; exact hu xs rfl
  rw [less_out n]; exact h
mutual
theorem Rep.noL (hB : ∀ a ∈ B, ∃ xs, S a = some (.lst xs)) : ∀ (d : D) v, noD d = true → Rep g S d v → Rep g (less S B) d v
  | .non, _, _, r => r
  | .bl _, _, _, r => r
  | .int _, _, _, r => r
  | .str _, _, _, r => r
  | .tup ds, v, h, ⟨a, vs, e, q, b⟩ => by
    refine ⟨a, vs, e, ?_, Reps.noL hB ds vs (by simpa [noD] using h) b⟩
    rcases q with q | q
    · exact .inl (less_rd hB (fun _ z => by cases z) q)
    · exact .inr q
  | .dct ds, v, h, ⟨a, vs, e, q, b⟩ => ⟨a, vs, e, less_rd hB (fun _ z => by cases z) q, RepK.noL hB ds vs (by simpa [noD] using h) b⟩
  | .ins _ ds, v, h, ⟨a, dx, vs, e, q, q2, b⟩ => ⟨a, dx, vs, e, less_at hB (fun _ z => by cases z) q, less_at hB (fun _ z => by cases z) q2, RepF.noL hB ds vs (by simpa [noD] using h) b⟩
  | .lst ds, _, h, _ => by simp [noD] at h
  | .exn _ ds, _, h, _ => by simp [noD] at h
  | .scr _, _, h, _ => by simp [noD] at h
  | .any, _, _, _ => True.intro
  | .lab _ d, v, h, ⟨e, r⟩ => ⟨e, Rep.noL hB d v (by simpa [noD] using h) r⟩
  | .op _, _, _, r => r
  | .gh _ _, _, h, _ => by simp [noD] at h
theorem Reps.noL (hB : ∀ a ∈ B, ∃ xs, S a = some (.lst xs)) : ∀ (ds : List D) vs, noDs ds = true → Reps g S ds vs → Reps g (less S B) ds vs
  | [], _, _, r => r
  | d :: ds, _, h, ⟨v, r, e, a, b⟩ => by
    unfold noDs at h
    rw [Bool.and_eq_true] at h
    exact ⟨v, r, e, Rep.noL hB d v h.1 a, Reps.noL hB ds r h.2 b⟩
theorem RepK.noL (hB : ∀ a ∈ B, ∃ xs, S a = some (.lst xs)) : ∀ (ds : List (Key × D)) vs, noDk ds = true → RepK g S ds vs → RepK g (less S B) ds vs
  | [], _, _, r => r
  | (_, d) :: ds, _, h, ⟨v, r, e, a, b⟩ => by
    unfold noDk at h
    rw [Bool.and_eq_true] at h
    exact ⟨v, r, e, Rep.noL hB d v h.1 a, RepK.noL hB ds r h.2 b⟩
theorem RepF.noL (hB : ∀ a ∈ B, ∃ xs, S a = some (.lst xs)) : ∀ (ds : List (Str × D)) vs, noDf ds = true → RepF g S ds vs → RepF g (less S B) ds vs
  | [], _, _, r => r
  | (_, d) :: ds, _, h, ⟨v, r, e, a, b⟩ => by
    unfold noDf at h
    rw [Bool.and_eq_true] at h
    exact ⟨v, r, e, Rep.noL hB d v h.1 a, RepF.noL hB ds r h.2 b⟩
end
mutual
theorem RelO.noL (hB : ∀ a ∈ B, ∃ xs, S a = some (.lst xs)) : ∀ (o : O) v A, noO o = true → (∀ a ∈ A, H' a = H a) → RelO g S H o v A → RelO g (less S B) H' o v A
  | .sh d, v, A, h, _, ⟨e, r⟩ => ⟨e, Rep.noL hB d v (by simpa [noO] using h) r⟩
  | .lst os, v, A, h, k, ⟨l, vs, A', e, q, eA, r⟩ => by
    subst eA
    exact ⟨l, vs, A', e, (k l (List.mem_cons_self ..)).trans q, rfl, RelOs.noL hB os vs A' (by simpa [noO] using h) (fun a m => k a (List.mem_cons_of_mem _ m)) r⟩
  | .dct os, v, A, h, k, ⟨l, vs, A', e, q, eA, r⟩ => by
    subst eA
    exact ⟨l, vs, A', e, (k l (List.mem_cons_self ..)).trans q, rfl, RelOK.noL hB os vs A' (by simpa [noO] using h) (fun a m => k a (List.mem_cons_of_mem _ m)) r⟩
  | .ins c os, v, A, h, k, ⟨x, dx, vs, A', e, q, q2, eA, r⟩ => by
    subst eA
    exact ⟨x, dx, vs, A', e, (k x (List.mem_cons_self ..)).trans q, (k dx (List.mem_cons_of_mem _ (List.mem_cons_self ..))).trans q2, rfl,
      RelOF.noL hB os vs A' (by simpa [noO] using h) (fun a m => k a (List.mem_cons_of_mem _ (List.mem_cons_of_mem _ m))) r⟩
  | .tag n o, v, A, h, k, ⟨e, r⟩ => ⟨e, RelO.noL hB o v A (by simpa [noO] using h) k r⟩
  | .tup os, v, A, h, k, ⟨a, vs, e, q, r⟩ => ⟨a, vs, e, less_at hB (fun _ z => by cases z) q, RelOs.noL hB os vs A (by simpa [noO] using h) k r⟩
theorem RelOs.noL (hB : ∀ a ∈ B, ∃ xs, S a = some (.lst xs)) : ∀ (os : List O) vs A, noOs os = true → (∀ a ∈ A, H' a = H a) → RelOs g S H os vs A → RelOs g (less S B) H' os vs A
  | [], _, _, _, _, r => r
  | o :: os, _, _, h, k, ⟨v, r, A1, A2, e, eA, a, b⟩ => by
    subst eA
    unfold noOs at h
    rw [Bool.and_eq_true] at h
    exact ⟨v, r, A1, A2, e, rfl, RelO.noL hB o v A1 h.1 (fun a m => k a (List.mem_append_left _ m)) a, RelOs.noL hB os r A2 h.2 (fun a m => k a (List.mem_append_right _ m)) b⟩
theorem RelOK.noL (hB : ∀ a ∈ B, ∃ xs, S a = some (.lst xs)) : ∀ (os : List (Key × O)) vs A, noOk os = true → (∀ a ∈ A, H' a = H a) → RelOK g S H os vs A → RelOK g (less S B) H' os vs A
  | [], _, _, _, _, r => r
  | (_, o) :: os, _, _, h, k, ⟨v, r, A1, A2, e, eA, a, b⟩ => by
    subst eA
    unfold noOk at h
    rw [Bool.and_eq_true] at h
    exact ⟨v, r, A1, A2, e, rfl, RelO.noL hB o v A1 h.1 (fun a m => k a (List.mem_append_left _ m)) a, RelOK.noL hB os r A2 h.2 (fun a m => k a (List.mem_append_right _ m)) b⟩
theorem RelOF.noL (hB : ∀ a ∈ B, ∃ xs, S a = some (.lst xs)) : ∀ (os : List (Str × O)) vs A, noOf os = true → (∀ a ∈ A, H' a = H a) → RelOF g S H os vs A → RelOF g (less S B) H' os vs A
  | [], _, _, _, _, r => r
  | (_, o) :: os, _, _, h, k, ⟨v, r, A1, A2, e, eA, a, b⟩ => by
    subst eA
    unfold noOf at h
    rw [Bool.and_eq_true] at h
    exact ⟨v, r, A1, A2, e, rfl, RelO.noL hB o v A1 h.1 (fun a m => k a (List.mem_append_left _ m)) a, RelOF.noL hB os r A2 h.2 (fun a m => k a (List.mem_append_right _ m)) b⟩
end
/-- nothing is lent here but a list of frozen things -/
def shL : O → Bool
  | .sh _ => true
  | .lst os => os.all isSh
  | _ => false
theorem shs_nil : ∀ {os : List O} {vs : List V} {A : List Addr}, os.all isSh = true → RelOs g S H os vs A → A = []
  | [], _, _, _, ⟨_, e⟩ => e
  | .sh d :: os, _, _, h, ⟨v, r, A1, A2, e, eA, ⟨x, _⟩, b⟩ => by
    subst eA
    subst x
    rw [shs_nil (os := os) (by simpa [isSh] using h) b]
    rfl
  | .lst _ :: _, _, _, h, _ => by simp [isSh] at h
  | .dct _ :: _, _, _, h, _ => by simp [isSh] at h
  | .ins _ _ :: _, _, _, h, _ => by simp [isSh] at h
  | .tag _ _ :: _, _, _, h, _ => by simp [isSh] at h
  | .tup _ :: _, _, _, h, _ => by simp [isSh] at h
theorem slLst_at {o : O} {v : V} {A : List Addr} {a : Addr} (h : shL o = true) (r : RelO g S H o v A) (m : a ∈ A) : ∃ xs, H a = some (.lst xs) := by
  cases o with
  | sh d => obtain ⟨e, _⟩ := r; subst e; cases m
  | lst os =>
    obtain ⟨l, vs, A', e, q, eA, r⟩ := r
    have := shs_nil h r
    subst this
    subst eA
    rw [List.mem_singleton.mp m]
    exact ⟨_, q⟩
  | _ => cases h
end
end DL
set_option Elab.async false
set_option linter.all false
set_option maxRecDepth 100000
set_option autoImplicit false
/-! DLP8: sorted(d), d's keys all ints. -/
namespace DL
open PySem PySem.Spec PyProof.Rows L2
end DL
set_option Elab.async false
set_option linter.all false
set_option maxRecDepth 100000
set_option autoImplicit false
/-! DLP9: a lent comprehension set to a name, its own names being the def's too. -/
namespace DL
open PySem PySem.Spec PyProof.Rows L2
end DL
set_option Elab.async false
set_option linter.all false
set_option maxRecDepth 100000
set_option autoImplicit false
/-! DLP10: a tuple that owns what it holds; a name whose owned value is handed on. -/
namespace DL
open PySem PySem.Spec PyProof.Rows L2
end DL
set_option Elab.async false
set_option linter.all false
set_option maxRecDepth 100000
set_option autoImplicit false
/-! DLP11: list.index of flat things. -/
namespace DL
open PySem PySem.Spec PyProof.Rows L2
/-! lists of a given length -/
theorem bl1 {α : Type} {P : List α → Prop} (h : ∀ a0 : α, P [a0]) : ∀ us : List α, us.length = 1 → P us
  | [a0], _ => h a0
theorem bl2 {α : Type} {P : List α → Prop} (h : ∀ a0 a1 : α, P [a0, a1]) : ∀ us : List α, us.length = 2 → P us
  | [a0, a1], _ => h a0 a1
theorem bl3 {α : Type} {P : List α → Prop} (h : ∀ a0 a1 a2 : α, P [a0, a1, a2]) : ∀ us : List α, us.length = 3 → P us
  | [a0, a1, a2], _ => h a0 a1 a2
end DL
set_option Elab.async false
set_option linter.all false
set_option maxRecDepth 100000
set_option autoImplicit false
/-! DLL1: labels: a value in a slot gets a name for the rest of a block. -/
namespace DL
open PySem PySem.Spec PyProof.Rows L2
/-! ### without the label n -/
mutual
def stD (n : Nat) : D → D
  | .lst xs => .lst (stDs n xs)
  | .tup xs => .tup (stDs n xs)
  | .dct ks => .dct (stDk n ks)
  | .ins c fs => .ins c (stDf n fs)
  | .exn c fs => .exn c (stDf n fs)
  | .lab m d => if m = n then stD n d else .lab m (stD n d)
  | .any => .any
  | .non => .non
  | .bl b => .bl b
  | .int i => .int i
  | .str x => .str x
  | .scr ns => .scr ns
  | .op v => .op v
  | .gh v F => .gh v F
def stDs (n : Nat) : List D → List D
  | [] => []
  | d :: ds => stD n d :: stDs n ds
def stDk (n : Nat) : List (Key × D) → List (Key × D)
  | [] => []
  | (k, d) :: ds => (k, stD n d) :: stDk n ds
def stDf (n : Nat) : List (Str × D) → List (Str × D)
  | [] => []
  | (k, d) :: ds => (k, stD n d) :: stDf n ds
end
mutual
def stO (n : Nat) : O → O
  | .sh d => .sh (stD n d)
  | .lst os => .lst (stOs n os)
  | .tup os => .tup (stOs n os)
  | .dct ks => .dct (stOk n ks)
  | .ins c fs => .ins c (stOf n fs)
  | .tag m o => if m = n then stO n o else .tag m (stO n o)
def stOs (n : Nat) : List O → List O
  | [] => []
  | d :: ds => stO n d :: stOs n ds
def stOk (n : Nat) : List (Key × O) → List (Key × O)
  | [] => []
  | (k, d) :: ds => (k, stO n d) :: stOk n ds
def stOf (n : Nat) : List (Str × O) → List (Str × O)
  | [] => []
  | (k, d) :: ds => (k, stO n d) :: stOf n ds
end
def stSl (n : Nat) : Sl → Sl
  | .no => .no
  | .v o => .v (stO n o)
  | .b o => .b (stO n o)
def stX (n : Nat) (x : Exn) : Exn := ⟨x.c, stDf n x.fs⟩
def stOut (n : Nat) : Out → Out
  | .next ρ => .next (ρ.map (stSl n))
  | .brk ρ => .brk (ρ.map (stSl n))
  | .cont ρ => .cont (ρ.map (stSl n))
  | .ret o ρ => .ret (stO n o) (ρ.map (stSl n))
  | .exc x ρ => .exc (stX n x) (ρ.map (stSl n))
  | .stuck => .stuck
/-- the same, other labels -/
abbrev Gb.wl (g : Gb) (l : Nat → Addr) : Gb := { g with lb := l }
section
variable {g : Gb} {l : Nat → Addr} {n : Nat} {S H : Hp}
mutual
theorem Rep.st (hl : ∀ m, m ≠ n → l m = g.lb m) : ∀ (d : D) v, Rep g S d v → Rep (g.wl l) S (stD n d) v
  | .non, _, r => r
  | .bl _, _, r => r
  | .int _, _, r => r
  | .str _, _, r => r
  | .lst ds, _, ⟨a, vs, e, q, b⟩ => ⟨a, vs, e, q, Reps.st hl ds vs b⟩
  | .tup ds, _, ⟨a, vs, e, q, b⟩ => ⟨a, vs, e, q, Reps.st hl ds vs b⟩
  | .dct ds, _, ⟨a, vs, e, q, b⟩ => ⟨a, vs, e, q, RepK.st hl ds vs b⟩
  | .ins _ ds, _, ⟨a, dx, vs, e, q, q2, b⟩ => ⟨a, dx, vs, e, q, q2, RepF.st hl ds vs b⟩
  | .exn _ ds, _, ⟨a, dx, vs, e, q, q2, b⟩ => ⟨a, dx, vs, e, q, q2, RepF.st hl ds vs b⟩
  | .lab m d, v, ⟨e, b⟩ => by
    unfold stD
    by_cases h : m = n
    · rw [if_pos h]; exact Rep.st hl d v b
    · rw [if_neg h]; exact ⟨by rw [e]; exact congrArg V.ref (hl m h).symm, Rep.st hl d v b⟩
  | .any, _, r => True.intro
  | .scr _, _, r => r
  | .op _, _, r => r
  | .gh _ _, _, r => r
theorem Reps.st (hl : ∀ m, m ≠ n → l m = g.lb m) : ∀ (d : List D) v, Reps g S d v → Reps (g.wl l) S (stDs n d) v
  | [], _, r => r
  | d :: ds, _, ⟨v, r, e, a, b⟩ => ⟨v, r, e, Rep.st hl d v a, Reps.st hl ds r b⟩
theorem RepK.st (hl : ∀ m, m ≠ n → l m = g.lb m) : ∀ (d : List (Key × D)) v, RepK g S d v → RepK (g.wl l) S (stDk n d) v
  | [], _, r => r
  | (_, d) :: ds, _, ⟨v, r, e, a, b⟩ => ⟨v, r, e, Rep.st hl d v a, RepK.st hl ds r b⟩
theorem RepF.st (hl : ∀ m, m ≠ n → l m = g.lb m) : ∀ (d : List (Str × D)) v, RepF g S d v → RepF (g.wl l) S (stDf n d) v
  | [], _, r => r
  | (_, d) :: ds, _, ⟨v, r, e, a, b⟩ => ⟨v, r, e, Rep.st hl d v a, RepF.st hl ds r b⟩
end
mutual
theorem RelO.st (hl : ∀ m, m ≠ n → l m = g.lb m) : ∀ (o : O) v A, RelO g S H o v A → RelO (g.wl l) S H (stO n o) v A
  | .sh d, v, A, ⟨e, r⟩ => ⟨e, Rep.st hl d v r⟩
  | .lst os, v, A, ⟨a, vs, A', e, q, eA, r⟩ => ⟨a, vs, A', e, q, eA, RelOs.st hl os vs A' r⟩
  | .dct os, v, A, ⟨a, vs, A', e, q, eA, r⟩ => ⟨a, vs, A', e, q, eA, RelOK.st hl os vs A' r⟩
  | .ins c os, v, A, ⟨x, dx, vs, A', e, q, q2, eA, r⟩ => ⟨x, dx, vs, A', e, q, q2, eA, RelOF.st hl os vs A' r⟩
  | .tag m o, v, A, ⟨e, r⟩ => by
    unfold stO
    by_cases h : m = n
    · rw [if_pos h]; exact RelO.st hl o v A r
    · rw [if_neg h]; exact ⟨by rw [e]; exact congrArg V.ref (hl m h).symm, RelO.st hl o v A r⟩
  | .tup os, v, A, ⟨a, vs, e, q, r⟩ => ⟨a, vs, e, q, RelOs.st hl os vs A r⟩
theorem RelOs.st (hl : ∀ m, m ≠ n → l m = g.lb m) : ∀ (os : List O) vs A, RelOs g S H os vs A → RelOs (g.wl l) S H (stOs n os) vs A
  | [], _, _, r => r
  | o :: os, _, _, ⟨v, r, A1, A2, e, eA, a, b⟩ => ⟨v, r, A1, A2, e, eA, RelO.st hl o v A1 a, RelOs.st hl os r A2 b⟩
theorem RelOK.st (hl : ∀ m, m ≠ n → l m = g.lb m) : ∀ (os : List (Key × O)) vs A, RelOK g S H os vs A → RelOK (g.wl l) S H (stOk n os) vs A
  | [], _, _, r => r
  | (_, o) :: os, _, _, ⟨v, r, A1, A2, e, eA, a, b⟩ => ⟨v, r, A1, A2, e, eA, RelO.st hl o v A1 a, RelOK.st hl os r A2 b⟩
theorem RelOF.st (hl : ∀ m, m ≠ n → l m = g.lb m) : ∀ (os : List (Str × O)) vs A, RelOF g S H os vs A → RelOF (g.wl l) S H (stOf n os) vs A
  | [], _, _, r => r
  | (_, o) :: os, _, _, ⟨v, r, A1, A2, e, eA, a, b⟩ => ⟨v, r, A1, A2, e, eA, RelO.st hl o v A1 a, RelOF.st hl os r A2 b⟩
end
end
section
variable {X : Cx} {g : Gb} {W : WX} {Z : Zn} {l : Nat → Addr} {n i : Nat} {S S' H H' : Hp} {τ : List V} {θ : List O} {σ : Sg} {ρ : En} {A : List Addr} {α : Nat → List Addr} {Dn : Ends} {r : Out} {o : O} {v : V}
theorem Bs.st (b : Bs g Z S H) : Bs (g.wl l) Z S H := ⟨b.sub, b.mono, b.new, b.frm, b.dom, b.tbl, b.tbS⟩
theorem getSt {s : Sl} (h : (ρ.map (stSl n))[i]? = some s) : ∃ s0, ρ[i]? = some s0 ∧ s = stSl n s0 := by
  rw [List.getElem?_map] at h
  cases q : ρ[i]? with
  | none => rw [q] at h; cases h
  | some s0 => rw [q] at h; cases h; exact ⟨s0, rfl, rfl⟩
theorem Hold.st (hl : ∀ m, m ≠ n → l m = g.lb m) (h : Hold g Z S H τ θ σ ρ A α) : Hold (g.wl l) Z S H τ (stOs n θ) σ (ρ.map (stSl n)) A α := by
  refine ⟨h.bs.st, RelOs.st hl θ τ A h.tmp, by rw [List.length_map]; exact h.len, fun i o hi => ?_, h.ndA, h.nd, h.dis, h.disA, h.own, fun i o hi => ?_⟩
  · rcases hi with hi | hi
    · obtain ⟨s, hs, e⟩ := getSt hi
      cases s with
      | v o0 => cases e; obtain ⟨v, q, r⟩ := h.slot i o0 (.inl hs); exact ⟨v, q, RelO.st hl o0 v (α i) r⟩
      | b o0 => cases e
      | no => cases e
    · obtain ⟨s, hs, e⟩ := getSt hi
      cases s with
      | b o0 => cases e; obtain ⟨v, q, r⟩ := h.slot i o0 (.inr hs); exact ⟨v, q, RelO.st hl o0 v (α i) r⟩
      | v o0 => cases e
      | no => cases e
  · obtain ⟨s, hs, e⟩ := getSt hi
    cases s with
    | b o0 => exact h.pin i o0 hs
    | v o0 => cases e
    | no => cases e
theorem St.st (hl : ∀ m, m ≠ n → l m = g.lb m) (h : St g Z S H τ θ σ ρ) : St (g.wl l) Z S H τ (stOs n θ) σ (ρ.map (stSl n)) := by
  obtain ⟨A, α, h⟩ := h
  exact ⟨A, α, h.st hl⟩
theorem ExnAt.st (hl : ∀ m, m ≠ n → l m = g.lb m) {x : Exn} : ∀ {d : Option Addr} (h : ExnAt g S H x d), ExnAt (g.wl l) S H (stX n x) d
  | some d, h => by
    obtain ⟨fvs, a, b⟩ := h
    exact ⟨fvs, a, RepF.st hl _ _ b⟩
  | none, h => by
    have h : x.fs = [] := h
    show stDf n x.fs = []
    rw [h]; rfl
/-- what holds without the label holds with it -/
theorem PostO.st (hl : ∀ m, m ≠ n → l m = g.lb m) (h : PostO g W Z S (stOut n r) Dn) : PostO (g.wl l) W Z S r Dn := by
  have back : ∀ m, m ≠ n → g.lb m = (g.wl l).lb m := fun m hm => (hl m hm).symm
  cases r with
  | next ρ => exact fun σ' T H' q st => h σ' T H' q (st.st (l := g.lb) back)
  | brk ρ => exact fun σ' T H' q st => h σ' T H' q (st.st (l := g.lb) back)
  | cont ρ => exact fun σ' T H' q st => h σ' T H' q (st.st (l := g.lb) back)
  | ret o ρ => exact fun v σ' T H' q st => h v σ' T H' q (st.st (l := g.lb) back)
  | exc x ρ => exact fun d σ' T H' q st xa => h d σ' T H' q (st.st (l := g.lb) back) (xa.st (l := g.lb) back)
  | stuck => exact h
/-! ### a part of a frozen value gets the label -/
theorem Reps.put : ∀ {ds : List D} {vs : List V} {j : Nat} {d d' : D} {v : V}, Reps g S ds vs → ds[j]? = some d → vs[j]? = some v → Rep g S d' v → Reps g S (ds.set j d') vs
  | [], _, _, _, _, _, _, h, _, _ => by cases h
  | d0 :: ds, _, 0, d, d', v, ⟨w, r, e, a, b⟩, h, hv, q => by
    subst e
    have hv : w = v := by simpa using hv
    subst hv
    exact ⟨w, r, rfl, q, b⟩
  | d0 :: ds, _, j + 1, d, d', v, ⟨w, r, e, a, b⟩, h, hv, q => by
    subst e
    exact ⟨w, r, rfl, a, Reps.put (j := j) b (by simpa using h) (by simpa using hv) q⟩
/-! ### the ghost step -/
theorem Cxt.wl {X : Cx} {j : Nat} (C : Cxt X g W j) : Cxt X (g.wl l) W j := ⟨C.K, C.calm, C.nd, C.tk, C.po, C.rm, C.gd, C.sys⟩
end
end DL
set_option Elab.async false
set_option linter.all false
set_option maxRecDepth 100000
set_option autoImplicit false
/-! DLL2: what `_law_same(found, due)` says, walked by hand: due[1] is changed in place, and changed back. -/
namespace DL
open PySem PySem.Spec PyProof.Rows L2
abbrev more : Str := Str.ofString "more"
section
variable {g : Gb} {S H H' : Hp} {σ : Sg} {d da db : D} {a : Addr} {v x y : V} {r : List V → Hp → VK → Prop} {r2 : R2} {f : List D → Option O} {f2 : D → D → Option O} {ds : List D} {vs xs : List V}
/-- one value is told to be the other -/
inductive SmV (g : Gb) (S H : Hp) : V → V → Bool → Prop where
  | lst {a : Addr} {xs : List V} {ds : List D} {z : Str} (hS : S a = none) (h : H a = some (.lst xs)) (r : Reps g S ds xs) (hr : dRepr [.lst (ds ++ [.str more])] = some (.sh (.str z))) (hl : xs.length < 100000) : SmV g S H (.ref a) (.ref a) true
  | dct {a : Addr} {kvs : List (Key × V)} {kds : List (Key × D)} {z : Str} (hS : S a = none) (h : H a = some (.dK kvs)) (r : RepK g S kds kvs) (hm : ∀ p ∈ kds, p.1 ≠ .inr more) (hr : dRepr [.dct (kds ++ [(.inr more, .int 7)])] = some (.sh (.str z))) (hl : kvs.length < 100000) : SmV g S H (.ref a) (.ref a) true
  | oth {x y : V} {dx dy : D} {zx zy : Str} {cx cy : Bool} (rx : Rep g S dx x) (ry : Rep g S dy y) (nl : dIsi [dy.view, .op (.ty "list")] = some (.sh (.bl false))) (nd : dIsi [dy.view, .op (.ty "dict")] = some (.sh (.bl false)))
      (hx : dRepr [dx.view] = some (.sh (.str zx))) (hy : dRepr [dy.view] = some (.sh (.str zy))) (bx : dIsi [dx.view, .op (.ty "bool")] = some (.sh (.bl cx))) (by' : dIsi [dy.view, .op (.ty "bool")] = some (.sh (.bl cy))) : SmV g S H x y (decide (zx = zy) && (cx == cy))
/-- what the lists tell -/
inductive SmL (g : Gb) (S H : Hp) : List V → List V → Bool → Prop where
  | len {us ws : List V} (h : us.length ≠ ws.length) : SmL g S H us ws false
  | word {w w' : Str} {us ws : List V} (hl : us.length = ws.length) (h : w ≠ w') : SmL g S H (.str w :: us) (.str w' :: ws) false
  | told {w : Str} : SmL g S H [.str w] [.str w] true
  | val {w : Str} {x y : V} {b : Bool} (h : SmV g S H x y b) : SmL g S H [.str w, x] [.str w, y] b
/-- all but a stays -/
def GrA (a : Addr) (H H' : Hp) : Prop := ∀ b u, b ≠ a → H b = some u → H' b = some u
theorem GrA.refl : GrA a H H := fun _ _ _ h => h
theorem GrA.ex {H1 H2 : Hp} (h : GrA a H H1) (e : Evl.Ex H1 H2) : GrA a H H2 := fun b u n q => e b u (h b u n q)
theorem GrA.up {H1 : Hp} {u : HO} (h : GrA a H H1) : GrA a H (upd H1 a u) := fun b w n q => by rw [upd_ne n]; exact h b w n q
theorem GrA.gr {u : HO} (h : GrA a H H') (e : H a = some u) (e' : H' a = some u) : Gr H H' := fun b w q => by
  by_cases z : b = a
  · subst z; rw [e] at q; cases q; exact e'
  · exact h b w z q
theorem GrA.sub {u : HO} (h : GrA a H H') (sub : Sub S H) (hS : S a = none) (e : H' a = some u) : Sub (upd S a u) H' := fun b w q => by
  by_cases z : b = a
  · subst z; rw [upd_same] at q; cases q; exact e
  · rw [upd_ne z] at q; exact h b w z (sub b w q)
variable {rN rE : R2} {rL rI rR : List V → Hp → VK → Prop} {D0 : Ends} {lf lu : Addr} {w w' : V} {b : Bool}
end
end DL
set_option Elab.async false
set_option linter.all false
set_option maxRecDepth 100000
set_option autoImplicit false
/-! DLL3: `_law_same`'s promise. -/
namespace DL
open PySem PySem.Spec PyProof.Rows L2
end DL
set_option Elab.async false
set_option linter.all false
set_option maxRecDepth 100000
set_option autoImplicit false
/-! DLL4: a lend in which labels are known: what a label names is told while it runs, and forgotten behind it. -/
namespace DL
open PySem PySem.Spec PyProof.Rows L2
def LendOk (g : Gb) (σ : Sg) (L : Sl → Sl) (ρ : En) : Prop := ∀ S1 : Hp, (∀ (i : Nat) (o0 : O), (ρ[i]? = some (.v o0) ∨ ρ[i]? = some (.b o0)) → ∃ v, σ[i]? = some (some v) ∧ Rep g S1 o0.d v) →
  ∀ (i : Nat) (s : Sl), ρ[i]? = some s → L s = .no ∨ ∃ d v, L s = .v (.sh d) ∧ σ[i]? = some (some v) ∧ Rep g S1 d v
/-! what a label names, told and forgotten -/
mutual
def fgD : D → D
  | .lst xs => .lst (fgDs xs)
  | .tup xs => .tup (fgDs xs)
  | .dct ks => .dct (fgDk ks)
  | .ins c fs => .ins c (fgDf fs)
  | .exn c fs => .exn c (fgDf fs)
  | .lab n _ => .lab n .any
  | .any => .any
  | .non => .non
  | .bl b => .bl b
  | .int i => .int i
  | .str x => .str x
  | .scr ns => .scr ns
  | .op v => .op v
  | .gh v F => .gh v F
def fgDs : List D → List D
  | [] => []
  | d :: ds => fgD d :: fgDs ds
def fgDk : List (Key × D) → List (Key × D)
  | [] => []
  | (k, d) :: ds => (k, fgD d) :: fgDk ds
def fgDf : List (Str × D) → List (Str × D)
  | [] => []
  | (k, d) :: ds => (k, fgD d) :: fgDf ds
end
mutual
def fgO : O → O
  | .sh d => .sh (fgD d)
  | .lst os => .lst (fgOs os)
  | .tup os => .tup (fgOs os)
  | .dct ks => .dct (fgOk ks)
  | .ins c fs => .ins c (fgOf fs)
  | .tag n o => .tag n (fgO o)
def fgOs : List O → List O
  | [] => []
  | d :: ds => fgO d :: fgOs ds
def fgOk : List (Key × O) → List (Key × O)
  | [] => []
  | (k, d) :: ds => (k, fgO d) :: fgOk ds
def fgOf : List (Str × O) → List (Str × O)
  | [] => []
  | (k, d) :: ds => (k, fgO d) :: fgOf ds
end
mutual
def fiD (T : List (Nat × D)) : D → D
  | .lst xs => .lst (fiDs T xs)
  | .tup xs => .tup (fiDs T xs)
  | .dct ks => .dct (fiDk T ks)
  | .ins c fs => .ins c (fiDf T fs)
  | .exn c fs => .exn c (fiDf T fs)
  | .lab n d => match T.lookup n with
    | some d' => .lab n d'
    | none => .lab n d
  | .any => .any
  | .non => .non
  | .bl b => .bl b
  | .int i => .int i
  | .str x => .str x
  | .scr ns => .scr ns
  | .op v => .op v
  | .gh v F => .gh v F
def fiDs (T : List (Nat × D)) : List D → List D
  | [] => []
  | d :: ds => fiD T d :: fiDs T ds
def fiDk (T : List (Nat × D)) : List (Key × D) → List (Key × D)
  | [] => []
  | (k, d) :: ds => (k, fiD T d) :: fiDk T ds
def fiDf (T : List (Nat × D)) : List (Str × D) → List (Str × D)
  | [] => []
  | (k, d) :: ds => (k, fiD T d) :: fiDf T ds
end
section
variable {g : Gb} {S H : Hp} {T : List (Nat × D)}
mutual
theorem Rep.fg : ∀ (d : D) v, Rep g S d v → Rep g S (fgD d) v
  | .non, _, r => r
  | .bl _, _, r => r
  | .int _, _, r => r
  | .str _, _, r => r
  | .lst ds, _, ⟨a, vs, e, q, b⟩ => ⟨a, vs, e, q, Reps.fg ds vs b⟩
  | .tup ds, _, ⟨a, vs, e, q, b⟩ => ⟨a, vs, e, q, Reps.fg ds vs b⟩
  | .dct ds, _, ⟨a, vs, e, q, b⟩ => ⟨a, vs, e, q, RepK.fg ds vs b⟩
  | .ins _ ds, _, ⟨a, dx, vs, e, q, q2, b⟩ => ⟨a, dx, vs, e, q, q2, RepF.fg ds vs b⟩
  | .exn _ ds, _, ⟨a, dx, vs, e, q, q2, b⟩ => ⟨a, dx, vs, e, q, q2, RepF.fg ds vs b⟩
  | .lab n d, v, ⟨e, _⟩ => ⟨e, True.intro⟩
  | .any, _, r => r
  | .scr _, _, r => r
  | .op _, _, r => r
  | .gh _ _, _, r => r
theorem Reps.fg : ∀ (d : List D) v, Reps g S d v → Reps g S (fgDs d) v
  | [], _, r => r
  | d :: ds, _, ⟨v, r, e, a, b⟩ => ⟨v, r, e, Rep.fg d v a, Reps.fg ds r b⟩
theorem RepK.fg : ∀ (d : List (Key × D)) v, RepK g S d v → RepK g S (fgDk d) v
  | [], _, r => r
  | (_, d) :: ds, _, ⟨v, r, e, a, b⟩ => ⟨v, r, e, Rep.fg d v a, RepK.fg ds r b⟩
theorem RepF.fg : ∀ (d : List (Str × D)) v, RepF g S d v → RepF g S (fgDf d) v
  | [], _, r => r
  | (_, d) :: ds, _, ⟨v, r, e, a, b⟩ => ⟨v, r, e, Rep.fg d v a, RepF.fg ds r b⟩
end
mutual
theorem Rep.fi (hT : ∀ n d, T.lookup n = some d → Rep g S d (.ref (g.lb n))) : ∀ (d : D) v, Rep g S d v → Rep g S (fiD T d) v
  | .non, _, r => r
  | .bl _, _, r => r
  | .int _, _, r => r
  | .str _, _, r => r
  | .lst ds, _, ⟨a, vs, e, q, b⟩ => ⟨a, vs, e, q, Reps.fi hT ds vs b⟩
  | .tup ds, _, ⟨a, vs, e, q, b⟩ => ⟨a, vs, e, q, Reps.fi hT ds vs b⟩
  | .dct ds, _, ⟨a, vs, e, q, b⟩ => ⟨a, vs, e, q, RepK.fi hT ds vs b⟩
  | .ins _ ds, _, ⟨a, dx, vs, e, q, q2, b⟩ => ⟨a, dx, vs, e, q, q2, RepF.fi hT ds vs b⟩
  | .exn _ ds, _, ⟨a, dx, vs, e, q, q2, b⟩ => ⟨a, dx, vs, e, q, q2, RepF.fi hT ds vs b⟩
  | .lab n d, v, ⟨e, r⟩ => by
    unfold fiD
    cases h : T.lookup n with
    | none => exact ⟨e, r⟩
    | some d' => exact ⟨e, by rw [e]; exact hT n d' h⟩
  | .any, _, r => r
  | .scr _, _, r => r
  | .op _, _, r => r
  | .gh _ _, _, r => r
theorem Reps.fi (hT : ∀ n d, T.lookup n = some d → Rep g S d (.ref (g.lb n))) : ∀ (d : List D) v, Reps g S d v → Reps g S (fiDs T d) v
  | [], _, r => r
  | d :: ds, _, ⟨v, r, e, a, b⟩ => ⟨v, r, e, Rep.fi hT d v a, Reps.fi hT ds r b⟩
theorem RepK.fi (hT : ∀ n d, T.lookup n = some d → Rep g S d (.ref (g.lb n))) : ∀ (d : List (Key × D)) v, RepK g S d v → RepK g S (fiDk T d) v
  | [], _, r => r
  | (_, d) :: ds, _, ⟨v, r, e, a, b⟩ => ⟨v, r, e, Rep.fi hT d v a, RepK.fi hT ds r b⟩
theorem RepF.fi (hT : ∀ n d, T.lookup n = some d → Rep g S d (.ref (g.lb n))) : ∀ (d : List (Str × D)) v, RepF g S d v → RepF g S (fiDf T d) v
  | [], _, r => r
  | (_, d) :: ds, _, ⟨v, r, e, a, b⟩ => ⟨v, r, e, Rep.fi hT d v a, RepF.fi hT ds r b⟩
end
mutual
theorem RelO.fg : ∀ (o : O) v A, RelO g S H o v A → RelO g S H (fgO o) v A
  | .sh d, v, A, ⟨e, r⟩ => ⟨e, Rep.fg d v r⟩
  | .lst os, v, A, ⟨a, vs, A', e, q, eA, r⟩ => ⟨a, vs, A', e, q, eA, RelOs.fg os vs A' r⟩
  | .dct os, v, A, ⟨a, vs, A', e, q, eA, r⟩ => ⟨a, vs, A', e, q, eA, RelOK.fg os vs A' r⟩
  | .ins c os, v, A, ⟨x, dx, vs, A', e, q, q2, eA, r⟩ => ⟨x, dx, vs, A', e, q, q2, eA, RelOF.fg os vs A' r⟩
  | .tag m o, v, A, ⟨e, r⟩ => ⟨e, RelO.fg o v A r⟩
  | .tup os, v, A, ⟨a, vs, e, q, r⟩ => ⟨a, vs, e, q, RelOs.fg os vs A r⟩
theorem RelOs.fg : ∀ (os : List O) vs A, RelOs g S H os vs A → RelOs g S H (fgOs os) vs A
  | [], _, _, r => r
  | o :: os, _, _, ⟨v, r, A1, A2, e, eA, a, b⟩ => ⟨v, r, A1, A2, e, eA, RelO.fg o v A1 a, RelOs.fg os r A2 b⟩
theorem RelOK.fg : ∀ (os : List (Key × O)) vs A, RelOK g S H os vs A → RelOK g S H (fgOk os) vs A
  | [], _, _, r => r
  | (_, o) :: os, _, _, ⟨v, r, A1, A2, e, eA, a, b⟩ => ⟨v, r, A1, A2, e, eA, RelO.fg o v A1 a, RelOK.fg os r A2 b⟩
theorem RelOF.fg : ∀ (os : List (Str × O)) vs A, RelOF g S H os vs A → RelOF g S H (fgOf os) vs A
  | [], _, _, r => r
  | (_, o) :: os, _, _, ⟨v, r, A1, A2, e, eA, a, b⟩ => ⟨v, r, A1, A2, e, eA, RelO.fg o v A1 a, RelOF.fg os r A2 b⟩
end
end
/-- what the labels name that slots own -/
def tgs : En → List (Nat × D)
  | [] => []
  | .v (.tag n o) :: ρ => (n, o.d) :: tgs ρ
  | .b (.tag n o) :: ρ => (n, o.d) :: tgs ρ
  | _ :: ρ => tgs ρ
def Sl.lendF (T : List (Nat × D)) : Sl → Sl
  | .no => .no
  | .v o => .v (.sh (fiD T o.d))
  | .b o => .v (.sh (fiD T o.d))
section
variable {g : Gb} {W : WX} {Z : Zn} {S S' H H' : Hp} {τ : List V} {θ : List O} {σ : Sg} {ρ : En} {Q : VK} {m : E} {X : Cx} {j : Nat} {e : Expr}
theorem tgs_mem : ∀ {ρ : En} {n : Nat} {d : D}, (tgs ρ).lookup n = some d → ∃ (i : Nat) (o : O), (ρ[i]? = some (.v (.tag n o)) ∨ ρ[i]? = some (.b (.tag n o))) ∧ d = o.d
  | [], _, _, h => by cases h
  | s :: ρ, n, d, h => by
    have next : (tgs ρ).lookup n = some d → ∃ (i : Nat) (o : O), ((s :: ρ)[i]? = some (.v (.tag n o)) ∨ (s :: ρ)[i]? = some (.b (.tag n o))) ∧ d = o.d := fun h => by
      obtain ⟨i, o, h1, h2⟩ := tgs_mem h
      exact ⟨i + 1, o, by simpa using h1, h2⟩
    have look : ∀ {m : Nat} {o : O}, ((m, o.d) :: tgs ρ).lookup n = some d → (n = m ∧ d = o.d) ∨ (tgs ρ).lookup n = some d := fun {m o} h => by
      by_cases e : n = m
      · subst e
        rw [List.lookup, beq_self_eq_true] at h
        cases h; exact .inl ⟨rfl, rfl⟩
      · have e' : (n == m) = false := by simpa using e
        rw [List.lookup, e'] at h
        exact .inr h
    cases s with
    | no => exact next h
    | v p => cases p with
      | tag m o => rcases look h with ⟨rfl, e⟩ | h; exact ⟨0, o, .inl rfl, e⟩; exact next h
      | _ => exact next h
    | b p => cases p with
      | tag m o => rcases look h with ⟨rfl, e⟩ | h; exact ⟨0, o, .inr rfl, e⟩; exact next h
      | _ => exact next h
theorem lendF_ok : LendOk g σ (Sl.lendF (tgs ρ)) ρ := fun S1 all i s hs => by
  have hT : ∀ n d, (tgs ρ).lookup n = some d → Rep g S1 d (.ref (g.lb n)) := fun n d h => by
    obtain ⟨j, o, h1, rfl⟩ := tgs_mem h
    obtain ⟨v, _, e, r⟩ := all j (.tag n o) h1
    rw [e] at r; exact r
  cases s with
  | no => exact .inl rfl
  | v o => obtain ⟨v, e, r⟩ := all i o (.inl hs); exact .inr ⟨_, v, rfl, e, Rep.fi hT _ _ r⟩
  | b o => obtain ⟨v, e, r⟩ := all i o (.inr hs); exact .inr ⟨_, v, rfl, e, Rep.fi hT _ _ r⟩
end
/-! an owner's name, read: what it names is only pointed at -/
/-! a slot's value gets a label -/
def ownT (n : Nat) : O → O
  | .lst os => .tag n (.lst os)
  | .dct ks => .tag n (.dct ks)
  | o => o
def sOwn (n i : Nat) (rest : Sm) : Sm := fun ρ => match ρ[i]? with
  | some (.v o) => stOut n (rest ((ρ.map (stSl n)).set i (.v (ownT n (stO n o)))))
  | _ => .stuck
section
variable {X : Cx} {g : Gb} {W : WX} {Z : Zn} {S S' H H' : Hp} {τ : List V} {θ : List O} {σ : Sg} {ρ : En} {Q : VK} {m : E} {l : Nat → Addr} {n i j : Nat}
theorem sd_own {sts : List Stmt} {rest : Sm} (n i : Nat) (h : ∀ l : Nat → Addr, PSs X sts (LS (g.wl l) W rest)) : PSs X sts (LS g W (sOwn n i rest)) := by
  refine ⟨fun pins s σ H D I q => ?_⟩
  obtain ⟨Z, S, ρ, st, post⟩ := q
  unfold sOwn at post
  split at post
  · rename_i o hi
    obtain ⟨A, α, hd⟩ := st
    obtain ⟨v, e, r⟩ := hd.slot i _ (.inl hi)
    have key : ∃ a : Addr, ∀ l : Nat → Addr, l n = a → (∀ m, m ≠ n → l m = g.lb m) → RelO (g.wl l) S H (ownT n (stO n o)) v (α i) := by
      have plain : ownT n (stO n o) = stO n o → ∃ a : Addr, ∀ l : Nat → Addr, l n = a → (∀ m, m ≠ n → l m = g.lb m) → RelO (g.wl l) S H (ownT n (stO n o)) v (α i) := fun e => ⟨0, fun l _ hm => by rw [e]; exact RelO.st hm o v (α i) r⟩
      cases o with
      | lst os =>
        obtain ⟨a, vs, A', ev, q, eA, rr⟩ := r
        exact ⟨a, fun l hl hm => ⟨by rw [ev, ← hl], a, vs, A', ev, q, eA, RelOs.st hm os vs A' rr⟩⟩
      | dct os =>
        obtain ⟨a, vs, A', ev, q, eA, rr⟩ := r
        exact ⟨a, fun l hl hm => ⟨by rw [ev, ← hl], a, vs, A', ev, q, eA, RelOK.st hm os vs A' rr⟩⟩
      | sh d => exact plain rfl
      | ins c fs => exact plain rfl
      | tup os => exact plain rfl
      | tag m o =>
        obtain ⟨em, rr⟩ := r
        cases hs : stO n (.tag m o) with
        | lst os =>
          have r2 : RelO g S H (stO n (.tag m o)) v (α i) := RelO.st (l := g.lb) (fun _ _ => rfl) (.tag m o) v (α i) ⟨em, rr⟩
          rw [hs] at r2
          obtain ⟨a, vs, A', ev, q, eA, _⟩ := r2
          refine ⟨a, fun l hl hm => ⟨by rw [ev, ← hl], ?_⟩⟩
          have := RelO.st hm (.tag m o) v (α i) ⟨em, rr⟩
          rw [hs] at this; exact this
        | dct os =>
          have r2 : RelO g S H (stO n (.tag m o)) v (α i) := RelO.st (l := g.lb) (fun _ _ => rfl) (.tag m o) v (α i) ⟨em, rr⟩
          rw [hs] at r2
          obtain ⟨a, vs, A', ev, q, eA, _⟩ := r2
          refine ⟨a, fun l hl hm => ⟨by rw [ev, ← hl], ?_⟩⟩
          have := RelO.st hm (.tag m o) v (α i) ⟨em, rr⟩
          rw [hs] at this; exact this
        | _ => exact ⟨0, fun l _ hm => by have := RelO.st hm (.tag m o) v (α i) ⟨em, rr⟩; rw [hs] at this; exact this⟩
    obtain ⟨a, k⟩ := key
    have hm : ∀ m, m ≠ n → (fun m => if m = n then a else g.lb m) m = g.lb m := fun m hm => if_neg hm
    refine (h (fun m => if m = n then a else g.lb m)).run pins s σ H D I ⟨Z, S, _, ⟨A, α, ?_⟩, post.st hm⟩
    have hd' := hd.st (l := fun m => if m = n then a else g.lb m) hm
    have il : i < (ρ.map (stSl n)).length := by rw [List.length_map]; exact (List.getElem?_eq_some_iff.mp hi).1
    refine ⟨hd'.bs, hd'.tmp, by rw [List.length_set]; exact hd'.len, fun j o hj => ?_, hd'.ndA, hd'.nd, hd'.dis, hd'.disA, hd'.own, fun j o hj => ?_⟩
    · by_cases z : j = i
      · subst z
        rw [List.getElem?_set_self il] at hj
        rcases hj with hj | hj
        · cases hj; exact ⟨v, e, k _ (if_pos rfl) hm⟩
        · cases hj
      · rw [List.getElem?_set_ne (Ne.symm z)] at hj
        exact hd'.slot j o hj
    · by_cases z : j = i
      · subst z
        rw [List.getElem?_set_self il] at hj
        cases hj
      · rw [List.getElem?_set_ne (Ne.symm z)] at hj
        exact hd'.pin j o hj
  · exact post.elim
end
end DL
set_option Elab.async false
set_option linter.all false
set_option maxRecDepth 100000
set_option autoImplicit false
/-! DLL5: `_law_same` called. -/
namespace DL
open PySem PySem.Spec PyProof.Rows L2
end DL
set_option Elab.async false
set_option linter.all false
set_option maxRecDepth 100000
set_option maxHeartbeats 4000000
set_option autoImplicit false
/-! DLL6: a lambda of one parameter that it does not use, names captured, handed to a def that calls it. -/
namespace DL
open PySem PySem.Spec PyProof.Rows L2
section
variable {X : Cx} {pins : List (Addr × Obj)} {σ : L2.St} {H HZ : Hp} {s s1 : Shared}
/-- one parameter p; captured names and globals -/
structure LamS1 (sc scope : Scope) (p : Str) : Prop where
  kind : scope.kind = .function
  co : scope.isCoroutine = false
  gen : scope.isGenerator = false
  own : ∀ y ∈ scope.names, (y.2 = .local → y.1 = p) ∧ y.2 ≠ .cell
  free : ∀ y ∈ scope.names, y.2 = .free → sc.names.lookup y.1 = some .cell ∨ sc.names.lookup y.1 = some .free
  par : scope.names.lookup p = some .local
theorem LamS1.has {scope : Scope} {p : Str} (L : LamS1 X.env.scope scope p) (ok : X.Ok) : ∀ y ∈ scope.names, y.2 = .free → ∃ c, X.env.cells.lookup y.1 = some c := fun y hy e => by
  rcases L.free y hy e with k | k
  · exact ok.has _ (.inl k)
  · exact ok.has _ (.inr k)
end
end DL
set_option Elab.async false
set_option linter.all false
set_option maxRecDepth 100000
set_option autoImplicit false
/-! DLL8: a lend in which labels are known, whose result may hold frozen things, if they hold no list; a labelled list turned round. -/
namespace DL
open PySem PySem.Spec PyProof.Rows L2
def shL2 : O → Bool
  | .sh _ => true
  | .lst os => os.all isSh
  | .tag _ (.lst os) => os.all isSh
  | _ => false
def slLst2 : Sl → Bool
  | .no => true
  | .v o => shL2 o
  | .b o => shL2 o
def lendRL (F : O → O) (ρ : En) : R → R
  | .ok o _ => if noO (F o) = true ∧ ρ.all slLst2 = true then .ok (F o) ρ else .stuck
  | _ => .stuck
def eLendLF (m : E) : E := fun ρ => lendRL fgO ρ (m (ρ.map (Sl.lendF (tgs ρ))))
section
variable {g : Gb} {W : WX} {Z : Zn} {S S' H H' : Hp} {τ : List V} {θ : List O} {σ : Sg} {ρ : En} {Q : VK} {m : E} {X : Cx} {j : Nat} {e : Expr} {B : List Addr}
theorem slLst2_at {o : O} {v : V} {A : List Addr} {a : Addr} (h : shL2 o = true) (r : RelO g S H o v A) (m : a ∈ A) : ∃ xs, H a = some (.lst xs) := by
  cases o with
  | sh d => exact slLst_at (o := .sh d) h r m
  | lst os => exact slLst_at (o := .lst os) h r m
  | tag n o => cases o with
    | lst os => exact slLst_at (o := .lst os) h r.2 m
    | _ => cases h
  | _ => cases h
theorem le_lendLG {L : Sl → Sl} {F : O → O} (hF : ∀ S H o v A, RelO g S H o v A → RelO g S H (F o) v A) (st : St g Z S H τ θ σ ρ) (hL : LendOk g σ L ρ) (post : PostR g W Z S τ θ σ (lendRL F ρ (m (ρ.map L))) Q) : tUnl (LE g W m) σ H Q := by
  obtain ⟨A, α0, hd0⟩ := st
  -- what slots beyond the names own is nothing
  have hd : ∃ α, Hold g Z S H τ θ σ ρ A α ∧ ∀ i, (∀ o, ρ[i]? ≠ some (.v o) ∧ ρ[i]? ≠ some (.b o)) → α i = [] := by
    refine ⟨fun i => match ρ[i]? with | some (.v _) => α0 i | some (.b _) => α0 i | _ => [], ⟨hd0.bs, hd0.tmp, hd0.len, fun i o hi => ?_, hd0.ndA, fun i => ?_, fun i k n a m => ?_, fun i a m => ?_, fun a m => ?_, hd0.pin⟩, fun i h => ?_⟩
    · obtain ⟨v, e, r⟩ := hd0.slot i o hi
      refine ⟨v, e, ?_⟩
      rcases hi with hi | hi <;> (simp only [hi]; exact r)
    · show (match ρ[i]? with | some (.v _) => α0 i | some (.b _) => α0 i | _ => []).Nodup
      split
      · exact hd0.nd i
      · exact hd0.nd i
      · exact List.nodup_nil
    · have m' : a ∈ α0 i := by
        (try dsimp only at m); split at m
        · exact m
        · exact m
        · cases m
      have := hd0.dis i k n a m'
      (try dsimp only); split
      · exact this
      · exact this
      · exact List.not_mem_nil
    · have m' : a ∈ α0 i := by
        (try dsimp only at m); split at m
        · exact m
        · exact m
        · cases m
      exact hd0.disA i a m'
    · refine hd0.own a ?_
      rcases m with m | ⟨i, m⟩
      · exact .inl m
      · refine .inr ⟨i, ?_⟩
        (try dsimp only at m); split at m
        · exact m
        · exact m
        · cases m
    · cases hs : ρ[i]? with
      | none => simp only [hs]
      | some s =>
        simp only [hs]
        cases s with
        | no => rfl
        | v o => exact absurd hs (h o).1
        | b o => exact absurd hs (h o).2
  obtain ⟨α, hd, out⟩ := hd
  let B := allA α ρ.length
  have memB : ∀ {a}, a ∈ B ↔ ∃ i, a ∈ α i := fun {a} => by
    constructor
    · intro h; obtain ⟨i, _, m⟩ := mem_allA.mp h; exact ⟨i, m⟩
    · rintro ⟨i, m⟩
      refine mem_allA.mpr ⟨i, ?_, m⟩
      by_cases z : i < ρ.length
      · exact z
      · have : ρ[i]? = none := List.getElem?_eq_none (by omega)
        rw [out i fun o => ⟨by rw [this]; simp, by rw [this]; simp⟩] at m
        cases m
  have hB : ∀ a ∈ B, S a = none ∧ (∃ u, H a = some u) ∧ (a ∈ Z.B ∨ Z.H0 a = none) ∧ a ∉ g.tb := fun a m => hd.own a (.inr (memB.mp m))
  have ex1 : Ex S (join S H B) := join_ex fun a m => (hB a m).1
  have kB : ∀ a ∈ B, ∃ u, H a = some u ∧ Knd u := fun a m => by
    obtain ⟨i, m⟩ := memB.mp m
    cases hs : ρ[i]? with
    | none => rw [out i fun o => ⟨by rw [hs]; simp, by rw [hs]; simp⟩] at m; cases m
    | some s =>
      cases s with
      | no => rw [out i fun o => ⟨by rw [hs]; simp, by rw [hs]; simp⟩] at m; cases m
      | v o => obtain ⟨v, _, r⟩ := hd.slot i o (.inl hs); exact RelO.knd o v _ r a m
      | b o => obtain ⟨v, _, r⟩ := hd.slot i o (.inr hs); exact RelO.knd o v _ r a m
  let Z1 : Zn := ⟨join S H B, H, [], σ⟩
  have st1 : St g Z1 (join S H B) H [] [] σ (ρ.map L) := by
    refine ⟨[], fun _ => [], ⟨⟨join_sub hd.bs.sub, Ex.refl _, fun a h1 h2 => absurd h2 h1, fun a u h _ _ => .inl h, fun a u h => ⟨u, h⟩, fun p m => (hd.bs.tbl p m).ex ex1, fun p m => ?_⟩, ⟨rfl, rfl⟩, by rw [List.length_map]; exact hd.len, fun i o hi => ?_, List.nodup_nil, fun _ => List.nodup_nil, fun _ _ _ _ m => (nomatch m), fun _ _ m => (nomatch m), fun a m => ?_, fun i o hi => ?_⟩⟩
    · rw [join_out fun m2 => (hB p m2).2.2.2 m]; exact hd.bs.tbS p m
    · rw [List.getElem?_map] at hi
      have all : ∀ (i : Nat) (o0 : O), (ρ[i]? = some (.v o0) ∨ ρ[i]? = some (.b o0)) → ∃ v, σ[i]? = some (some v) ∧ Rep g (join S H B) o0.d v := fun i o0 h0 => by
        obtain ⟨v, e, r⟩ := hd.slot i o0 h0
        exact ⟨v, e, RelO.rep ex1 o0 v (α i) (fun a m u q => by rw [join_in (memB.mpr ⟨i, m⟩)]; exact q) r⟩
      cases hs : ρ[i]? with
      | none => rw [hs] at hi; rcases hi with hi | hi <;> cases hi
      | some s =>
        rw [hs] at hi
        rcases hL _ all i s hs with e | ⟨d, v, e, e2, r⟩
        · have hi : some (L s) = some (.v o) ∨ some (L s) = some (.b o) := hi
          rw [e] at hi
          rcases hi with hi | hi <;> cases hi
        · have hi : some (L s) = some (.v o) ∨ some (L s) = some (.b o) := hi
          rw [e] at hi
          rcases hi with hi | hi <;> cases hi
          exact ⟨v, e2, rfl, r⟩
    · rcases m with m | ⟨_, m⟩ <;> cases m
    · rfl
  refine ⟨Z1, join S H B, [], [], ρ.map L, st1, ?_⟩
  cases hm : m (ρ.map L) with
  | stuck => rw [hm] at post; exact post.elim
  | exc x ρ1 => rw [hm] at post; exact post.elim
  | ok o ρ1 =>
    rw [hm] at post
    unfold lendRL at post
    dsimp only at post
    by_cases ho : noO (F o) = true ∧ ρ.all slLst2 = true
    case neg => rw [if_neg ho] at post; exact post.elim
    rw [if_pos ho] at post
    intro v S' H' e1 st2
    obtain ⟨A2, α2, h2⟩ := st2
    have h2tmp : RelO g S' H' (F o) v A2 := hF _ _ _ _ _ (by have := h2.tmp; exact RelOs.oneInv (by simpa using this))
    have bs2 := h2.bs
    -- the heap behind it
    have hH : ∀ a ∈ B, H' a = H a ∨ ∃ kvs od, H a = some (.dK kvs) ∧ H' a = some (.frz od (.dK kvs)) := fun a m => by
      obtain ⟨u, hu, _⟩ := kB a m
      rcases bs2.frm a u hu List.not_mem_nil (hB a m).2.2.2 with z | ⟨_, kvs, od, z, w⟩
      · exact .inl (z.trans hu.symm)
      · subst z; exact .inr ⟨kvs, od, hu, w⟩
    have SB : ∀ a ∈ B, S' a ≠ none := fun a m z => by
      obtain ⟨u, hu, _⟩ := kB a m
      have : join S H B a = some u := by rw [join_in m]; exact hu
      rcases e1 a u this with q | ⟨_, _, _, q⟩ <;> (rw [z] at q; cases q)
    have tL : ∀ a ∈ B, ∃ xs, S' a = some (.lst xs) := fun a m => by
      have hl : ∃ xs, H a = some (.lst xs) := by
        obtain ⟨i, mi⟩ := memB.mp m
        cases hs : ρ[i]? with
        | none => rw [out i fun o => ⟨by rw [hs]; simp, by rw [hs]; simp⟩] at mi; cases mi
        | some s =>
          have hq := List.all_eq_true.mp ho.2 s (List.mem_of_getElem? hs)
          cases s with
          | no => rw [out i fun o => ⟨by rw [hs]; simp, by rw [hs]; simp⟩] at mi; cases mi
          | v o => obtain ⟨v, _, r⟩ := hd.slot i o (.inl hs); exact slLst2_at hq r mi
          | b o => obtain ⟨v, _, r⟩ := hd.slot i o (.inr hs); exact slLst2_at hq r mi
      obtain ⟨xs, hx⟩ := hl
      have j1 : join S H B a = some (.lst xs) := by rw [join_in m]; exact hx
      rcases e1 a _ j1 with q | ⟨kvs, o', z, q⟩
      · exact ⟨xs, q⟩
      · cases z
    have A2B : ∀ a ∈ A2, a ∉ B := fun a m mb => SB a mb (h2.own a (.inl m)).1
    refine ⟨fun a => if a ∈ B then H a else H' a, unl_all B hH, ?_⟩
    have H2in : ∀ {a}, a ∈ B → (fun a => if a ∈ B then H a else H' a) a = H a := fun {a} m => if_pos m
    have H2out : ∀ {a}, a ∉ B → (fun a => if a ∈ B then H a else H' a) a = H' a := fun {a} m => if_neg m
    have exS : Ex S (less S' B) := fun a u h => by
      have n : a ∉ B := fun m => by rw [(hB a m).1] at h; cases h
      have : join S H B a = some u := by rw [join_out n]; exact h
      rw [less_out n]
      exact e1 a u this
    have keepO : ∀ a, S a = none → a ∉ B → ∀ u, H a = some u → a ∉ g.tb → H' a = some u := fun a hs n u hu ht => by
      rcases bs2.frm a u hu List.not_mem_nil ht with z | ⟨z, _⟩
      · exact z
      · exact absurd (by rw [show Z1.S0 a = join S H B a from rfl, join_out n]; exact hs) z
    refine post v (less S' B) _ exS ⟨A ++ A2, α, ⟨⟨fun a u h => ?_, hd.bs.mono.trans exS, fun a h1 h2' => ?_, fun a u h n1 n2 => ?_, fun a u h => ?_, fun p m => ?_, fun p m => ?_⟩, ?_, hd.len, fun i o' hi => ?_, ?_, hd.nd, hd.dis, fun i a m m2 => ?_, fun a m => ?_, hd.pin⟩⟩
    · have n : a ∉ B := fun m => by rw [less_in m] at h; cases h
      rw [less_out n] at h
      show (if a ∈ B then H a else H' a) = _
      rw [if_neg n]
      exact bs2.sub a u h
    · have n : a ∉ B := fun m => by rw [less_in m] at h1; exact h1 rfl
      rw [less_out n] at h1
      by_cases z : S a = none
      · rcases bs2.new a h1 (by show join S H B a = none; rw [join_out n]; exact z) with q | q
        · exact .inl (hd.bs.fresh q)
        · cases q
      · exact hd.bs.new a z h2'
    · show (if a ∈ B then H a else H' a) = _ ∨ _ ∧ ∃ kvs o, _ ∧ (if a ∈ B then H a else H' a) = _
      have nB : a ∉ B := fun m => by
        rcases (hB a m).2.2.1 with q | q
        · exact n1 q
        · rw [q] at h; cases h
      rw [if_neg nB]
      rcases hd.bs.frm a u h n1 n2 with z | ⟨z1, kvs, od, z2, z3⟩
      · rcases bs2.frm a u z List.not_mem_nil n2 with y | ⟨y1, kvs, od, y2, y3⟩
        · exact .inl y
        · refine .inr ⟨fun y4 => ?_, kvs, od, y2, y3⟩
          have y5 : S a ≠ none := fun y6 => y1 (by show join S H B a = none; rw [join_out nB]; exact y6)
          rcases hd.bs.new a y5 y4 with q | q
          · rw [q] at h; cases h
          · exact n1 q
      · rcases bs2.frm a _ z3 List.not_mem_nil n2 with y | ⟨_, kvs', od', y2, _⟩
        · exact .inr ⟨z1, kvs, od, z2, y⟩
        · cases y2
    · obtain ⟨u', q⟩ := hd.bs.dom a u h
      show ∃ u', (if a ∈ B then H a else H' a) = _
      by_cases n : a ∈ B
      · rw [if_pos n]; exact ⟨u', q⟩
      · rw [if_neg n]; exact bs2.dom a u' q
    · obtain ⟨ps, e, k⟩ := bs2.tbl p m
      refine ⟨ps, ?_, k.1, fun q hq pos cv hc => ?_⟩
      rotate_left
      · obtain ⟨c, hc1, hc2⟩ := k.2 q hq pos cv hc
        refine ⟨c, hc1, ?_⟩
        rw [less_out fun mb => ?_]
        · exact hc2
        · obtain ⟨u, hu, kd⟩ := kB c mb
          have hj : join S H B c = some u := (join_in mb).trans hu
          rcases bs2.mono c u hj with y | ⟨kvs, od, y1, y2⟩
          · rw [hc2] at y
            cases y
            unfold LamX.CodeO at kd
            rcases kd with ⟨_, y⟩ | ⟨_, y⟩ | ⟨_, _, _, y⟩ | ⟨_, y⟩ <;> cases y
          · rw [hc2] at y2
            unfold LamX.CodeO at y2
            cases y2
      show (if p ∈ B then H p else H' p) = _
      rw [if_neg fun mb => (hB p mb).2.2.2 m]
      exact e
    · rw [less_out fun mb => (hB p mb).2.2.2 m]
      exact bs2.tbS p m
    · refine RelOs.append (RelOs.mono exS θ τ A (fun a m => ?_) hd.tmp) (RelOs.one (RelO.noL tL (F o) v A2 ho.1 (fun a m => ?_) h2tmp))
      · obtain ⟨s1, ⟨u, hu⟩, s3, s4⟩ := hd.own a (.inl m)
        have nB : a ∉ B := fun mb => by obtain ⟨i, mi⟩ := memB.mp mb; exact hd.disA i a mi m
        show (if a ∈ B then H a else H' a) = _
        rw [if_neg nB, hu]
        exact keepO a s1 nB u hu s4
      · show (if a ∈ B then H a else H' a) = _
        rw [if_neg (A2B a m)]
    · obtain ⟨v', q1, q2⟩ := hd.slot i o' hi
      refine ⟨v', q1, RelO.mono exS o' v' (α i) (fun a m => ?_) q2⟩
      show (if a ∈ B then H a else H' a) = _
      rw [if_pos (memB.mpr ⟨i, m⟩)]
    · refine List.nodup_append.mpr ⟨hd.ndA, h2.ndA, fun a m b m2 z => ?_⟩
      subst z
      obtain ⟨s1, ⟨u, hu⟩, s3, s4⟩ := hd.own a (.inl m)
      rcases (h2.own a (.inl m2)).2.2.1 with q | q
      · cases q
      · have q : H a = none := q
        rw [q] at hu; cases hu
    · rcases List.mem_append.mp m2 with m2 | m2
      · exact hd.disA i a m m2
      · exact A2B a m2 (memB.mpr ⟨i, m⟩)
    · rcases m with m | ⟨i, m⟩
      · rcases List.mem_append.mp m with m | m
        · obtain ⟨s1, ⟨u, hu⟩, s3, s4⟩ := hd.own a (.inl m)
          have nB : a ∉ B := fun mb => by obtain ⟨i, mi⟩ := memB.mp mb; exact hd.disA i a mi m
          refine ⟨?_, ?_, s3, s4⟩
          · rw [less_out nB]
            by_cases z : S' a = none
            · exact z
            · rcases bs2.new a z (by show join S H B a = none; rw [join_out nB]; exact s1) with q | q
              · have q : H a = none := q
                rw [q] at hu; cases hu
              · cases q
          · show ∃ u, (if a ∈ B then H a else H' a) = _
            rw [if_neg nB]
            exact ⟨u, keepO a s1 nB u hu s4⟩
        · obtain ⟨s1, s2, s3, s4⟩ := h2.own a (.inl m)
          refine ⟨?_, ?_, ?_, s4⟩
          · rw [less_out (A2B a m)]; exact s1
          · show ∃ u, (if a ∈ B then H a else H' a) = _
            rw [if_neg (A2B a m)]; exact s2
          · rcases s3 with q | q
            · cases q
            · exact .inr (hd.bs.fresh q)
      · have mb : a ∈ B := memB.mpr ⟨i, m⟩
        obtain ⟨s1, ⟨u, hu⟩, s3, s4⟩ := hB a mb
        refine ⟨less_in mb, ?_, s3, s4⟩
        show ∃ u, (if a ∈ B then H a else H' a) = _
        rw [if_pos mb]; exact ⟨u, hu⟩
theorem le_lendLF (q : LE g W (eLendLF m) σ H Q) : tUnl (LE g W m) σ H Q := by
  obtain ⟨Z, S, τ, θ, ρ, st, post⟩ := q
  exact le_lendLG (fun S H o v A r => RelO.fg o v A r) st lendF_ok post
theorem pd_lendLF (h : PE X e (LE g W m)) : PE X e (LE g W (eLendLF m)) := PE_imp (pe_unl h) fun _ _ _ q => le_lendLF q
end
/-! a labelled list, turned round -/
end DL
set_option Elab.async false
set_option linter.all false
set_option maxRecDepth 100000
set_option autoImplicit false
/-! DLT1: a slot hidden while an expression is read; a part borrowed from a slot for the rest of a block. -/
namespace DL
open PySem PySem.Spec PyProof.Rows L2
/-! ### a part of what slot i owns is the slot j's for the rest of a block -/
end DL
set_option Elab.async false
set_option linter.all false
set_option maxRecDepth 100000
set_option autoImplicit false
/-! DLT2: a dict comprehension whose values stay owned; truth of integers. -/
namespace DL
open PySem PySem.Spec PyProof.Rows L2
end DL
set_option Elab.async false
set_option linter.all false
set_option maxRecDepth 100000
set_option autoImplicit false
/-! DLL9: an item of a fresh list taken out with what it owns; append to a labelled list. -/
namespace DL
open PySem PySem.Spec PyProof.Rows L2
def eAppT (i : Nat) (m : E) : E := fun ρ => match slO (ρ.getD i .no) with
  | some (.tag _ (.lst _)) => (m ρ).bind fun o ρ1 => match slO (ρ1.getD i .no) with
    | some (.tag n (.lst os)) => if os.length < 1000000 then .ok (.sh .non) (ρ1.set i ((ρ1.getD i .no).re (.tag n (.lst (os ++ [o]))))) else .stuck
    | _ => .stuck
  | _ => .stuck
section
variable {X : Cx} {g : Gb} {W : WX} {Z : Zn} {S S' H H' : Hp} {τ : List V} {θ : List O} {σ : Sg} {ρ : En} {Q : VK} {m ma mb : E} {i j : Nat} {y : Str} {py apos pos : Pos} {e a b : Expr} {o : O} {v0 : V}
theorem le_appT (q : LE g W (eAppT i m) σ H Q) : tBM g.K "list" rAppend (tVar i) (LA g W [m]) σ H Q := by
  obtain ⟨Z, S, τ, θ, ρ, st, post⟩ := q
  unfold eAppT at post
  split at post
  · rename_i n0 os0 ho0
    obtain ⟨vi, A, hv, ev0, l0, vs0, A0, rfl, hl0, _, _⟩ := st.peek ho0
    refine ⟨_, hv, .inl ⟨rfl, vs0, .inl (.inl hl0)⟩, le_one ?_⟩
    refine step0 st post fun o1 ρ1 v1 S1 H1 e1 st1 post1 => ?_
    split at post1
    · rename_i n os ho
      split at post1
      · rename_i hz
        obtain ⟨A, α, hd⟩ := st1
        obtain ⟨ev, l, vs, A', e, hl, eA', r'⟩ := hd.at ho hv
        cases e
        obtain ⟨A1, A2, eA, r1, r2⟩ := hd.tmp.split st.tlen
        have r2 := r2.oneInv
        have ndi := hd.nd i
        rw [eA'] at ndi
        obtain ⟨nl, ndA'⟩ := List.nodup_cons.mp ndi
        have nA2 : ∀ a ∈ A2, a ∉ α i := fun a m m2 => hd.disA i a m2 (by rw [eA]; exact List.mem_append_right _ m)
        have ndA2 : A2.Nodup := by have := hd.ndA; rw [eA] at this; exact (List.nodup_append.mp this).2.1
        have kk : ∀ a, a ∈ A' ∨ a ∈ A2 → upd H1 l0 (.lst (vs ++ [v1])) a = H1 a := fun a m => by
          refine upd_ne fun z => ?_
          subst z
          rcases m with m | m
          · exact nl m
          · exact nA2 a m (by rw [eA']; exact List.mem_cons_self)
        refine ⟨l0, vs, v1, rfl, rfl, hl, Nat.lt_of_lt_of_le (by rw [r'.len]; exact hz) (show 1000000 ≤ sizeLine by decide), ?_⟩
        have st2 := hd.mut (A' := l0 :: (A' ++ A2)) (u := .lst (vs ++ [v1])) (o' := .tag n (.lst (os ++ [o1]))) eA r1 ho hv (by rw [eA']; exact List.mem_cons_self)
          ⟨ev, l0, _, _, rfl, upd_same, rfl, (RelOs.mono (Ex.refl _) os vs A' (fun a m => kk a (.inl m)) r').append (RelOs.one (RelO.mono (Ex.refl _) o1 v1 A2 (fun a m => kk a (.inr m)) r2))⟩
          (List.nodup_cons.mpr ⟨fun z => by
            rcases List.mem_append.mp z with z | z
            · exact nl z
            · exact nA2 l0 z (by rw [eA']; exact List.mem_cons_self), List.nodup_append.mpr ⟨ndA', ndA2, fun a x b y z => nA2 a (z ▸ y) (by rw [eA']; exact List.mem_cons_of_mem _ x)⟩⟩)
          (fun a m => by
            rw [eA']
            rcases List.mem_cons.mp m with m | m
            · subst m; exact .inl List.mem_cons_self
            · rcases List.mem_append.mp m with m | m
              · exact .inl (List.mem_cons_of_mem _ m)
              · exact .inr m)
        exact post1.fin (Ex.refl _) st2 (New.flat (d := .non) st2.sub rfl)
      · exact post1.elim
    · exact post1.elim
  · exact post.elim
theorem pd_appT {x : Str} {px apos : Pos} (C : Cxt X g W j) (i : Nat) (hb : PE X a (LE g W ma)) (hN : X.N[i]? = some x := by rfl) (hv : Vis X.env.scope x := by first | exact Or.inl rfl | exact Or.inr (Or.inl rfl) | exact Or.inr (Or.inr rfl)) (hd : (x == ("__debug__" : Str)) = false := by decide) (hcd : (x == ("__classdict__" : Str)) = false := by decide)
    (hs : starEach [a] X.env = (false, eval a X.env) :: starEach [] X.env := by rfl) (hbase : attributeBase (.Name x px) "append" X.env (eval (.Name x px) X.env) = eval (.Name x px) X.env := by rfl)
    (hfew : ((backTo pos (starEach [a] X.env)).all (fun x => !x.1) && (backToKw pos (keywordEach [] X.env)).all (fun x => x.1.isSome) && decide ([a].length + ([] : List Keyword).length + (if ([] : List Keyword).isEmpty then 0 else 1) < 30)) = true := by rfl)
    (hline : (apos.endLine == pos.line) = true := by rfl) (hplain : (backTo pos (starEach [] X.env)).any (·.1) = false := by rfl) : PE X (.Call (.Attribute (.Name x px) "append" apos) [a] [] pos) (LE g W (eAppT i ma)) :=
  PE_imp (pe_bm PySem.F.plainAttrs_list PySem.F.slot_list_append PySem.F.type_list_append mt_append (pe_var hN hv hd hcd) (ad_cons hb ad_nil hs) hbase hfew hline hs hplain) fun _ _ _ q => by rw [C.K]; exact le_appT q
/-! an item of a fresh list -/
def eIxT (ma mb : E) : E := fun ρ => (ma ρ).bind fun o1 ρ1 => (mb ρ1).bind fun o2 ρ2 => match o1, o2 with
  | .lst os, .sh (.int k) => R.of (L2.atI os k) ρ2
  | _, _ => .stuck
theorem St.item {os : List O} {k : Int} (st : St g Z S H (τ ++ [v0]) (θ ++ [.lst os]) σ ρ) (hk : L2.atI os k = some o) : ∃ l vs u, v0 = .ref l ∧ H l = some (.lst vs) ∧ L2.atI vs k = some u ∧ St g Z S H (τ ++ [u]) (θ ++ [o]) σ ρ := by
  have tl : τ.length = θ.length := by have := st.tlen; simp at this; exact this
  obtain ⟨A, α, hd⟩ := st
  obtain ⟨A1, A2, eA, r1, r2⟩ := hd.tmp.split tl
  obtain ⟨l, vs, A', rfl, hl, eA', r'⟩ := r2.oneInv
  unfold L2.atI at hk ⊢
  cases hj : ixN os.length k with
  | none => rw [hj] at hk; cases hk
  | some j =>
    rw [hj] at hk
    have hk : os[j]? = some o := hk
    obtain ⟨u, B1, Ao, B2, hu, eB, ro, _, _⟩ := r'.splitAt hk
    refine ⟨l, vs, u, rfl, hl, by rw [r'.len, hj]; exact hu, A1 ++ Ao, α, ?_⟩
    have sub : ∀ x, x ∈ A1 ++ Ao → x ∈ A := fun x m => by
      rw [eA, eA', eB]
      rcases List.mem_append.mp m with m | m
      · exact List.mem_append_left _ m
      · exact List.mem_append_right _ (List.mem_cons_of_mem _ (List.mem_append_right _ (List.mem_append_left _ m)))
    have nd : (A1 ++ Ao).Nodup := by
      have n := hd.ndA
      rw [eA, eA', eB] at n
      obtain ⟨n1, n2, n3⟩ := List.nodup_append.mp n
      refine List.nodup_append.mpr ⟨n1, ?_, fun x mx y my => n3 x mx y (List.mem_cons_of_mem _ (List.mem_append_right _ (List.mem_append_left _ my)))⟩
      exact (List.nodup_append.mp (List.nodup_append.mp (List.nodup_cons.mp n2).2).2.1).1
    exact ⟨hd.bs, r1.append (RelOs.one ro), hd.len, hd.slot, nd, hd.nd, hd.dis, fun i x m m2 => hd.disA i x m (sub x m2), fun x m => hd.own x (m.imp (sub x) id), hd.pin⟩
theorem le_ixT (q : LE g W (eIxT ma mb) σ H Q) : tOp (rIxA g.K) (LE g W ma) (LE g W mb) σ H Q := by
  obtain ⟨Z, S, τ, θ, ρ, st, post⟩ := q
  refine step0 st post fun o1 ρ1 v1 S1 H1 e1 st1 post1 => ?_
  refine stepN (n := 1) st1 rfl rfl post1 fun o2 ρ2 v2 S2 H2 e2 st2 post2 => ?_
  rw [← List.append_assoc, ← List.append_assoc] at st2
  obtain ⟨S3, e3, st3, r2⟩ := st2.pop
  split at post2
  · rename_i os k
    obtain ⟨o, hk, post3⟩ := post2.of
    obtain ⟨l, vs, u, rfl, hl, hu, st4⟩ := st3.item hk
    have r2 : v2 = .int k := r2
    exact .inl (.inl ⟨l, vs, k, u, rfl, r2, .inl (.inl hl), hu, post3 u S3 H2 e3 st4⟩)
  · exact post2.elim
theorem pd_ixT (C : Cxt X g W j) (ha : PE X a (LE g W ma)) (hb : PE X b (LE g W mb)) (hs : PlainIx b := by exact fun _ _ => rfl) : PE X (.Subscript a b pos) (LE g W (eIxT ma mb)) := PE_imp (pe_ix (ix_any C.hu) ha hb hs) fun _ _ _ q => by rw [C.K]; exact le_ixT q
end
end DL
set_option Elab.async false
set_option linter.all false
set_option maxRecDepth 100000
set_option autoImplicit false
/-! DLT3: // by wide numbers. -/
namespace DL
open PySem PySem.Spec PyProof.Rows L2
end DL
set_option Elab.async false
set_option linter.all false
set_option maxRecDepth 100000
set_option autoImplicit false
/-! DLT4: zip of three lists. -/
namespace DL
open PySem PySem.Spec PyProof.Rows L2
end DL
set_option Elab.async false
set_option linter.all false
set_option maxRecDepth 100000
set_option autoImplicit false
/-! DLU1: self.f += 1, self.f -= 1. -/
namespace DL
open PySem PySem.Spec PyProof.Rows L2
end DL
set_option Elab.async false
set_option linter.all false
set_option maxRecDepth 100000
set_option autoImplicit false
/-! DLU2: a property of an own class, read. -/
namespace DL
open PySem PySem.Spec PyProof.Rows L2
end DL
set_option Elab.async false
set_option linter.all false
set_option maxRecDepth 100000
set_option autoImplicit false
/-! DLU3: own exceptions that are made of nothing, raised. -/
namespace DL
open PySem PySem.Spec PyProof.Rows L2
end DL
set_option Elab.async false
set_option linter.all false
set_option maxRecDepth 100000
set_option autoImplicit false
/-! DLU4: a part of a slot's list is handed over for change. -/
namespace DL
open PySem PySem.Spec PyProof.Rows L2
end DL
set_option Elab.async false
set_option linter.all false
set_option maxRecDepth 100000
set_option autoImplicit false
/-! DLU5: f(xs[k], ..): a part of a list is handed over for change; the other arguments are slots, or items of slots. -/
namespace DL
open PySem PySem.Spec PyProof.Rows L2
end DL
set_option Elab.async false
set_option linter.all false
set_option maxRecDepth 100000
set_option autoImplicit false
/-! DLU6: what the text says of a property; its promise. -/
namespace DL
open PySem PySem.Spec PyProof.Rows L2
end DL
set_option Elab.async false
set_option linter.all false
set_option maxRecDepth 100000
set_option autoImplicit false
/-! DLU7: a text, so many times. -/
namespace DL
open PySem PySem.Spec PyProof.Rows L2
section
variable {X : Cx} {g : Gb} {W : WX} {ma mb : E} {a b : Expr} {pos : Pos}
theorem op_mulS : OpR X (binaryOp .Mult) (fun x y H Q => ∃ (z : Str) (n : Int), x = .str z ∧ y = .int n ∧ MulOk z n ∧ Q (.str (Txt.mul z n)) H) := by
  intro pins s σ H x y v u Q I rx ry h
  obtain ⟨z, n, rfl, rfl, hz, q⟩ := h
  obtain ⟨t, rfl⟩ := rx
  obtain ⟨t', rfl⟩ := ry
  exact PySem.SB.mul hz fun t' k => ⟨.str (Txt.mul z n), H, I.tok _, ⟨_, rfl⟩, q⟩
theorem mulOk_small {z : Str} {n : Int} (h0 : -1000 ≤ n) (h1 : n ≤ 1000) (hz : z.length ≤ 1000) : MulOk z n := by
  refine ⟨?_, fun hn _ hc => ?_, fun hn _ => ?_⟩
  · simp; omega
  · have h2 : (z.length : Int) * n ≤ 2 ^ 63 - 1 := by
      have h3 : (z.length : Int) * n ≤ 1000 * 1000 := Int.mul_le_mul (by omega) h1 (by omega) (by decide)
      omega
    have := (Int.le_ediv_iff_mul_le (show (0 : Int) < n by omega)).mpr h2
    omega
  · unfold Builtin.Str.tooLong
    have h3 : z.length * n.toNat ≤ 1000 * 1000 := Nat.mul_le_mul hz (by omega)
    rw [decide_eq_false_iff_not, sizeLine_eq]
    omega
def dMulS : D → D → Option O
  | .str z, .int n => if -1000 ≤ n ∧ n ≤ 1000 ∧ z.length ≤ 1000 then oS (Txt.mul z n) else none
  | _, _ => none
theorem os_mulS : OpS g (fun x y H Q => ∃ (z : Str) (n : Int), x = .str z ∧ y = .int n ∧ MulOk z n ∧ Q (.str (Txt.mul z n)) H) dMulS := by
  intro S H x y dx dy o Q e rx ry hf k
  unfold dMulS at hf
  split at hf
  · rename_i z n
    split at hf
    · rename_i hl
      cases hf
      exact ⟨z, n, rx, ry, mulOk_small hl.1 hl.2.1 hl.2.2, k _ H (new_flat e rfl rfl)⟩
    · cases hf
  · cases hf
theorem pd_mulS (ha : PE X a (LE g W ma)) (hb : PE X b (LE g W mb)) : PE X (.BinOp a .Mult b pos) (LE g W (eBin dMulS ma mb)) := PE_imp (pe_op op_mulS ha hb) fun _ _ _ q => le_bin os_mulS q
end
end DL
set_option Elab.async false
set_option linter.all false
set_option autoImplicit false
set_option maxRecDepth 100000
/-! DH: the functions of the defs that laws share. -/
namespace DH
open PySem DL
def m__law_box_k01 : Sm := (sRet (eLst [(eCB dMax [(eC (.int 0)), (eBin dSub (eVar 0) (eBin dPow (eC (.int 10)) (eC (.int 18))))]), (eBin dMod (eVar 0) (eC (.int 2147483629))), (eBin dMod (eVar 0) (eC (.int 2147483587))), (eC (.int 0))]))
def f__law_box_k01 : List O → R := mkFn 1 0 [] m__law_box_k01
def m_is_whole : Sm := (sRet (eAnd (eCB dIsi [(eVar 0), (eC (.op (.ty "int")))]) (eAnd (eNot (eCB dIsi [(eVar 0), (eC (.op (.ty "bool")))])) (eChn dLe dLe (eVar 1) (eVar 0) (eVar 2)))))
def f_is_whole : List O → R := mkFn 3 0 [] m_is_whole
def m_is_number : Sm := (sRet (eCall f_is_whole [] [(eVar 0), (eC (.int 1)), (eC (.int 99999))]))
def f_is_number : List O → R := mkFn 1 0 [] m_is_number
def m_whole_of : Sm := (sSeq (sIf (eOr (eNot (eChn dLe dLe (eC (.int 1)) (eCB dLen [(eVar 0)]) (eC (.int 3)))) (eNot (eAllI 1 itV (eVar 0) (TD.tg (TD.nm 0)) (eBin dIn (eVar 0) (eC (.str "0123456789")))))) (sRet (eC .non)) sNext) (sSeq (sIf (eAnd (eBin dEq (eBin dIx (eVar 0) (eC (.int 0))) (eC (.str "0"))) (eBin dNe (eVar 0) (eC (.str "0")))) (sRet (eC .non)) sNext) (sRet (eCB dInt [(eVar 0)]))))
def f_whole_of : List O → R := mkFn 1 1 [] m_whole_of
def m_parts_of : Sm := (sSeq (sAsg (eBm mPartition (eTy "str" (eVar 0)) [(eC (.str "."))]) (TD.tg (TD.tp [(TD.nm 2), (TD.nm 3), (TD.nm 4)]))) (sSeq (sSet 5 (eCall f_whole_of [] [(eVar 2)])) (sSeq (sIf (eBin dIsN (eVar 5) (eC .non)) (sRet (eC .non)) sNext) (sSeq (sIf (eBin dEq (eVar 3) (eC (.str ""))) (sRet (eIf (eBin dEq (eVar 1) (eC (.int 2))) (eBin dMul (eVar 5) (eBin dPow (eC (.int 10)) (eC (.int 2)))) (eBin dMul (eVar 5) (eC (.int 10))))) sNext) (sSeq (sIf (eOr (eNot (eChn dLe dLe (eC (.int 1)) (eCB dLen [(eVar 4)]) (eVar 1))) (eOr (eNot (eAllI 1 itV (eVar 4) (TD.tg (TD.nm 0)) (eBin dIn (eVar 0) (eC (.str "0123456789"))))) (eBin dEq (eBin dIx (eVar 4) (eC (.int (-1)))) (eC (.str "0"))))) (sRet (eC .non)) sNext) (sRet (eCB dInt [(eBin dAdd (eVar 2) (eBm mLjustF (eTy "str" (eVar 4)) [(eVar 1), (eC (.str "0"))]))])))))))
def f_parts_of : List O → R := mkFn 2 5 [] m_parts_of
def m_number_of : Sm := (sSeq (sIf (eNot (eCB dIsi [(eVar 0), (eC (.op (.ty "str")))])) (sRet (eC .non)) sNext) (sSeq (sSet 1 (eCall f_parts_of [] [(eVar 0), (eC (.int 2))])) (sRet (eIf (eCall f_is_number [] [(eVar 1)]) (eVar 1) (eC .non)))))
def f_number_of : List O → R := mkFn 1 1 [] m_number_of
def m_number_text : Sm := (sSeq (sIf (eNot (eCall f_is_number [] [(eVar 0)])) (sRaise "NoNumber" "value" (eVar 0)) sNext) (sSeq (sAsg (eCB dDivmod [(eVar 0), (eC (.int 100))]) (TD.tg (TD.tp [(TD.nm 1), (TD.nm 2)]))) (sSeq (sIf (eBin dEq (eVar 2) (eC (.int 0))) (sRet (eCB dStr [(eVar 1)])) sNext) (sRet (eJs [(eFmt (eVar 1)), (eC (.str ".")), (eFmt (eBm mRstripC (eTy "str" (eBm mZfill (eTy "str" (eCB dStr [(eVar 2)])) [(eC (.int 2))])) [(eC (.str "0"))]))] Str.empty)))))
def f_number_text : List O → R := mkFn 1 2 [] m_number_text
def m__law_write_k02 : Sm := (sSeq (sPar 1 2 (eBin dFdv (eVar 0) (eC (.int 100))) (eBin dMod (eVar 0) (eC (.int 100)))) (sSeq (sIf (eBin dEq (eVar 2) (eC (.int 0))) (sRet (eCB dStr [(eVar 1)])) sNext) (sSeq (sSet 3 (eBin dAdd (eBin dMulS (eC (.str "0")) (eBin dSub (eC (.int 2)) (eCB dLen [(eCB dStr [(eVar 2)])]))) (eCB dStr [(eVar 2)]))) (sRet (eBin dAdd (eBin dAdd (eCB dStr [(eVar 1)]) (eC (.str "."))) (eIf (eBin dEq (eBin dIx (eVar 3) (eC (.int (-1)))) (eC (.str "0"))) (eSl dSl (eVar 3) none (some (eC (.int (-1))))) (eVar 3)))))))
def f__law_write_k02 : List O → R := mkFn 1 3 [] m__law_write_k02
def m__law_spoilt_k02 (take : List O → R) : Sm := (sSeq (sSet 2 (eC (.str "0123456789. -+a,"))) (sSeq (sPar 3 4 (eCallB 0 take [] [(eLend (eBin dAdd (eCB dLen [(eVar 1)]) (eC (.int 1))))]) (eCallB 0 take [] [(eC (.int 6))])) (sSeq (sSet 5 (eBin dIx (eVar 2) (eCallB 0 take [] [(eCB dLen [(eVar 2)])]))) (sSeq (sIf (eBin dEq (eVar 4) (eC (.int 0))) (sRet (eBin dAdd (eBin dAdd (eSl dSl (eVar 1) none (some (eVar 3))) (eVar 5)) (eSl dSl (eVar 1) (some (eVar 3)) none))) sNext) (sSeq (sIf (eBin dEq (eVar 4) (eC (.int 1))) (sRet (eBin dAdd (eSl dSl (eVar 1) none (some (eVar 3))) (eSl dSl (eVar 1) (some (eBin dAdd (eVar 3) (eC (.int 1)))) none))) sNext) (sSeq (sIf (eBin dEq (eVar 4) (eC (.int 2))) (sRet (eBin dAdd (eBin dAdd (eSl dSl (eVar 1) none (some (eVar 3))) (eVar 5)) (eSl dSl (eVar 1) (some (eBin dAdd (eVar 3) (eC (.int 1)))) none))) sNext) (sSeq (sIf (eBin dEq (eVar 4) (eC (.int 3))) (sRet (eBin dIx (eLst [(eBin dAdd (eVar 1) (eC (.str "0"))), (eBin dAdd (eC (.str "0")) (eVar 1)), (eBin dAdd (eVar 1) (eC (.str "."))), (eBin dAdd (eVar 1) (eC (.str ".5"))), (eBin dAdd (eC (.str ".")) (eVar 1)), (eC (.str "00")), (eC (.str "1000")), (eC (.str "0.0")), (eC (.str "0")), (eC (.str "000.1"))]) (eCallB 0 take [] [(eC (.int 10))]))) sNext) (sRetV 1))))))))
def f__law_spoilt_k02 (take : List O → R) : List O → R := mkFn 2 4 [true] (m__law_spoilt_k02 take)
def m__law_digits_k02 : Sm := (sRet (eAnd (eChn dLe dLe (eC (.int 1)) (eCB dLen [(eVar 0)]) (eVar 1)) (eBin dEq (eLc [2] itV (eVar 0) (TD.tg (TD.nm 2)) (some (eBin dNotIn (eVar 2) (eC (.str "0123456789")))) (eVar 2)) (eLst []))))
def f__law_digits_k02 : List O → R := mkFn 2 1 [] m__law_digits_k02
def m__law_read_k02 : Sm := (sSeq (sIf (eNot (eCB dIsi [(eVar 0), (eC (.op (.ty "str")))])) (sRet (eC .non)) sNext) (sSeq (sSet 1 (eBm mFind (eTy "str" (eVar 0)) [(eC (.str "."))])) (sSeq (sAsg (eIf (eBin dLt (eVar 1) (eC (.int 0))) (eTup [(eVar 0), (eC (.str ""))]) (eTup [(eSl dSl (eVar 0) none (some (eVar 1))), (eSl dSl (eVar 0) (some (eBin dAdd (eVar 1) (eC (.int 1)))) none)])) (TD.tg (TD.tp [(TD.nm 2), (TD.nm 3)]))) (sSeq (sIf (eOr (eNot (eCall f__law_digits_k02 [] [(eVar 2), (eC (.int 3))])) (eAnd (eBin dGt (eCB dLen [(eVar 2)]) (eC (.int 1))) (eBin dEq (eBin dIx (eVar 2) (eC (.int 0))) (eC (.str "0"))))) (sRet (eC .non)) sNext) (sSeq (sIf (eAnd (eBin dGe (eVar 1) (eC (.int 0))) (eOr (eNot (eCall f__law_digits_k02 [] [(eVar 3), (eC (.int 2))])) (eBin dEq (eBin dIx (eVar 3) (eC (.int (-1)))) (eC (.str "0"))))) (sRet (eC .non)) sNext) (sSeq (sSet 4 (eBin dAdd (eBin dMul (eCB dInt [(eVar 2)]) (eC (.int 100))) (eCB dInt [(eSl dSl (eBin dAdd (eVar 3) (eBin dMulS (eC (.str "0")) (eC (.int 2)))) none (some (eC (.int 2))))]))) (sRet (eIf (eChn dLe dLe (eC (.int 1)) (eVar 4) (eC (.int 99999))) (eVar 4) (eC .non)))))))))
def f__law_read_k02 : List O → R := mkFn 1 4 [] m__law_read_k02
def m_Cue_parts : Sm := (sRet (eTup [(eFld ["Cue"] "_number" (eVar 0)), (eFld ["Cue"] "_moves" (eVar 0)), (eFld ["Cue"] "_up" (eVar 0)), (eFld ["Cue"] "_down" (eVar 0)), (eFld ["Cue"] "_block" (eVar 0))]))
def f_Cue_parts : List O → R := mkFn 1 0 [] m_Cue_parts
def m_Cue___eq__ : Sm := (sRet (eAnd (eIsC ["Cue"] "Cue" (eVar 1)) (eBin dEq (eMet "Cue" "parts" f_Cue_parts [] (eVar 0) []) (eMet "Cue" "parts" f_Cue_parts [] (eVar 1) []))))
def f_Cue___eq__ : List O → R := mkFn 2 0 [] m_Cue___eq__
def m_Show_cues : Sm := (sRet (eCB dList [(eFld ["Show"] "_cues" (eVar 0))]))
def f_Show_cues : List O → R := mkFn 1 0 [] m_Show_cues
def m_Show___eq__ : Sm := (sRet (eAnd (eIsC ["Show"] "Show" (eVar 1)) (eEqC [("Cue", f_Cue___eq__, pfCue)] 2 (eFld ["Show"] "_cues" (eVar 0)) (eMet "Show" "cues" f_Show_cues [] (eVar 1) []))))
def f_Show___eq__ : List O → R := mkFn 2 0 [] m_Show___eq__
end DH
set_option Elab.async false
set_option linter.all false
set_option maxRecDepth 100000
set_option autoImplicit false
/-! DQ: the own == of cues and shows says True of the same thing. -/
namespace DL
open PySem PySem.Spec PyProof.Rows L2
end DL
set_option Elab.async false
set_option linter.all false
set_option autoImplicit false
/-! PL: the plain layer: evaluation of the combinators on data. -/
namespace DL
open PySem PySem.Spec PyProof.Rows L2
section
variable {i j : Nat} {ρ ρ1 : En} {d : D} {o : O} {os : List O} {kos : List (Key × O)} {m a b c : E} {ms : List E} {s : Sm} {x y : R} {u w : Out}
def varK (i : Nat) (ρ : En) : Option Sl → R
  | some (.v (.sh d)) => .ok (.sh d) ρ
  | some (.v o) => .ok (.sh o.d) (ρ.set i (.v (.sh o.d)))
  | _ => .stuck
theorem eVar_ev : eVar i ρ = varK i ρ (ρ[i]?) := by
  unfold eVar
  generalize ρ[i]? = s
  rcases s with _ | _ | (_ | _ | _ | _) | _ <;> rfl
theorem var_sh : varK i ρ (some (.v (.sh d))) = .ok (.sh d) ρ := rfl
theorem var_lst : varK i ρ (some (.v (.lst os))) = .ok (.sh (.lst (O.ds os))) (ρ.set i (.v (.sh (.lst (O.ds os))))) := rfl
theorem var_dct : varK i ρ (some (.v (.dct kos))) = .ok (.sh (.dct (O.dk kos))) (ρ.set i (.v (.sh (.dct (O.dk kos))))) := rfl
theorem eC_ev : eC d ρ = .ok (.sh d) ρ := rfl
theorem bind_ok {k : O → E} : R.bind (.ok o ρ) k = k o ρ := rfl
theorem toO_ok {k : O → En → Out} : R.toO (.ok o ρ) k = k o ρ := rfl
theorem ra_ok {k : List O → E} : RA.bind (.ok os ρ) k = k os ρ := rfl
theorem then_next {k : Sm} : Out.andThen (.next ρ) k = k ρ := rfl
theorem then_ret {k : Sm} : Out.andThen (.ret o ρ) k = .ret o ρ := rfl
theorem of_some : R.of (some o) ρ = .ok o ρ := rfl
theorem back_next {n : Nat} : Out.back n (.next ρ) = .ok (.sh .non) (backs n ρ) := rfl
theorem back_ret {n : Nat} : Out.back n (.ret o ρ) = .ok o (backs n ρ) := rfl
theorem after_ok : after (.ok o ρ1) ρ = .ok o ρ := rfl
theorem afterB_ok {o' : O} : afterB (.ok o (.b o' :: ρ1)) i ρ = .ok o (ρ.set i ((ρ.getD i .no).re o')) := rfl
theorem re_b {o o' : O} : (Sl.b o).re o' = .b o' := rfl
theorem re_v {o o' : O} : (Sl.v o).re o' = .v o' := rfl
theorem re_no {o' : O} : Sl.no.re o' = .v o' := rfl
theorem slO_v : slO (.v o) = some o := rfl
theorem slO_b : slO (.b o) = some o := rfl
theorem slO_no : slO .no = none := rfl
/-! argument lists -/
def consA (o : O) : RA → RA
  | .ok os ρ => .ok (o :: os) ρ
  | .exc x ρ => .exc x ρ
  | .stuck => .stuck
def nextA (ms : List E) : R → RA
  | .ok o ρ => consA o (evs ms ρ)
  | .exc x ρ => .exc x ρ
  | .stuck => .stuck
theorem evs_cs : evs (m :: ms) ρ = nextA ms (m ρ) := by
  unfold evs nextA consA
  cases m ρ <;> rfl
/-! tests -/
def tstR (o : O) (x y : R) : R := match o with
  | .sh (.bl true) => x
  | .sh (.bl false) => y
  | _ => .stuck
def tstO (o : O) (x y : Out) : Out := match o with
  | .sh (.bl true) => x
  | .sh (.bl false) => y
  | _ => .stuck
theorem tstR_bl {b : Bool} : tstR (.sh (.bl b)) x y = if b = true then x else y := by cases b <;> rfl
theorem tstO_bl {b : Bool} : tstO (.sh (.bl b)) u w = if b = true then u else w := by cases b <;> rfl
theorem eAnd_ev : eAnd a b ρ = (a ρ).bind fun o ρ1 => tstR o (b ρ1) (.ok (.sh (.bl false)) ρ1) := rfl
theorem eOr_ev : eOr a b ρ = (a ρ).bind fun o ρ1 => tstR o (.ok (.sh (.bl true)) ρ1) (b ρ1) := rfl
theorem eIf_ev : eIf c a b ρ = (c ρ).bind fun o ρ1 => tstR o (a ρ1) (b ρ1) := rfl
theorem sIf_ev {s t : Sm} : sIf c s t ρ = (c ρ).toO fun o ρ1 => tstO o (s ρ1) (t ρ1) := rfl
def notR (o : O) (ρ : En) : R := match o with
  | .sh (.bl b) => .ok (.sh (.bl (!b))) ρ
  | _ => .stuck
theorem eNot_ev : eNot a ρ = (a ρ).bind notR := rfl
theorem notR_bl {b : Bool} : notR (.sh (.bl b)) ρ = .ok (.sh (.bl (!b))) ρ := rfl
/-! slots -/
def putK (i : Nat) (o : O) (ρ : En) : Option Sl → Out
  | some (.b _) => .stuck
  | some _ => .next (ρ.set i (.v o))
  | none => .stuck
theorem put_ev : En.put ρ i o = putK i o ρ (ρ[i]?) := by
  unfold En.put
  generalize ρ[i]? = s
  rcases s with _ | _ | _ | _ <;> rfl
theorem put_no : putK i o ρ (some .no) = .next (ρ.set i (.v o)) := rfl
theorem put_v {o' : O} : putK i o ρ (some (.v o')) = .next (ρ.set i (.v o)) := rfl
def retK (i : Nat) (ρ : En) : Option Sl → Out
  | some (.v o) => .ret o (ρ.set i .no)
  | _ => .stuck
theorem retV_ev : sRetV i ρ = retK i ρ (ρ[i]?) := by
  unfold sRetV
  generalize ρ[i]? = s
  rcases s with _ | _ | _ | _ <;> rfl
theorem ret_v : retK i ρ (some (.v o)) = .ret o (ρ.set i .no) := rfl
def pixK (k : O) (ρ : En) : Option O → R
  | some oi => R.of ((oIx oi k.d.view).map .sh) ρ
  | none => .stuck
theorem pixK_some {k oi : O} : pixK k ρ (some oi) = R.of ((oIx oi k.d.view).map .sh) ρ := rfl
def guardR (o : Option O) (r : R) : R := match o with
  | some _ => r
  | none => .stuck
theorem guardR_some : guardR (some o) x = x := rfl
theorem ePix_ev : ePix i m ρ = guardR (slO (ρ.getD i .no)) ((m ρ).bind fun o ρ1 => pixK o ρ1 (slO (ρ1.getD i .no))) := by
  unfold ePix guardR
  cases slO (ρ.getD i .no) with
  | none => rfl
  | some oi =>
    refine (if_pos rfl).trans ?_
    congr 1
    funext o ρ1
    unfold pixK
    cases slO (ρ1.getD i .no) <;> rfl
def oSetO (o k : O) : Option O → Option O
  | some oi => oSet oi k.d.view o
  | none => none
theorem oSetO_some {k oi : O} : oSetO o k (some oi) = oSet oi k.d.view o := rfl
def storeN (i : Nat) (ρ : En) : Option O → Out
  | some o' => .next (ρ.set i ((ρ.getD i .no).re o'))
  | none => .stuck
theorem storeN_some {o' : O} : storeN i ρ (some o') = .next (ρ.set i ((ρ.getD i .no).re o')) := rfl
def guardO (o : Option O) (r : Out) : Out := match o with
  | some _ => r
  | none => .stuck
theorem guardO_some {r : Out} : guardO (some o) r = r := rfl
theorem sStore_ev {mk mv : E} : sStore i mk mv ρ = (mv ρ).toO fun o ρ1 => guardO (slO (ρ1.getD i .no)) ((mk ρ1).toO fun k ρ2 => storeN i ρ2 (oSetO o k (slO (ρ2.getD i .no)))) := by
  unfold sStore
  congr 1
  funext o ρ1
  cases slO (ρ1.getD i .no) with
  | none => rfl
  | some oi =>
    refine (if_pos rfl).trans ?_
    unfold guardO
    congr 1
    funext k ρ2
    cases slO (ρ2.getD i .no) <;> rfl
def callBK (fn : List O → R) (dds : List D) (i : Nat) (os : List O) (ρ : En) : Option O → R
  | some oi => afterB (fn (oi :: (O.ds os ++ dds).map .sh)) i ρ
  | none => .stuck
theorem callBK_some {fn : List O → R} {dds : List D} {oi : O} : callBK fn dds i os ρ (some oi) = afterB (fn (oi :: (O.ds os ++ dds).map .sh)) i ρ := rfl
theorem eCallB_ev {fn : List O → R} {dds : List D} : eCallB i fn dds ms ρ = guardR (slO (ρ.getD i .no)) ((evs ms ρ).bind fun os ρ1 => callBK fn dds i os ρ1 (slO (ρ1.getD i .no))) := by
  unfold eCallB guardR
  cases slO (ρ.getD i .no) with
  | none => rfl
  | some oi =>
    congr 1
/-! data -/
theorem d_sh : O.d (.sh d) = d := rfl
theorem d_lst : O.d (.lst os) = .lst (O.ds os) := rfl
theorem d_dct : O.d (.dct kos) = .dct (O.dk kos) := rfl
theorem ds_nil : O.ds [] = [] := rfl
theorem ds_cons : O.ds (o :: os) = o.d :: O.ds os := rfl
theorem vw_int {n : Int} : D.view (.int n) = .int n := rfl
theorem vw_str {s : Str} : D.view (.str s) = .str s := rfl
theorem vw_bl {b : Bool} : D.view (.bl b) = .bl b := rfl
theorem vw_non : D.view .non = .non := rfl
theorem vw_lst {l : List D} : D.view (.lst l) = .lst l := rfl
theorem vw_tup {l : List D} : D.view (.tup l) = .tup l := rfl
theorem vw_dct {l : List (Key × D)} : D.view (.dct l) = .dct l := rfl
theorem vw_scr {l : List Int} : D.view (.scr l) = .scr l := rfl
theorem vw_op {v : V} : D.view (.op v) = .op v := rfl
theorem add_int {a b : Int} : dAdd (.int a) (.int b) = some (.sh (.int (a + b))) := rfl
theorem sub_int {a b : Int} : dSub (.int a) (.int b) = some (.sh (.int (a - b))) := rfl
theorem mul_int {a b : Int} (h : (-18446744073709551616 < a ∧ a < 18446744073709551616) ∨ (-18446744073709551616 < b ∧ b < 18446744073709551616)) : dMul (.int a) (.int b) = some (.sh (.int (a * b))) := if_pos (by
  show a.natAbs < 18446744073709551616 ∨ b.natAbs < 18446744073709551616
  omega)
theorem fdv_int {a b : Int} (h : 0 < b ∧ b < 340282366920938463463374607431768211456) : dFdv (.int a) (.int b) = some (.sh (.int (a / b))) := if_pos h
theorem mod_int {a b : Int} (h : 0 < b) : dMod (.int a) (.int b) = some (.sh (.int (a % b))) := if_pos h
theorem pow_int {a b : Int} (h : 0 ≤ b ∧ b ≤ 1000 ∧ -18446744073709551616 < a ∧ a < 18446744073709551616) : dPow (.int a) (.int b) = some (.sh (.int (a ^ b.toNat))) := if_pos ⟨h.1, h.2.1, by
  show a.natAbs < 18446744073709551616
  omega⟩
theorem lt_int {a b : Int} : dLt (.int a) (.int b) = some (.sh (.bl (decide (a < b)))) := rfl
theorem gt_int {a b : Int} : dGt (.int a) (.int b) = some (.sh (.bl (decide (b < a)))) := rfl
theorem le_int {a b : Int} : dLe (.int a) (.int b) = some (.sh (.bl (decide (a ≤ b)))) := rfl
theorem ge_int {a b : Int} : dGe (.int a) (.int b) = some (.sh (.bl (decide (b ≤ a)))) := rfl
theorem max_int {a b : Int} : dMax [.int a, .int b] = some (.sh (.int (if b > a then b else a))) := rfl
theorem min_int {a b : Int} : dMin [.int a, .int b] = some (.sh (.int (if b < a then b else a))) := rfl
theorem len_lst {l : List D} : dLen [.lst l] = some (.sh (.int l.length)) := rfl
theorem len_tup {l : List D} : dLen [.tup l] = some (.sh (.int l.length)) := rfl
theorem len_scr {l : List Int} : dLen [.scr l] = some (.sh (.int l.length)) := rfl
theorem len_dct {l : List (Key × D)} : dLen [.dct l] = some (.sh (.int l.length)) := rfl
/-- the four places of a box -/
abbrev box (a b c t : Int) : O := .lst [.sh (.int a), .sh (.int b), .sh (.int c), .sh (.int t)]
theorem box0 {a b c t : Int} : oIx (box a b c t) (.int 0) = some (.int a) := rfl
theorem box1 {a b c t : Int} : oIx (box a b c t) (.int 1) = some (.int b) := rfl
theorem box2 {a b c t : Int} : oIx (box a b c t) (.int 2) = some (.int c) := rfl
theorem box3 {a b c t : Int} : oIx (box a b c t) (.int 3) = some (.int t) := rfl
theorem sbox0 {a b c t z : Int} : oSet (box a b c t) (.int 0) (.sh (.int z)) = some (box z b c t) := rfl
theorem sbox3 {a b c t z : Int} : oSet (box a b c t) (.int 3) (.sh (.int z)) = some (box a b c z) := rfl
/-! loops -/
theorem allL_all {n : Nat} {tg : Tg} {mb : E} {p : D → Bool} : ∀ (ds : List D), (∀ d ∈ ds, ∃ ρ1 ρ2, tg d (List.replicate n .no) = some ρ1 ∧ mb ρ1 = .ok (.sh (.bl (p d))) ρ2) → allL n tg mb ds = some (ds.all p)
  | [], h => rfl
  | d :: ds, h => by
    obtain ⟨ρ1, ρ2, h1, h2⟩ := h d List.mem_cons_self
    unfold allL
    rw [h1]
    dsimp only
    rw [h2]
    cases hp : p d with
    | true =>
      dsimp only
      rw [allL_all ds fun x m => h x (List.mem_cons_of_mem _ m)]
      simp [hp]
    | false => simp [hp]
def allN (ρ : En) : Option Bool → R
  | some b => .ok (.sh (.bl b)) ρ
  | none => .stuck
def allK (n : Nat) (tg : Tg) (mb : E) (ρ : En) : Option (List D) → R
  | some ds => allN ρ (allL n tg mb ds)
  | none => .stuck
theorem eAllI_ev {n : Nat} {items : D → Option (List D)} {tg : Tg} {mb : E} : eAllI n items m tg mb ρ = (m ρ).bind fun o ρ1 => allK n tg mb ρ1 (items o.d.view) := by
  unfold eAllI
  congr 1
theorem allK_some {n : Nat} {tg : Tg} {mb : E} {ds : List D} : allK n tg mb ρ (some ds) = allN ρ (allL n tg mb ds) := rfl
theorem allN_some {b : Bool} : allN ρ (some b) = .ok (.sh (.bl b)) ρ := rfl
def lcN : Option (List O × En) → R
  | some (os, ρ) => .ok (.lst os) ρ
  | none => .stuck
def lcK (vs : List Nat) (tg : Tg) (mt : Option E) (me : E) (ρ : En) : Option (List D) → R
  | some ds => if ds.length ≤ 1000000 then lcN (lcL vs tg mt me ds [] (wipeE ρ vs)) else .stuck
  | none => .stuck
theorem eLc_ev {vs : List Nat} {items : D → Option (List D)} {tg : Tg} {mt : Option E} {me : E} : eLc vs items m tg mt me ρ = (m ρ).bind fun o ρ1 => lcK vs tg mt me ρ1 (items o.d.view) := by
  unfold eLc
  congr 1
theorem lcK_some {vs : List Nat} {tg : Tg} {mt : Option E} {me : E} {ds : List D} (h : ds.length ≤ 1000000) : lcK vs tg mt me ρ (some ds) = lcN (lcL vs tg mt me ds [] (wipeE ρ vs)) := if_pos h
theorem lcN_some : lcN (some (os, ρ)) = .ok (.lst os) ρ := rfl
def dcN : Option (List (Key × D) × En) → R
  | some (kds, ρ) => .ok (.dct (kds.map fun p => (p.1, .sh p.2))) ρ
  | none => .stuck
def dcK (vs : List Nat) (tg : Tg) (mt : Option E) (mk me : E) (ρ : En) : Option (List D) → R
  | some ds => if ds.length ≤ 1000000 then dcN (dcL vs tg mt mk me ds [] (wipeE ρ vs)) else .stuck
  | none => .stuck
theorem eDc_ev {vs : List Nat} {items : D → Option (List D)} {tg : Tg} {mt : Option E} {mk me : E} : eDc vs items m tg mt mk me ρ = (m ρ).bind fun o ρ1 => dcK vs tg mt mk me ρ1 (items o.d.view) := by
  unfold eDc
  congr 1
theorem dcK_some {vs : List Nat} {tg : Tg} {mt : Option E} {mk me : E} {ds : List D} (h : ds.length ≤ 1000000) : dcK vs tg mt mk me ρ (some ds) = dcN (dcL vs tg mt mk me ds [] (wipeE ρ vs)) := if_pos h
def forK (tg : Tg) (body : Sm) (ρ : En) : Option (List D) → Out
  | some ds => forL tg body ds ρ
  | none => .stuck
theorem sForI_ev {items : D → Option (List D)} {tg : Tg} {body : Sm} : sForI items m tg body ρ = (m ρ).toO fun o ρ1 => forK tg body ρ1 (items o.d.view) := by
  unfold sForI
  congr 1
theorem forK_some {tg : Tg} {body : Sm} {ds : List D} : forK tg body ρ (some ds) = forL tg body ds ρ := rfl
end
end DL
set_option Elab.async false
set_option linter.all false
set_option autoImplicit false
set_option maxRecDepth 20000
/-! PB: the plain layer's base: free slots, dicts by texts, loops by facts. -/
namespace DL
open PySem PySem.Spec PyProof.Rows L2
section
variable {i j k n : Nat} {ρ ρ1 : En} {d : D} {o o' : O} {s : Sl}
/-! ### slots from k on are free to be stored -/
def FrK (k : Nat) (ρ : En) : Prop := ∀ i o, k ≤ i → ρ[i]? ≠ some (.b o)
theorem FrK.sv (h : FrK k ρ) : FrK k (ρ.set i (.v o)) := fun j o' hj e => by
  rw [List.getElem?_set] at e
  split at e
  · split at e
    · cases e
    · cases e
  · exact h j o' hj e
theorem FrK.sn (h : FrK k ρ) : FrK k (ρ.set i .no) := fun j o' hj e => by
  rw [List.getElem?_set] at e
  split at e
  · split at e
    · cases e
    · cases e
  · exact h j o' hj e
theorem FrK.sb (h : FrK 1 ρ) : FrK 1 (ρ.set 0 (.b o)) := fun j o' hj e => by
  rw [List.getElem?_set] at e
  split at e
  · omega
  · exact h j o' hj e
theorem frk_sv (h : FrK k ρ) : FrK k (ρ.set i (.v o)) = True := eq_true h.sv
theorem frk_sn (h : FrK k ρ) : FrK k (ρ.set i .no) = True := eq_true h.sn
theorem frk_sb (h : FrK 1 ρ) : FrK 1 (ρ.set 0 (.b o)) = True := eq_true h.sb
theorem getD_some {s0 : Sl} (h : ρ[i]? = some s) : ρ.getD i s0 = s := by rw [List.getD_eq_getElem?_getD, h]; rfl
end
/-! ### dicts by texts -/
section
variable {α β : Type}
def getL (L : List (Str × α)) (c : Str) : Option α := (L.find? fun p => decide (p.1 = c)).map (·.2)
def putL (L : List (Str × α)) (c : Str) (v : α) : List (Str × α) := if (L.any fun p => decide (p.1 = c)) = true then L.map (fun p => if p.1 = c then (p.1, v) else p) else L ++ [(c, v)]
def kys (L : List (Str × α)) : List Str := L.map (·.1)
def dkD (f : α → D) (L : List (Str × α)) : D := .dct (L.map fun p => (.inr p.1, f p.2))
def dkO (f : α → D) (L : List (Str × α)) : O := .dct (L.map fun p => (.inr p.1, .sh (f p.2)))
def chD (cs : List Str) : D := .lst (cs.map .str)
variable {f : α → D} {L M : List (Str × α)} {c e : Str} {v w : α}
theorem dk_d : (dkO f L).d = dkD f L := by
  show D.dct (O.dk _) = _
  unfold dkD
  congr 1
  induction L with
  | nil => rfl
  | cons p L ih => show (_, _) :: O.dk _ = _ :: _; rw [ih]; rfl
theorem strsO_d {ys : List Str} : (strsO ys).d = chD ys := by
  show D.lst (O.ds _) = _
  rw [ds_map_sh]; rfl
theorem getL_cons : getL ((e, v) :: L) c = if e = c then some v else getL L c := by
  unfold getL
  rw [List.find?_cons]
  by_cases h : e = c <;> simp [h]
theorem getL_none : getL L c = none ↔ c ∉ kys L := by
  induction L with
  | nil => simp [getL, kys]
  | cons p L ih =>
    obtain ⟨a, b⟩ := p
    rw [getL_cons]
    by_cases h : a = c
    · simp [h, kys]
    · rw [if_neg h, ih]
      simp [kys, Ne.symm h]
theorem getL_mem : getL L c = some v → (c, v) ∈ L := by
  induction L with
  | nil => simp [getL]
  | cons p L ih =>
    obtain ⟨a, b⟩ := p
    rw [getL_cons]
    by_cases h : a = c
    · rw [if_pos h]; intro q; cases q; rw [h]; exact List.mem_cons_self
    · rw [if_neg h]; intro q; exact List.mem_cons_of_mem _ (ih q)
theorem getL_of_mem (nd : (kys L).Nodup) : (c, v) ∈ L → getL L c = some v := by
  induction L with
  | nil => intro h; cases h
  | cons p L ih =>
    obtain ⟨a, b⟩ := p
    obtain ⟨n1, n2⟩ := List.nodup_cons.mp nd
    intro h
    rw [getL_cons]
    rcases List.mem_cons.mp h with h | h
    · cases h; rw [if_pos rfl]
    · have : a ≠ c := fun z => n1 (z ▸ List.mem_map.mpr ⟨_, h, rfl⟩)
      rw [if_neg this]; exact ih n2 h
theorem getL_isSome : (getL L c).isSome = decide (c ∈ kys L) := by
  cases h : getL L c with
  | none => simp [getL_none.mp h]
  | some v => simp; exact List.mem_map.mpr ⟨_, getL_mem h, rfl⟩
theorem lookK_map {f : α → β} : lookK (.inr c) (L.map fun p => ((.inr p.1 : Key), f p.2)) = (getL L c).map f := by
  induction L with
  | nil => rfl
  | cons p L ih =>
    obtain ⟨a, b⟩ := p
    rw [getL_cons]
    unfold lookK at ih ⊢
    rw [List.map_cons, List.find?_cons]
    by_cases h : a = c
    · simp [h]
    · have h2 : ¬ (Sum.inr a : Key) = .inr c := fun z => h (by cases z; rfl)
      simp only [h, h2, decide_false, if_false]
      exact ih
theorem any_kys : (L.any fun p => decide (p.1 = c)) = decide (c ∈ kys L) := by
  induction L with
  | nil => simp [kys]
  | cons p L ih =>
    rw [List.any_cons, ih]
    simp only [kys, List.map_cons, List.mem_cons]
    by_cases h : p.1 = c
    · simp [h]
    · have : c ≠ p.1 := Ne.symm h
      simp only [h, this, decide_false, Bool.false_or, false_or]
      rfl
theorem putL_new (h : c ∉ kys L) : putL L c v = L ++ [(c, v)] := by
  unfold putL; rw [any_kys]; simp [h]
theorem putL_old (h : c ∈ kys L) : putL L c v = L.map (fun p => if p.1 = c then (p.1, v) else p) := by
  unfold putL; rw [any_kys]; simp [h]
theorem kys_putL : kys (putL L c v) = if c ∈ kys L then kys L else kys L ++ [c] := by
  by_cases h : c ∈ kys L
  · rw [putL_old h, if_pos h]
    unfold kys
    rw [List.map_map]
    apply List.map_congr_left
    intro p _
    simp only [Function.comp]
    split <;> rfl
  · rw [putL_new h, if_neg h]; simp [kys]
theorem nodup_putL (h : (kys L).Nodup) : (kys (putL L c v)).Nodup := by
  rw [kys_putL]
  split
  · exact h
  · rename_i n
    exact List.nodup_append.mpr ⟨h, by simp, fun a m b m2 z => by simp at m2; subst m2; subst z; exact n m⟩
theorem mem_putL {p : Str × α} (h : p ∈ putL L c v) : p ∈ L ∨ p = (c, v) := by
  by_cases m : c ∈ kys L
  · rw [putL_old m] at h
    obtain ⟨q, hq, e⟩ := List.mem_map.mp h
    split at e
    · rename_i z; subst e; exact .inr (by rw [z])
    · subst e; exact .inl hq
  · rw [putL_new m] at h
    rcases List.mem_append.mp h with h | h
    · exact .inl h
    · exact .inr (by simpa using h)
theorem getL_app : getL (L ++ M) c = (getL L c).or (getL M c) := by
  induction L with
  | nil => rfl
  | cons p L ih =>
    obtain ⟨a, b⟩ := p
    rw [List.cons_append, getL_cons, getL_cons]
    split
    · rfl
    · exact ih
theorem getL_upd : getL (L.map fun p => if p.1 = c then (p.1, v) else p) e = if e = c then (getL L c).map (fun _ => v) else getL L e := by
  induction L with
  | nil => simp [getL]
  | cons p L ih =>
    obtain ⟨a, b⟩ := p
    rw [List.map_cons, getL_cons]
    by_cases h : a = c
    · subst h
      simp only [if_true]
      rw [getL_cons, getL_cons]
      by_cases h2 : e = a
      · subst h2; simp
      · have h3 : ¬ a = e := fun z => h2 z.symm
        simp only [h2, h3, if_false]
        rw [ih]; simp [h2]
    · simp only [h, if_false]
      rw [getL_cons, getL_cons]
      by_cases h2 : a = e
      · subst h2; simp [h]
      · simp only [h2, if_false, h]; exact ih
theorem getL_putL : getL (putL L c v) e = if e = c then some v else getL L e := by
  by_cases m : c ∈ kys L
  · rw [putL_old m, getL_upd]
    by_cases h : e = c
    · rw [if_pos h, if_pos h]
      cases q : getL L c with
      | none => exact absurd m (getL_none.mp q)
      | some w => rfl
    · rw [if_neg h, if_neg h]
  · rw [putL_new m, getL_app]
    by_cases h : e = c
    · subst h
      rw [getL_none.mpr m, if_pos rfl, getL_cons, if_pos rfl]
      rfl
    · have : getL [(c, v)] e = none := by rw [getL_cons, if_neg (Ne.symm h)]; rfl
      rw [if_neg h, this]
      cases getL L e <;> rfl
theorem lv_ext : ∀ {L M : List (Str × α)}, (kys L).Nodup → kys L = kys M → (∀ c, getL L c = getL M c) → L = M
  | [], [], _, _, _ => rfl
  | [], q :: M, _, h, _ => by simp [kys] at h
  | p :: L, [], _, h, _ => by simp [kys] at h
  | (a, b) :: L, (a', b') :: M, nd, h, g => by
    have h1 : a = a' ∧ kys L = kys M := by simpa [kys] using h
    obtain ⟨e1, e2⟩ := h1
    subst e1
    have g1 := g a
    rw [getL_cons, getL_cons, if_pos rfl, if_pos rfl] at g1
    cases g1
    obtain ⟨n1, n2⟩ := List.nodup_cons.mp nd
    congr 1
    refine lv_ext n2 e2 fun c => ?_
    by_cases z : a = c
    · subst z
      rw [getL_none.mpr n1, getL_none.mpr (e2 ▸ n1)]
    · have := g c
      rw [getL_cons, getL_cons, if_neg z, if_neg z] at this
      exact this
/-- in ascending order of the texts -/
def srt [Inhabited α] (L : List (Str × α)) : List (Str × α) := (srtS (kys L)).map fun c => (c, (getL L c).getD default)
theorem kys_map {γ : Type} {ys : List γ} {g : γ → Str} {h : γ → α} : kys (ys.map fun c => (g c, h c)) = ys.map g := by
  unfold kys; rw [List.map_map]; rfl
theorem kys_srt [Inhabited α] : kys (srt L) = srtS (kys L) := by
  unfold srt; rw [kys_map]; simp
theorem srt_perm_nodup {xs : List Str} (h : xs.Nodup) : (srtS xs).Nodup := (srtS_perm xs).nodup_iff.mpr h
theorem getL_tab {ys : List Str} {h : Str → α} (m : c ∈ ys) : getL (ys.map fun c => (c, h c)) c = some (h c) := by
  induction ys with
  | nil => cases m
  | cons y ys ih =>
    rw [List.map_cons, getL_cons]
    by_cases z : y = c
    · rw [if_pos z, z]
    · rw [if_neg z]
      rcases List.mem_cons.mp m with m | m
      · exact absurd m.symm z
      · exact ih m
theorem getL_srt [Inhabited α] : getL (srt L) c = getL L c := by
  by_cases m : c ∈ kys L
  · have m2 : c ∈ srtS (kys L) := (srtS_perm _).mem_iff.mpr m
    unfold srt
    rw [getL_tab m2]
    cases h : getL L c with
    | none => exact absurd m (getL_none.mp h)
    | some v => rfl
  · rw [getL_none.mpr m, getL_none.mpr]
    rw [kys_srt]
    exact fun z => m ((srtS_perm _).mem_iff.mp z)
theorem nodup_srt [Inhabited α] (h : (kys L).Nodup) : (kys (srt L)).Nodup := by rw [kys_srt]; exact srt_perm_nodup h
theorem srtS_congr {xs ys : List Str} (h : xs.Perm ys) : srtS xs = srtS ys :=
  sorted_unique (le := fun a b => leS a b = true) leS_anti (((srtS_perm xs).trans h).trans (srtS_perm ys).symm) (srtS_sorted xs) (srtS_sorted ys)
theorem perm_of_mem {xs ys : List Str} (h1 : xs.Nodup) (h2 : ys.Nodup) (h : ∀ c, c ∈ xs ↔ c ∈ ys) : xs.Perm ys := (List.perm_ext_iff_of_nodup h1 h2).mpr h
theorem mem_kys : c ∈ kys L ↔ (getL L c).isSome := by rw [getL_isSome]; simp
theorem srt_congr [Inhabited α] (h1 : (kys L).Nodup) (h2 : (kys M).Nodup) (h : ∀ c, getL L c = getL M c) : srt L = srt M := by
  refine lv_ext (nodup_srt h1) ?_ fun c => by rw [getL_srt, getL_srt, h]
  rw [kys_srt, kys_srt]
  exact srtS_congr (perm_of_mem h1 h2 fun c => by rw [mem_kys, mem_kys, h])
theorem srt_srt [Inhabited α] (h : (kys L).Nodup) : srt (srt L) = srt L := srt_congr (nodup_srt h) h fun _ => getL_srt
end
/-! ### what builtins do with them -/
section
variable {α : Type} {f : α → D} {L M : List (Str × α)} {c e : Str} {v w : α} {i j k n : Nat} {ρ ρ1 : En}
theorem view_dk : (dkD f L).view = dkD f L := rfl
theorem view_ch {cs : List Str} : (chD cs).view = chD cs := rfl
theorem dict_dk : dDict [dkD f L] = some (dkO f L) := by
  show some (O.dct ((L.map fun p => (.inr p.1, f p.2)).map fun p => (p.1, .sh p.2))) = _
  rw [List.map_map]; rfl
theorem list_dk : dList [dkD f L] = some (strsO (kys L)) := by
  show some (O.lst (((L.map fun p => (.inr p.1, f p.2)).map fun p => keyDD p.1).map .sh)) = _
  unfold strsO kys
  simp only [List.map_map]
  rfl
theorem list_ch {cs : List Str} : dList [chD cs] = some (strsO cs) := rfl
theorem len_dk : dLen [dkD f L] = some (.sh (.int L.length)) := by
  show some (O.sh (.int (((L.map fun p => ((.inr p.1 : Key), f p.2)).length : Nat) : Int))) = _
  rw [List.length_map]
theorem len_ch {cs : List Str} : dLen [chD cs] = some (.sh (.int cs.length)) := by
  show some (O.sh (.int (((cs.map D.str).length : Nat) : Int))) = _
  rw [List.length_map]
theorem items_dk : itItems (dkD f L) = some (L.map fun p => .tup [.str p.1, f p.2]) := by
  show some ((L.map fun p => ((.inr p.1 : Key), f p.2)).map _) = _
  rw [List.map_map]; rfl
theorem vals_dk : itVals (dkD f L) = some (L.map fun p => f p.2) := by
  show some ((L.map fun p => ((.inr p.1 : Key), f p.2)).map _) = _
  rw [List.map_map]; rfl
theorem keys_dk : itV (dkD f L) = some ((kys L).map .str) := by
  show some ((L.map fun p => ((.inr p.1 : Key), f p.2)).map _) = _
  rw [List.map_map]; unfold kys; rw [List.map_map]; rfl
theorem it_ch {cs : List Str} : itV (chD cs) = some (cs.map .str) := rfl
theorem in_dk : dIn (.str c) (dkD f L) = some (.sh (.bl (decide (c ∈ kys L)))) := by
  show Option.map _ (some ((lookK (.inr c) (L.map fun p => ((.inr p.1 : Key), f p.2))).isSome)) = _
  rw [lookK_map, Option.isSome_map, getL_isSome]; rfl
theorem notin_dk : dNotIn (.str c) (dkD f L) = some (.sh (.bl (!decide (c ∈ kys L)))) := by
  show Option.map _ (some ((lookK (.inr c) (L.map fun p => ((.inr p.1 : Key), f p.2))).isSome)) = _
  rw [lookK_map, Option.isSome_map, getL_isSome]; rfl
theorem isi_dk : dIsi [dkD f L, .op (.ty "dict")] = some (.sh (.bl true)) := rfl
theorem isi_ch_lt {cs : List Str} : dIsi [chD cs, .tup [.op (.ty "list"), .op (.ty "tuple")]] = some (.sh (.bl true)) := rfl
theorem dct0_dk : (O.dct []) = dkO f [] := rfl
/-! get -/
def get2K (k : O) (c : O) (ρ : En) : D → R
  | .dct kds => match keyD k.d.view with
    | some kk => .ok (.sh ((lookK kk kds).getD c.d)) ρ
    | none => .stuck
  | _ => .stuck
def isDctR (d : D) (r : R) : R := match d with
  | .dct _ => r
  | _ => .stuck
theorem isDctR_dk {r : R} : isDctR (dkD f L) r = r := rfl
theorem eGet2_ev {mo mk mc : E} : eGet2 mo mk mc ρ = (mo ρ).bind fun o ρ1 => isDctR o.d.view ((mk ρ1).bind fun k ρ2 => (mc ρ2).bind fun c ρ3 => get2K k c ρ3 o.d.view) := by
  unfold eGet2 isDctR get2K
  congr 1
  funext o ρ1
  cases o.d.view <;> rfl
theorem get2K_dk {o : O} {dv : α} (ho : o.d = f dv) : get2K (.sh (.str c)) o ρ (dkD f L) = .ok (.sh (f ((getL L c).getD dv))) ρ := by
  show R.ok (.sh ((lookK (.inr c) (L.map fun p => ((.inr p.1 : Key), f p.2))).getD o.d)) ρ = _
  rw [lookK_map, ho]
  cases getL L c <;> rfl
theorem get2K_int {L : List (Str × Int)} {a : Int} : get2K (.sh (.str c)) (.sh (.int a)) ρ (dkD .int L) = .ok (.sh (.int ((getL L c).getD a))) ρ := get2K_dk rfl
def getPK (k : O) (c : O) (ρ : En) : Option D → R
  | some (.dct kds) => match keyD k.d.view with
    | some kk => R.fl (some (.sh ((lookK kk kds).getD c.d))) ρ
    | none => .stuck
  | _ => .stuck
def getP2K (i : Nat) (mk mc : E) (ρ : En) : Option D → R
  | some d => isDctR d ((mk ρ).bind fun k ρ2 => (mc ρ2).bind fun c ρ3 => getPK k c ρ3 (peekD i ρ3))
  | none => .stuck
theorem eGetP2_ev {mk mc : E} : eGetP2 i mk mc ρ = getP2K i mk mc ρ (peekD i ρ) := by
  unfold eGetP2 getP2K isDctR getPK
  cases peekD i ρ with
  | none => rfl
  | some d => cases d <;> rfl
theorem getP2K_dk {mk mc : E} : getP2K i mk mc ρ (some (dkD f L)) = (mk ρ).bind fun k ρ2 => (mc ρ2).bind fun c ρ3 => getPK k c ρ3 (peekD i ρ3) := rfl
theorem getPK_dk {o : O} {dv : α} (ho : o.d = f dv) (hf : ∀ x, flatO (.sh (f x)) = true) : getPK (.sh (.str c)) o ρ (some (dkD f L)) = .ok (.sh (f ((getL L c).getD dv))) ρ := by
  show R.fl (some (.sh ((lookK (.inr c) (L.map fun p => ((.inr p.1 : Key), f p.2))).getD o.d))) ρ = _
  rw [lookK_map, ho]
  unfold R.fl
  cases getL L c <;> exact if_pos (hf _)
theorem getPK_int {L : List (Str × Int)} {a : Int} : getPK (.sh (.str c)) (.sh (.int a)) ρ (some (dkD .int L)) = .ok (.sh (.int ((getL L c).getD a))) ρ := getPK_dk rfl fun _ => rfl
def cbPK (g : List D → Option O) (ρ : En) : Option D → R
  | some d => R.fl (g [d.view]) ρ
  | none => .stuck
theorem eCBP_ev {g : List D → Option O} : eCBP g i ρ = cbPK g ρ (peekD i ρ) := by
  unfold eCBP cbPK; rfl
theorem cbPK_some {g : List D → Option O} {d : D} : cbPK g ρ (some d) = R.fl (g [d.view]) ρ := rfl
theorem fl_int {a : Int} : R.fl (some (.sh (.int a))) ρ = .ok (.sh (.int a)) ρ := rfl
theorem fl_bl {a : Bool} : R.fl (some (.sh (.bl a))) ρ = .ok (.sh (.bl a)) ρ := rfl
theorem fl_str {a : Str} : R.fl (some (.sh (.str a))) ρ = .ok (.sh (.str a)) ρ := rfl
def binPRK (g : D → D → Option O) (o1 : O) (ρ : En) : Option D → R
  | some d => R.fl (g o1.d.view d.view) ρ
  | none => .stuck
theorem eBinPR_ev {g : D → D → Option O} {ma : E} : eBinPR g ma i ρ = (ma ρ).bind fun o1 ρ2 => binPRK g o1 ρ2 (peekD i ρ2) := by
  unfold eBinPR binPRK
  congr 1
theorem binPRK_some {g : D → D → Option O} {o1 : O} {d : D} : binPRK g o1 ρ (some d) = R.fl (g o1.d.view d.view) ρ := rfl
def popAtK (i : Nat) (k : O) (ρ : En) : Option O → R
  | some (.lst os) => match k.d.view with
    | .int n => if 0 ≤ n ∧ n < 1000000 then match os[n.toNat]? with
      | some o => .ok o (ρ.set i ((ρ.getD i .no).re (.lst (os.eraseIdx n.toNat))))
      | none => .stuck else .stuck
    | _ => .stuck
  | _ => .stuck
def popDK (i : Nat) (k : O) (ρ : En) : Option O → R
  | some (.dct kos) => match keyD k.d.view with
      | some kk => match lkO kk kos with
        | some (.sh d) => .ok (.sh d) (ρ.set i ((ρ.getD i .no).re (.dct (popK kk kos))))
        | _ => .stuck
      | none => .stuck
  | _ => .stuck
def popXK (i : Nat) (m : E) (ρ : En) : Option O → R
  | some (.dct _) => (m ρ).bind fun k ρ1 => popDK i k ρ1 (slO (ρ1.getD i .no))
  | some (.lst _) => (m ρ).bind fun k ρ1 => popAtK i k ρ1 (slO (ρ1.getD i .no))
  | _ => .stuck
theorem ePopX_ev {m : E} : ePopX i m ρ = popXK i m ρ (slO (ρ.getD i .no)) := by
  unfold ePopX eDPop ePopAt popXK popDK popAtK
  generalize slO (ρ.getD i .no) = x
  rcases x with _ | (_ | _ | _ | _ | _ | _)
  · rfl
  · rfl
  · dsimp only
    congr 1
    funext k ρ1
    generalize slO (ρ1.getD i .no) = y
    generalize k.d.view = z
    rcases y with _ | (_ | _ | _ | _ | _ | _) <;> cases z <;> rfl
  · rfl
  · rfl
  · rfl
  · rfl
theorem popXK_strs {m : E} {ys : List Str} : popXK i m ρ (some (strsO ys)) = (m ρ).bind fun k ρ1 => popAtK i k ρ1 (slO (ρ1.getD i .no)) := rfl
theorem popXK_dk {m : E} : popXK i m ρ (some (dkO f L)) = (m ρ).bind fun k ρ1 => popDK i k ρ1 (slO (ρ1.getD i .no)) := rfl
def delL {α : Type} (L : List (Str × α)) (c : Str) : List (Str × α) := L.filter fun p => decide (p.1 ≠ c)
theorem kys_delL : kys (delL L c) = (kys L).filter fun x => decide (x ≠ c) := by
  unfold kys delL
  rw [List.filter_map]
  rfl
def asgK : Option En → Out
  | some ρ => .next ρ
  | none => .stuck
theorem sAsg_ev {m : E} {tg : Tg} : sAsg m tg ρ = (m ρ).toO fun o ρ1 => asgK (tg o.d ρ1) := by
  unfold sAsg
  congr 1
theorem asgK_some : asgK (some ρ) = .next ρ := rfl
def parK (i j : Nat) : RA → Out
  | .ok [o1, o2] ρ1 => (En.put ρ1 j o2).andThen fun ρ2 => En.put ρ2 i o1
  | .ok _ _ => .stuck
  | .exc x ρ1 => .exc x ρ1
  | .stuck => .stuck
theorem parK_ok {o1 o2 : O} : parK i j (.ok [o1, o2] ρ) = (En.put ρ j o2).andThen fun ρ2 => En.put ρ2 i o1 := rfl
theorem sPar_ev {ma mb : E} (h : i ≠ j) : sPar i j ma mb ρ = parK i j (evs [ma, mb] ρ) := by
  unfold sPar parK
  rcases evs [ma, mb] ρ with ⟨os, ρ1⟩ | _ | _
  · rcases os with _ | ⟨o1, _ | ⟨o2, _ | _⟩⟩ <;> try rfl
    dsimp only
    unfold En.put
    cases hi : ρ1[i]? with
    | none =>
      cases hj : ρ1[j]? with
      | none => rfl
      | some s =>
        cases s with
        | b o => rfl
        | _ => dsimp only [Out.andThen]; rw [List.getElem?_set_ne (Ne.symm h), hi]
    | some s =>
      cases hj : ρ1[j]? with
      | none => cases s <;> rfl
      | some t =>
        cases t with
        | b o => cases s <;> rfl
        | _ => cases s <;> (dsimp only [Out.andThen]; rw [List.getElem?_set_ne (Ne.symm h), hi])
  · rfl
  · rfl
theorem eBm_ev {g : D → List D → Option O} {mo : E} {ms : List E} : eBm g mo ms ρ = (mo ρ).bind fun o ρ1 => (evs ms ρ1).bind fun os ρ2 => R.of (g o.d.view ((O.ds os).map D.view)) ρ2 := rfl
theorem eTy_ev {T : String} {mo : E} : eTy T mo ρ = (mo ρ).bind fun o ρ1 => if isT T o.d.view = true then .ok o ρ1 else .stuck := rfl
theorem isT_str {x : Str} : isT "str" (.str x) = true := rfl
theorem isT_lst {x : List D} : isT "list" (.lst x) = true := rfl
theorem isT_ch {x : List Str} : isT "list" (chD x) = true := rfl
def prtI (k : Option Int → En → R) (ρ : En) : D → R
  | .int i => k (some i) ρ
  | _ => .stuck
theorem prt_none {k : Option Int → En → R} : prt none ρ k = k none ρ := rfl
theorem prt_some {e : E} {k : Option Int → En → R} : prt (some e) ρ k = (e ρ).bind fun o ρ1 => prtI k ρ1 o.d.view := rfl
theorem prtI_int {k : Option Int → En → R} {a : Int} : prtI k ρ (.int a) = k (some a) ρ := rfl
theorem eSl_ev {g : D → Option Int → Option Int → Option O} {m : E} {lo hi : Option E} : eSl g m lo hi ρ = (m ρ).bind fun o ρ1 => prt lo ρ1 fun l ρ2 => prt hi ρ2 fun h ρ3 => R.of (g o.d.view l h) ρ3 := rfl
theorem eCallK_ev {fn : List O → R} {pm : List Nat} {ms : List E} : eCallK fn pm ms ρ = (evs ms ρ).bind fun os ρ1 => after (fn ((pm.map fun i => (O.ds os).getD i .non).map .sh)) ρ1 := rfl
def clrK (i : Nat) (ρ : En) : Option O → R
  | some (.dct _) => .ok (.sh .non) (ρ.set i ((ρ.getD i .no).re (.dct [])))
  | _ => .stuck
theorem eClr_ev : eClr i ρ = clrK i ρ (slO (ρ.getD i .no)) := by
  unfold eClr clrK
  rfl
theorem clrK_dk : clrK i ρ (some (dkO f L)) = .ok (.sh .non) (ρ.set i ((ρ.getD i .no).re (.dct []))) := rfl
end
/-! ### names of a frame that are evaluated -/
section
variable {i j k n : Nat} {ρ ρ1 : En} {o : O}
theorem varK_dk {α : Type} {f : α → D} {L : List (Str × α)} : varK i ρ (some (.v (dkO f L))) = .ok (.sh (dkD f L)) (ρ.set i (.v (.sh (dkD f L)))) := by
  rw [← dk_d]; rfl
theorem varK_strs {ys : List Str} : varK i ρ (some (.v (strsO ys))) = .ok (.sh (chD ys)) (ρ.set i (.v (.sh (chD ys)))) := by
  rw [← strsO_d]; rfl
theorem getD_sv (s s0 : Sl) : (ρ.set i s).getD j s0 = if i = j then (if i < ρ.length then s else s0) else ρ.getD j s0 := by
  rw [List.getD_eq_getElem?_getD, List.getElem?_set]
  by_cases h : i = j
  · subst h
    rw [if_pos rfl, if_pos rfl]
    split <;> rfl
  · rw [if_neg h, if_neg h, List.getD_eq_getElem?_getD]
end
/-! ### stores into free slots -/
section
variable {i j l k n : Nat} {ρ ρ1 : En} {o : O} {d : D}
def frS (s : Option Sl) : Prop := ∃ t, s = some t ∧ ∀ o, t ≠ .b o
theorem frS_v : frS (some (.v o)) = True := eq_true ⟨_, rfl, fun _ h => nomatch h⟩
theorem frS_no : frS (some .no) = True := eq_true ⟨_, rfl, fun _ h => nomatch h⟩
theorem frS_of (h : FrK k ρ) (hk : k ≤ i) (hl : i < ρ.length) : frS (ρ[i]?) := ⟨ρ[i]'hl, List.getElem?_eq_getElem hl, fun o z => h i o hk (by rw [List.getElem?_eq_getElem hl, z])⟩
theorem frS_0 (h : FrK 0 ρ) (hl : i < ρ.length) : frS (ρ[i]?) = True := eq_true (frS_of h (Nat.zero_le _) hl)
theorem frS_1 (h : FrK 1 ρ) (hk : 1 ≤ i) (hl : i < ρ.length) : frS (ρ[i]?) = True := eq_true (frS_of h hk hl)
theorem putK_fr {s : Option Sl} (h : frS s) : putK i o ρ s = .next (ρ.set i (.v o)) := by
  obtain ⟨t, rfl, h⟩ := h
  cases t with
  | b o' => exact absurd rfl (h o')
  | _ => rfl
def set1K (i : Nat) (d : D) (ρ : En) : Option Sl → Option En
  | some (.b _) => none
  | some _ => some (ρ.set i (.v (.sh d)))
  | none => none
theorem set1_ev : ρ.set1 i d = set1K i d ρ (ρ[i]?) := by
  unfold En.set1 set1K
  generalize ρ[i]? = s
  rcases s with _ | _ | _ | _ <;> rfl
theorem set1K_fr {s : Option Sl} (h : frS s) : set1K i d ρ s = some (ρ.set i (.v (.sh d))) := by
  obtain ⟨t, rfl, h⟩ := h
  cases t with
  | b o' => exact absurd rfl (h o')
  | _ => rfl
theorem tgt_nm : TD.tg (.nm i) d ρ = ρ.set1 i d := rfl
theorem tgt_2 {a b : D} : TD.tg (.tp [.nm i, .nm j]) (.tup [a, b]) ρ = (ρ.set1 i a).bind fun ρ1 => ρ1.set1 j b := by
  show (ρ.set1 i a).bind (fun ρ1 => (ρ1.set1 j b).bind fun ρ2 => some ρ2) = _
  congr 1
  funext ρ1
  cases ρ1.set1 j b <;> rfl
theorem tgt_3 {a b c : D} : TD.tg (.tp [.nm i, .nm j, .nm l]) (.tup [a, b, c]) ρ = (ρ.set1 i a).bind fun ρ1 => (ρ1.set1 j b).bind fun ρ2 => ρ2.set1 l c := by
  show (ρ.set1 i a).bind (fun ρ1 => (ρ1.set1 j b).bind fun ρ2 => (ρ2.set1 l c).bind fun ρ3 => some ρ3) = _
  congr 1
  funext ρ1
  congr 1
  funext ρ2
  cases ρ2.set1 l c <;> rfl
theorem gset {s : Sl} : (ρ.set i s)[j]? = if i = j then (if i < ρ.length then some s else none) else ρ[j]? := List.getElem?_set
end
/-! ### equal -/
theorem eq_int {a b : Int} : dEq (.int a) (.int b) = some (.sh (.bl (decide (a = b)))) := rfl
theorem ne_int {a b : Int} : dNe (.int a) (.int b) = some (.sh (.bl (!decide (a = b)))) := rfl
theorem eq_str {a b : Str} : dEq (.str a) (.str b) = some (.sh (.bl (decide (a = b)))) := rfl
theorem ne_str {a b : Str} : dNe (.str a) (.str b) = some (.sh (.bl (!decide (a = b)))) := rfl
/-! ### lent -/
section
variable {i k : Nat} {ρ ρ1 : En} {o : O} {m : E}
theorem eLend_ev : eLend m ρ = lendR ρ (m (ρ.map Sl.lend)) := rfl
theorem lend_v : Sl.lend (.v o) = .v (.sh o.d) := rfl
theorem lend_b : Sl.lend (.b o) = .v (.sh o.d) := rfl
theorem lend_n : Sl.lend .no = .no := rfl
theorem lendR_bl {b : Bool} : lendR ρ (.ok (.sh (.bl b)) ρ1) = .ok (.sh (.bl b)) ρ := rfl
theorem lendR_int {b : Int} : lendR ρ (.ok (.sh (.int b)) ρ1) = .ok (.sh (.int b)) ρ := rfl
theorem lendR_str {b : Str} : lendR ρ (.ok (.sh (.str b)) ρ1) = .ok (.sh (.str b)) ρ := rfl
theorem lendR_non : lendR ρ (.ok (.sh .non) ρ1) = .ok (.sh .non) ρ := rfl
theorem frk_lend : FrK k (ρ.map Sl.lend) = True := eq_true fun i o _ e => by
  rw [List.getElem?_map] at e
  cases h : ρ[i]? with
  | none => rw [h] at e; cases e
  | some s => rw [h] at e; cases s <;> cases e
end
/-! ### loops by facts -/
section
theorem forL_nil {tg : Tg} {body : Sm} {ρ : En} : forL tg body [] ρ = .next ρ := rfl
theorem rangeD_eq {n : Nat} : rangeD 0 n = (List.range n).map fun i => .int i := by
  unfold rangeD
  have : ((n : Int) - 0).toNat = n := by omega
  rw [this]
  apply List.map_congr_left
  intro i _
  simp
theorem itRng_nat {n : Nat} (h : n < 1152921504606846976) : itRng (.int n) = some ((List.range n).map fun i => .int i) := by
  unfold itRng
  dsimp only
  rw [if_pos (by constructor <;> omega), rangeD_eq]
theorem itRng_int {n : Int} (h0 : 0 ≤ n) (h : n < 1152921504606846976) : itRng (.int n) = some ((List.range n.toNat).map fun (i : Nat) => .int (i : Int)) := by
  have := itRng_nat (n := n.toNat) (by omega)
  rwa [show ((n.toNat : Nat) : Int) = n by omega] at this
end
/-! ### what comes out -/
def okT (r : Option En) (k : En → Prop) : Prop := ∃ ρ, r = some ρ ∧ k ρ
def okE (r : R) (k : O → En → Prop) : Prop := ∃ o ρ, r = .ok o ρ ∧ k o ρ
def okN (r : Out) (k : En → Prop) : Prop := ∃ ρ, r = .next ρ ∧ k ρ
theorem okT_some {ρ : En} {k : En → Prop} : okT (some ρ) k ↔ k ρ := ⟨fun ⟨_, e, h⟩ => by cases e; exact h, fun h => ⟨_, rfl, h⟩⟩
theorem okE_ok {o : O} {ρ : En} {k : O → En → Prop} : okE (.ok o ρ) k ↔ k o ρ := ⟨fun ⟨_, _, e, h⟩ => by cases e; exact h, fun h => ⟨_, _, rfl, h⟩⟩
theorem okN_next {ρ : En} {k : En → Prop} : okN (.next ρ) k ↔ k ρ := ⟨fun ⟨_, e, h⟩ => by cases e; exact h, fun h => ⟨_, rfl, h⟩⟩
theorem okE.mono {r : R} {k k' : O → En → Prop} (h : okE r k) (q : ∀ o ρ, k o ρ → k' o ρ) : okE r k' := let ⟨o, ρ, e, z⟩ := h; ⟨o, ρ, e, q o ρ z⟩
theorem okN.mono {r : Out} {k k' : En → Prop} (h : okN r k) (q : ∀ ρ, k ρ → k' ρ) : okN r k' := let ⟨ρ, e, z⟩ := h; ⟨ρ, e, q ρ z⟩
/-! ### comprehensions by facts -/
section
variable {α β : Type} {vs : List Nat} {tg : Tg} {t me mk : E} {e : α → D}
theorem lcF (I : En → Prop) (p : α → Bool) (f : α → O) : ∀ (xs : List α) (acc : List O) (ρ : En), (∀ x ∈ xs, ∀ ρ, I ρ → ∃ ρ1, tg (e x) ρ = some ρ1 ∧ ∃ ρ2, t ρ1 = .ok (.sh (.bl (p x))) ρ2 ∧ (p x = false → I (wipeE ρ2 vs)) ∧ (p x = true → ∃ ρ3, me ρ2 = .ok (f x) ρ3 ∧ I (wipeE ρ3 vs))) → I ρ → ∃ ρ', lcL vs tg (some t) me (xs.map e) acc ρ = some (acc ++ (xs.filter p).map f, ρ') ∧ I ρ'
  | [], acc, ρ, _, h => ⟨ρ, by simp [lcL], h⟩
  | x :: xs, acc, ρ, hs, h => by
    obtain ⟨ρ1, h1, ρ2, h2, h3, h4⟩ := hs x List.mem_cons_self ρ h
    cases hp : p x with
    | true =>
      obtain ⟨ρ3, h5, h6⟩ := h4 hp
      obtain ⟨ρ', h7, h8⟩ := lcF I p f xs (acc ++ [f x]) _ (fun y m => hs y (List.mem_cons_of_mem _ m)) h6
      refine ⟨ρ', ?_, h8⟩
      rw [List.map_cons]
      unfold lcL
      rw [h1]
      dsimp only
      rw [h2, hp]
      dsimp only
      rw [h5]
      dsimp only
      rw [h7]
      simp [hp]
    | false =>
      obtain ⟨ρ', h7, h8⟩ := lcF I p f xs acc _ (fun y m => hs y (List.mem_cons_of_mem _ m)) (h3 hp)
      refine ⟨ρ', ?_, h8⟩
      rw [List.map_cons]
      unfold lcL
      rw [h1]
      dsimp only
      rw [h2, hp]
      dsimp only
      rw [h7]
      simp [hp]
def mrg (L M : List (Str × β)) : List (Str × β) := M.foldl (fun a p => putL a p.1 p.2) L
theorem mrg_cons {L M : List (Str × β)} {p : Str × β} : mrg L (p :: M) = mrg (putL L p.1 p.2) M := rfl
theorem nodup_mrg : ∀ {L M : List (Str × β)}, (kys L).Nodup → (kys (mrg L M)).Nodup
  | L, [], h => h
  | L, p :: M, h => nodup_mrg (L := putL L p.1 p.2) (M := M) (nodup_putL h)
theorem mem_mrg : ∀ {L M : List (Str × β)} {q : Str × β}, q ∈ mrg L M → q ∈ L ∨ q ∈ M
  | L, [], q, h => .inl h
  | L, p :: M, q, h => by
    rcases mem_mrg (L := putL L p.1 p.2) (M := M) h with h | h
    · rcases mem_putL h with h | h
      · exact .inl h
      · exact .inr (h ▸ List.mem_cons_self)
    · exact .inr (List.mem_cons_of_mem _ h)
theorem getL_mrg {c : Str} : ∀ {L M : List (Str × β)}, (kys M).Nodup → getL (mrg L M) c = (getL M c).or (getL L c)
  | L, [], _ => rfl
  | L, (a, b) :: M, h => by
    obtain ⟨n1, n2⟩ := List.nodup_cons.mp h
    rw [mrg_cons, getL_mrg n2, getL_putL, getL_cons]
    by_cases z : c = a
    · subst z
      have : getL M c = none := getL_none.mpr n1
      rw [this, if_pos rfl, if_pos rfl]; rfl
    · rw [if_neg z, if_neg (Ne.symm z)]
theorem dcN_dk {g : β → D} {M : List (Str × β)} {ρ : En} : dcN (some (M.map (fun p => ((.inr p.1 : Key), g p.2)), ρ)) = .ok (dkO g M) ρ := by
  show R.ok (.dct ((M.map fun p => ((.inr p.1 : Key), g p.2)).map fun p => (p.1, .sh p.2))) ρ = _
  rw [List.map_map]; rfl
theorem lcK_F {ρ : En} (I : En → Prop) (p : α → Bool) (f : α → O) (xs : List α) (hl : xs.length ≤ 1000000) (h0 : I (wipeE ρ vs)) (h : ∀ x ∈ xs, ∀ ρ, I ρ → ∃ ρ1, tg (e x) ρ = some ρ1 ∧ ∃ ρ2, t ρ1 = .ok (.sh (.bl (p x))) ρ2 ∧ (p x = false → I (wipeE ρ2 vs)) ∧ (p x = true → ∃ ρ3, me ρ2 = .ok (f x) ρ3 ∧ I (wipeE ρ3 vs))) :
    ∃ ρ', lcK vs tg (some t) me ρ (some (xs.map e)) = .ok (.lst ((xs.filter p).map f)) ρ' ∧ I ρ' := by
  obtain ⟨ρ', e1, h1⟩ := lcF (tg := tg) (me := me) (vs := vs) (e := e) I p f xs [] _ h h0
  refine ⟨ρ', ?_, h1⟩
  rw [lcK_some (by rw [List.length_map]; exact hl), e1, lcN_some, List.nil_append]
/-! the same, said by what comes out -/
theorem lcFW {ρ : En} (I : En → Prop) (p : α → Bool) (f : α → O) (xs : List α) (hl : xs.length ≤ 1000000) (h0 : I (wipeE ρ vs)) (h : ∀ x ∈ xs, ∀ ρ, I ρ → okT (tg (e x) ρ) fun ρ1 => okE (t ρ1) fun o ρ2 => o = .sh (.bl (p x)) ∧ (p x = false → I (wipeE ρ2 vs)) ∧ (p x = true → okE (me ρ2) fun o ρ3 => o = f x ∧ I (wipeE ρ3 vs))) :
    okE (lcK vs tg (some t) me ρ (some (xs.map e))) fun o ρ' => o = .lst ((xs.filter p).map f) ∧ I ρ' := by
  obtain ⟨ρ', e1, h1⟩ := lcK_F (t := t) (me := me) (tg := tg) (e := e) I p f xs hl h0 fun x m ρ hi => by
    obtain ⟨ρ1, q1, o, ρ2, q2, rfl, q3, q4⟩ := h x m ρ hi
    refine ⟨ρ1, q1, ρ2, q2, q3, fun hp => ?_⟩
    obtain ⟨o, ρ3, q5, rfl, q6⟩ := q4 hp
    exact ⟨ρ3, q5, q6⟩
  exact ⟨_, ρ', e1, rfl, h1⟩
theorem set_set {ρ : En} {i : Nat} {a b : Sl} : (ρ.set i a).set i b = ρ.set i b := List.set_set ..
theorem wipe1 {ρ : En} {v : Nat} : wipeE ρ [v] = ρ.set v .no := rfl
theorem wipe2 {ρ : En} {v w : Nat} : wipeE ρ [v, w] = (ρ.set w .no).set v .no := rfl
end
end DL
set_option Elab.async false
set_option linter.all false
set_option autoImplicit false
set_option maxRecDepth 20000
/-! PW: what comes out, step by step: wE of an expression, wO of a statement. -/
namespace DL
open PySem PySem.Spec PyProof.Rows L2
inductive wE (Q : O → En → Prop) : R → Prop where
  | mk {o : O} {ρ : En} (h : Q o ρ) : wE Q (.ok o ρ)
inductive wO (N : En → Prop) (T : O → En → Prop) (B C : En → Prop) : Out → Prop where
  | next {ρ : En} (h : N ρ) : wO N T B C (.next ρ)
  | ret {o : O} {ρ : En} (h : T o ρ) : wO N T B C (.ret o ρ)
  | brk {ρ : En} (h : B ρ) : wO N T B C (.brk ρ)
  | cont {ρ : En} (h : C ρ) : wO N T B C (.cont ρ)
inductive wT (Q : En → Prop) : Option En → Prop where
  | mk {ρ : En} (h : Q ρ) : wT Q (some ρ)
abbrev noE : En → Prop := fun _ => False
section
variable {Q Q' : O → En → Prop} {N N' B C : En → Prop} {T T' : O → En → Prop} {P : En → Prop} {o : O} {ρ ρ1 : En} {r : R} {u : Out} {i j n : Nat} {d : D} {m ma mb : E} {ms : List E}
theorem wE_ok : wE Q (.ok o ρ) = Q o ρ := propext ⟨fun h => by cases h; assumption, .mk⟩
theorem wE_exc {x : Exn} : wE Q (.exc x ρ) = False := propext ⟨fun h => (by cases h), False.elim⟩
theorem wE_stuck : wE Q .stuck = False := propext ⟨fun h => (by cases h), False.elim⟩
theorem wO_next : wO N T B C (.next ρ) = N ρ := propext ⟨fun h => by cases h; assumption, .next⟩
theorem wO_ret : wO N T B C (.ret o ρ) = T o ρ := propext ⟨fun h => by cases h; assumption, .ret⟩
theorem wO_brk : wO N T B C (.brk ρ) = B ρ := propext ⟨fun h => by cases h; assumption, .brk⟩
theorem wO_cont : wO N T B C (.cont ρ) = C ρ := propext ⟨fun h => by cases h; assumption, .cont⟩
theorem wO_exc {x : Exn} : wO N T B C (.exc x ρ) = False := propext ⟨fun h => (by cases h), False.elim⟩
theorem wO_stuck : wO N T B C .stuck = False := propext ⟨fun h => (by cases h), False.elim⟩
theorem wT_some : wT P (some ρ) = P ρ := propext ⟨fun h => by cases h; assumption, .mk⟩
theorem wT_none : wT P none = False := propext ⟨fun h => (by cases h), False.elim⟩
theorem wE_bind {k : O → E} : wE Q (r.bind k) = wE (fun o ρ => wE Q (k o ρ)) r := by cases r <;> simp only [R.bind, wE_ok, wE_exc, wE_stuck]
theorem wO_toO {k : O → En → Out} : wO N T B C (r.toO k) = wE (fun o ρ => wO N T B C (k o ρ)) r := by cases r <;> simp only [R.toO, wE_ok, wE_exc, wE_stuck, wO_exc, wO_stuck]
theorem wO_then {k : Sm} : wO N T B C (u.andThen k) = wO (fun ρ => wO N T B C (k ρ)) T B C u := by cases u <;> simp only [Out.andThen, wO_next, wO_ret, wO_brk, wO_cont, wO_exc, wO_stuck]
theorem wE_back : wE Q (u.back n) = wO (fun ρ => Q (.sh .non) (backs n ρ)) (fun o ρ => Q o (backs n ρ)) noE noE u := by cases u <;> simp only [Out.back, wO_next, wO_ret, wO_brk, wO_cont, wO_exc, wO_stuck, wE_ok, wE_exc, wE_stuck]
theorem wE_after : wE Q (after r ρ) = wE (fun o _ => Q o ρ) r := by cases r <;> simp only [after, wE_ok, wE_exc, wE_stuck]
def headB (K : O → Prop) : En → Prop
  | .b o :: _ => K o
  | _ => False
theorem headB_b {K : O → Prop} : headB K (.b o :: ρ) = K o := rfl
theorem wE_afterB : wE Q (afterB r i ρ) = wE (fun o ρb => headB (fun o' => Q o (ρ.set i ((ρ.getD i .no).re o'))) ρb) r := by
  cases r with
  | ok o ρb => rcases ρb with _ | ⟨_ | _ | _, ρb⟩ <;> simp only [afterB, headB, wE_ok, wE_exc, wE_stuck]
  | exc x ρb => rcases ρb with _ | ⟨_ | _ | _, ρb⟩ <;> simp only [afterB, headB, wE_ok, wE_exc, wE_stuck]
  | stuck => simp only [afterB, wE_stuck]
theorem ra_nl {k : List O → E} : RA.bind (evs [] ρ) k = k [] ρ := rfl
theorem ra_cs {k : List O → E} : RA.bind (evs (m :: ms) ρ) k = (m ρ).bind fun o ρ1 => RA.bind (evs ms ρ1) fun os ρ2 => k (o :: os) ρ2 := by
  rw [evs_cs]
  cases m ρ with
  | ok o ρ1 => show RA.bind (consA o (evs ms ρ1)) k = RA.bind (evs ms ρ1) _; cases evs ms ρ1 <;> rfl
  | _ => rfl
theorem sPar_w (h : i ≠ j) : sPar i j ma mb ρ = (ma ρ).toO fun o1 ρ1 => (mb ρ1).toO fun o2 ρ2 => (En.put ρ2 j o2).andThen fun ρ3 => En.put ρ3 i o1 := by
  rw [sPar_ev h, evs_cs]
  cases ma ρ with
  | ok o1 ρ1 =>
    show parK i j (consA o1 (evs [mb] ρ1)) = (mb ρ1).toO _
    rw [evs_cs]
    cases mb ρ1 <;> rfl
  | _ => rfl
theorem wO_if {c : Prop} [Decidable c] {u' : Out} (h1 : c → wO N T B C u) (h2 : ¬ c → wO N T B C u') : wO N T B C (if c then u else u') := by split <;> rename_i h; exact h1 h; exact h2 h
theorem wE_lend : wE Q (lendR ρ r) = wE (fun o _ => ownO o = true ∧ Q o ρ) r := by
  cases r with
  | ok o ρ1 =>
    by_cases h : ownO o = true
    · simp only [lendR, h, if_true, wE_ok, true_and]
    · simp only [lendR, h, if_false, wE_ok, wE_stuck, false_and]
      simp [wE_stuck]
  | exc x ρ1 => simp only [lendR, wE_exc, wE_stuck]
  | stuck => simp only [lendR, wE_stuck]
theorem own_bl {b : Bool} : ownO (.sh (.bl b)) = true := rfl
theorem own_int {b : Int} : ownO (.sh (.int b)) = true := rfl
theorem own_str {b : Str} : ownO (.sh (.str b)) = true := rfl
theorem own_non : ownO (.sh .non) = true := rfl
theorem wE.mono (h : wE Q r) (k : ∀ o ρ, Q o ρ → Q' o ρ) : wE Q' r := by
  cases h with
  | mk h => exact .mk (k _ _ h)
theorem wE.of (h : r = .ok o ρ) (k : Q o ρ) : wE Q r := by rw [h]; exact .mk k
theorem wE.ex (h : wE Q r) : ∃ o ρ, r = .ok o ρ ∧ Q o ρ := by
  cases h with
  | mk h => exact ⟨_, _, rfl, h⟩
theorem okE.w (h : okE r Q) : wE Q r := by obtain ⟨o, ρ, e, h⟩ := h; rw [e]; exact .mk h
theorem wE.okE (h : wE Q r) : okE r Q := h.ex
theorem okT.w {r : Option En} (h : okT r P) : wT P r := by obtain ⟨ρ, e, h⟩ := h; rw [e]; exact .mk h
theorem wT.okT {r : Option En} (h : wT P r) : okT r P := by
  cases h with
  | mk h => exact ⟨_, rfl, h⟩
theorem wO.mono (h : wO N T B C u) (k : ∀ ρ, N ρ → N' ρ) (kt : ∀ o ρ, T o ρ → T' o ρ) : wO N' T' B C u := by
  cases h with
  | next h => exact .next (k _ h)
  | ret h => exact .ret (kt _ _ h)
  | brk h => exact .brk h
  | cont h => exact .cont h
theorem wO_asg {tg : Tg} : wO N T B C (asgK (tg d ρ)) = wT N (tg d ρ) := by cases tg d ρ <;> simp only [asgK, wO_next, wO_stuck, wT_some, wT_none]
/-! loops -/
theorem wFor {α : Type} {f : α → D} {tg : Tg} {body : Sm} {xs : List α} (I : List α → En → Prop) (h0 : I xs ρ) (hs : ∀ x xs ρ, I (x :: xs) ρ → wT (fun ρ1 => wO (I xs) T N (I xs) (body ρ1)) (tg (f x) ρ)) (hn : ∀ ρ, I [] ρ → N ρ) : wO N T B C (forL tg body (xs.map f) ρ) := by
  induction xs generalizing ρ with
  | nil => exact .next (hn ρ h0)
  | cons x xs ih =>
    obtain ⟨ρ1, e, h2⟩ := (hs x xs ρ h0).okT
    rw [List.map_cons]
    unfold forL
    rw [e]
    dsimp only
    generalize body ρ1 = b at h2
    cases h2 with
    | next h => exact ih h
    | cont h => exact ih h
    | brk h => exact .next h
    | ret h => exact .ret h
/-- a value is folded -/
theorem wFold {α σ : Type} {f : α → D} {tg : Tg} {body : Sm} {xs : List α} {s : σ} (I : σ → En → Prop) (step : σ → α → σ) (h0 : I s ρ) (hs : ∀ x ∈ xs, ∀ s ρ, I s ρ → wT (fun ρ1 => wO (I (step s x)) T noE (I (step s x)) (body ρ1)) (tg (f x) ρ)) (hn : ∀ ρ, I (xs.foldl step s) ρ → N ρ) : wO N T B C (forL tg body (xs.map f) ρ) := by
  induction xs generalizing ρ s with
  | nil => exact .next (hn ρ h0)
  | cons x xs ih =>
    obtain ⟨ρ1, e, h2⟩ := (hs x List.mem_cons_self s ρ h0).okT
    rw [List.map_cons]
    unfold forL
    rw [e]
    dsimp only
    have hr := fun {ρ2} (h : I (step s x) ρ2) => ih h (fun y m => hs y (List.mem_cons_of_mem _ m)) hn
    generalize body ρ1 = b at h2
    cases h2 with
    | next h => exact hr h
    | cont h => exact hr h
    | brk h => exact h.elim
    | ret h => exact .ret h
/-- a loop in which nothing is kept but what I says -/
theorem wInv {α : Type} {f : α → D} {tg : Tg} {body : Sm} {xs : List α} (I : En → Prop) (h0 : I ρ) (hs : ∀ x ∈ xs, ∀ ρ, I ρ → wT (fun ρ1 => wO I T noE I (body ρ1)) (tg (f x) ρ)) (hn : ∀ ρ, I ρ → N ρ) : wO N T B C (forL tg body (xs.map f) ρ) :=
  wFold (σ := Unit) (s := ()) (fun _ => I) (fun s _ => s) h0 (fun x m _ ρ h => hs x m ρ h) hn
/-! comprehensions -/
variable {α β : Type} {vs : List Nat} {tg : Tg} {t me mk : E} {e : α → D} {xs : List α}
theorem wLcF (I : En → Prop) (p : α → Bool) (f : α → O) (hl : xs.length ≤ 1000000) (h0 : I (wipeE ρ vs)) (h : ∀ x ∈ xs, ∀ ρ, I ρ → wT (fun ρ1 => wE (fun o ρ2 => o = .sh (.bl (p x)) ∧ (p x = false → I (wipeE ρ2 vs)) ∧ (p x = true → wE (fun o ρ3 => o = f x ∧ I (wipeE ρ3 vs)) (me ρ2))) (t ρ1)) (tg (e x) ρ)) (hn : ∀ ρ', I ρ' → Q (.lst ((xs.filter p).map f)) ρ') : wE Q (lcK vs tg (some t) me ρ (some (xs.map e))) :=
  (lcFW (me := me) (t := t) (tg := tg) (e := e) I p f xs hl h0 fun x m ρ hi => let ⟨ρ1, e1, h1⟩ := wT.okT (h x m ρ hi); ⟨ρ1, e1, let ⟨o, ρ2, e2, h2, h3, h4⟩ := wE.okE h1; ⟨o, ρ2, e2, h2, h3, fun hp => wE.okE (h4 hp)⟩⟩).w.mono fun o ρ' ⟨e1, h1⟩ => by rw [e1]; exact hn ρ' h1
end
end DL
set_option Elab.async false
set_option linter.all false
set_option autoImplicit false
set_option maxRecDepth 100000
/-! SPR: == with itself, and repr, of data. -/
namespace DL
open PySem PySem.Spec L2 TL
def EqS (n : Nat) (d : D) : Prop := eqN n d d = some true
theorem eqs_int {n : Nat} {i : Int} : EqS (n + 1) (.int i) := by show some (i == i) = some true; simp
theorem eqs_non {n : Nat} : EqS (n + 1) .non := rfl
theorem ne_self_d {d : D} (h : EqS 60 d) : dNe d d = some (.sh (.bl false)) := by unfold dNe; rw [h]; rfl
/-! ### repr -/
def RpS (w dep : Nat) (d : D) : Prop := ∃ p, d.py = some p ∧ p.showable = true ∧ p.depth ≤ dep ∧ p.shown.length ≤ w
theorem RpS.mono {w w' dep dep' : Nat} {d : D} (h : RpS w dep d) (h1 : w ≤ w') (h2 : dep ≤ dep') : RpS w' dep' d := by
  obtain ⟨p, a, b, c, e⟩ := h
  exact ⟨p, a, b, by omega, by omega⟩
def rpr (d : D) : Str := ((d.py).map PyData.shown).getD default
theorem repr_d {w dep : Nat} {d : D} (h : RpS w dep d) (hw : w ≤ 1000000) (hd : dep ≤ 60) : dRepr [d] = some (.sh (.str (rpr d))) := by
  obtain ⟨p, a, b, c, e⟩ := h
  show d.py.bind _ = _
  unfold rpr
  rw [a]
  exact if_pos ⟨b, by omega, by omega⟩
theorem rps_non : RpS 4 1 .non := ⟨_, rfl, rfl, by decide, by decide +kernel⟩
theorem rps_bl {b : Bool} : RpS 5 1 (.bl b) := ⟨_, rfl, rfl, by cases b <;> decide +kernel, by cases b <;> decide +kernel⟩
theorem rps_int {i : Int} (h0 : 0 ≤ i) (h : i < 1000000000000000000000000000000) : RpS 30 1 (.int i) := by
  obtain ⟨n, rfl⟩ := Int.eq_ofNat_of_zero_le h0
  refine ⟨_, rfl, ?_, by simp [PyData.depth], ?_⟩
  · have h1 : n < 2 ^ 100 := by omega
    by_cases z : n = 0
    · subst z; decide +kernel
    · have := (Nat.log2_lt z).mpr h1
      simp [PyData.showable]; omega
  · rw [PyData.shown_int, len_tl, tl_num]
    exact numL_len (by decide) (by omega)
theorem rps_str {x : Str} {k : Nat} (hl : x.length ≤ k) (hx : ∀ c ∈ tl x, c < 4294967296) : RpS (10 * k + 2) 1 (.str x) := by
  refine ⟨_, rfl, rfl, by simp [PyData.depth], ?_⟩
  rw [PyData.shown_str]
  have := StrLaws.reprText_len x (fun c m => by have := hx c m; omega)
  omega
theorem rps_all {w dep : Nat} : ∀ {ds : List D}, (∀ d ∈ ds, RpS w dep d) → ∃ ps, D.pys ds = some ps ∧ PyData.showableAll ps = true ∧ PyData.depthAll ps ≤ dep ∧ ps.length = ds.length ∧ ((PyData.shownAll ps).map (·.length)).sum ≤ ds.length * w
  | [], _ => ⟨[], rfl, rfl, Nat.zero_le _, rfl, Nat.zero_le _⟩
  | d :: ds, h => by
    obtain ⟨p, h1, h2, h3, h4⟩ := h d List.mem_cons_self
    obtain ⟨ps, k1, k2, k3, k4, k5⟩ := rps_all fun y m => h y (List.mem_cons_of_mem _ m)
    refine ⟨p :: ps, ?_, ?_, ?_, by rw [List.length_cons, List.length_cons, k4], ?_⟩
    · unfold D.pys; rw [h1, k1]; rfl
    · unfold PyData.showableAll; rw [h2, k2]; rfl
    · unfold PyData.depthAll; omega
    · unfold PyData.shownAll
      rw [List.map_cons, List.sum_cons, List.length_cons, Nat.add_mul]
      omega
theorem rps_lst {w dep k : Nat} {ds : List D} (hl : ds.length ≤ k) (h : ∀ d ∈ ds, RpS w dep d) : RpS (k * (w + 2) + 2) (dep + 1) (.lst ds) := by
  obtain ⟨ps, k1, k2, k3, k4, k5⟩ := rps_all h
  refine ⟨.list ps, ?_, ?_, ?_, ?_⟩
  · unfold D.py; rw [k1]; rfl
  · unfold PyData.showable; exact k2
  · unfold PyData.depth; omega
  · rw [PyData.shown_list, Str.length_append, Str.length_append]
    have := StrLaws.join_length_le (Str.ofString ", ") (PyData.shownAll ps)
    rw [PyData.shownAll_length] at this
    have e1 : (Str.ofString "[").length = 1 := by decide +kernel
    have e2 : (Str.ofString "]").length = 1 := by decide +kernel
    have e3 : (Str.ofString ", ").length = 2 := by decide +kernel
    rw [e3] at this
    rw [e1, e2]
    have m1 : ds.length * w ≤ k * w := Nat.mul_le_mul_right _ hl
    have m2 : ps.length * 2 ≤ k * 2 := by omega
    rw [Nat.mul_add]
    omega
theorem rps_tup {w dep k : Nat} {ds : List D} (hl : ds.length ≤ k) (h : ∀ d ∈ ds, RpS w dep d) : RpS (k * (w + 2) + 3) (dep + 1) (.tup ds) := by
  obtain ⟨ps, k1, k2, k3, k4, k5⟩ := rps_all h
  refine ⟨.tuple ps, ?_, ?_, ?_, ?_⟩
  · unfold D.py; rw [k1]; rfl
  · unfold PyData.showable; exact k2
  · unfold PyData.depth; omega
  · rw [PyData.shown_tuple, Str.length_append, Str.length_append]
    have := StrLaws.join_length_le (Str.ofString ", ") (PyData.shownAll ps)
    rw [PyData.shownAll_length] at this
    have e1 : (Str.ofString "(").length = 1 := by decide +kernel
    have e2 : (Str.ofString (if (ps.length == 1) = true then ",)" else ")")).length ≤ 2 := by split <;> decide +kernel
    have e3 : (Str.ofString ", ").length = 2 := by decide +kernel
    rw [e3] at this
    rw [e1]
    have m1 : ds.length * w ≤ k * w := Nat.mul_le_mul_right _ hl
    have m2 : ps.length * 2 ≤ k * 2 := by omega
    rw [Nat.mul_add]
    omega
end DL
set_option Elab.async false
set_option linter.all false
set_option autoImplicit false
set_option maxRecDepth 20000
/-! SP1: what the shared functions do: kinds of values. -/
local macro_rules
  | `(tactic| simp? only [$xs,*]) => `(tactic| simp (maxDischargeDepth := 60) -implicitDefEqProofs only [$xs,*, DL.ds_map_sh, ite_self, DL.wE_ok, DL.wO_next, DL.wO_ret, DL.wO_brk, DL.wO_cont, DL.wT_some, DL.wE_bind, DL.wO_toO, DL.wO_then, DL.wE_back, DL.wE_after, DL.headB_b, DL.wE_afterB, DL.ra_nl, DL.ra_cs, DL.sPar_w, DL.wE_lend, DL.own_bl, DL.own_int, DL.own_str, DL.own_non, DL.wO_asg, DL.eq_int, DL.ne_int, DL.eq_str, DL.ne_str, Bool.not_eq_true', decide_eq_false_iff_not, DL.okT_some, DL.okE_ok, DL.okN_next, DL.eLend_ev, DL.lend_v, DL.lend_b, DL.lend_n, DL.lendR_bl, DL.lendR_int, DL.lendR_str, DL.lendR_non, DL.frk_lend, List.getElem?_map, List.length_map, DL.varK_dk, DL.varK_strs, DL.dk_d, DL.strsO_d, DL.view_dk, DL.view_ch, DL.len_dk, DL.len_ch, DL.items_dk, DL.vals_dk, DL.keys_dk, DL.it_ch, DL.dict_dk, DL.list_dk, DL.list_ch, DL.in_dk, DL.notin_dk, DL.isi_dk, DL.isi_ch_lt, DL.dct0_dk, DL.eDct0, DL.eGet2_ev, DL.isDctR_dk, DL.get2K_int, DL.eGetP2_ev, DL.getP2K_dk, DL.getPK_int, DL.peekD, DL.eCBP_ev, DL.cbPK_some, DL.fl_int, DL.fl_bl, DL.fl_str, DL.eBinPR_ev, DL.binPRK_some, DL.ePopX_ev, DL.popXK_strs, DL.popXK_dk, DL.sAsg_ev, DL.asgK_some, DL.parK_ok, DL.eBm_ev, DL.eTy_ev, DL.isT_str, DL.isT_lst, DL.isT_ch, DL.prt_none, DL.prt_some, DL.prtI_int, DL.eSl_ev, DL.eCallK_ev, DL.eClr_ev, DL.clrK_dk, DL.gset, List.length_set, DL.getD_sv, List.getD_eq_getElem?_getD, Option.getD_some, DL.frk_sv, DL.frk_sn, DL.frk_sb, DL.frS_v, DL.frS_no, DL.frS_0, DL.frS_1, DL.putK_fr, DL.set1_ev, DL.set1K_fr, DL.tgt_nm, DL.tgt_2, DL.tgt_3, DL.forL_nil, DL.set_set, DL.wipe1, DL.wipe2, Nat.reduceLT, Nat.reduceEqDiff, Nat.zero_ne_one, ne_eq, not_false_eq_true, reduceIte, DL.mkFn, DL.ini, DL.sSeq, DL.sIf_ev, DL.sRet, DL.retV_ev, DL.ret_v, DL.sRetN, DL.sSet, DL.sDrop, DL.sNext, DL.sStore_ev, DL.eBin, DL.eUn, DL.eVar_ev, DL.var_sh, DL.var_lst, DL.var_dct, DL.eC_ev, DL.eAnd_ev, DL.eOr_ev, DL.eNot_ev, DL.notR_bl, DL.eIf_ev, DL.tstR_bl, DL.eAllI_ev, DL.allK_some, DL.allN_some, DL.eLc_ev, DL.lcK_some, DL.lcN_some, DL.eDc_ev, DL.dcK_some, DL.dcN_dk, DL.sForI_ev, DL.forK_some, DL.tstO_bl, DL.eLst, DL.eTup, DL.eCB, DL.eCall, DL.eCallB_ev, DL.ePix_ev, DL.guardR_some, DL.guardO_some, DL.pixK_some, DL.oSetO_some, DL.storeN_some, DL.callBK_some, DL.after_ok, DL.afterB_ok, DL.slO_v, DL.slO_b, DL.slO_no, DL.re_b, DL.re_v, DL.re_no, DL.put_ev, DL.put_no, DL.put_v, DL.then_next, DL.then_ret, DL.back_next, DL.back_ret, DL.backs, DL.bind_ok, DL.toO_ok, DL.of_some, DL.ra_ok, DL.d_sh, DL.d_lst, DL.d_dct, DL.ds_nil, DL.ds_cons, DL.vw_int, DL.vw_str, DL.vw_bl, DL.vw_non, DL.vw_lst, DL.vw_tup, DL.vw_dct, DL.vw_scr, DL.vw_op, DL.add_int, DL.sub_int, DL.lt_int, DL.gt_int, DL.le_int, DL.ge_int, DL.max_int, DL.min_int, DL.len_lst, DL.len_tup, DL.len_scr, DL.len_dct, DL.mod_int, DL.fdv_int, DL.pow_int, DL.mul_int, DL.box0, DL.box1, DL.box2, DL.box3, DL.sbox0, DL.sbox3, true_or, or_true, and_true, true_and, and_self, List.cons_append, List.nil_append, List.append_nil, List.replicate, List.getElem?_cons_zero, List.getElem?_cons_succ, List.getD_cons_zero, List.getD_cons_succ, List.map_cons, List.map_nil, List.set_cons_zero, List.set_cons_succ, List.take_succ_cons, List.take_zero, List.take_nil, List.length_cons, List.length_nil, Option.isSome_some, Option.bind_some, Option.map_some, if_true, if_false, decide_true, decide_false, Bool.not_true, Bool.not_false, Bool.false_eq_true, Bool.true_and, Bool.false_and, decide_eq_true_eq, Int.reduceLT, Int.reduceLE, Int.reducePow, Int.reduceNeg, Int.reduceToNat, Nat.reduceAdd, Nat.reduceLeDiff])
  | `(tactic| simp? only [$xs,*] at $h:ident) => `(tactic| (revert $h:ident; simp? only [$xs,*]; intro $h:ident))
namespace DH
open DL PySem
abbrev Key := L2.Key
def letters : List Nat := (Str.ofString "abcdefghijklmnopqrstuvwxyz").cps.toList
def isCh (c : Str) : Bool := decide (1 ≤ c.length ∧ c.length ≤ 8) && c.cps.toList.all fun x => decide (x ∈ letters)
theorem isi_str_str {c : Str} : dIsi [.str c, .op (.ty "str")] = some (.sh (.bl true)) := rfl
theorem isi_int_int {n : Int} : dIsi [.int n, .op (.ty "int")] = some (.sh (.bl true)) := rfl
theorem isi_int_bool {n : Int} : dIsi [.int n, .op (.ty "bool")] = some (.sh (.bl false)) := rfl
theorem q_is_whole {v a b : Int} : f_is_whole [.sh (.int v), .sh (.int a), .sh (.int b)] = .ok (.sh (.bl (decide (a ≤ v ∧ v ≤ b)))) [.no, .no, .no] := by
  simp? only [f_is_whole, m_is_whole, isi_int_int, isi_int_bool, eChn]
  by_cases h : a ≤ v <;> by_cases h2 : v ≤ b <;> simp [h, h2, back_ret, backs, toO_ok, bind_ok, tstR]
theorem len_str {x : Str} (h : x.length ≤ 1000000) : dLen [.str x] = some (.sh (.int x.length)) := if_pos h
theorem tg_nm {i : Nat} {d : D} {ρ : En} : TD.tg (.nm i) d ρ = ρ.set1 i d := rfl
theorem tg_no {i : Nat} {d : D} {ρ : En} (h : ρ[i]? = some .no) : TD.tg (.nm i) d ρ = some (ρ.set i (.v (.sh d))) := by rw [tg_nm]; unfold En.set1; rw [h]
theorem in_sign {x : Nat} {z : Str} : dIn (.str ⟨#[x]⟩) (.str z) = some (.sh (.bl (decide (x ∈ z.cps.toList)))) := rfl
end DH
set_option Elab.async false
set_option linter.all false
set_option autoImplicit false
set_option maxRecDepth 20000
/-! SP2: looks and moves. -/
namespace DH
open DL PySem
abbrev Lv := List (Str × Int)
def isMv (L : Lv) : Bool := decide (L.length ≤ 60) && L.all fun p => isCh p.1 && decide (0 ≤ p.2 ∧ p.2 ≤ 100)
/-- a dict of channels and levels as it stands in a look: good channels, levels from least on, no channel twice -/
structure LvOk (least : Int) (L : Lv) : Prop where
  nd : (kys L).Nodup
  ln : L.length ≤ 60
  ch : ∀ p ∈ L, isCh p.1 = true
  lo : ∀ p ∈ L, least ≤ p.2
  hi : ∀ p ∈ L, p.2 ≤ 100
theorem LvOk.mv {a : Int} {L : Lv} (h : LvOk a L) (ha : 0 ≤ a) : isMv L = true := by
  unfold isMv
  rw [Bool.and_eq_true]
  refine ⟨by simpa using h.ln, List.all_eq_true.mpr fun p m => ?_⟩
  have h1 := h.ch p m
  have h2 := h.lo p m
  have h3 := h.hi p m
  simp [h1]; omega
/-- {c: levels[c] for c in sorted(levels)} -/
theorem len_srt {α : Type} [Inhabited α] {L : List (Str × α)} : (srt L).length = L.length := by
  unfold srt; rw [List.length_map, (srtS_perm _).length_eq]; simp [kys]
end DH
set_option Elab.async false
set_option linter.all false
set_option autoImplicit false
set_option maxRecDepth 20000
/-! SP3: texts; what is drawn. -/
namespace DH
open DL PySem PySem.Spec L2 TL
/-! ### slices -/
/-! ### items of lists -/
theorem atI_nn {α : Type} {xs : List α} {i : Int} {x : α} (h0 : 0 ≤ i) (h : xs[i.toNat]? = some x) : atI xs i = some x := by
  have hl := (List.getElem?_eq_some_iff.mp h).1
  unfold atI ixN
  rw [if_pos h0, if_pos (by omega), Option.bind_some, h]
theorem ix_l {ds : List D} {i : Int} {d : D} (h0 : 0 ≤ i) (h : ds[i.toNat]? = some d) : dIx (.lst ds) (.int i) = some (.sh d) := by
  show (atI ds i).map O.sh = _
  rw [atI_nn h0 h]; rfl
theorem ix_str {x : Str} {i : Int} {c : Nat} (hx : x.length ≤ 1000000) (h0 : 0 ≤ i) (h : (tl x)[i.toNat]? = some c) : dIx (.str x) (.int i) = some (.sh (.str ⟨#[c]⟩)) := by
  show (if x.length ≤ 1000000 then (atI x.cps.toList i).map fun c => O.sh (.str ⟨#[c]⟩) else none) = _
  rw [if_pos hx, atI_nn h0 h]; rfl
/-! ### a box of four numbers, from which a cell's things are drawn -/
def OkB (n : Int) (o : O) : Prop := ∃ a b c t, o = box a b c t ∧ 0 ≤ a ∧ (0 ≤ b ∧ b < 2147483648) ∧ (0 ≤ c ∧ c < 2147483648) ∧ 0 ≤ t ∧ t ≤ n
theorem OkB.mono {n m : Int} {o : O} (h : OkB n o) (k : n ≤ m) : OkB m o := by
  obtain ⟨a, b, c, t, e, h1, h2, h3, h4, h5⟩ := h
  exact ⟨a, b, c, t, e, h1, h2, h3, h4, by omega⟩
def TakeOk (take : List O → R) : Prop := ∀ (n : Int) (o : O) (m : Int), OkB n o → n ≤ 1000000 → 0 < m → m < 340282366920938463463374607431768211456 →
  ∃ r o', take [o, .sh (.int m)] = .ok (.sh (.int r)) [.b o', .no] ∧ 0 ≤ r ∧ r < m ∧ OkB (n + 1) o'
theorem TakeOk.w {take : List O → R} (T : TakeOk take) {n : Int} {o : O} {m : Int} (hb : OkB n o) (hn : n ≤ 1000000) (h1 : 0 < m) (h2 : m < 340282366920938463463374607431768211456) : wE (fun q ρ => ∃ (r : Int) (o' : O), q = .sh (.int r) ∧ ρ = [.b o', .no] ∧ 0 ≤ r ∧ r < m ∧ OkB (n + 1) o') (take [o, .sh (.int m)]) := by
  obtain ⟨r, o', e, h3, h4, h5⟩ := T n o m hb hn h1 h2
  rw [e]
  exact ⟨r, o', rfl, rfl, h3, h4, h5⟩
/-- the laws' own way to draw: three numbers differ -/
def m_take (c1 c2 c3 : Int) : Sm := (sSeq (sIf (eLend (eBin dGt (eBin dIx (eVar 0) (eC (.int 0))) (eC (.int 0)))) (sSeq (sSet 2 (eBin dMod (ePix 0 (eC (.int 0))) (eVar 1))) (sSeq (sStore 0 (eC (.int 0)) (eBin dFdv (ePix 0 (eC (.int 0))) (eVar 1))) (sRetV 2))) sNext) (sSeq (sStore 0 (eC (.int 3)) (eLend (eBin dAdd (eBin dIx (eVar 0) (eC (.int 3))) (eC (.int 1))))) (sSeq (sSet 3 (ePix 0 (eC (.int 3)))) (sSeq (sSet 4 (eLend (eBin dMod (eBin dPow (eBin dAdd (eBin dAdd (eBin dMul (eBin dIx (eVar 0) (eC (.int 1))) (eBin dAdd (eBin dMul (eC (.int 2)) (eVar 3)) (eC (.int 3)))) (eBin dMul (eBin dMul (eC (.int c1)) (eVar 3)) (eVar 3))) (eC (.int c2))) (eC (.int 5))) (eC (.int 2147483647))))) (sRet (eLend (eBin dMod (eBin dFdv (eBin dMod (eBin dPow (eBin dAdd (eBin dAdd (eVar 4) (eBin dMul (eBin dIx (eVar 0) (eC (.int 2))) (eVar 3))) (eC (.int c3))) (eC (.int 3))) (eC (.int 2147483579))) (eC (.int 16))) (eVar 1))))))))
def f_take (c1 c2 c3 : Int) : List O → R := mkFn 2 3 [true] (m_take c1 c2 c3)
theorem ix40 {a b c t : Int} : dIx (.lst [.int a, .int b, .int c, .int t]) (.int 0) = some (.sh (.int a)) := rfl
theorem ix41 {a b c t : Int} : dIx (.lst [.int a, .int b, .int c, .int t]) (.int 1) = some (.sh (.int b)) := rfl
theorem ix42 {a b c t : Int} : dIx (.lst [.int a, .int b, .int c, .int t]) (.int 2) = some (.sh (.int c)) := rfl
theorem ix43 {a b c t : Int} : dIx (.lst [.int a, .int b, .int c, .int t]) (.int 3) = some (.sh (.int t)) := rfl
theorem take_ok {c1 c2 c3 : Int} (k1 : 0 ≤ c1 ∧ c1 < 1000000) (k2 : 0 ≤ c2 ∧ c2 < 1000000) (k3 : 0 ≤ c3 ∧ c3 < 1000000) : TakeOk (f_take c1 c2 c3) := by
  rintro n o m ⟨a, b, c, t, rfl, ha, hb, hc, ht, htn⟩ hn hm hm3
  simp? only [f_take, m_take,  hm, hm3, ix40, ix41, ix42, ix43]
  by_cases h0 : 0 < a
  · simp? only [h0, hm, hm3]
    refine ⟨_, _, rfl, Int.emod_nonneg _ (by omega), Int.emod_lt_of_pos _ hm, _, _, _, _, rfl, Int.ediv_nonneg ha (by omega), hb, hc, ht, by omega⟩
  · have b1 : -18446744073709551616 < b := by omega
    have b2 : b < 18446744073709551616 := by omega
    have c1' : -18446744073709551616 < c := by omega
    have c2' : c < 18446744073709551616 := by omega
    have d1' : -18446744073709551616 < c1 := by omega
    have d2' : c1 < 18446744073709551616 := by omega
    have t1 : -18446744073709551616 < t + 1 := by omega
    have t2 : t + 1 < 18446744073709551616 := by omega
    have p1 : 0 ≤ b * (2 * (t + 1) + 3) := Int.mul_nonneg hb.1 (by omega)
    have p2 : b * (2 * (t + 1) + 3) ≤ 2147483648 * 2000005 := Int.mul_le_mul (by omega) (by omega) (by omega) (by omega)
    have q0 : 0 ≤ c1 * (t + 1) := Int.mul_nonneg k1.1 (by omega)
    have q0' : c1 * (t + 1) ≤ 1000000 * 1000001 := Int.mul_le_mul (by omega) (by omega) (by omega) (by omega)
    have q1 : 0 ≤ c1 * (t + 1) * (t + 1) := Int.mul_nonneg q0 (by omega)
    have q2 : c1 * (t + 1) * (t + 1) ≤ 1000001000000 * 1000001 := Int.mul_le_mul (by omega) (by omega) (by omega) (by omega)
    have r1 : 0 ≤ c * (t + 1) := Int.mul_nonneg hc.1 (by omega)
    have r2 : c * (t + 1) ≤ 2147483648 * 1000001 := Int.mul_le_mul (by omega) (by omega) (by omega) (by omega)
    have e1 : -18446744073709551616 < b * (2 * (t + 1) + 3) + c1 * (t + 1) * (t + 1) + c2 := by omega
    have e2 : b * (2 * (t + 1) + 3) + c1 * (t + 1) * (t + 1) + c2 < 18446744073709551616 := by omega
    generalize hX : (b * (2 * (t + 1) + 3) + c1 * (t + 1) * (t + 1) + c2) = X at *
    have m1 : 0 ≤ X ^ 5 % 2147483647 := Int.emod_nonneg _ (by decide)
    have m2 : X ^ 5 % 2147483647 < 2147483647 := Int.emod_lt_of_pos _ (by decide)
    have e3 : -18446744073709551616 < X ^ 5 % 2147483647 + c * (t + 1) + c3 := by omega
    have e4 : X ^ 5 % 2147483647 + c * (t + 1) + c3 < 18446744073709551616 := by omega
    simp? only [h0, hm, hm3, b1, b2, c1', c2', d1', d2', t1, t2, hX, e1, e2, e3, e4, ix40, ix41, ix42, ix43]
    exact ⟨_, _, rfl, Int.emod_nonneg _ (by omega), Int.emod_lt_of_pos _ hm, _, _, _, _, rfl, ha, hb, hc, by omega, by omega⟩
theorem q_law_box (c : Int) : wE (fun o ρ => OkB 0 o) (f__law_box_k01 [.sh (.int c)]) := by
  simp? only [f__law_box_k01, m__law_box_k01]
  refine ⟨_, _, _, _, rfl, ?_, ⟨Int.emod_nonneg _ (by decide), ?_⟩, ⟨Int.emod_nonneg _ (by decide), ?_⟩, by decide, by decide⟩
  · split <;> omega
  · have := Int.emod_lt_of_pos c (show (0 : Int) < 2147483629 by decide); omega
  · have := Int.emod_lt_of_pos c (show (0 : Int) < 2147483587 by decide); omega
end DH
set_option Elab.async false
set_option linter.all false
set_option autoImplicit false
set_option maxRecDepth 100000
/-! SP4: channels that are drawn. -/
namespace DH
open DL PySem PySem.Spec L2 TL
def sg (c : Nat) : Str := ⟨#[c]⟩
end DH
set_option Elab.async false
set_option linter.all false
set_option autoImplicit false
set_option maxRecDepth 100000
/-! SP5: dicts that are drawn; many channels; sorted levels. -/
namespace DH
open DL PySem PySem.Spec L2 TL
structure Drawn (cs : List Str) (least : Int) (L : Lv) : Prop where
  nd : (kys L).Nodup
  ln : L.length ≤ cs.length
  sub : ∀ c ∈ kys L, c ∈ cs
  lo : ∀ p ∈ L, least ≤ p.2
  hi : ∀ p ∈ L, p.2 ≤ 100
theorem Drawn.ok {cs : List Str} {least : Int} {L : Lv} (h : Drawn cs least L) (hc : ∀ c ∈ cs, isCh c = true) (hl : cs.length ≤ 60) : LvOk least L :=
  ⟨h.nd, Nat.le_trans h.ln hl, fun p m => hc _ (h.sub _ (List.mem_map.mpr ⟨p, m, rfl⟩)), h.lo, h.hi⟩
end DH
set_option Elab.async false
set_option linter.all false
set_option autoImplicit false
set_option maxRecDepth 100000
/-! SP6: the highest of looks, looks scaled. -/
namespace DH
open DL PySem PySem.Spec L2 TL
def fS (s : Sl) : Prop := ∀ o, s ≠ .b o
theorem fS_no : fS .no := fun _ h => nomatch h
theorem fS_v {o : O} : fS (.v o) := fun _ h => nomatch h
theorem frS_f {s : Sl} (h : fS s) : frS (some s) = True := eq_true ⟨s, rfl, h⟩
theorem len_sub {α : Type} [BEq α] [LawfulBEq α] : ∀ {xs ys : List α}, xs.Nodup → (∀ x ∈ xs, x ∈ ys) → xs.length ≤ ys.length
  | [], _, _, _ => Nat.zero_le _
  | x :: xs, ys, nd, h => by
    obtain ⟨n1, n2⟩ := List.nodup_cons.mp nd
    have hx : x ∈ ys := h x List.mem_cons_self
    have ih := len_sub (ys := ys.erase x) n2 fun y m => (List.mem_erase_of_ne (fun z => n1 (by rw [← z]; exact m))).mpr (h y (List.mem_cons_of_mem _ m))
    rw [List.length_erase_of_mem hx] at ih
    have := List.length_pos_of_mem hx
    rw [List.length_cons]; omega
theorem len_lv {α : Type} {F : List (Str × α)} {C : List Str} (nd : (kys F).Nodup) (h : ∀ c ∈ kys F, c ∈ C) : F.length ≤ C.length := by
  have := len_sub nd h
  simpa [kys] using this
theorem mem_kys_of {α : Type} {L : List (Str × α)} {p : Str × α} (m : p ∈ L) : p.1 ∈ kys L := List.mem_map.mpr ⟨p, m, rfl⟩
/-! == and repr -/
theorem LvOk.srt {a : Int} {L : Lv} (h : LvOk a L) : LvOk a (srt L) := by
  have hm : ∀ p ∈ DL.srt L, p ∈ L := fun p m => by
    have h1 := getL_of_mem (c := p.1) (v := p.2) (nodup_srt h.nd) (by cases p; exact m)
    rw [getL_srt] at h1
    have := getL_mem h1
    cases p; exact this
  exact ⟨nodup_srt h.nd, by rw [len_srt]; exact h.ln, fun p m => h.ch p (hm p m), fun p m => h.lo p (hm p m), fun p m => h.hi p (hm p m)⟩
/-! the highest -/
def hiStep (F : Lv) (p : Str × Int) : Lv := putL F p.1 (max p.2 ((getL F p.1).getD 0))
def hiL (Ls : List Lv) : Lv := Ls.foldl (fun F L => L.foldl hiStep F) []
structure HiOk (C : List Str) (F : Lv) : Prop where
  nd : (kys F).Nodup
  sub : ∀ c ∈ kys F, c ∈ C
  lo : ∀ p ∈ F, 1 ≤ p.2
  hi : ∀ p ∈ F, p.2 ≤ 100
theorem HiOk.step {C : List Str} {F : Lv} (h : HiOk C F) {p : Str × Int} (hc : p.1 ∈ C) (h1 : 1 ≤ p.2) (h2 : p.2 ≤ 100) : HiOk C (hiStep F p) := by
  have hv : (getL F p.1).getD 0 ≤ 100 := by
    cases e : getL F p.1 with
    | none => simp
    | some w => have := h.hi _ (getL_mem e); simpa using this
  refine ⟨nodup_putL h.nd, fun c m => ?_, fun q m => ?_, fun q m => ?_⟩
  · unfold hiStep at m
    rw [kys_putL] at m
    split at m
    · exact h.sub c m
    · rcases List.mem_append.mp m with m | m
      · exact h.sub c m
      · simp at m; subst m; exact hc
  · rcases mem_putL m with m | rfl
    · exact h.lo q m
    · show 1 ≤ max p.2 _; omega
  · rcases mem_putL m with m | rfl
    · exact h.hi q m
    · show max p.2 _ ≤ 100; omega
theorem HiOk.fold {C : List Str} : ∀ {L F : Lv}, HiOk C F → (∀ p ∈ L, p.1 ∈ C ∧ 1 ≤ p.2 ∧ p.2 ≤ 100) → HiOk C (L.foldl hiStep F)
  | [], F, h, _ => h
  | p :: L, F, h, k => by
    obtain ⟨a, b, c⟩ := k p List.mem_cons_self
    exact HiOk.fold (L := L) (F := hiStep F p) (h.step a b c) fun q m => k q (List.mem_cons_of_mem _ m)
theorem HiOk.all {C : List Str} : ∀ {Ls : List Lv} {F : Lv}, HiOk C F → (∀ L ∈ Ls, LvOk 1 L ∧ ∀ c ∈ kys L, c ∈ C) → HiOk C (Ls.foldl (fun F L => L.foldl hiStep F) F)
  | [], F, h, _ => h
  | L :: Ls, F, h, k => by
    obtain ⟨a, b⟩ := k L List.mem_cons_self
    exact HiOk.all (Ls := Ls) (F := L.foldl hiStep F) (HiOk.fold h fun p m => ⟨b _ (mem_kys_of m), a.lo p m, a.hi p m⟩) fun q m => k q (List.mem_cons_of_mem _ m)
theorem HiOk.nil {C : List Str} : HiOk C [] := ⟨by simp [kys], fun _ m => by simp [kys] at m, fun _ m => (nomatch m), fun _ m => (nomatch m)⟩
theorem HiOk.ok {C : List Str} {F : Lv} (h : HiOk C F) (hC : C.length ≤ 60) (hc : ∀ c ∈ C, isCh c = true) : LvOk 1 F := ⟨h.nd, Nat.le_trans (len_lv h.nd h.sub) hC, fun p m => hc _ (h.sub _ (mem_kys_of m)), h.lo, h.hi⟩
/-! scaled -/
def scL (L : Lv) (k : Int) : Lv := (L.map fun p => (p.1, (p.2 * k + 50) / 100)).filter fun p => decide (0 < p.2)
/-! dicts that are filled along sorted names -/
/-! so many channels -/
/-! lists -/
theorem ix_scr {ns : List Int} {i : Int} {x : Int} (h0 : 0 ≤ i) (h : ns[i.toNat]? = some x) : dIx (.scr ns) (.int i) = some (.sh (.int x)) := by
  show (atI ns i).map (fun n => O.sh (.int n)) = _
  rw [atI_nn h0 h]; rfl
end DH
set_option Elab.async false
set_option linter.all false
set_option autoImplicit false
set_option maxRecDepth 100000
/-! SP7: mixing: parts, drivers, the least percentage. -/
namespace DH
open DL PySem PySem.Spec L2 TL
def lvOf (L : Lv) (c : Str) (q : Int) : Int := ((getL L c).getD 0 * q + 50) / 100
theorem mul100 {a b : Int} (h0 : 0 ≤ a) (h1 : a ≤ 100) (h2 : 0 ≤ b) (h3 : b ≤ 100) : 0 ≤ a * b ∧ a * b ≤ 10000 :=
  ⟨Int.mul_nonneg h0 h2, by have : a * b ≤ 100 * 100 := Int.mul_le_mul h1 h3 h2 (by decide); omega⟩
theorem int_int {i : Int} : dInt [.int i] = some (.sh (.int i)) := rfl
def lvs (ps : List (Lv × Int)) (c : Str) : List Int := ps.map fun p => lvOf p.1 c p.2
def mx (vs : List Int) : Int := maxI (0 :: vs)
/-! the least percentage -/
end DH
set_option Elab.async false
set_option linter.all false
set_option autoImplicit false
set_option maxRecDepth 100000
/-! SP8: faders mixed. -/
namespace DH
open DL PySem PySem.Spec L2 TL
def msL (ps : List (Lv × Int)) : List Lv := ps.map fun p => srt (scL p.1 p.2)
/-! the law's own -/
def duStep (q : Int) (F : Lv) (r : Str × Int) : Lv := putL F r.1 (max ((getL F r.1).getD 0) ((r.2 * q + 50) / 100))
/-! what comes out -/
def ktL (F lim : Lv) : Lv := F.map fun p => (p.1, min p.2 ((getL lim p.1).getD 100))
def kpL (F lim : Lv) : Lv := (ktL F lim).filter fun p => decide (0 < p.2)
def foL (ps : List (Lv × Int)) : Lv := srt (hiL (msL ps))
def outL (ps : List (Lv × Int)) (g : Int) (lim : Lv) : Lv := srt (scL (kpL (foL ps) lim) g)
end DH
set_option Elab.async false
set_option linter.all false
set_option autoImplicit false
set_option maxRecDepth 100000
/-! SP9: output and what is due. -/
namespace DH
open DL PySem PySem.Spec L2 TL
theorem isN_non : dIsN .non .non = some (.sh (.bl true)) := rfl
/-! the law's -/
structure DuOk (C : List Str) (F : Lv) : Prop where
  nd : (kys F).Nodup
  sub : ∀ c ∈ kys F, c ∈ C
  lo : ∀ p ∈ F, 0 ≤ p.2
  hi : ∀ p ∈ F, p.2 ≤ 100
theorem DuOk.put {C : List Str} {F : Lv} {c : Str} {v : Int} (h : DuOk C F) (hc : c ∈ C) (h0 : 0 ≤ v) (h1 : v ≤ 100) : DuOk C (putL F c v) := by
  refine ⟨nodup_putL h.nd, fun d m => ?_, fun q m => ?_, fun q m => ?_⟩
  · rw [kys_putL] at m
    split at m
    · exact h.sub d m
    · rcases List.mem_append.mp m with m | m
      · exact h.sub d m
      · simp at m; subst m; exact hc
  · rcases mem_putL m with m | rfl
    · exact h.lo q m
    · exact h0
  · rcases mem_putL m with m | rfl
    · exact h.hi q m
    · exact h1
theorem DuOk.len {C : List Str} {F : Lv} (h : DuOk C F) : F.length ≤ C.length := len_lv h.nd h.sub
theorem DuOk.get {C : List Str} {F : Lv} (h : DuOk C F) {c : Str} {d : Int} (h0 : 0 ≤ d) (h1 : d ≤ 100) : 0 ≤ (getL F c).getD d ∧ (getL F c).getD d ≤ 100 := by
  cases e : getL F c with
  | none => exact ⟨h0, h1⟩
  | some w =>
    have a1 := h.lo _ (getL_mem e)
    have a2 := h.hi _ (getL_mem e)
    exact ⟨a1, a2⟩
theorem DuOk.nil {C : List Str} : DuOk C [] := ⟨by simp [kys], fun _ m => by simp [kys] at m, fun _ m => (nomatch m), fun _ m => (nomatch m)⟩
theorem LvOk.get {L : Lv} (h : LvOk 0 L) {c : Str} {d : Int} (h0 : 0 ≤ d) (h1 : d ≤ 100) : 0 ≤ (getL L c).getD d ∧ (getL L c).getD d ≤ 100 := by
  cases e : getL L c with
  | none => exact ⟨h0, h1⟩
  | some w =>
    have a1 := h.lo _ (getL_mem e)
    have a2 := h.hi _ (getL_mem e)
    exact ⟨a1, a2⟩
theorem DuOk.step {C : List Str} {F : Lv} {q : Int} {r : Str × Int} (h : DuOk C F) (hc : r.1 ∈ C) (h0 : 0 ≤ r.2) (h1 : r.2 ≤ 100) (q0 : 0 ≤ q) (q1 : q ≤ 100) : DuOk C (duStep q F r) := by
  have b := h.get (c := r.1) (d := 0) (by decide) (by decide)
  have m := mul100 h0 h1 q0 q1
  exact h.put hc (by omega) (by omega)
end DH
set_option Elab.async false
set_option linter.all false
set_option autoImplicit false
set_option maxRecDepth 100000
/-! SP10: moved looks, moves between looks. -/
namespace DH
open DL PySem PySem.Spec L2 TL
theorem kys_delL {α : Type} {L : List (Str × α)} {c : Str} : (kys (delL L c)).Sublist (kys L) := (List.filter_sublist).map _
/-- looks over the channels C -/
structure COk (a : Int) (C : List Str) (L : Lv) : Prop where
  nd : (kys L).Nodup
  sub : ∀ c ∈ kys L, c ∈ C
  lo : ∀ p ∈ L, a ≤ p.2
  hi : ∀ p ∈ L, p.2 ≤ 100
structure CH (C : List Str) : Prop where
  ln : C.length ≤ 60
  ch : ∀ c ∈ C, isCh c = true
theorem COk.ok {a : Int} {C : List Str} {L : Lv} (h : COk a C L) (H : CH C) : LvOk a L := ⟨h.nd, Nat.le_trans (len_lv h.nd h.sub) H.ln, fun p m => H.ch _ (h.sub _ (mem_kys_of m)), h.lo, h.hi⟩
theorem COk.len {a : Int} {C : List Str} {L : Lv} (h : COk a C L) (H : CH C) : L.length ≤ 60 := (h.ok H).ln
theorem COk.put {a : Int} {C : List Str} {L : Lv} {c : Str} {v : Int} (h : COk a C L) (hc : c ∈ C) (h0 : a ≤ v) (h1 : v ≤ 100) : COk a C (putL L c v) := by
  refine ⟨nodup_putL h.nd, fun d m => ?_, fun q m => ?_, fun q m => ?_⟩
  · rw [kys_putL] at m
    split at m
    · exact h.sub d m
    · rcases List.mem_append.mp m with m | m
      · exact h.sub d m
      · simp at m; subst m; exact hc
  · rcases mem_putL m with m | rfl
    · exact h.lo q m
    · exact h0
  · rcases mem_putL m with m | rfl
    · exact h.hi q m
    · exact h1
theorem COk.del {a : Int} {C : List Str} {L : Lv} {c : Str} (h : COk a C L) : COk a C (delL L c) :=
  ⟨h.nd.sublist kys_delL, fun d m => h.sub d (kys_delL.subset m), fun p m => h.lo p (List.mem_filter.mp m).1, fun p m => h.hi p (List.mem_filter.mp m).1⟩
theorem COk.nil {a : Int} {C : List Str} : COk a C [] := ⟨by simp [kys], fun _ m => by simp [kys] at m, fun _ m => (nomatch m), fun _ m => (nomatch m)⟩
theorem COk.srt {a : Int} {C : List Str} {L : Lv} (h : COk a C L) : COk a C (srt L) := by
  have hm : ∀ p ∈ DL.srt L, p ∈ L := fun p m => by
    have h1 := getL_of_mem (c := p.1) (v := p.2) (nodup_srt h.nd) (by cases p; exact m)
    rw [getL_srt] at h1
    have := getL_mem h1
    cases p; exact this
  exact ⟨nodup_srt h.nd, fun c m => h.sub c (by rw [kys_srt] at m; exact (srtS_perm _).mem_iff.mp m), fun p m => h.lo p (hm p m), fun p m => h.hi p (hm p m)⟩
/-! a look and moves -/
def amS (F : Lv) (p : Str × Int) : Lv := if 0 < p.2 then putL F p.1 p.2 else if p.1 ∈ kys F then delL F p.1 else F
def amL (L M : Lv) : Lv := M.foldl amS L
theorem am_ok {C : List Str} : ∀ {M F : Lv}, COk 1 C F → COk 0 C M → COk 1 C (M.foldl amS F)
  | [], F, h, _ => h
  | p :: M, F, h, k => by
    have e : COk 1 C (amS F p) := by
      unfold amS
      split
      · exact h.put (k.sub _ (mem_kys_of List.mem_cons_self)) (by omega) (k.hi p List.mem_cons_self)
      · split
        · exact h.del
        · exact h
    exact am_ok (M := M) e ⟨(List.nodup_cons.mp k.nd).2, fun c m => k.sub c (List.mem_cons_of_mem _ m), fun q m => k.lo q (List.mem_cons_of_mem _ m), fun q m => k.hi q (List.mem_cons_of_mem _ m)⟩
/-! dicts filled along names -/
def gD (L : Lv) (c : Str) : Int := (getL L c).getD 0
theorem gD_bd {a : Int} {C : List Str} {L : Lv} {c : Str} (h : COk a C L) (ha : 0 ≤ a) : 0 ≤ gD L c ∧ gD L c ≤ 100 := by
  unfold gD
  cases e : getL L c with
  | none => simp
  | some w =>
    have h1 := h.lo _ (getL_mem e)
    have h2 := h.hi _ (getL_mem e)
    dsimp only at h1 h2
    rw [Option.getD_some]
    omega
end DH
set_option Elab.async false
set_option linter.all false
set_option autoImplicit false
set_option maxRecDepth 100000
/-! SP11: moved looks: the functions. -/
namespace DH
open DL PySem PySem.Spec L2 TL
end DH
set_option Elab.async false
set_option linter.all false
set_option autoImplicit false
set_option maxRecDepth 100000
/-! SP12: k12's _law_right. -/
namespace DH
open DL PySem PySem.Spec L2 TL
end DH
set_option Elab.async false
set_option linter.all false
set_option autoImplicit false
set_option maxRecDepth 100000
/-! SP13: own classes evaluated; cues. -/
namespace DH
open DL PySem PySem.Spec L2 TL
/-! ### cues -/
structure Cu where
  n : Int
  mv : Lv
  up : Int
  dn : Int
  bl : Bool
def cuD (r : Cu) : D := .ins "Cue" [("_number", .int r.n), ("_moves", dkD .int r.mv), ("_up", .int r.up), ("_down", .int r.dn), ("_block", .bl r.bl)]
structure CuOk (C : List Str) (r : Cu) : Prop where
  n1 : 1 ≤ r.n
  n2 : r.n ≤ 99999
  mv : COk 0 C r.mv
  sr : srt r.mv = r.mv
  u1 : 0 ≤ r.up
  u2 : r.up ≤ 9999
  d1 : 0 ≤ r.dn
  d2 : r.dn ≤ 9999
section
variable {ρ : En} {r : Cu} {C : List Str}
theorem q_is_number {v : Int} : f_is_number [.sh (.int v)] = .ok (.sh (.bl (decide (1 ≤ v ∧ v ≤ 99999)))) [.no] := by
  simp? only [f_is_number, m_is_number, q_is_whole]
end
section
variable {ρ : En} {o : O} {x1 x2 x3 x4 : O}
theorem isN_int {a : Int} : dIsN (.int a) .non = some (.sh (.bl false)) := rfl
end
end DH
set_option Elab.async false
set_option linter.all false
set_option autoImplicit false
set_option maxRecDepth 100000
/-! SP14: shows. -/
namespace DH
open DL PySem PySem.Spec L2 TL
/-! ### dicts by numbers -/
/-! ### shows -/
def csD (rs : List Cu) : D := .lst (rs.map cuD)
section
variable {ρ : En} {rs ss : List Cu} {r : Cu} {C : List Str}
theorem cs_len : dLen [csD rs] = some (.sh (.int rs.length)) := by
  show some (O.sh (.int (((rs.map cuD).length : Nat) : Int))) = _
  rw [List.length_map]
theorem cs_isi : dIsi [csD rs, .tup [.op (.ty "list"), .op (.ty "tuple")]] = some (.sh (.bl true)) := rfl
/-! sorted by their numbers -/
/-! all channels -/
end
end DH
set_option Elab.async false
set_option linter.all false
set_option autoImplicit false
set_option maxRecDepth 100000
/-! SP15: shows are made; looks. -/
namespace DH
open DL PySem PySem.Spec L2 TL
section
variable {ρ : En} {rs ss : List Cu} {r : Cu} {C : List Str} {o x1 : O}
/-! looks -/
def lkF (F : Lv) (rs : List Cu) : Lv := rs.foldl (fun F r => amL F r.mv) F
theorem lkF_ok {F : Lv} (hF : COk 1 C F) (h : ∀ r ∈ rs, COk 0 C r.mv) : COk 1 C (lkF F rs) := by
  induction rs generalizing F with
  | nil => exact hF
  | cons r rs ih => exact ih (am_ok hF (h r List.mem_cons_self)) fun r m => h r (List.mem_cons_of_mem _ m)
def lkP (rs : List Cu) (i : Nat) : Lv := srt (lkF [] (rs.take (i + 1)))
end
end DH
set_option Elab.async false
set_option linter.all false
set_option autoImplicit false
set_option maxRecDepth 100000
/-! SP16: edits: room, store only. -/
namespace DH
open DL PySem PySem.Spec L2 TL
section
variable {ρ : En} {rs ss : List Cu} {r : Cu} {C : List Str} {o x1 : O} {L M : Lv}
theorem mrg_ok {a : Int} (hL : COk a C L) (hM : COk a C M) : COk a C (mrg L M) := ⟨nodup_mrg hL.nd, fun c m => by
      obtain ⟨p, mp, rfl⟩ := List.mem_map.mp m
      exact (mem_mrg mp).elim (fun z => hL.sub _ (mem_kys_of z)) fun z => hM.sub _ (mem_kys_of z), fun p m => (mem_mrg m).elim (hL.lo p) (hM.lo p), fun p m => (mem_mrg m).elim (hL.hi p) (hM.hi p)⟩
end
/-! store only -/
def stA (M : Lv) (r : Cu) : Cu := {r with mv := srt (mrg r.mv M)}
section
variable {ρ : En} {rs ss : List Cu} {r : Cu} {C : List Str} {o x1 : O} {L M : Lv}
theorem stA_ok (hr : CuOk C r) (hM : COk 0 C M) : CuOk C (stA M r) := ⟨hr.n1, hr.n2, (mrg_ok hr.mv hM).srt, srt_srt (mrg_ok hr.mv hM).nd, hr.u1, hr.u2, hr.d1, hr.d2⟩
theorem lkP_ok (h : ∀ r ∈ rs, COk 0 C r.mv) {i : Nat} : COk 1 C (lkP rs i) := (lkF_ok .nil fun r m => h r (List.mem_of_mem_take m)).srt
theorem modify_ns {α β : Type} {f : α → β} {g : α → α} (hg : ∀ a, f (g a) = f a) : ∀ {l : List α} {i : Nat}, (l.modify i g).map f = l.map f
  | [], i => by simp
  | a :: l, 0 => by simp [hg]
  | a :: l, i + 1 => by simp [modify_ns hg (l := l)]
theorem mem_modify {α : Type} {P : α → Prop} {g : α → α} (hg : ∀ a, P a → P (g a)) : ∀ {l : List α} {i : Nat}, (∀ a ∈ l, P a) → ∀ a ∈ l.modify i g, P a
  | [], i, h, a, m => by simp at m
  | b :: l, 0, h, a, m => by
    simp at m
    rcases m with rfl | m
    · exact hg _ (h b List.mem_cons_self)
    · exact h a (List.mem_cons_of_mem _ m)
  | b :: l, i + 1, h, a, m => by
    simp at m
    rcases m with rfl | m
    · exact h _ List.mem_cons_self
    · exact mem_modify hg (fun a m => h a (List.mem_cons_of_mem _ m)) a m
end
end DH
set_option Elab.async false
set_option linter.all false
set_option autoImplicit false
set_option maxRecDepth 100000
/-! SP17: the laws' own rows, shows and looks. -/
namespace DH
open DL PySem PySem.Spec L2 TL
section
variable {ρ : En} {rs ss : List Cu} {r : Cu} {C : List Str} {o x1 : O} {L M : Lv}
/-- rows: numbers that rise -/
structure RwOk (C : List Str) (b : Int) (rs : List Cu) : Prop where
  ok : ∀ r ∈ rs, CuOk C r
  up : rs.Pairwise fun a b => a.n < b.n
  le : ∀ r ∈ rs, r.n ≤ b
end
end DH
set_option Elab.async false
set_option linter.all false
set_option autoImplicit false
set_option maxRecDepth 100000
/-! SP18: the laws' shows, looks, told cues. -/
namespace DH
open DL PySem PySem.Spec L2 TL
end DH
set_option Elab.async false
set_option linter.all false
set_option autoImplicit false
set_option maxRecDepth 100000
/-! SP19: what store_only stores, as the law says it. -/
namespace DH
open DL PySem PySem.Spec L2 TL
end DH
set_option Elab.async false
set_option linter.all false
set_option autoImplicit false
set_option maxRecDepth 100000
/-! SP20: lists of looks. -/
namespace DH
open DL PySem PySem.Spec L2 TL
section
variable {ρ : En} {rs ss : List Cu} {r : Cu} {C : List Str} {o x1 : O} {L M : Lv} {Ls : List Lv} {i : Nat}
theorem RwOk.snoc {b n : Int} {r : Cu} (h : RwOk C b rs) (hr : CuOk C r) (hn : b < r.n) : RwOk C r.n (rs ++ [r]) := by
  refine ⟨fun a m => ?_, List.pairwise_append.mpr ⟨h.up, List.pairwise_singleton _ _, fun a ma b' mb => ?_⟩, fun a m => ?_⟩
  · rcases List.mem_append.mp m with m | m
    · exact h.ok a m
    · rw [List.mem_singleton.mp m]; exact hr
  · rw [List.mem_singleton.mp mb]; have := h.le a ma; omega
  · rcases List.mem_append.mp m with m | m
    · have := h.le a m; omega
    · rw [List.mem_singleton.mp m]; exact Int.le_refl _
end
end DH
set_option Elab.async false
set_option linter.all false
set_option autoImplicit false
set_option maxRecDepth 100000
/-! SP21: cues put and taken out. -/
namespace DH
open DL PySem PySem.Spec L2 TL
section
variable {ρ : En} {rs ss : List Cu} {r : Cu} {C : List Str} {o x1 : O} {L M : Lv} {Ls : List Lv} {i : Nat} {b : Int}
theorem RwOk.sub (h : RwOk C b rs) (s : ss.Sublist rs) : RwOk C b ss := ⟨fun r m => h.ok r (s.subset m), h.up.sublist s, fun r m => h.le r (s.subset m)⟩
end
end DH
set_option Elab.async false
set_option linter.all false
set_option autoImplicit false
set_option maxRecDepth 100000
/-! SP22: rows that are drawn (k34). -/
namespace DH
open DL PySem PySem.Spec L2 TL
end DH
set_option Elab.async false
set_option linter.all false
set_option autoImplicit false
set_option maxRecDepth 100000
/-! SP23: cues that are cut (k43). -/
namespace DH
open DL PySem PySem.Spec L2 TL
section
variable {ρ : En} {rs ss : List Cu} {r : Cu} {C : List Str} {o x1 : O} {L M : Lv} {Ls : List Lv} {i : Nat} {b : Int}
theorem RwOk.mod {f : Cu → Cu} (h : RwOk C b rs) (hf : ∀ r, CuOk C r → CuOk C (f r)) (hn : ∀ r, (f r).n = r.n) : RwOk C b (rs.modify i f) := by
  have e : (rs.modify i f).map Cu.n = rs.map Cu.n := modify_ns (f := Cu.n) hn
  refine ⟨mem_modify hf h.ok, ?_, fun a m => ?_⟩
  · have h1 : (rs.map Cu.n).Pairwise (· < ·) := List.pairwise_map.mpr h.up
    rw [← e] at h1
    exact List.pairwise_map.mp h1
  · have : a.n ∈ (rs.modify i f).map Cu.n := List.mem_map_of_mem m
    rw [e] at this
    obtain ⟨q, mq, eq⟩ := List.mem_map.mp this
    rw [← eq]; exact h.le q mq
end
end DH
set_option Elab.async false
set_option linter.all false
set_option autoImplicit false
set_option maxRecDepth 100000
/-! SP24: blocks set and removed (k45). -/
namespace DH
open DL PySem PySem.Spec L2 TL
section
variable {ρ : En} {rs ss : List Cu} {r : Cu} {C : List Str} {o x1 : O} {L M F : Lv} {Ls : List Lv} {i : Nat} {b : Int} {ks : List Str}
theorem COk.filter {a : Int} {p : Str × Int → Bool} (h : COk a C L) : COk a C (L.filter p) := ⟨h.nd.sublist (List.filter_sublist.map _), fun c m => h.sub c ((List.filter_sublist.map _).subset m), fun q m => h.lo q (List.mem_filter.mp m).1, fun q m => h.hi q (List.mem_filter.mp m).1⟩
theorem RwOk.set {r' : Cu} (h : RwOk C b rs) (hi : rs[i]? = some r) (hr : CuOk C r') (hn : r'.n = r.n) : RwOk C b (rs.set i r') := by
  have e : (rs.set i r').map Cu.n = rs.map Cu.n := by
    rw [List.map_set, hn]
    apply List.ext_getElem?
    intro j
    rw [List.getElem?_set]
    split
    · rename_i z
      subst z
      rw [if_pos (by rw [List.length_map]; exact (List.getElem?_eq_some_iff.mp hi).1), List.getElem?_map, hi]; rfl
    · rfl
  refine ⟨fun a m => (List.mem_or_eq_of_mem_set m).elim (h.ok a) fun z => z ▸ hr, ?_, fun a m => ?_⟩
  · have h1 : (rs.map Cu.n).Pairwise (· < ·) := List.pairwise_map.mpr h.up
    rw [← e] at h1
    exact List.pairwise_map.mp h1
  · have : a.n ∈ (rs.set i r').map Cu.n := List.mem_map_of_mem m
    rw [e] at this
    obtain ⟨q, mq, eq⟩ := List.mem_map.mp this
    rw [← eq]; exact h.le q mq
end
end DH
set_option Elab.async false
set_option linter.all false
set_option autoImplicit false
set_option maxRecDepth 100000
/-! SP25: blocked, unblocked, and the law's own (k45). -/
namespace DH
open DL PySem PySem.Spec L2 TL
end DH
set_option Elab.async false
set_option linter.all false
set_option autoImplicit false
set_option maxRecDepth 100000
/-! SP26: the law's own blocks (k45). -/
namespace DH
open DL PySem PySem.Spec L2 TL
end DH
set_option Elab.async false
set_option linter.all false
set_option autoImplicit false
set_option maxRecDepth 100000
/-! SP27: looks inserted (k44). -/
namespace DH
open DL PySem PySem.Spec L2 TL
end DH
set_option Elab.async false
set_option linter.all false
set_option autoImplicit false
set_option maxRecDepth 100000
/-! SP28: the law's own inserted looks (k44). -/
namespace DH
open DL PySem PySem.Spec L2 TL
end DH
set_option Elab.async false
set_option linter.all false
set_option autoImplicit false
set_option maxRecDepth 100000
/-! SP29: rows put by the law itself; three names at once (k44). -/
namespace DH
open DL PySem PySem.Spec L2 TL
end DH
set_option Elab.async false
set_option linter.all false
set_option autoImplicit false
set_option maxRecDepth 100000
/-! SP30: the first change (k52). -/
namespace DH
open DL PySem PySem.Spec L2 TL
end DH
set_option Elab.async false
set_option linter.all false
set_option autoImplicit false
set_option maxRecDepth 100000
/-! SP31: the law's own first change; both ways (k52). -/
namespace DH
open DL PySem PySem.Spec L2 TL
end DH
set_option Elab.async false
set_option linter.all false
set_option autoImplicit false
set_option maxRecDepth 100000
/-! SP32: rows otherwise (k52). -/
namespace DH
open DL PySem PySem.Spec L2 TL
end DH
set_option Elab.async false
set_option linter.all false
set_option autoImplicit false
set_option maxRecDepth 100000
/-! SP33: origins and tracked channels (k32). -/
namespace DH
open DL PySem PySem.Spec L2 TL
section
variable {ρ : En} {rs ss : List Cu} {r : Cu} {C : List Str} {c : Str} {L M F : Lv} {i : Nat} {b n : Int}
def mvp (c : Str) (r : Cu) : Bool := decide (c ∈ kys r.mv)
end
end DH
set_option Elab.async false
set_option linter.all false
set_option autoImplicit false
set_option maxRecDepth 100000
/-! SP34: store, with tracking (k41). -/
namespace DH
open DL PySem PySem.Spec L2 TL
section
variable {ρ : En} {rs ss ts : List Cu} {r : Cu} {C : List Str} {c : Str} {L M F : Lv} {i k n h : Nat} {ps : List Str}
def js (a n : Nat) : List Nat := (List.range (n - a)).map fun x => a + x
theorem mem_js {a : Nat} : k ∈ js a n ↔ a ≤ k ∧ k < n := by
  unfold js
  rw [List.mem_map]
  constructor
  · rintro ⟨x, hx, rfl⟩
    have := List.mem_range.mp hx
    omega
  · intro h
    exact ⟨k - a, List.mem_range.mpr (by omega), by omega⟩
theorem js_lt {a : Nat} : (js a n).Pairwise (· < ·) := by
  unfold js
  exact List.pairwise_map.mpr ((List.pairwise_lt_range).imp fun h => by omega)
theorem find_least {p : Nat → Bool} {xs : List Nat} (hs : xs.Pairwise (· < ·)) (e : xs.find? p = some h) : h ∈ xs ∧ p h = true ∧ ∀ k ∈ xs, p k = true → h ≤ k := by
  refine ⟨List.mem_of_find?_eq_some e, List.find?_some e, fun k mk pk => ?_⟩
  induction xs with
  | nil => cases mk
  | cons a xs ih =>
    obtain ⟨h1, h2⟩ := List.pairwise_cons.mp hs
    rw [List.find?_cons] at e
    cases pa : p a with
    | true =>
      rw [pa] at e
      cases e
      rcases List.mem_cons.mp mk with rfl | mk
      · exact Nat.le_refl _
      · exact Nat.le_of_lt (h1 k mk)
    | false =>
      rw [pa] at e
      rcases List.mem_cons.mp mk with rfl | mk
      · rw [pa] at pk; cases pk
      · exact ih h2 e mk
/-- the cue at k moves the channel, or is a wall -/
def hit (rs : List Cu) (c : Str) (k : Nat) : Bool := match rs[k]? with
  | some r => mvp c r || r.bl
  | none => false
def fk (rs : List Cu) (i : Nat) (c : Str) : Option Nat := (js (i + 1) rs.length).find? (hit rs c)
def mvAt (rs : List Cu) (c : Str) (k : Nat) : Bool := match rs[k]? with
  | some r => mvp c r
  | none => true
def addR (c : Str) (v : Int) (r : Cu) : Cu := {r with mv := srt (mrg r.mv [(c, v)])}
def stC (rs : List Cu) (i : Nat) (ts : List Cu) (c : Str) : List Cu := match fk rs i c with
  | some k => if mvAt rs c k = true then ts else ts.modify k (addR c (gD (lkP rs k) c))
  | none => ts
/-- what has become of the rows when the channels ps are done -/
structure StI (C : List Str) (rs : List Cu) (i : Nat) (M : Lv) (ps : List Str) (ts : List Cu) : Prop where
  ok : ∀ r ∈ ts, CuOk C r
  ns : ts.map Cu.n = rs.map Cu.n
  get : ∀ (k : Nat) (r : Cu), rs[k]? = some r → ∃ t, ts[k]? = some t ∧ t.bl = r.bl ∧ ∀ c, getL t.mv c = if k = i then (getL M c).or (getL r.mv c) else if c ∈ ps ∧ fk rs i c = some k ∧ mvp c r = false then some (gD (lkP rs k) c) else getL r.mv c
theorem StI.len (S : StI C rs i M ps ts) : ts.length = rs.length := by
  have := congrArg List.length S.ns
  rwa [List.length_map, List.length_map] at this
theorem addR_ok {v : Int} (hr : CuOk C r) (hc : c ∈ C) (h0 : 0 ≤ v) (h1 : v ≤ 100) : CuOk C (addR c v r) := by
  have hM : COk 0 C [(c, v)] := ⟨by simp [kys], fun d m => by simp [kys] at m; rw [m]; exact hc, fun p m => by simp at m; rw [m]; exact h0, fun p m => by simp at m; rw [m]; exact h1⟩
  exact stA_ok (M := [(c, v)]) hr hM
theorem StI.start (hr : ∀ r ∈ rs, CuOk C r) (hM : COk 0 C M) (hi : i < rs.length) : StI C rs i M [] (rs.modify i (stA M)) := by
  refine ⟨mem_modify (fun r h => stA_ok h hM) hr, modify_ns (f := Cu.n) (g := stA M) fun _ => rfl, fun k r hk => ?_⟩
  rw [List.getElem?_modify, hk]
  by_cases e : i = k
  · subst e
    refine ⟨stA M r, by simp, rfl, fun c => ?_⟩
    rw [if_pos rfl]
    show getL (srt (mrg r.mv M)) c = _
    rw [getL_srt, getL_mrg hM.nd]
  · refine ⟨r, by simp [e], rfl, fun c => ?_⟩
    rw [if_neg (Ne.symm e), if_neg]
    simp
theorem fk_gt (e : fk rs i c = some k) : i < k ∧ k < rs.length := by
  have := mem_js.mp (find_least js_lt e).1
  omega
theorem StI.step (hr : ∀ r ∈ rs, CuOk C r) (S : StI C rs i M ps ts) (hc : c ∈ C) (hp : c ∉ ps) : StI C rs i M (ps ++ [c]) (stC rs i ts c) := by
  have hmv : ∀ r ∈ rs, COk 0 C r.mv := fun r m => (hr r m).mv
  unfold stC
  cases e : fk rs i c with
  | none =>
    refine ⟨S.ok, S.ns, fun k r hk => ?_⟩
    obtain ⟨t, h1, h2, h3⟩ := S.get k r hk
    refine ⟨t, h1, h2, fun d => ?_⟩
    rw [h3]
    by_cases z : k = i
    · rw [if_pos z, if_pos z]
    · rw [if_neg z, if_neg z]
      by_cases y : d = c
      · subst y
        rw [if_neg (fun w => hp w.1), if_neg (fun w => by rw [e] at w; cases w.2.1)]
      · simp [y]
  | some h =>
    dsimp only
    have hg := fk_gt e
    by_cases m : mvAt rs c h = true
    · rw [if_pos m]
      refine ⟨S.ok, S.ns, fun k r hk => ?_⟩
      obtain ⟨t, h1, h2, h3⟩ := S.get k r hk
      refine ⟨t, h1, h2, fun d => ?_⟩
      rw [h3]
      by_cases z : k = i
      · rw [if_pos z, if_pos z]
      · rw [if_neg z, if_neg z]
        by_cases y : d = c
        · subst y
          rw [if_neg (fun w => hp w.1), if_neg]
          rintro ⟨_, w1, w2⟩
          rw [e] at w1
          cases w1
          unfold mvAt at m
          rw [hk] at m
          dsimp only at m
          rw [w2] at m
          cases m
        · simp [y]
    · rw [if_neg m]
      have hP : COk 1 C (lkP rs h) := lkP_ok hmv
      have hb := gD_bd (c := c) hP (by decide)
      refine ⟨mem_modify (fun r hk => addR_ok hk hc hb.1 hb.2) S.ok, (modify_ns (f := Cu.n) (g := addR c (gD (lkP rs h) c)) fun _ => rfl).trans S.ns, fun k r hk => ?_⟩
      obtain ⟨t, h1, h2, h3⟩ := S.get k r hk
      rw [List.getElem?_modify, h1]
      by_cases z : h = k
      · subst z
        have zi : h ≠ i := by omega
        have hm : mvp c r = false := by
          unfold mvAt at m
          rw [hk] at m
          simpa using m
        refine ⟨addR c (gD (lkP rs h) c) t, by simp, h2, fun d => ?_⟩
        show getL (srt (mrg t.mv [(c, gD (lkP rs h) c)])) d = _
        rw [getL_srt, getL_mrg (by simp [kys]), h3, if_neg zi, if_neg zi, getL_cons]
        by_cases y : c = d
        · subst y
          rw [if_pos rfl, Option.some_or, if_pos ⟨by simp, e, hm⟩]
        · rw [if_neg y]
          show (none : Option Int).or _ = _
          rw [Option.none_or]
          simp [Ne.symm y]
      · refine ⟨t, by simp [z], h2, fun d => ?_⟩
        rw [h3]
        by_cases zi : k = i
        · rw [if_pos zi, if_pos zi]
        · rw [if_neg zi, if_neg zi]
          by_cases y : d = c
          · subst y
            rw [if_neg (fun w => hp w.1), if_neg (fun w => by rw [e] at w; exact z (Option.some.inj w.2.1))]
          · simp [y]
end
end DH
set_option Elab.async false
set_option linter.all false
set_option autoImplicit false
set_option maxRecDepth 100000
/-! SP35: store walked, the law's own store (k41). -/
namespace DH
open DL PySem PySem.Spec L2 TL
section
variable {ρ : En} {rs ss ts : List Cu} {r : Cu} {C : List Str} {c : Str} {L M F : Lv} {i k n h : Nat} {ps : List Str}
theorem eShr_ev {m : E} : eShr m ρ = (m ρ).bind fun o ρ1 => .ok (.sh o.d) ρ1 := rfl
/-- behind the cue that is stored into: what later cues look like for a channel that is not done -/
theorem StI.at (S : StI C rs i M ps ts) (hr : rs[k]? = some r) (hk : i < k) (hp : c ∉ ps) : ∃ t, ts[k]? = some t ∧ t.bl = r.bl ∧ (c ∈ kys t.mv ↔ c ∈ kys r.mv) := by
  obtain ⟨t, h1, h2, h3⟩ := S.get k r hr
  refine ⟨t, h1, h2, ?_⟩
  have := h3 c
  rw [if_neg (by omega), if_neg (fun w => hp w.1)] at this
  rw [mem_kys, mem_kys, this]
end
end DH
set_option Elab.async false
set_option linter.all false
set_option autoImplicit false
set_option maxRecDepth 100000
/-! SP36: the law's own store (k41). -/
namespace DH
open DL PySem PySem.Spec L2 TL
end DH
set_option Elab.async false
set_option linter.all false
set_option autoImplicit false
set_option maxRecDepth 100000
/-! SP37: the looks of a stored show (k41). -/
namespace DH
open DL PySem PySem.Spec L2 TL
section
variable {ρ : En} {rs ss ts : List Cu} {r : Cu} {C : List Str} {c : Str} {L M F : Lv} {i k n h : Nat} {ps : List Str}
def wl (rs : List Cu) (k : Nat) : Bool := match rs[k]? with
  | some r => r.bl
  | none => false
def bkL (rs : List Cu) (i : Nat) : List Nat := (js (i + 1) rs.length).filter (wl rs) ++ [rs.length]
def b0 (rs : List Cu) (i : Nat) : Nat := (bkL rs i).headD 0
end
end DH
set_option Elab.async false
set_option linter.all false
set_option autoImplicit false
set_option maxRecDepth 100000
/-! SP38: what is raised; shows with new numbers (k46). -/
namespace DL
open PySem PySem.Spec L2
section
variable {x : Exn} {ρ : En} {c f : Str} {m : E} {o : O}
theorem sRaise_ev : sRaise c f m ρ = (m ρ).toO fun o ρ1 => .exc ⟨c, [(f, o.d)]⟩ ρ1 := rfl
theorem toO_exc {k : O → En → Out} : (R.exc x ρ).toO k = .exc x ρ := rfl
theorem bind_exc {k : O → E} : (R.exc x ρ).bind k = .exc x ρ := rfl
theorem then_exc {k : Sm} : (Out.exc x ρ).andThen k = .exc x ρ := rfl
theorem back_exc {n : Nat} : (Out.exc x ρ).back n = .exc x (backs n ρ) := rfl
theorem after_exc {ρ1 : En} : after (.exc x ρ) ρ1 = .exc x ρ1 := rfl
end
end DL
namespace DH
open DL PySem PySem.Spec L2 TL
end DH
set_option Elab.async false
set_option linter.all false
set_option autoImplicit false
set_option maxRecDepth 100000
/-! SP39: try, evaluated. -/
namespace DL
open PySem PySem.Spec L2
section
variable {isx : Str → Str → Option Bool} {ks : List Kl} {x : Exn} {ρ : En} {h fl : Str} {f : Exn → Sm} {b : Sm} {i j : Nat} {o : Option Nat}
def tryK (isx : Str → Str → Option Bool) (ks : List Kl) : Out → Out
  | .exc x ρ1 => goK isx ks x ρ1
  | r => r
theorem sTry_ev : sTry isx b ks ρ = tryK isx ks (b ρ) := by
  unfold sTry tryK
  rfl
theorem try_exc : tryK isx ks (.exc x ρ) = goK isx ks x ρ := rfl
theorem goK_hit (e : isx x.c h = some true) : goK isx (⟨h, o, f⟩ :: ks) x ρ = Kl.run ⟨h, o, f⟩ x ρ := by
  show (match isx x.c h with | none => _ | some true => _ | some false => _) = _
  rw [e]
theorem kl_some {s : Sl} (e : ρ[i]? = some s) : Kl.run ⟨h, some i, f⟩ x ρ = (f x (ρ.set i .no)).map fun ρ' => ρ'.set i .no := by
  show (match ρ[i]? with | none => _ | some _ => _) = _
  rw [e]; rfl
theorem map_next {k : En → En} : (Out.next ρ).map k = .next (k ρ) := rfl
theorem fLst_ev {fs : Exn → Option (List D)} {ys : List D} (e : fs x = some ys) (l : ys.length ≤ 1000) : fLst j fs x ρ = En.put ρ j (.lst (ys.map .sh)) := by
  unfold fLst
  rw [e]
  exact if_pos l
end
end DL
set_option Elab.async false
set_option linter.all false
set_option autoImplicit false
set_option maxRecDepth 100000
/-! SP40: own ==, nested stores, extend, evaluated; == of cues and shows. -/
namespace DL
open PySem PySem.Spec L2
end DL
namespace DH
open DL PySem PySem.Spec L2 TL
section
variable {r s : Cu} {rs ss : List Cu} {C : List Str} {x : D}
abbrev TS : EqTab := [("Show", f_Show___eq__, pfShow)]
end
end DH
set_option Elab.async false
set_option linter.all false
set_option autoImplicit false
set_option maxRecDepth 100000
/-! SP41: idle moves, lean shows. -/
namespace DH
open DL PySem PySem.Spec L2 TL
end DH
set_option Elab.async false
set_option linter.all false
set_option autoImplicit false
set_option maxRecDepth 100000
/-! SP42: lean shows. -/
namespace DH
open DL PySem PySem.Spec L2 TL
end DH
set_option Elab.async false
set_option linter.all false
set_option autoImplicit false
set_option maxRecDepth 100000
/-! SP43: the law's own lean rows; rows in which moves repeat levels. -/
namespace DH
open DL PySem PySem.Spec L2 TL
section
variable {r : Cu} {rs : List Cu} {C : List Str} {F M : Lv} {c : Str} {ρ : En} {b : Int}
def fld (F : Lv) (rs : List Cu) : Lv := rs.foldl (fun F r => srt (amL F r.mv)) F
end
end DH
set_option Elab.async false
set_option linter.all false
set_option autoImplicit false
set_option maxRecDepth 100000
/-! SP44: rows in which moves repeat levels. -/
namespace DH
open DL PySem PySem.Spec L2 TL
end DH
set_option Elab.async false
set_option linter.all false
set_option autoImplicit false
set_option maxRecDepth 100000
/-! SP45: rows that are near to others (k81, k82). -/
namespace DH
open DL PySem PySem.Spec L2 TL
section
variable {r : Cu} {rs acc : List Cu} {C : List Str} {F M : Lv} {c : Str} {ρ : En} {b k : Int}
def pk (acc : List Cu) (k : Int) : Cu := ((acc.filter fun r => decide (r.n = k)).head?).getD ⟨k, [], 0, 0, false⟩
end
end DH
set_option Elab.async false
set_option linter.all false
set_option autoImplicit false
set_option maxRecDepth 100000
/-! SP46: the text of a cue is some text. -/
namespace DL
open PySem PySem.Spec L2
section
variable {ρ ρ1 : En} {m : E} {ms : List E} {acc y : Str} {i : Int}
def fmtK (ρ1 : En) : D → R
  | .str y => if y.length ≤ 1000000 then .ok (.sh (.str y)) ρ1 else .stuck
  | .int i => if i.natAbs.log2 < 1920 then .ok (.sh (.str (toString i))) ρ1 else .stuck
  | _ => .stuck
theorem eFmt_ev : eFmt m ρ = (m ρ).bind fun o ρ1 => fmtK ρ1 o.d.view := by unfold eFmt fmtK; rfl
theorem fmtK_str (h : y.length ≤ 1000000) : fmtK ρ (.str y) = .ok (.sh (.str y)) ρ := if_pos h
theorem fmtK_int (h : i.natAbs.log2 < 1920) : fmtK ρ (.int i) = .ok (.sh (.str (toString i))) ρ := if_pos h
def jsK (ms : List E) (acc : Str) (ρ1 : En) : D → R
  | .str y => if (acc ++ y).length ≤ 1000000 then eJs ms (acc ++ y) ρ1 else .stuck
  | _ => .stuck
theorem eJs_nil : eJs [] acc ρ = .ok (.sh (.str acc)) ρ := rfl
theorem eJs_cons : eJs (m :: ms) acc ρ = (m ρ).bind fun o ρ1 => jsK ms acc ρ1 o.d.view := rfl
theorem jsK_str (h : (acc ++ y).length ≤ 1000000) : jsK ms acc ρ (.str y) = eJs ms (acc ++ y) ρ := if_pos h
end
end DL
namespace DH
open DL PySem PySem.Spec L2 TL
section
variable {ρ : En} {r : Cu} {C : List Str} {L : Lv} {n t i : Int}
abbrev tx (i : Int) : Str := (toString i : String)
theorem tx_len (h0 : 0 ≤ i) (h : i < 1000000) : (tx i).length ≤ 30 := by
  obtain ⟨p, hp, _, _, hl⟩ := rps_int h0 (show i < 1000000000000000000000000000000 by omega)
  cases hp
  rw [PyData.shown_int] at hl
  exact hl
theorem log_ok (h0 : 0 ≤ i) (h : i < 1000000) : i.natAbs.log2 < 1920 := by
  by_cases z : i.natAbs = 0
  · rw [z]; decide
  · have := (Nat.log2_lt z (k := 20)).mpr (show i.natAbs < 2 ^ 20 by omega)
    omega
theorem str_int (h0 : 0 ≤ i) (h : i < 1000000) : dStr [.int i] = some (.sh (.str (tx i))) := if_pos (log_ok h0 h)
theorem dvm {a b : Int} (h0 : 0 < b) (h1 : b < 1073741824) : dDivmod [.int a, .int b] = some (.sh (.tup [.int (a / b), .int (a % b)])) := if_pos ⟨h0, h1⟩
def rsT (r : Int) : Str := Txt.rstripChars (Txt.zfill (tx r) 2) "0"
theorem rs_all : (List.range 100).all (fun (k : Nat) => decide ((Txt.zfill (tx (k : Int)) 2).length ≤ 30) && decide ((rsT (k : Int)).length ≤ 30)) = true := by decide +kernel
theorem rs_len (h0 : 0 ≤ i) (h : i < 100) : (Txt.zfill (tx i) 2).length ≤ 30 ∧ (rsT i).length ≤ 30 := by
  have := List.all_eq_true.mp rs_all i.toNat (List.mem_range.mpr (by omega))
  rw [Bool.and_eq_true, decide_eq_true_eq, decide_eq_true_eq, show ((i.toNat : Nat) : Int) = i by omega] at this
  exact this
theorem zfill2 {a : Str} : mZfill (.str a) [.int 2] = some (.sh (.str (Txt.zfill a 2))) := by
  show (if PadOk (2 : Int) = true then some (O.sh (.str (Txt.zfill a 2))) else none) = _
  exact if_pos (by decide +kernel)
theorem rstrip0 {a : Str} (h : a.length ≤ 1000000) : mRstripC (.str a) [.str "0"] = some (.sh (.str (Txt.rstripChars a "0"))) := if_pos (decide_eq_true h)
theorem app_le {a b : Str} {k : Nat} (h : a.length + b.length ≤ k) : (a ++ b).length ≤ k := by rw [Str.length_append]; exact h
end
end DH
set_option Elab.async false
set_option linter.all false
set_option autoImplicit false
set_option maxRecDepth 100000
/-! SP47: cues that are made (k21). -/
namespace DH
open DL PySem PySem.Spec L2 TL
end DH
set_option Elab.async false
set_option linter.all false
set_option autoImplicit false
set_option maxRecDepth 100000
/-! SP48: cues by their numbers, put and dropped (k81). -/
namespace DH
open DL PySem PySem.Spec L2 TL
instance : DecidableEq Cu := fun a b => decidable_of_iff (a.n = b.n ∧ a.mv = b.mv ∧ a.up = b.up ∧ a.dn = b.dn ∧ a.bl = b.bl) (by obtain ⟨_, _, _, _, _⟩ := a; obtain ⟨_, _, _, _, _⟩ := b; simp)
section
variable {ρ : En} {r c : Cu} {rs os cs : List Cu} {C : List Str} {n k : Int} {i : Nat}
def byN (cs : List Cu) : List (Int × Cu) := cs.map fun r => (r.n, r)
end
end DH
set_option Elab.async false
set_option linter.all false
set_option autoImplicit false
set_option maxRecDepth 100000
/-! SP49: differences of shows, and of rows (k81). -/
namespace DH
open DL PySem PySem.Spec L2 TL
end DH
set_option Elab.async false
set_option linter.all false
set_option autoImplicit false
set_option maxRecDepth 100000
/-! SP50: edits applied (k81). -/
namespace DH
open DL PySem PySem.Spec L2 TL
end DH
set_option Elab.async false
set_option linter.all false
set_option autoImplicit false
set_option maxRecDepth 100000
/-! SP51: a difference applied gives the other show; the law's right (k81). -/
namespace DL
open PySem PySem.Spec L2
end DL
namespace DH
open DL PySem PySem.Spec L2 TL
end DH
set_option Elab.async false
set_option linter.all false
set_option autoImplicit false
set_option maxRecDepth 100000
/-! SP52: the law's right (k81). -/
namespace DH
open DL PySem PySem.Spec L2 TL
end DH
set_option Elab.async false
set_option linter.all false
set_option autoImplicit false
set_option maxRecDepth 100000
/-! SP53: while; the law's own application of edits; forty rows (k81). -/
namespace DL
open PySem PySem.Spec L2
end DL
namespace DH
open DL PySem PySem.Spec L2 TL
end DH
set_option Elab.async false
set_option linter.all false
set_option autoImplicit false
set_option maxRecDepth 100000
/-! SP54: a choice between two ways on from a base; parts of a cue (k82). -/
namespace DH
open DL PySem PySem.Spec L2 TL
end DH
set_option Elab.async false
set_option linter.all false
set_option autoImplicit false
set_option maxRecDepth 100000
/-! SP55: two cues merged, and two rows (k82). -/
namespace DH
open DL PySem PySem.Spec L2 TL
end DH
set_option Elab.async false
set_option linter.all false
set_option autoImplicit false
set_option maxRecDepth 100000
/-! SP56: merged_parts, and the law's parts (k82). -/
namespace DH
open DL PySem PySem.Spec L2 TL
end DH
set_option Elab.async false
set_option linter.all false
set_option autoImplicit false
set_option maxRecDepth 100000
/-! SP57: what is due, and what is made of it (k82). -/
namespace DH
open DL PySem PySem.Spec L2 TL
section
variable {ρ : En} {r s c o t : Cu} {rs os cs base one other : List Cu} {C : List Str} {n k : Int} {i : Nat} {x y z : D} {L M B : Lv} {w : Str} {b : Option Cu} {cl dl : List (Int × Str)} {ns ms : List Int}
/-! numbers of two shows -/
def kN (cs : List Cu) : List (Key × D) := (byN cs).map fun p => ((.inl p.1 : Key), cuD p.2)
/-- {**one, **other}, by numbers -/
def stO (cs ds : List Cu) : O := .dct (shK (mergeD (mergeD [] (kN cs)) (kN ds)))
end
end DH
set_option Elab.async false
set_option linter.all false
set_option autoImplicit false
set_option maxRecDepth 100000
/-! SP58: the law's due; made_of; merged (k82). -/
namespace DH
open DL PySem PySem.Spec L2 TL
end DH
set_option Elab.async false
set_option linter.all false
set_option autoImplicit false
set_option maxRecDepth 100000
/-! SP59: merged (k82). -/
namespace DH
open DL PySem PySem.Spec L2 TL
end DH
set_option Elab.async false
set_option linter.all false
set_option autoImplicit false
set_option maxRecDepth 100000
/-! SP60: clashes told (k82). -/
namespace DH
open DL PySem PySem.Spec L2 TL
section
variable {ρ : En} {r s c o t : Cu} {rs os cs base one other : List Cu} {C : List Str} {n k : Int} {i : Nat} {x y z : D} {cl dl : List (Int × Str)} {ns ms : List Int} {b : Option Cu}
/-- a clash as it may be -/
structure ClOk (p : Int × Str) : Prop where
  lo : 0 ≤ p.1
  hi : p.1 ≤ 99999
  ln : p.2.length ≤ 9
  ch : ∀ x ∈ tl p.2, x < 4294967296
end
end DH
set_option Elab.async false
set_option linter.all false
set_option autoImplicit false
set_option maxRecDepth 100000
/-! SP61: laws of merges (k96). -/
namespace DH
open DL PySem PySem.Spec L2 TL
end DH
set_option Elab.async false
set_option linter.all false
set_option autoImplicit false
set_option maxRecDepth 100000
/-! SP62: rows replaced, and changed in two halves (k96). -/
namespace DH
open DL PySem PySem.Spec L2 TL
end DH
set_option Elab.async false
set_option linter.all false
set_option autoImplicit false
set_option maxRecDepth 100000
/-! SP63: the laws of one, turned about, two halves merged (k96). -/
namespace DH
open DL PySem PySem.Spec L2 TL
end DH
set_option Elab.async false
set_option linter.all false
set_option autoImplicit false
set_option maxRecDepth 100000
/-! SP64: a show made of a list or tuple of cues, labelled or not; things mixed. -/
namespace DH
open DL PySem PySem.Spec L2 TL
section
variable {ρ : En} {rs ss : List Cu} {r : Cu} {C : List Str} {o x1 : O} {d e : D} {mb : E}
structure CsV (d e : D) (rs : List Cu) : Prop where
  vw : d.view = e
  ev : e = .lst (rs.map cuD) ∨ e = .tup (rs.map cuD)
theorem CsV.len (h : CsV d e rs) : dLen [e] = some (.sh (.int rs.length)) := by
  rcases h.ev with z | z <;> subst z <;> (simp [dLen]; rfl)
theorem CsV.srt (h : CsV d e rs) : dSrtK mb e = dSrtK mb (csD rs) := by
  rcases h.ev with z | z <;> subst z <;> rfl
end
section
variable {take : List O → R} {b : O} {B : Int} {ds : List D}
theorem shs_ds : ∀ {ys : List D}, O.ds (ys.map .sh) = ys
  | [] => rfl
  | y :: ys => by rw [List.map_cons, O.ds, shs_ds]; rfl
end
end DH
set_option Elab.async false
set_option linter.all false
set_option autoImplicit false
set_option maxRecDepth 100000
/-! SP65: looks of shows, right. -/
namespace DH
open DL PySem PySem.Spec L2 TL
end DH
set_option Elab.async false
set_option linter.all false
set_option autoImplicit false
set_option maxRecDepth 100000
/-! SP66: without labels. -/
namespace DL
open PySem PySem.Spec L2 TL
mutual
def lfD : D → Bool
  | .lst xs => lfDs xs
  | .tup xs => lfDs xs
  | .dct ks => lfDk ks
  | .ins _ fs => lfDf fs
  | .exn _ fs => lfDf fs
  | .lab _ _ => false
  | .any => true
  | .non => true
  | .bl _ => true
  | .int _ => true
  | .str _ => true
  | .scr _ => true
  | .op _ => true
  | .gh _ _ => true
def lfDs : List D → Bool
  | [] => true
  | d :: ds => lfD d && lfDs ds
def lfDk : List (Key × D) → Bool
  | [] => true
  | (_, d) :: ds => lfD d && lfDk ds
def lfDf : List (Str × D) → Bool
  | [] => true
  | (_, d) :: ds => lfD d && lfDf ds
end
mutual
def lfO : O → Bool
  | .sh d => lfD d
  | .lst os => lfOs os
  | .tup os => lfOs os
  | .dct ks => lfOk ks
  | .ins _ fs => lfOf fs
  | .tag _ _ => false
def lfOs : List O → Bool
  | [] => true
  | d :: ds => lfO d && lfOs ds
def lfOk : List (Key × O) → Bool
  | [] => true
  | (_, d) :: ds => lfO d && lfOk ds
def lfOf : List (Str × O) → Bool
  | [] => true
  | (_, d) :: ds => lfO d && lfOf ds
end
mutual
theorem lf_D {n : Nat} {T : List (Nat × D)} : ∀ d : D, lfD d = true → stD n d = d ∧ fgD d = d ∧ fiD T d = d
  | .lst xs, h => by have := lf_Ds (n := n) (T := T) xs (by simpa [lfD] using h); simp [stD, fgD, fiD, this.1, this.2.1, this.2.2]
  | .tup xs, h => by have := lf_Ds (n := n) (T := T) xs (by simpa [lfD] using h); simp [stD, fgD, fiD, this.1, this.2.1, this.2.2]
  | .dct xs, h => by have := lf_Dk (n := n) (T := T) xs (by simpa [lfD] using h); simp [stD, fgD, fiD, this.1, this.2.1, this.2.2]
  | .ins _ xs, h => by have := lf_Df (n := n) (T := T) xs (by simpa [lfD] using h); simp [stD, fgD, fiD, this.1, this.2.1, this.2.2]
  | .exn _ xs, h => by have := lf_Df (n := n) (T := T) xs (by simpa [lfD] using h); simp [stD, fgD, fiD, this.1, this.2.1, this.2.2]
  | .lab _ _, h => by simp [lfD] at h
  | .any, _ => by simp [stD, fgD, fiD]
  | .non, _ => by simp [stD, fgD, fiD]
  | .bl _, _ => by simp [stD, fgD, fiD]
  | .int _, _ => by simp [stD, fgD, fiD]
  | .str _, _ => by simp [stD, fgD, fiD]
  | .scr _, _ => by simp [stD, fgD, fiD]
  | .op _, _ => by simp [stD, fgD, fiD]
  | .gh _ _, _ => by simp [stD, fgD, fiD]
theorem lf_Ds {n : Nat} {T : List (Nat × D)} : ∀ d : List D, lfDs d = true → stDs n d = d ∧ fgDs d = d ∧ fiDs T d = d
  | [], _ => by simp [stDs, fgDs, fiDs]
  | d :: ds, h => by
    rw [lfDs, Bool.and_eq_true] at h
    have a := lf_D (n := n) (T := T) d h.1
    have b := lf_Ds (n := n) (T := T) ds h.2
    simp [stDs, fgDs, fiDs, a.1, a.2.1, a.2.2, b.1, b.2.1, b.2.2]
theorem lf_Dk {n : Nat} {T : List (Nat × D)} : ∀ d : List (Key × D), lfDk d = true → stDk n d = d ∧ fgDk d = d ∧ fiDk T d = d
  | [], _ => by simp [stDk, fgDk, fiDk]
  | (_, d) :: ds, h => by
    rw [lfDk, Bool.and_eq_true] at h
    have a := lf_D (n := n) (T := T) d h.1
    have b := lf_Dk (n := n) (T := T) ds h.2
    simp [stDk, fgDk, fiDk, a.1, a.2.1, a.2.2, b.1, b.2.1, b.2.2]
theorem lf_Df {n : Nat} {T : List (Nat × D)} : ∀ d : List (Str × D), lfDf d = true → stDf n d = d ∧ fgDf d = d ∧ fiDf T d = d
  | [], _ => by simp [stDf, fgDf, fiDf]
  | (_, d) :: ds, h => by
    rw [lfDf, Bool.and_eq_true] at h
    have a := lf_D (n := n) (T := T) d h.1
    have b := lf_Df (n := n) (T := T) ds h.2
    simp [stDf, fgDf, fiDf, a.1, a.2.1, a.2.2, b.1, b.2.1, b.2.2]
end
mutual
theorem lf_O {n : Nat} : ∀ o : O, lfO o = true → stO n o = o ∧ fgO o = o
  | .sh d, h => by have := lf_D (n := n) (T := []) d (by simpa [lfO] using h); simp [stO, fgO, this.1, this.2.1]
  | .lst xs, h => by have := lf_Os (n := n) xs (by simpa [lfO] using h); simp [stO, fgO, this.1, this.2]
  | .tup xs, h => by have := lf_Os (n := n) xs (by simpa [lfO] using h); simp [stO, fgO, this.1, this.2]
  | .dct xs, h => by have := lf_Ok (n := n) xs (by simpa [lfO] using h); simp [stO, fgO, this.1, this.2]
  | .ins _ xs, h => by have := lf_Of (n := n) xs (by simpa [lfO] using h); simp [stO, fgO, this.1, this.2]
  | .tag _ _, h => by simp [lfO] at h
theorem lf_Os {n : Nat} : ∀ d : List O, lfOs d = true → stOs n d = d ∧ fgOs d = d
  | [], _ => by simp [stOs, fgOs]
  | d :: ds, h => by
    rw [lfOs, Bool.and_eq_true] at h
    have a := lf_O (n := n) d h.1
    have b := lf_Os (n := n) ds h.2
    simp [stOs, fgOs, a.1, a.2, b.1, b.2]
theorem lf_Ok {n : Nat} : ∀ d : List (Key × O), lfOk d = true → stOk n d = d ∧ fgOk d = d
  | [], _ => by simp [stOk, fgOk]
  | (_, d) :: ds, h => by
    rw [lfOk, Bool.and_eq_true] at h
    have a := lf_O (n := n) d h.1
    have b := lf_Ok (n := n) ds h.2
    simp [stOk, fgOk, a.1, a.2, b.1, b.2]
theorem lf_Of {n : Nat} : ∀ d : List (Str × O), lfOf d = true → stOf n d = d ∧ fgOf d = d
  | [], _ => by simp [stOf, fgOf]
  | (_, d) :: ds, h => by
    rw [lfOf, Bool.and_eq_true] at h
    have a := lf_O (n := n) d h.1
    have b := lf_Of (n := n) ds h.2
    simp [stOf, fgOf, a.1, a.2, b.1, b.2]
end
def lfSl : Sl → Bool
  | .no => true
  | .v o => lfO o
  | .b o => lfO o
section
variable {n i : Nat} {ρ : En} {s : Sl} {o : O} {d : D} {T : List (Nat × D)} {N B C : En → Prop} {Q : O → En → Prop} {u : Out} {r : R}
theorem lf_sl (h : lfSl s = true) : stSl n s = s := by
  cases s with
  | no => rfl
  | v o => show Sl.v (stO n o) = _; rw [(lf_O o h).1]
  | b o => show Sl.b (stO n o) = _; rw [(lf_O o h).1]
theorem lf_map : ∀ {ρ : En}, ρ.all lfSl = true → ρ.map (stSl n) = ρ
  | [], _ => rfl
  | s :: ρ, h => by
    rw [List.all_cons, Bool.and_eq_true] at h
    rw [List.map_cons, lf_sl h.1, lf_map h.2]
theorem lf_tgs (h : lfSl s = true) : tgs (s :: ρ) = tgs ρ := by
  cases s with
  | no => rfl
  | v o => cases o with
    | tag n o => cases h
    | _ => rfl
  | b o => cases o with
    | tag n o => cases h
    | _ => rfl
theorem lf_shs {ds : List D} (h : ∀ d ∈ ds, lfD d = true) : lfO (.lst (ds.map .sh)) = true := by
  show lfOs _ = true
  induction ds with
  | nil => rfl
  | cons d ds ih => rw [List.map_cons, lfOs, ih fun d m => h d (List.mem_cons_of_mem _ m)]; show (lfD d && true) = true; rw [h d List.mem_cons_self]; rfl
theorem shs_all {ds : List D} : (ds.map O.sh).all isSh = true := by
  induction ds with
  | nil => rfl
  | cons d ds ih => rw [List.map_cons, List.all_cons, ih]; rfl
theorem sOwn_ev {rest : Sm} (h : ρ[i]? = some (.v o)) : sOwn n i rest ρ = stOut n (rest ((ρ.map (stSl n)).set i (.v (ownT n (stO n o))))) := by
  unfold sOwn; rw [h]
theorem wO_st : wO N Q B C (stOut n u) = wO (fun ρ => N (ρ.map (stSl n))) (fun o ρ => Q (stO n o) (ρ.map (stSl n))) (fun ρ => B (ρ.map (stSl n))) (fun ρ => C (ρ.map (stSl n))) u := by
  cases u <;> simp only [stOut, wO_next, wO_ret, wO_brk, wO_cont, wO_exc, wO_stuck]
theorem lendRL_ok {F : O → O} {ρ1 : En} (h : noO (F o) = true) (h2 : ρ.all slLst2 = true) : lendRL F ρ (.ok o ρ1) = .ok (F o) ρ := if_pos ⟨h, h2⟩
theorem eLendLF_ev {m : E} : eLendLF m ρ = lendRL fgO ρ (m (ρ.map (Sl.lendF (tgs ρ)))) := rfl
end
end DL
namespace DH
open DL PySem PySem.Spec L2 TL
section
variable {n : Int} {b : O} {rs : List Cu} {r : Cu} {cs : List Str}
theorem lf_box (h : OkB n b) : lfO b = true := by
  obtain ⟨a, b, c, t, rfl, _⟩ := h
  rfl
theorem sh_box (h : OkB n b) : slLst2 (.v b) = true := by
  obtain ⟨a, b, c, t, rfl, _⟩ := h
  rfl
end
end DH
namespace DH
open DL PySem PySem.Spec L2 TL
/-- a slot that stands outside a label's reach -/
structure Cl (s : Sl) : Prop where
  lf : lfSl s = true
  sl : slLst2 s = true
  f : fS s
section
variable {d : D} {ds : List D} {n : Int} {b : O}
theorem Cl.no : Cl .no := ⟨rfl, rfl, fS_no⟩
theorem Cl.sh (h : lfD d = true) : Cl (.v (.sh d)) := ⟨h, rfl, fS_v⟩
theorem Cl.box (h : OkB n b) : Cl (.v b) := ⟨lf_box h, sh_box h, fS_v⟩
end
end DH
namespace DL
open PySem PySem.Spec L2 TL
section
variable {n i : Nat} {ρ : En} {o : O} {d : D} {os : List O} {T : List (Nat × D)}
theorem lendF_v : Sl.lendF T (.v o) = .v (.sh (fiD T o.d)) := rfl
theorem stSl_tag {n : Nat} {o : O} : stSl n (.v (.tag n o)) = .v (stO n o) := by
  show Sl.v (stO n (.tag n o)) = _
  rw [stO, if_pos rfl]
theorem tgs_tag : tgs (.v (.tag n o) :: ρ) = (n, o.d) :: tgs ρ := rfl
end
end DL
set_option Elab.async false
set_option linter.all false
set_option autoImplicit false
set_option maxRecDepth 100000
/-! SP67: fractions in lowest terms, fades, levels (k61, k62, k63). -/
namespace DL
open PySem PySem.Spec L2
end DL
namespace DH
open DL PySem PySem.Spec L2 TL
abbrev Fr := Int × Int
structure Fd where
  s : Int
  e : Int
  b : Fr
  g : Int
section
variable {ρ : En} {fs : List Fd} {f : Fd} {m t b x y : Int} {k n : Nat}
/-! Euclid's steps -/
/-! fades -/
def FrOk (k : Nat) (x : Fr) : Prop := 0 ≤ x.1 ∧ x.1 ≤ 100 * x.2 ∧ 1 ≤ x.2 ∧ x.2 ≤ 20000 ^ k
structure FdOk (k : Nat) (f : Fd) : Prop where
  s0 : 0 ≤ f.s
  se : f.s ≤ f.e
  e1 : f.e ≤ f.s + 10000
  s1 : f.s ≤ 10000
  g0 : 0 ≤ f.g
  g1 : f.g ≤ 100
  b : FrOk k f.b
theorem pow_mono20 {a c : Nat} (h : a ≤ c) : (20000 : Int) ^ a ≤ 20000 ^ c := by
  have := Nat.pow_le_pow_right (n := 20000) (by decide) h
  exact_mod_cast this
theorem FrOk.mono {x : Fr} {j : Nat} (h : FrOk k x) (hk : k ≤ j) : FrOk j x := ⟨h.1, h.2.1, h.2.2.1, Int.le_trans h.2.2.2 (pow_mono20 hk)⟩
theorem FdOk.mono {j : Nat} (h : FdOk k f) (hk : k ≤ j) : FdOk j f := ⟨h.s0, h.se, h.e1, h.s1, h.g0, h.g1, h.b.mono hk⟩
end
end DH
set_option Elab.async false
set_option linter.all false
set_option autoImplicit false
set_option maxRecDepth 100000
/-! SP68: hidden slots, methods that change, borrowed parts, owned dicts, labelled lists: how they are read. -/
namespace DL
open PySem PySem.Spec L2 TL
def appT2 (i : Nat) (o : O) (ρ1 : En) : Option O → R
  | some (.tag n (.lst os)) => if os.length < 1000000 then .ok (.sh .non) (ρ1.set i ((ρ1.getD i .no).re (.tag n (.lst (os ++ [o]))))) else .stuck
  | _ => .stuck
def appTK (i : Nat) (m : E) (ρ : En) : Option O → R
  | some (.tag _ (.lst _)) => (m ρ).bind fun o ρ1 => appT2 i o ρ1 (slO (ρ1.getD i .no))
  | _ => .stuck
section
variable {Q : O → En → Prop} {N B C : En → Prop} {T : O → En → Prop} {ρ ρ1 : En} {i j n : Nat} {m : E} {r : R} {s : Sl} {o : O} {os : List O} {fn : List O → R} {dds : List D} {ms : List E} {c mn : Str} {ps : List PStep} {rest : Sm}
theorem eAppT_ev : eAppT i m ρ = appTK i m ρ (slO (ρ.getD i .no)) := by
  unfold eAppT appTK appT2; rfl
theorem appTK_tag : appTK i m ρ (some (.tag n (.lst os))) = (m ρ).bind fun o ρ1 => appT2 i o ρ1 (slO (ρ1.getD i .no)) := rfl
theorem appT2_tag (h : os.length < 1000000) : appT2 i o ρ1 (some (.tag n (.lst os))) = .ok (.sh .non) (ρ1.set i ((ρ1.getD i .no).re (.tag n (.lst (os ++ [o]))))) := if_pos h
/-! owned dicts -/
end
end DL
set_option Elab.async false
set_option linter.all false
set_option autoImplicit false
set_option maxRecDepth 100000
/-! SP69: a run's fades begun (k61). -/
namespace DH
open DL PySem PySem.Spec L2 TL
abbrev FL := List (Str × List Fd)
end DH
set_option Elab.async false
set_option linter.all false
set_option autoImplicit false
set_option maxRecDepth 100000
/-! SP70: a go, and all goes (k61). -/
namespace DH
open DL PySem PySem.Spec L2 TL
end DH
set_option Elab.async false
set_option linter.all false
set_option autoImplicit false
set_option maxRecDepth 100000
/-! SP71: all goes; runs made; the law's own fades (k61). -/
namespace DH
open DL PySem PySem.Spec L2 TL
structure Go where
  t : Int
  i : Nat
  r : Cu
def goD (g : Go) : D := .tup [.int g.t, .int g.r.n]
/-- goes to cues of a show, at times that rise from b on -/
structure GoOk (rs : List Cu) (b : Int) (gs : List Go) : Prop where
  at' : ∀ g ∈ gs, rs[g.i]? = some g.r ∧ b < g.t ∧ g.t ≤ 9999 ∧ 0 ≤ g.t
  up : gs.Pairwise fun a b => a.t < b.t
section
variable {ρ : En} {fs : List Fd} {f : Fd} {m t b x y n : Int} {k i : Nat} {F F1 F2 : FL} {c : Str} {L : Lv} {r : Cu} {rs : List Cu} {C : List Str} {d : D} {o : O} {gs : List Go} {g : Go} {cs ds : List Str} {φ : Str → List Fd}
theorem GoOk.pre {hs : List Go} (h : GoOk rs b (gs ++ hs)) : GoOk rs b gs := ⟨fun g m => h.at' g (List.mem_append_left _ m), (List.pairwise_append.mp h.up).1⟩
/-! what the goes are in the program -/
/-- goes as a list or a tuple -/
structure GoV (d e : D) (gs : List Go) : Prop where
  vw : d.view = e
  or : e = .lst (gs.map goD) ∨ e = .tup (gs.map goD)
theorem GoV.len {e : D} (h : GoV d e gs) : dLen [e] = some (.sh (.int gs.length)) := by
  rcases h.or with rfl | rfl
  · show some (O.sh (.int ((gs.map goD).length : Nat))) = _; rw [List.length_map]
  · show some (O.sh (.int ((gs.map goD).length : Nat))) = _; rw [List.length_map]
end
end DH
set_option Elab.async false
set_option linter.all false
set_option autoImplicit false
set_option maxRecDepth 100000
/-! SP72: the laws' own rows, goes and fades (k61); levels asked. -/
namespace DH
open DL PySem PySem.Spec L2 TL
end DH
set_option Elab.async false
set_option linter.all false
set_option autoImplicit false
set_option maxRecDepth 100000
/-! SP73: texts of wide numbers; lists of fades; a run lent (k61, k62, k63). -/
set_option exponentiation.threshold 5000
namespace DL
open PySem PySem.Spec L2 TL
end DL
namespace DH
open DL PySem PySem.Spec L2 TL
section
variable {ρ : En} {fs : List Fd} {f : Fd} {m t b x y n : Int} {k i : Nat} {F F1 F2 : FL} {c : Str} {L : Lv} {r : Cu} {rs : List Cu} {C : List Str} {d : D} {o : O} {gs : List Go} {g : Go} {cs ds : List Str} {φ : Str → List Fd} {z : Fr}
theorem ds_mapf {α : Type} {xs : List α} {f : α → D} : O.ds (xs.map fun x => .sh (f x)) = xs.map f := by
  have : (xs.map fun x => O.sh (f x)) = (xs.map f).map .sh := by rw [List.map_map]; rfl
  rw [this, shs_ds]
end
end DH
set_option Elab.async false
set_option linter.all false
set_option autoImplicit false
set_option maxRecDepth 100000
/-! SP74: looks at moments, the end (k63). -/
namespace DL
open PySem PySem.Spec L2 TL
end DL
namespace DH
open DL PySem PySem.Spec L2 TL
end DH
set_option Elab.async false
set_option linter.all false
set_option autoImplicit false
set_option maxRecDepth 100000
/-! SP75: fades lie one behind the other; their steps are even (k94). -/
namespace DH
open DL PySem PySem.Spec L2 TL
end DH
set_option Elab.async false
set_option linter.all false
set_option autoImplicit false
set_option maxRecDepth 100000
/-! SP76: wide products, zip of three, even steps (k94). -/
namespace DH
open DL PySem PySem.Spec L2 TL
def B2 (n : Nat) (i : Int) : Prop := i.natAbs < 2 ^ n
section
variable {ρ : En} {fs xs ys : List Fd} {f : Fd} {m t b s i j : Int} {k n a c : Nat} {z : Fr}
theorem B2.mul (h : B2 a i) (k : B2 c j) : B2 (a + c) (i * j) := by
  unfold B2 at *
  rw [Int.natAbs_mul, Nat.pow_add]
  exact Nat.mul_lt_mul'' h k
theorem B2.sub (h : B2 a i) (k : B2 a j) : B2 (a + 1) (i - j) := by
  unfold B2 at *
  rw [Nat.pow_succ]
  omega
end
end DH
set_option Elab.async false
set_option linter.all false
set_option autoImplicit false
set_option maxRecDepth 100000
/-! SP77: goes of bounded times (after SP72's text, printed), the levels of a channel as the law asks for them (k94). -/
namespace DH
open DL PySem PySem.Spec L2 TL
end DH
set_option Elab.async false
set_option linter.all false
set_option autoImplicit false
set_option maxRecDepth 100000
/-! SP78: players (k37). -/
namespace DL
open PySem PySem.Spec L2 TL
end DL
namespace DH
open DL PySem PySem.Spec L2 TL
end DH
set_option Elab.async false
set_option linter.all false
set_option autoImplicit false
set_option maxRecDepth 100000
/-! SP79: numbers read from texts, in the program's way and in the law's (k02, k03). -/
namespace DL
open PySem PySem.Spec L2 TL
abbrev SS (a : List Nat) : Str := SX.S a
def dig (a : List Nat) : Bool := a.all fun c => decide (48 ≤ c) && decide (c ≤ 57)
def dgs : List Nat := [48, 49, 50, 51, 52, 53, 54, 55, 56, 57]
def dval (a : List Nat) : Nat := NumText.digitsVal a
/-- up to three digits, no 0 ahead -/
def whO (a : List Nat) : Option Nat := if (1 ≤ a.length ∧ a.length ≤ 3) ∧ dig a = true ∧ ¬ (a.head? = some 48 ∧ a ≠ [48]) then some (dval a) else none
/-- up to k digits, the last one not 0 -/
def frO (k : Nat) (q : List Nat) : Prop := (1 ≤ q.length ∧ q.length ≤ k) ∧ dig q = true ∧ q.getLast? ≠ some 48
instance {k : Nat} {q : List Nat} : Decidable (frO k q) := by unfold frO; infer_instance
def pad (k : Nat) (q : List Nat) : List Nat := q ++ List.replicate (k - q.length) 48
def oN : Option Nat → D
  | none => .non
  | some n => .int (n : Nat)
section
variable {a b p q v : List Nat} {k : Nat} {ρ : En}
theorem mem_dgs {c : Nat} : c ∈ dgs ↔ 48 ≤ c ∧ c ≤ 57 := by
  unfold dgs
  simp
  omega
theorem dig_all : dig a = a.all fun c => decide (c ∈ dgs) := by
  unfold dig
  congr 1
  funext c
  rw [decide_eq_decide.mpr mem_dgs, Bool.decide_and]
theorem sgs_map : signs (SS a) = a.map fun c => .str ⟨#[c]⟩ := rfl
theorem dg_lit : ("0123456789" : Str).cps.toList = dgs := by decide +kernel
theorem dval_app : dval (a ++ b) = dval a * 10 ^ b.length + dval b := by
  have key : ∀ (b : List Nat) (x : Nat), b.foldl (fun acc c => acc * 10 + (c - 48)) x = x * 10 ^ b.length + b.foldl (fun acc c => acc * 10 + (c - 48)) 0 := by
    intro b
    induction b with
    | nil => intro x; simp
    | cons c b ih =>
      intro x
      rw [List.foldl_cons, List.foldl_cons, ih, ih (0 * 10 + (c - 48)), List.length_cons, Nat.pow_succ]
      grind
  unfold dval NumText.digitsVal
  rw [List.foldl_append, key]
theorem dig_app : dig (a ++ b) = (dig a && dig b) := by unfold dig; rw [List.all_append]
theorem dig_rep {n : Nat} : dig (List.replicate n 48) = true := by
  unfold dig
  rw [List.all_replicate]
  split <;> rfl
/-! where the point is -/
theorem pre46 {l : List Nat} : TL.pre [46] l = true ↔ l.head? = some 46 := by
  unfold TL.pre
  cases l with
  | nil => simp
  | cons c l => simp
theorem par_no (h : 46 ∉ v) : Txt.partition (SS v) (SS [46]) = (SS v, SS [], SS []) := SX.partition_none (by simp) (SX.par_head_none h)
theorem par_yes (h : 46 ∉ p) : Txt.partition (SS (p ++ 46 :: q)) (SS [46]) = (SS p, SS [46], SS q) := SX.partition_some (by simp) (SX.par_head (sep := []) q h)
theorem at46 {i : Nat} : StrLaws.At (SS v) (SS [46]) (SS v).length i ↔ v[i]? = some 46 := by
  rw [TL.at_iff (by show [46] ≠ []; simp)]
  show TL.pre [46] (v.drop i) = true ↔ _
  rw [pre46, List.head?_drop]
theorem find_no (h : 46 ∉ v) : Txt.find (SS v) (SS [46]) = -1 := by
  rcases PyProof.Rows.find_whole (SS v) (SS [46]) with ⟨e, _⟩ | ⟨i, _, hi, _⟩
  · exact e
  · exact absurd (List.mem_of_getElem? (at46.mp hi)) h
theorem find_yes (h : 46 ∉ p) : Txt.find (SS (p ++ 46 :: q)) (SS [46]) = (p.length : Nat) := by
  have hp : (p ++ 46 :: q)[p.length]? = some 46 := by simp
  rcases PyProof.Rows.find_whole (SS (p ++ 46 :: q)) (SS [46]) with ⟨_, hn⟩ | ⟨i, e, hi, hn⟩
  · exact absurd (at46.mpr hp) (hn _)
  · have h1 := at46.mp hi
    have h2 : i = p.length := by
      rcases Nat.lt_trichotomy i p.length with z | z | z
      · rw [List.getElem?_append_left z] at h1
        exact absurd (List.mem_of_getElem? h1) h
      · exact z
      · exact absurd (at46.mpr hp) (hn _ z)
    rw [e, h2]
theorem dot_ex (v : List Nat) : 46 ∉ v ∨ ∃ p q, v = p ++ 46 :: q ∧ 46 ∉ p := by
  by_cases h : 46 ∈ v
  · right
    obtain ⟨p, q, e, hp⟩ := List.eq_append_cons_of_mem h
    exact ⟨p, q, e, hp⟩
  · exact .inl h
/-! signs -/
theorem l_0 : ("0" : Str) = SS [48] := by decide +kernel
theorem l_pt : ("." : Str) = SS [46] := by decide +kernel
theorem l_e : ("" : Str) = SS [] := by decide +kernel
theorem ss_eq : (SS a = SS b) ↔ a = b := ⟨SX.S_inj, fun h => by rw [h]⟩
theorem ss_l (h : a.length ≤ 1000) : (SS a).length ≤ 1000000 := by rw [SX.S_len]; omega
theorem ss_ix {i : Int} {c : Nat} (hl : a.length ≤ 1000) (h0 : 0 ≤ i) (h : a[i.toNat]? = some c) : dIx (.str (SS a)) (.int i) = some (.sh (.str (SS [c]))) := DH.ix_str (ss_l hl) h0 h
theorem ss_last {c : Nat} (hl : (a ++ [c]).length ≤ 1000) : dIx (.str (SS (a ++ [c]))) (.int (-1)) = some (.sh (.str (SS [c]))) := by
  show (if (SS (a ++ [c])).length ≤ 1000000 then (atI (a ++ [c]) (-1)).map fun c => O.sh (.str ⟨#[c]⟩) else none) = _
  rw [if_pos (ss_l hl)]
  unfold atI
  rw [show ixN (a ++ [c]).length (-1) = some a.length by unfold ixN; simp; omega]
  simp
theorem int_ss (h : dig a = true) (hne : a ≠ []) (hl : a.length ≤ 600) : dInt [.str (SS a)] = some (.sh (.int (dval a : Nat))) := by
  show (if (SS a).length ≤ 640 then (intText? (SS a)).bind fun n => oI n else none) = _
  rw [if_pos (by rw [SX.S_len]; omega), SX.int_S h hne (by omega)]; rfl
theorem ss_len2 (hl : a.length ≤ 1000) : dLen [.str (SS a)] = some (.sh (.int (a.length : Nat))) := by
  rw [DH.len_str (ss_l hl), SX.S_len]
theorem ss_add (hl : a.length + b.length ≤ 1000) : dAdd (.str (SS a)) (.str (SS b)) = some (.sh (.str (SS (a ++ b)))) := by
  show (if (SS a).length + (SS b).length ≤ 1000000 then oS (SS a ++ SS b) else none) = _
  rw [if_pos (by rw [SX.S_len, SX.S_len]; omega), SX.S_cat]; rfl
theorem ss_to {i : Int} (hl : a.length ≤ 1000) (h : 0 ≤ i) : dSl (.str (SS a)) none (some i) = some (.sh (.str (SS (a.take i.toNat)))) := by
  show (if (SS a).length ≤ 1000000 then oS _ else none) = _
  rw [if_pos (ss_l hl), SX.slice_to h]; rfl
theorem ss_from {i : Int} (hl : a.length ≤ 1000) (h : 0 ≤ i) : dSl (.str (SS a)) (some i) none = some (.sh (.str (SS (a.drop i.toNat)))) := by
  show (if (SS a).length ≤ 1000000 then oS _ else none) = _
  rw [if_pos (ss_l hl), SX.slice_from h]; rfl
theorem ss_part {x y z : Str} (hl : a.length ≤ 1000) (h : Txt.partition (SS a) (SS [46]) = (x, y, z)) : mPartition (.str (SS a)) [.str (SS [46])] = some (.sh (.tup [.str x, .str y, .str z])) := by
  show (if (SS [46]).length ≠ 0 ∧ (SS a).length ≤ 1000000 then _ else none) = _
  rw [if_pos ⟨by rw [SX.S_len]; simp, ss_l hl⟩, h]
theorem ss_find {i : Int} (h : Txt.find (SS a) (SS [46]) = i) : mFind (.str (SS a)) [.str (SS [46])] = some (.sh (.int i)) := by
  subst h; rfl
theorem ss_ljust (hl : a.length ≤ 1000) (hk : k ≤ 2) : mLjustF (.str (SS a)) [.int (k : Nat), .str (SS [48])] = some (.sh (.str (SS (pad k a)))) := by
  have hp : PadOk (k : Nat) = true := by
    have : k = 0 ∨ k = 1 ∨ k = 2 := by omega
    rcases this with rfl | rfl | rfl <;> decide +kernel
  show (if PadOk (k : Nat) = true ∧ (SS [48]).length = 1 then some (O.sh (.str (Txt.ljustF (SS a) (k : Nat) ((SS [48]).cps.getD 0 0)))) else none) = _
  rw [if_pos ⟨hp, by rw [SX.S_len]; rfl⟩]
  congr 3
  unfold Txt.ljustF pad
  rw [SX.S_len]
  split
  · rw [show k - a.length = 0 by omega]; simp
  · refine TL.ext_tl ?_
    show _ = a ++ List.replicate (k - a.length) 48
    rw [show ((k : Nat) : Int).toNat = k by omega]
    simp [Builtin.Str.padded, TL.tl]
end
end DL
namespace DH
open DL PySem PySem.Spec L2 TL
section
variable {a b p q v : List Nat} {k : Nat} {ρ : En}
theorem allL_dig : allL 1 (TD.tg (TD.nm 0)) (eBin dIn (eVar 0) (eC (.str "0123456789"))) (signs (SS a)) = some (dig a) := by
  rw [allL_all (p := fun d => match d with | .str ⟨a⟩ => decide (a.toList.headD 0 ∈ dgs) | _ => false)]
  · congr 1
    rw [sgs_map, List.all_map, dig_all]; rfl
  · intro d m
    rw [sgs_map] at m
    obtain ⟨x, _, rfl⟩ := List.mem_map.mp m
    refine ⟨_, [.v (.sh (.str ⟨#[x]⟩))], tg_no rfl, ?_⟩
    simp? only [in_sign, dg_lit]
    rfl
theorem q_whole_of (hl : a.length ≤ 1000) : f_whole_of [.sh (.str (SS a))] = .ok (.sh (oN (whO a))) [.no] := by
  have hlen := ss_len2 hl
  obtain ⟨n, hn⟩ : ∃ n : Nat, a.length = n := ⟨_, rfl⟩
  rw [hn] at hlen
  have hall := @allL_dig a
  have hit : itV (.str (SS a)) = some (signs (SS a)) := rfl
  by_cases h1 : 1 ≤ a.length ∧ a.length ≤ 3
  · have g1 : (1 : Int) ≤ (n : Int) := by omega
    have g2 : (n : Int) ≤ 3 := by omega
    cases h2 : dig a with
    | false =>
      have e : whO a = none := if_neg (by rw [h2]; simp)
      rw [h2] at hall
      simp? only [f_whole_of, m_whole_of, hlen, eChn, g1, g2, hit, hall, e, oN]
    | true =>
      rw [h2] at hall
      obtain ⟨c, t, rfl⟩ : ∃ c t, a = c :: t := by
        cases a with
        | nil => simp at h1
        | cons c t => exact ⟨c, t, rfl⟩
      have hix := ss_ix (i := 0) (c := c) hl (by decide) rfl
      have hint := int_ss h2 (by simp) (by omega)
      by_cases hc : c = 48
      · subst hc
        cases t with
        | nil =>
          have e : whO [48] = some (dval [48]) := rfl
          simp? only [f_whole_of, m_whole_of, hlen, eChn, g1, g2, hit, hall, hix, l_0, hint, e, oN]
        | cons d t =>
          have e : whO (48 :: d :: t) = none := if_neg (by simp)
          have hne : (SS (48 :: d :: t) = SS [48]) = False := eq_false (by rw [ss_eq]; simp)
          simp? only [f_whole_of, m_whole_of, hlen, eChn, g1, g2, hit, hall, hix, l_0, hne, e, oN]
      · have e : whO (c :: t) = some (dval (c :: t)) := if_pos ⟨h1, h2, by simp [hc]⟩
        have hne : (SS [c] = SS [48]) = False := eq_false (by rw [ss_eq]; simp [hc])
        simp? only [f_whole_of, m_whole_of, hlen, eChn, g1, g2, hit, hall, hix, l_0, hne, hint, e, oN]
  · have e : whO a = none := if_neg (by simp [h1])
    by_cases g1 : (1 : Int) ≤ (n : Int)
    · have g2 : ¬ (n : Int) ≤ 3 := by omega
      simp? only [f_whole_of, m_whole_of, hlen, eChn, g1, g2, hit, hall, e, oN]
    · simp? only [f_whole_of, m_whole_of, hlen, eChn, g1, hit, hall, e, oN]
theorem whO_some {w : Nat} (h : whO a = some w) : (1 ≤ a.length ∧ a.length ≤ 3) ∧ dig a = true ∧ w = dval a := by
  unfold whO at h
  split at h
  · rename_i hc
    exact ⟨hc.1, hc.2.1, (Option.some.inj h).symm⟩
  · cases h
theorem q_parts_no {K : Int} (hK : (k = 1 ∧ K = 1) ∨ (k = 2 ∧ K = 2)) (h : 46 ∉ v) (hl : v.length ≤ 900) : f_parts_of [.sh (.str (SS v)), .sh (.int K)] = .ok (.sh (oN ((whO v).map fun w => w * 10 ^ k))) [.no, .no] := by
  have hp := ss_part (show v.length ≤ 1000 by omega) (par_no h)
  have hw := q_whole_of (a := v) (by omega)
  cases e : whO v with
  | none =>
    rw [e] at hw
    simp? only [f_parts_of, m_parts_of, isT_str, l_pt, hp, hw, oN, isN_non, Option.map_none]
  | some w =>
    rw [e] at hw
    have m1 : dMul (.int (w : Nat)) (.int 100) = some (.sh (.int ((w * 100 : Nat) : Int))) := by
      rw [mul_int (.inr ⟨by decide, by decide⟩)]; simp
    have m2 : dMul (.int (w : Nat)) (.int 10) = some (.sh (.int ((w * 10 : Nat) : Int))) := by
      rw [mul_int (.inr ⟨by decide, by decide⟩)]; simp
    rcases hK with ⟨rfl, rfl⟩ | ⟨rfl, rfl⟩
    · simp? only [f_parts_of, m_parts_of, isT_str, l_pt, hp, hw, oN, isN_int, l_e, m2, Int.reduceEq, Option.map_some, Nat.reducePow]
    · simp? only [f_parts_of, m_parts_of, isT_str, l_pt, hp, hw, oN, isN_int, l_e, m1, Int.reduceEq, Option.map_some, Nat.reducePow]
theorem q_parts_yes {K : Int} (hK : (k = 1 ∧ K = 1) ∨ (k = 2 ∧ K = 2)) (h : 46 ∉ p) (hl : (p ++ 46 :: q).length ≤ 900) : f_parts_of [.sh (.str (SS (p ++ 46 :: q))), .sh (.int K)] = .ok (.sh (oN ((whO p).bind fun _ => if frO k q then some (dval (p ++ pad k q)) else none))) [.no, .no] := by
  have hp := ss_part (show (p ++ 46 :: q).length ≤ 1000 by omega) (par_yes (q := q) h)
  simp at hl
  have hw := q_whole_of (a := p) (by omega)
  have hk : (k : Int) = K ∧ k ≤ 2 := by omega
  cases e : whO p with
  | none =>
    rw [e] at hw
    simp? only [f_parts_of, m_parts_of, isT_str, l_pt, hp, hw, oN, isN_non, Option.bind_none]
  | some w =>
    rw [e] at hw
    obtain ⟨w1, w2, _⟩ := whO_some e
    have e0 : (SS [46] = SS []) = False := eq_false (by rw [ss_eq]; simp)
    have hlen := ss_len2 (a := q) (by omega)
    obtain ⟨n, hn⟩ : ∃ n : Nat, q.length = n := ⟨_, rfl⟩
    rw [hn] at hlen
    have hall := @allL_dig q
    have hit : itV (.str (SS q)) = some (signs (SS q)) := rfl
    have hj := ss_ljust (a := q) (k := k) (by omega) hk.2
    rw [hk.1] at hj
    by_cases g1 : (1 : Int) ≤ (n : Int)
    · obtain ⟨t, c, rfl⟩ : ∃ t c, q = t ++ [c] := by
        rcases List.eq_nil_or_concat q with z | ⟨t, c, z⟩
        · rw [z] at hn; simp at hn; omega
        · exact ⟨t, c, by rw [z, List.concat_eq_append]⟩
      have hix := ss_last (a := t) (c := c) (by simp at hl ⊢; omega)
      by_cases g2 : (n : Int) ≤ K
      · cases h2 : dig (t ++ [c]) with
        | false =>
          rw [h2] at hall
          have hf : ¬ frO k (t ++ [c]) := fun z => by rw [z.2.1] at h2; cases h2
          simp? only [f_parts_of, m_parts_of, isT_str, l_pt, hp, hw, oN, isN_int, l_e, e0, hlen, eChn, g1, g2, hit, hall, hf, Option.bind_some]
        | true =>
          rw [h2] at hall
          by_cases hc : c = 48
          · subst hc
            have hf : ¬ frO k (t ++ [48]) := fun z => z.2.2 (by simp)
            simp? only [f_parts_of, m_parts_of, isT_str, l_pt, hp, hw, oN, isN_int, l_e, e0, hlen, eChn, g1, g2, hit, hall, hix, l_0, hf, Option.bind_some]
          · have hf : frO k (t ++ [c]) := ⟨by omega, h2, by simp [hc]⟩
            have hne : (SS [c] = SS [48]) = False := eq_false (by rw [ss_eq]; simp [hc])
            have hpl : (pad k (t ++ [c])).length ≤ 2 := by
              unfold pad
              rw [List.length_append, List.length_replicate]
              omega
            have hadd := ss_add (a := p) (b := pad k (t ++ [c])) (by omega)
            have hint := int_ss (a := p ++ pad k (t ++ [c])) (by rw [dig_app, w2]; unfold pad; rw [dig_app, h2, dig_rep]; rfl) (by intro z; have := congrArg List.length z; rw [List.length_append] at this; have z0 : ([] : List Nat).length = 0 := rfl; omega) (by rw [List.length_append]; omega)
            simp? only [f_parts_of, m_parts_of, isT_str, l_pt, hp, hw, oN, isN_int, l_e, e0, hlen, eChn, g1, g2, hit, hall, hix, l_0, hne, hf, hj, hadd, hint, Option.bind_some]
      · have hf : ¬ frO k (t ++ [c]) := fun z => g2 (by have := z.1.2; omega)
        simp? only [f_parts_of, m_parts_of, isT_str, l_pt, hp, hw, oN, isN_int, l_e, e0, hlen, eChn, g1, g2, hf, Option.bind_some]
    · have hf : ¬ frO k q := fun z => g1 (by have := z.1.1; omega)
      simp? only [f_parts_of, m_parts_of, isT_str, l_pt, hp, hw, oN, isN_int, l_e, e0, hlen, eChn, g1, hf, Option.bind_some]
end
end DH
set_option Elab.async false
set_option linter.all false
set_option autoImplicit false
set_option maxRecDepth 100000
/-! SP80: the law's own way to read a number (k02, k03). Printed by wip/tools/mk80.py. -/
namespace DH
open DL PySem PySem.Spec L2 TL
section
variable {a b p q v : List Nat} {k : Nat} {ρ : En}
theorem eq_nilL {ds : List D} : dEq (.lst ds) (.lst []) = some (.sh (.bl ds.isEmpty)) := by cases ds <;> rfl
theorem notin_sign {x : Nat} : dNotIn (.str ⟨#[x]⟩) (.str "0123456789") = some (.sh (.bl (!decide (x ∈ dgs)))) := by
  have : dNotIn (.str ⟨#[x]⟩) (.str "0123456789") = some (.sh (.bl (!decide (x ∈ ("0123456789" : Str).cps.toList)))) := rfl
  rw [this, dg_lit]
theorem filt_dig : ((a.filter fun c => !decide (c ∈ dgs)).map fun c => D.str ⟨#[c]⟩).isEmpty = dig a := by
  rw [List.isEmpty_map, dig_all]
  induction a with
  | nil => rfl
  | cons c a ih =>
    by_cases h : c ∈ dgs
    · simp [h, ih]
    · simp [h]
theorem q_law_digits {m : Int} (hl : a.length ≤ 1000) : f__law_digits_k02 [.sh (.str (SS a)), .sh (.int m)] = .ok (.sh (.bl (decide (1 ≤ a.length ∧ (a.length : Int) ≤ m) && dig a))) [.no, .no] := by
  have hlen := ss_len2 hl
  have hit : itV (.str (SS a)) = some (a.map fun c => .str ⟨#[c]⟩) := rfl
  generalize hB : decide (1 ≤ a.length ∧ (a.length : Int) ≤ m) = B
  have main : wE (fun o ρ => o = .sh (.bl (B && dig a)) ∧ ρ = [.no, .no]) (f__law_digits_k02 [.sh (.str (SS a)), .sh (.int m)]) := by
    by_cases g1 : (1 : Int) ≤ (a.length : Int)
    · by_cases g2 : (a.length : Int) ≤ m
      · have e1 : B = true := by rw [← hB]; exact decide_eq_true ⟨by omega, g2⟩
        simp? only [f__law_digits_k02, m__law_digits_k02, hlen, eChn, g1, g2, e1, hit]
        refine wLcF (xs := a) (fun ρ => ρ = [.v (.sh (.str (SS a))), .v (.sh (.int m)), .no]) (fun c => !decide (c ∈ dgs)) (fun c => .sh (.str ⟨#[c]⟩)) (by omega) rfl ?_ ?_
        · rintro c mc ρ rfl
          simp? only [notin_sign]
          by_cases hc : c ∈ dgs
          · simp [hc]
          · simp? only [hc]
            simp [hc]
        · rintro ρ rfl
          have e2 : O.ds ((a.filter fun c => !decide (c ∈ dgs)).map fun c => O.sh (.str ⟨#[c]⟩)) = (a.filter fun c => !decide (c ∈ dgs)).map fun c => D.str ⟨#[c]⟩ := ds_mapf
          simp? only [e2, eq_nilL, filt_dig]
      · have e1 : B = false := by rw [← hB]; exact decide_eq_false fun z => g2 z.2
        simp? only [f__law_digits_k02, m__law_digits_k02, hlen, eChn, g1, g2, e1]
    · have e1 : B = false := by rw [← hB]; exact decide_eq_false fun z => g1 (by have := z.1; omega)
      simp? only [f__law_digits_k02, m__law_digits_k02, hlen, eChn, g1, e1]
  obtain ⟨o, ρ, e, rfl, rfl⟩ := main.ex
  exact e
theorem whO_of (h1 : 1 ≤ a.length ∧ (a.length : Int) ≤ 3) (h2 : dig a = true) : (∃ t, t ≠ [] ∧ a = 48 :: t ∧ whO a = none) ∨ (whO a = some (dval a) ∧ (a.length ≤ 1 ∨ ∃ c t, a = c :: t ∧ c ≠ 48)) := by
  obtain ⟨c, t, rfl⟩ : ∃ c t, a = c :: t := by
    cases a with
    | nil => simp at h1
    | cons c t => exact ⟨c, t, rfl⟩
  have h3 : 1 ≤ (c :: t).length ∧ (c :: t).length ≤ 3 := by omega
  by_cases hc : c = 48
  · subst hc
    cases t with
    | nil => exact .inr ⟨rfl, .inl (by simp)⟩
    | cons d t => exact .inl ⟨d :: t, by simp, rfl, if_neg (by simp)⟩
  · exact .inr ⟨if_pos ⟨h3, h2, by simp [hc]⟩, .inr ⟨c, t, rfl, hc⟩⟩
def zrs (k : Nat) : List Nat := List.replicate k 48
/-- what is read, within bounds -/
def rdD (lo hi : Int) : Option Nat → D
  | some n => if lo ≤ (n : Int) ∧ (n : Int) ≤ hi then .int (n : Nat) else .non
  | none => .non
def chn2 (x z : Int) (ρ1 : En) (d : D) : R := match dLe (.int x) d with
  | some (.sh (.bl true)) => R.of (dLe d (.int z)) ρ1
  | some (.sh (.bl false)) => .ok (.sh (.bl false)) ρ1
  | _ => .stuck
theorem eChnV_ev {x z : Int} {i : Nat} : eChn dLe dLe (eC (.int x)) (eVar i) (eC (.int z)) ρ = (varK i ρ ρ[i]?).bind fun o ρ1 => chn2 x z ρ1 o.d.view := by
  rw [← eVar_ev]; rfl
theorem chn2_int {x y z : Int} : chn2 x z ρ (.int y) = .ok (.sh (.bl (decide (x ≤ y ∧ y ≤ z)))) ρ := by
  show (match some (O.sh (.bl (decide (x ≤ y)))) with
  | some (.sh (.bl true)) => R.of (some (O.sh (.bl (decide (y ≤ z))))) ρ
  | some (.sh (.bl false)) => .ok (.sh (.bl false)) ρ
  | _ => .stuck) = _
  by_cases h : x ≤ y
  · rw [decide_eq_true h]; simp [h]; rfl
  · rw [decide_eq_false h]; simp [h]
theorem mulS_k02 : dMulS (.str (SS [48])) (.int 2) = some (.sh (.str (SS (zrs 2)))) := by
  have : Txt.mul (SS [48]) 2 = SS (zrs 2) := by decide +kernel
  show (if -1000 ≤ (2 : Int) ∧ (2 : Int) ≤ 1000 ∧ (SS [48]).length ≤ 1000 then oS (Txt.mul (SS [48]) 2) else none) = _
  rw [if_pos (by decide +kernel), this]; rfl
theorem pad_k02 (h : q.length ≤ 2) : (q ++ zrs 2).take 2 = pad 2 q := by
  unfold pad zrs
  rw [List.take_append, List.take_of_length_le (by omega), List.take_replicate]
  congr 2
  omega
theorem q_law_read_k02_no (h : 46 ∉ v) (hl : v.length ≤ 900) : f__law_read_k02 [.sh (.str (SS v))] = .ok (.sh (rdD 1 99999 ((whO v).map fun w => w * 10 ^ 2))) [.no] := by
  have hlen := ss_len2 (a := v) (by omega)
  obtain ⟨n, hn⟩ : ∃ n : Nat, v.length = n := ⟨_, rfl⟩
  rw [hn] at hlen
  have hd := q_law_digits (a := v) (m := 3) (by omega)
  have hf := ss_find (find_no h)
  have i0 : dInt [.str (SS (zrs 2))] = some (.sh (.int 0)) := int_ss (a := zrs 2) dig_rep (by decide) (by decide)
  have ha : dAdd (.str (SS [])) (.str (SS (zrs 2))) = some (.sh (.str (SS (zrs 2)))) := ss_add (a := []) (b := zrs 2) (by decide)
  have ht : dSl (.str (SS (zrs 2))) none (some 2) = some (.sh (.str (SS (zrs 2)))) := ss_to (a := zrs 2) (i := 2) (by decide) (by decide)
  by_cases h1 : 1 ≤ v.length ∧ (v.length : Int) ≤ 3
  · cases h2 : dig v with
    | false =>
      have e : whO v = none := if_neg (by rw [h2]; simp)
      rw [h2, Bool.and_false] at hd
      simp? only [f__law_read_k02, m__law_read_k02, isi_str_str, isT_str, l_pt, hf, l_e, tgt_2, hd, e, rdD, Int.reduceLT, Option.map_none]
    | true =>
      rw [decide_eq_true h1, h2, Bool.and_self] at hd
      rcases whO_of h1 h2 with ⟨t, ht0, rfl, e⟩ | ⟨e, hc⟩
      · have hix := ss_ix (a := 48 :: t) (i := 0) (c := 48) (by omega) (by decide) rfl
        have g1 : (n : Int) > 1 := by
          have := List.length_pos_iff.mpr ht0
          simp at hn; omega
        simp? only [f__law_read_k02, m__law_read_k02, isi_str_str, isT_str, l_pt, hf, l_e, tgt_2, hd, e, rdD, hlen, g1, hix, l_0, Int.reduceLT, Option.map_none]
      · have hint := int_ss (a := v) h2 (by intro z; rw [z] at h1; simp at h1) (by omega)
        have hm : dMul (.int (dval v : Nat)) (.int 100) = some (.sh (.int ((dval v * 10 ^ 2 : Nat) : Int))) := by
          rw [mul_int (.inr ⟨by decide, by decide⟩)]; simp
        by_cases g1 : ((n : Int) > 1)
        · obtain ⟨c, t, rfl, hc1⟩ := hc.resolve_left (by omega)
          have hix := ss_ix (a := c :: t) (i := 0) (c := c) (by omega) (by decide) rfl
          have hne : (SS [c] = SS [48]) = False := eq_false (by rw [ss_eq]; simp [hc1])
          simp? only [f__law_read_k02, m__law_read_k02, isi_str_str, isT_str, l_pt, hf, l_e, tgt_2, hd, e, rdD, hlen, g1, hix, hne, l_0, l_0, mulS_k02, ha, ht, i0, hint, hm, eChnV_ev, chn2_int, Int.add_zero, Int.reduceLT, Int.reduceLE, ge_iff_le, Option.map_some]
          split <;> rfl
        · simp? only [f__law_read_k02, m__law_read_k02, isi_str_str, isT_str, l_pt, hf, l_e, tgt_2, hd, e, rdD, hlen, g1, l_0, mulS_k02, ha, ht, i0, hint, hm, eChnV_ev, chn2_int, Int.add_zero, Int.reduceLT, Int.reduceLE, ge_iff_le, Option.map_some]
          split <;> rfl
  · have e1 : whO v = none := if_neg (fun z => h1 ⟨z.1.1, by have := z.1.2; omega⟩)
    rw [decide_eq_false h1, Bool.false_and] at hd
    simp? only [f__law_read_k02, m__law_read_k02, isi_str_str, isT_str, l_pt, hf, l_e, tgt_2, hd, e1, rdD, Int.reduceLT, Option.map_none]
theorem q_law_read_k02_yes (h : 46 ∉ p) (hl : (p ++ 46 :: q).length ≤ 900) : f__law_read_k02 [.sh (.str (SS (p ++ 46 :: q)))] = .ok (.sh (rdD 1 99999 ((whO p).bind fun _ => if frO 2 q then some (dval (p ++ pad 2 q)) else none))) [.no] := by
  have hf := ss_find (find_yes (q := q) h)
  have hs1 := ss_to (a := p ++ 46 :: q) (i := (p.length : Nat)) (by omega) (by omega)
  rw [Int.toNat_natCast, List.take_left] at hs1
  have hs2 := ss_from (a := p ++ 46 :: q) (i := (p.length : Nat) + 1) (by omega) (by omega)
  rw [show ((p.length : Nat) + 1 : Int).toNat = p.length + 1 by omega, show (p ++ 46 :: q).drop (p.length + 1) = q by simp] at hs2
  simp at hl
  have hlen := ss_len2 (a := p) (by omega)
  obtain ⟨n, hn⟩ : ∃ n : Nat, p.length = n := ⟨_, rfl⟩
  rw [hn] at hlen
  have hd := q_law_digits (a := p) (m := 3) (by omega)
  have hd2 := q_law_digits (a := q) (m := 2) (by omega)
  rw [hn] at hf hs1 hs2
  generalize p ++ 46 :: q = x at hf hs1 hs2 ⊢
  have n0 : ((n : Nat) : Int) < 0 ↔ False := ⟨fun z => by omega, False.elim⟩
  have n1 : (0 : Int) ≤ ((n : Nat) : Int) := by omega
  by_cases h1 : 1 ≤ p.length ∧ (p.length : Int) ≤ 3
  · cases h2 : dig p with
    | false =>
      have e : whO p = none := if_neg (by rw [h2]; simp)
      rw [h2, Bool.and_false] at hd
      simp? only [f__law_read_k02, m__law_read_k02, isi_str_str, isT_str, l_pt, hf, n0, hs1, hs2, tgt_2, hd, e, rdD, Option.bind_none]
    | true =>
      rw [decide_eq_true h1, h2, Bool.and_self] at hd
      rcases whO_of h1 h2 with ⟨t, ht0, rfl, e⟩ | ⟨e, hc⟩
      · have hix := ss_ix (a := 48 :: t) (i := 0) (c := 48) (by omega) (by decide) rfl
        have g1 : (n : Int) > 1 := by
          have := List.length_pos_iff.mpr ht0
          simp at hn; omega
        simp? only [f__law_read_k02, m__law_read_k02, isi_str_str, isT_str, l_pt, hf, n0, hs1, hs2, tgt_2, hd, e, rdD, hlen, g1, hix, l_0, Option.bind_none]
      · by_cases k1 : 1 ≤ q.length ∧ (q.length : Int) ≤ 2
        · cases k2 : dig q with
          | false =>
            have hfr : ¬ frO 2 q := fun z => by rw [z.2.1] at k2; cases k2
            rw [k2, Bool.and_false] at hd2
            by_cases g1 : ((n : Int) > 1)
            · obtain ⟨c, t, rfl, hc1⟩ := hc.resolve_left (by omega)
              have hix := ss_ix (a := c :: t) (i := 0) (c := c) (by omega) (by decide) rfl
              have hne : (SS [c] = SS [48]) = False := eq_false (by rw [ss_eq]; simp [hc1])
              simp? only [f__law_read_k02, m__law_read_k02, isi_str_str, isT_str, l_pt, hf, n0, n1, hs1, hs2, tgt_2, hd, hd2, e, rdD, hlen, g1, hix, hne, hfr, l_0, ge_iff_le, Option.bind_some]
            · simp? only [f__law_read_k02, m__law_read_k02, isi_str_str, isT_str, l_pt, hf, n0, n1, hs1, hs2, tgt_2, hd, hd2, e, rdD, hlen, g1, hfr, ge_iff_le, Option.bind_some]
          | true =>
            rw [decide_eq_true k1, k2, Bool.and_self] at hd2
            obtain ⟨r, c2, rfl⟩ : ∃ t c, q = t ++ [c] := by
              rcases List.eq_nil_or_concat q with z | ⟨t, c, z⟩
              · rw [z] at k1; simp at k1
              · exact ⟨t, c, by rw [z, List.concat_eq_append]⟩
            have hlast := ss_last (a := r) (c := c2) (by simp at hl ⊢; omega)
            have hint := int_ss (a := p) h2 (by intro z; rw [z] at h1; simp at h1) (by omega)
            have hm : dMul (.int (dval p : Nat)) (.int 100) = some (.sh (.int ((dval p * 10 ^ 2 : Nat) : Int))) := by
              rw [mul_int (.inr ⟨by decide, by decide⟩)]; simp
            have hpl : (pad 2 (r ++ [c2])).length = 2 := by
              unfold pad
              rw [List.length_append, List.length_replicate]
              omega
            have hzl : (zrs 2).length = 2 := rfl
            have ha := ss_add (a := r ++ [c2]) (b := zrs 2) (by rw [hzl]; omega)
            have ht := ss_to (a := (r ++ [c2]) ++ zrs 2) (i := 2) (by rw [List.length_append, hzl]; omega) (by decide)
            rw [show (2 : Int).toNat = 2 from rfl, pad_k02 (q := r ++ [c2]) (by omega)] at ht
            have ip := int_ss (a := pad 2 (r ++ [c2])) (by unfold pad; rw [dig_app, k2, dig_rep]; rfl) (by intro z; rw [z] at hpl; cases hpl) (by omega)
            have hv : ((dval p * 10 ^ 2 : Nat) : Int) + ((dval (pad 2 (r ++ [c2])) : Nat) : Int) = ((dval (p ++ pad 2 (r ++ [c2])) : Nat) : Int) := by rw [dval_app, hpl]; simp
            by_cases hz : c2 = 48
            · subst hz
              have hfr : ¬ frO 2 (r ++ [48]) := fun z => z.2.2 (by simp)
              by_cases g1 : ((n : Int) > 1)
              · obtain ⟨c, t, rfl, hc1⟩ := hc.resolve_left (by omega)
                have hix := ss_ix (a := c :: t) (i := 0) (c := c) (by omega) (by decide) rfl
                have hne : (SS [c] = SS [48]) = False := eq_false (by rw [ss_eq]; simp [hc1])
                simp? only [f__law_read_k02, m__law_read_k02, isi_str_str, isT_str, l_pt, hf, n0, n1, hs1, hs2, tgt_2, hd, hd2, e, rdD, hlen, g1, hix, hne, hfr, hlast, l_0, ge_iff_le, Option.bind_some]
              · simp? only [f__law_read_k02, m__law_read_k02, isi_str_str, isT_str, l_pt, hf, n0, n1, hs1, hs2, tgt_2, hd, hd2, e, rdD, hlen, g1, hfr, hlast, l_0, ge_iff_le, Option.bind_some]
            · have hfr : frO 2 (r ++ [c2]) := ⟨by omega, k2, by simp [hz]⟩
              have hne2 : (SS [c2] = SS [48]) = False := eq_false (by rw [ss_eq]; simp [hz])
              by_cases g1 : ((n : Int) > 1)
              · obtain ⟨c, t, rfl, hc1⟩ := hc.resolve_left (by omega)
                have hix := ss_ix (a := c :: t) (i := 0) (c := c) (by omega) (by decide) rfl
                have hne : (SS [c] = SS [48]) = False := eq_false (by rw [ss_eq]; simp [hc1])
                simp? only [f__law_read_k02, m__law_read_k02, isi_str_str, isT_str, l_pt, hf, n0, n1, hs1, hs2, tgt_2, hd, hd2, e, rdD, hlen, g1, hix, hne, hne2, hfr, hlast, l_0, l_0, mulS_k02, ha, ht, ip, hint, hm, hv, eChnV_ev, chn2_int, ge_iff_le, Option.bind_some]
                split <;> rfl
              · simp? only [f__law_read_k02, m__law_read_k02, isi_str_str, isT_str, l_pt, hf, n0, n1, hs1, hs2, tgt_2, hd, hd2, e, rdD, hlen, g1, hne2, hfr, hlast, l_0, l_0, mulS_k02, ha, ht, ip, hint, hm, hv, eChnV_ev, chn2_int, ge_iff_le, Option.bind_some]
                split <;> rfl
        · have hfr : ¬ frO 2 q := fun z => k1 ⟨z.1.1, by have := z.1.2; omega⟩
          rw [decide_eq_false k1, Bool.false_and] at hd2
          by_cases g1 : ((n : Int) > 1)
          · obtain ⟨c, t, rfl, hc1⟩ := hc.resolve_left (by omega)
            have hix := ss_ix (a := c :: t) (i := 0) (c := c) (by omega) (by decide) rfl
            have hne : (SS [c] = SS [48]) = False := eq_false (by rw [ss_eq]; simp [hc1])
            simp? only [f__law_read_k02, m__law_read_k02, isi_str_str, isT_str, l_pt, hf, n0, n1, hs1, hs2, tgt_2, hd, hd2, e, rdD, hlen, g1, hix, hne, hfr, l_0, ge_iff_le, Option.bind_some]
          · simp? only [f__law_read_k02, m__law_read_k02, isi_str_str, isT_str, l_pt, hf, n0, n1, hs1, hs2, tgt_2, hd, hd2, e, rdD, hlen, g1, hfr, ge_iff_le, Option.bind_some]
  · have e1 : whO p = none := if_neg (fun z => h1 ⟨z.1.1, by have := z.1.2; omega⟩)
    rw [decide_eq_false h1, Bool.false_and] at hd
    simp? only [f__law_read_k02, m__law_read_k02, isi_str_str, isT_str, l_pt, hf, n0, hs1, hs2, tgt_2, hd, e1, rdD, Option.bind_none]
end
end DH
set_option Elab.async false
set_option linter.all false
set_option autoImplicit false
set_option maxRecDepth 100000
/-! SP81: numbers written and read (k02, k03). -/
namespace DH
open DL PySem PySem.Spec L2 TL
section
variable {n i : Int} {a b p q v : List Nat} {k m : Nat} {ρ : En}
theorem tx_ss (h : 0 ≤ i) : tx i = SS (TL.numL i.toNat) := by
  have := SX.num_S i.toNat
  rw [show ((i.toNat : Nat) : Int) = i by omega] at this
  exact this
theorem nl_all : (List.range 1000).all (fun k => decide (whO (TL.numL k) = some k)) = true := by decide +kernel
theorem nl_wh (h : m < 1000) : whO (TL.numL m) = some m := of_decide_eq_true (List.all_eq_true.mp nl_all m (List.mem_range.mpr h))
theorem nl_val : dval (TL.numL m) = m := TL.numL_val m
theorem nl_no : 46 ∉ TL.numL m := TL.numL_free (.inl (by decide))
theorem nl_len (h : m < 100000) : (TL.numL m).length ≤ 5 := TL.numL_len (by decide) h
/-- what a text says, k places behind the point -/
def rdO (k : Nat) (v : List Nat) : Option Nat := match v.dropWhile fun c => c != 46 with
  | [] => (whO v).map fun w => w * 10 ^ k
  | _ :: q => (whO (v.takeWhile fun c => c != 46)).bind fun _ => if frO k q then some (dval ((v.takeWhile fun c => c != 46) ++ pad k q)) else none
theorem dw_no (h : 46 ∉ v) : v.dropWhile (fun c => c != 46) = [] := by
  induction v with
  | nil => rfl
  | cons c v ih =>
    have h1 : c ≠ 46 := fun z => h (by simp [z])
    rw [List.dropWhile_cons, if_pos (by simpa using h1)]
    exact ih fun z => h (List.mem_cons_of_mem _ z)
theorem dw_yes (h : 46 ∉ p) : (p ++ 46 :: q).dropWhile (fun c => c != 46) = 46 :: q ∧ (p ++ 46 :: q).takeWhile (fun c => c != 46) = p := by
  induction p with
  | nil => exact ⟨rfl, rfl⟩
  | cons c p ih =>
    have h1 : c ≠ 46 := fun z => h (by simp [z])
    obtain ⟨i1, i2⟩ := ih fun z => h (List.mem_cons_of_mem _ z)
    rw [List.cons_append, List.dropWhile_cons, if_pos (by simpa using h1), List.takeWhile_cons, if_pos (by simpa using h1), i2]
    exact ⟨i1, rfl⟩
theorem rdO_no (h : 46 ∉ v) : rdO k v = (whO v).map fun w => w * 10 ^ k := by unfold rdO; rw [dw_no h]
theorem rdO_yes (h : 46 ∉ p) : rdO k (p ++ 46 :: q) = (whO p).bind fun _ => if frO k q then some (dval (p ++ pad k q)) else none := by
  unfold rdO
  rw [(dw_yes h).1, (dw_yes h).2]
theorem pad_len (h : q.length ≤ k) : (pad k q).length = k := by unfold pad; rw [List.length_append, List.length_replicate]; omega
theorem q_partsX {K : Int} (hK : (k = 1 ∧ K = 1) ∨ (k = 2 ∧ K = 2)) (hl : v.length ≤ 900) : f_parts_of [.sh (.str (SS v)), .sh (.int K)] = .ok (.sh (oN (rdO k v))) [.no, .no] := by
  rcases dot_ex v with h1 | ⟨p, q, rfl, h1⟩
  · rw [q_parts_no hK h1 hl, rdO_no h1]
  · rw [q_parts_yes hK h1 hl, rdO_yes h1]
theorem q_read_k02 (hl : v.length ≤ 900) : f__law_read_k02 [.sh (.str (SS v))] = .ok (.sh (rdD 1 99999 (rdO 2 v))) [.no] := by
  rcases dot_ex v with h1 | ⟨p, q, rfl, h1⟩
  · rw [q_law_read_k02_no h1 hl, rdO_no h1]
  · rw [q_law_read_k02_yes h1 hl, rdO_yes h1]
/-! what is no text -/
theorem q_read_k02_else {d : D} (h : dIsi [d.view, .op (.ty "str")] = some (.sh (.bl false))) : f__law_read_k02 [.sh d] = .ok (.sh .non) [.no] := by
  simp? only [f__law_read_k02, m__law_read_k02, h]
/-! times written -/
theorem mulS_0 : dMulS (.str (SS [48])) (.int 0) = some (.sh (.str (SS []))) := by
  have : Txt.mul (SS [48]) 0 = SS [] := by decide +kernel
  show (if -1000 ≤ (0 : Int) ∧ (0 : Int) ≤ 1000 ∧ (SS [48]).length ≤ 1000 then oS (Txt.mul (SS [48]) 0) else none) = _
  rw [if_pos (by decide +kernel), this]; rfl
end
end DH
set_option Elab.async false
set_option linter.all false
set_option autoImplicit false
set_option maxRecDepth 100000
/-! SP82: spoilt texts (k02, k03). -/
namespace DH
open DL PySem PySem.Spec L2 TL
section
variable {a : List Nat}
def sgL : List Nat := [48, 49, 50, 51, 52, 53, 54, 55, 56, 57, 46, 32, 45, 43, 97, 44]
theorem sg_lit : ("0123456789. -+a," : Str) = SS sgL := by decide +kernel
theorem sp_lits : (".5" : Str) = SS [46, 53] ∧ ("00" : Str) = SS [48, 48] ∧ ("1000" : Str) = SS [49, 48, 48, 48] ∧ ("0.0" : Str) = SS [48, 46, 48] ∧ ("000.1" : Str) = SS [48, 48, 48, 46, 49] := by decide +kernel
theorem sp_ix {xs : List (List Nat)} {i : Int} (hx : xs.length = 10) (h0 : 0 ≤ i) (h1 : i < 10) (hb : ∀ x ∈ xs, x.length ≤ 210) : ∃ v : List Nat, v.length ≤ 210 ∧ dIx (.lst (xs.map fun v => .str (SS v))) (.int i) = some (.sh (.str (SS v))) := by
  have hi : i.toNat < xs.length := by omega
  refine ⟨xs[i.toNat], hb _ (List.getElem_mem hi), ?_⟩
  refine ix_l h0 ?_
  rw [List.getElem?_map, List.getElem?_eq_getElem hi]; rfl
theorem q_law_spoilt {take : List O → R} (T : TakeOk take) {n : Int} {o : O} (hb : OkB n o) (hn : n ≤ 999000) (hl : a.length ≤ 100) : wE (fun q ρ => ∃ (v : List Nat) (o' : O), q = .sh (.str (SS v)) ∧ ρ = [.b o', .no] ∧ v.length ≤ 210 ∧ OkB (n + 4) o') (f__law_spoilt_k02 take [o, .sh (.str (SS a))]) := by
  have hlen := ss_len2 (a := a) (by omega)
  obtain ⟨m, hm⟩ : ∃ m : Nat, a.length = m := ⟨_, rfl⟩
  rw [hm] at hlen
  have hsl : dLen [.str (SS sgL)] = some (.sh (.int 16)) := ss_len2 (a := sgL) (by decide)
  obtain ⟨p1, p2, p3, p4, p5⟩ := sp_lits
  simp? only [f__law_spoilt_k02, m__law_spoilt_k02, sg_lit, hlen]
  refine (T.w hb (by omega) (by omega) (by omega)).mono ?_; rintro _ _ ⟨x, o1, rfl, rfl, l1, u1, b1⟩
  simp? only [DL.wE_ok]
  refine (T.w b1 (by omega) (by omega) (by omega)).mono ?_; rintro _ _ ⟨y, o2, rfl, rfl, l2, u2, b2⟩
  simp? only [hsl]
  refine (T.w b2 (by omega) (by omega) (by omega)).mono ?_; rintro _ _ ⟨z, o3, rfl, rfl, l3, u3, b3⟩
  obtain ⟨c, hc⟩ : ∃ c, sgL[z.toNat]? = some c := ⟨_, List.getElem?_eq_getElem (show z.toNat < sgL.length by show z.toNat < 16; omega)⟩
  have hix := ss_ix (a := sgL) (i := z) (c := c) (by decide) l3 hc
  have t1 := ss_to (a := a) (i := x) (by omega) l1
  have t2 := ss_from (a := a) (i := x) (by omega) l1
  have t3 := ss_from (a := a) (i := x + 1) (by omega) (by omega)
  have n1 : (a.take x.toNat).length ≤ 100 := by rw [List.length_take]; omega
  have n2 : (a.drop x.toNat).length ≤ 100 := by rw [List.length_drop]; omega
  have n3 : (a.drop (x + 1).toNat).length ≤ 100 := by rw [List.length_drop]; omega
  generalize a.take x.toNat = A1 at t1 n1
  generalize a.drop x.toNat = A2 at t2 n2
  generalize a.drop (x + 1).toNat = A3 at t3 n3
  have s1 := ss_add (a := A1) (b := [c]) (by simp; omega)
  have s2 := ss_add (a := A1 ++ [c]) (b := A2) (by simp; omega)
  have s3 := ss_add (a := A1) (b := A3) (by omega)
  have s4 := ss_add (a := A1 ++ [c]) (b := A3) (by simp; omega)
  have b3' : OkB (n + 4) o3 := b3.mono (by omega)
  by_cases y0 : y = 0
  · simp? only [hix, t1, t2, s1, s2, y0]
    exact ⟨_, o3, rfl, rfl, by simp; omega, b3'⟩
  by_cases y1 : y = 1
  · simp? only [hix, t1, t3, s3, y1, Int.reduceEq]
    exact ⟨_, o3, rfl, rfl, by simp; omega, b3'⟩
  by_cases y2 : y = 2
  · simp? only [hix, t1, t3, s1, s4, y2, Int.reduceEq]
    exact ⟨_, o3, rfl, rfl, by simp; omega, b3'⟩
  by_cases y3 : y = 3
  · have e1 := ss_add (a := a) (b := [48]) (by simp; omega)
    have e2 := ss_add (a := [48]) (b := a) (by simp; omega)
    have e3 := ss_add (a := a) (b := [46]) (by simp; omega)
    have e4 := ss_add (a := a) (b := [46, 53]) (by simp; omega)
    have e5 := ss_add (a := [46]) (b := a) (by simp; omega)
    simp? only [hix, y3, l_0, l_pt, p1, p2, p3, p4, p5, e1, e2, e3, e4, e5, Int.reduceEq]
    refine (T.w b3 (by omega) (by omega) (by omega)).mono ?_; rintro _ _ ⟨w, o4, rfl, rfl, l4, u4, b4⟩
    obtain ⟨v, hv, e⟩ := sp_ix (xs := [a ++ [48], [48] ++ a, a ++ [46], a ++ [46, 53], [46] ++ a, [48, 48], [49, 48, 48, 48], [48, 46, 48], [48], [48, 48, 48, 46, 49]]) (i := w) rfl l4 u4 (by
      intro x hx
      simp only [List.mem_cons, List.not_mem_nil, or_false] at hx
      rcases hx with rfl | rfl | rfl | rfl | rfl | rfl | rfl | rfl | rfl | rfl <;> simp <;> omega)
    simp only [List.map_cons, List.map_nil, List.cons_append, List.nil_append] at e
    simp? only [e]
    exact ⟨v, o4, rfl, rfl, hv, b4.mono (by omega)⟩
  · simp? only [hix, y0, y1, y2, y3]
    exact ⟨a, o3, rfl, rfl, by omega, b3'⟩
end
end DH
set_option Elab.async false
set_option linter.all false
set_option autoImplicit false
set_option maxRecDepth 100000
/-! SP83: what k02 and k03 share. -/
namespace DH
open DL PySem PySem.Spec L2 TL
section
variable {a v : List Nat} {n i : Int} {k m : Nat} {d : D} {ρ : En}
def SmL (a : List Nat) : Prop := ∀ c ∈ a, c < 4294967296
theorem nl_sm : SmL (TL.numL m) := fun c h => by
  have := TL.numL_digits m c h
  omega
theorem ss_rps (hl : a.length ≤ 100) (h : SmL a) : RpS 1002 1 (.str (SS a)) := rps_str (k := 100) (by rw [SX.S_len]; exact hl) h
/-- a value that is handed to time_of or number_of -/
structure Od (d : D) : Prop where
  lf : lfD d = true
  vw : d.view = d
  kd : (∃ v : List Nat, v.length ≤ 210 ∧ d = .str (SS v)) ∨ dIsi [d, .op (.ty "str")] = some (.sh (.bl false))
theorem Od.str (h : v.length ≤ 210) : Od (.str (SS v)) := ⟨rfl, rfl, .inl ⟨v, h, rfl⟩⟩
theorem od_ix {xs : List D} (hx : xs.length = 9) (h0 : 0 ≤ i) (h1 : i < 9) (hb : ∀ x ∈ xs, Od x) : ∃ d, Od d ∧ dIx (.lst xs) (.int i) = some (.sh d) := by
  have hi : i.toNat < xs.length := by omega
  exact ⟨xs[i.toNat], hb _ (List.getElem_mem hi), ix_l h0 (List.getElem?_eq_getElem hi)⟩
theorem od_all {t : List Nat} (h : t.length ≤ 100) : ∀ x ∈ [D.non, .int n, .bl true, .lst [.str (SS t)], .tup [.str (SS t)], .dct [], .str (SS []), .str (SS (t ++ [10])), .str (SS (32 :: t))], Od x := by
  intro x hx
  simp only [List.mem_cons, List.not_mem_nil, or_false] at hx
  rcases hx with rfl | rfl | rfl | rfl | rfl | rfl | rfl | rfl | rfl
  · exact ⟨rfl, rfl, .inr rfl⟩
  · exact ⟨rfl, rfl, .inr rfl⟩
  · exact ⟨rfl, rfl, .inr rfl⟩
  · exact ⟨rfl, rfl, .inr rfl⟩
  · exact ⟨rfl, rfl, .inr rfl⟩
  · exact ⟨rfl, rfl, .inr rfl⟩
  · exact Od.str (by simp)
  · exact Od.str (by simp; omega)
  · exact Od.str (by simp; omega)
theorem lits_nl : ("\n" : Str) = SS [10] ∧ (" " : Str) = SS [32] := by decide +kernel
/-- what is no number: what the law tries -/
structure Bd (d : D) : Prop where
  lf : lfD d = true
  vw : d.view = d
  no : noD d = true
  rp : RpS 1002 3 d
  il : dIsi [d, .op (.ty "list")] = some (.sh (.bl false))
theorem q_is_whole_else {x y : Int} (h : dIsi [d.view, .op (.ty "int")] = some (.sh (.bl false))) : f_is_whole [.sh d, .sh (.int x), .sh (.int y)] = .ok (.sh (.bl false)) [.no, .no, .no] := by
  simp? only [f_is_whole, m_is_whole, h]
theorem q_is_whole_bl {b : Bool} {x y : Int} : f_is_whole [.sh (.bl b), .sh (.int x), .sh (.int y)] = .ok (.sh (.bl false)) [.no, .no, .no] := by
  have h1 : dIsi [.bl b, .op (.ty "int")] = some (.sh (.bl true)) := rfl
  have h2 : dIsi [.bl b, .op (.ty "bool")] = some (.sh (.bl true)) := rfl
  simp? only [f_is_whole, m_is_whole, h1, h2]
theorem rps_lab {w dep k : Nat} (h : RpS w dep d) : RpS w dep (.lab k d) := h
theorem tgs_nil : ∀ {ρ : En}, ρ.all lfSl = true → tgs ρ = []
  | [], _ => rfl
  | s :: ρ, h => by
    rw [List.all_cons, Bool.and_eq_true] at h
    rw [lf_tgs h.1]
    exact tgs_nil h.2
theorem eIxT_ev {ma mb : E} : eIxT ma mb ρ = (ma ρ).bind fun o1 ρ1 => (mb ρ1).bind fun o2 ρ2 => match o1, o2 with
  | .lst os, .sh (.int k) => R.of (L2.atI os k) ρ2
  | _, _ => .stuck := rfl
theorem ixT_ev {os : List O} {k : Int} : (match O.lst os, O.sh (.int k) with
  | .lst os, .sh (.int k) => R.of (L2.atI os k) ρ
  | _, _ => .stuck) = R.of (L2.atI os k) ρ := rfl
theorem at9 {os : List O} (hx : os.length = 9) (h0 : 0 ≤ i) (h1 : i < 9) (P : O → Prop) (hb : ∀ x ∈ os, P x) : ∃ o, P o ∧ L2.atI os i = some o := by
  have hi : i.toNat < os.length := by omega
  exact ⟨os[i.toNat], hb _ (List.getElem_mem hi), atI_nn h0 (List.getElem?_eq_getElem hi)⟩
end
end DH
set_option Elab.async false
set_option linter.all false
set_option autoImplicit false
set_option maxRecDepth 100000
/-! SP84: cue numbers written and read (k02). -/
namespace DH
open DL PySem PySem.Spec L2 TL
section
variable {n i : Int} {a v : List Nat} {k m r : Nat} {d : D} {ρ : En}
def fr2 (r : Nat) : List Nat := if r % 10 = 0 then [48 + r / 10] else [48 + r / 10, 48 + r % 10]
def wt2 (m : Nat) : List Nat := TL.numL (m / 100) ++ if m % 100 = 0 then [] else 46 :: fr2 (m % 100)
theorem fr2_len : (fr2 r).length ≤ 2 := by unfold fr2; split <;> simp
theorem wt2_len (h : m ≤ 99999) : (wt2 m).length ≤ 10 := by
  unfold wt2
  have := nl_len (m := m / 100) (by omega)
  have := fr2_len (r := m % 100)
  rw [List.length_append]
  split <;> simp <;> omega
theorem wt2_sm : SmL (wt2 m) := fun c h => by
  unfold wt2 at h
  rcases List.mem_append.mp h with h | h
  · exact nl_sm c h
  · split at h
    · cases h
    · unfold fr2 at h
      split at h
      · simp at h; omega
      · simp at h; omega
theorem fr2_all : (List.range 100).all (fun k => decide (k = 0) || (decide (frO 2 (fr2 k)) && decide (dval (pad 2 (fr2 k)) = k) && decide (rsT (k : Int) = SS (fr2 k)))) = true := by decide +kernel
theorem fr2_ok (h0 : r ≠ 0) (h : r < 100) : frO 2 (fr2 r) ∧ dval (pad 2 (fr2 r)) = r ∧ rsT (r : Int) = SS (fr2 r) := by
  have := List.all_eq_true.mp fr2_all r (List.mem_range.mpr h)
  rw [Bool.or_eq_true, Bool.and_eq_true, Bool.and_eq_true, decide_eq_true_eq, decide_eq_true_eq, decide_eq_true_eq, decide_eq_true_eq] at this
  rcases this with z | ⟨⟨h1, h2⟩, h3⟩
  · exact absurd z h0
  · exact ⟨h1, h2, h3⟩
theorem wt2_rd (h : m ≤ 99999) : rdO 2 (wt2 m) = some m := by
  unfold wt2
  split
  · rw [List.append_nil, rdO_no nl_no, nl_wh (by omega)]
    show some (m / 100 * 10 ^ 2) = _
    congr 1; omega
  · rename_i hr
    obtain ⟨hf, hv, _⟩ := fr2_ok hr (by omega)
    rw [rdO_yes nl_no, nl_wh (by omega), Option.bind_some, if_pos hf, dval_app, hv, nl_val, pad_len hf.1.2]
    congr 1
    show m / 100 * 10 ^ 2 + m % 100 = m
    omega
theorem q_number_textX (h1 : 1 ≤ n) (h2 : n ≤ 99999) : f_number_text [.sh (.int n)] = .ok (.sh (.str (SS (wt2 n.toNat)))) [.no] := by
  have x1 : tx (n / 100) = SS (TL.numL (n.toNat / 100)) := by rw [tx_ss (by omega)]; congr 2; omega
  have l1 := tx_len (i := n / 100) (by omega) (by omega)
  have g1 := log_ok (i := n / 100) (by omega) (by omega)
  have s1 := str_int (i := n / 100) (by omega) (by omega)
  have s2 := str_int (i := n % 100) (by omega) (by omega)
  obtain ⟨z1, z2⟩ := rs_len (i := n % 100) (by omega) (by omega)
  have e0 : (Str.empty : Str).length = 0 := rfl
  have e1 : (Str.ofString ".").length = 1 := rfl
  have : wE (fun o ρ => o = .sh (.str (SS (wt2 n.toNat))) ∧ ρ = [.no]) (f_number_text [.sh (.int n)]) := by
    simp? only [f_number_text, m_number_text, q_is_number, h1, h2, dvm (a := n) (b := 100) (by decide) (by decide)]
    refine wO_if (fun z => ?_) (fun z => ?_)
    · have x3 : tx (n / 100) = SS (wt2 n.toNat) := by
        rw [x1]
        unfold wt2
        rw [if_pos (by omega), List.append_nil]
      simp? only [s1]
      rw [x3]
    · have j1 : ((Str.empty : Str) ++ tx (n / 100)).length ≤ 1000000 := app_le (by omega)
      have j2 : ((Str.empty : Str) ++ tx (n / 100) ++ Str.ofString ".").length ≤ 1000000 := app_le (by rw [Str.length_append]; omega)
      have j3 : ((Str.empty : Str) ++ tx (n / 100) ++ Str.ofString "." ++ rsT (n % 100)).length ≤ 100 := app_le (by rw [Str.length_append, Str.length_append]; omega)
      have hr : Txt.rstripChars (Txt.zfill (tx (n % 100)) 2) "0" = rsT (n % 100) := rfl
      have x2 : rsT (n % 100) = SS (fr2 (n.toNat % 100)) := by
        rw [← (fr2_ok (r := n.toNat % 100) (by omega) (by omega)).2.2]
        congr 1; omega
      have x3 : (Str.empty : Str) ++ tx (n / 100) ++ Str.ofString "." ++ rsT (n % 100) = SS (wt2 n.toNat) := by
        rw [x1, x2, show (Str.empty : Str) = SS [] by decide +kernel, show Str.ofString "." = SS [46] from l_pt, SX.S_cat, SX.S_cat, SX.S_cat]
        unfold wt2
        rw [if_neg (by omega)]
        simp
      simp? only [s2, zfill2, rstrip0 (show (Txt.zfill (tx (n % 100)) 2).length ≤ 1000000 by omega), hr, eJs_cons, eJs_nil, eFmt_ev, fmtK_int g1, jsK_str j1, jsK_str j2, jsK_str (Nat.le_trans j3 (by decide)), fmtK_str (show (rsT (n % 100)).length ≤ 1000000 by omega)]
      rw [x3]
  obtain ⟨o, ρ, e, rfl, rfl⟩ := this.ex
  exact e
theorem mulS_1 : dMulS (.str (SS [48])) (.int 1) = some (.sh (.str (SS [48]))) := by
  have : Txt.mul (SS [48]) 1 = SS [48] := by decide +kernel
  show (if -1000 ≤ (1 : Int) ∧ (1 : Int) ≤ 1000 ∧ (SS [48]).length ≤ 1000 then oS (Txt.mul (SS [48]) 1) else none) = _
  rw [if_pos (by decide +kernel), this]; rfl
/-- the two digits, the law's way -/
def dg2 (r : Nat) : List Nat := [48 + r / 10, 48 + r % 10]
theorem sl1_all : (List.range 100).all (fun k => decide (Txt.slice (SS (dg2 k)) none (some (-1)) = SS [48 + k / 10])) = true := by decide +kernel
theorem sl1 (h : r < 100) : dSl (.str (SS (dg2 r))) none (some (-1)) = some (.sh (.str (SS [48 + r / 10]))) := by
  have := of_decide_eq_true (List.all_eq_true.mp sl1_all r (List.mem_range.mpr h))
  show (if (SS (dg2 r)).length ≤ 1000000 then oS (Txt.slice (SS (dg2 r)) none (some (-1))) else none) = _
  rw [if_pos (by rw [SX.S_len]; simp [dg2]), this]; rfl
theorem q_law_write_k02 (h1 : 1 ≤ n) (h2 : n ≤ 99999) : f__law_write_k02 [.sh (.int n)] = .ok (.sh (.str (SS (wt2 n.toNat)))) [.no] := by
  have x1 : tx (n / 100) = SS (TL.numL (n.toNat / 100)) := by rw [tx_ss (by omega)]; congr 2; omega
  have s1 := str_int (i := n / 100) (by omega) (by omega)
  rw [x1] at s1
  have s2 := str_int (i := n % 100) (by omega) (by omega)
  have hn := nl_len (m := n.toNat / 100) (by omega)
  have : wE (fun o ρ => o = .sh (.str (SS (wt2 n.toNat))) ∧ ρ = [.no]) (f__law_write_k02 [.sh (.int n)]) := by
    simp? only [f__law_write_k02, m__law_write_k02]
    refine wO_if (fun z => ?_) (fun z => ?_)
    · have x3 : wt2 n.toNat = TL.numL (n.toNat / 100) := by
        unfold wt2
        rw [if_pos (by omega), List.append_nil]
      simp? only [s1]
      rw [x3]
    · obtain ⟨r, hr⟩ : ∃ r : Nat, n % 100 = (r : Int) := ⟨(n % 100).toNat, by omega⟩
      have hr2 : n.toNat % 100 = r := by omega
      have hr0 : r ≠ 0 := by omega
      have hr1 : r < 100 := by omega
      rw [hr] at s2
      have x2 : tx (r : Int) = SS (TL.numL r) := tx_ss (by omega)
      rw [x2] at s2
      have hdl := ss_last (a := [48 + r / 10]) (c := 48 + r % 10) (by simp)
      have hdl2 : dIx (.str (SS (dg2 r))) (.int (-1)) = some (.sh (.str (SS [48 + r % 10]))) := hdl
      have hsl := sl1 hr1
      have a2 := ss_add (a := TL.numL (n.toNat / 100)) (b := [46]) (by simp; omega)
      have a3 := ss_add (a := TL.numL (n.toNat / 100) ++ [46]) (b := fr2 r) (by have := fr2_len (r := r); simp; omega)
      have x3 : wt2 n.toNat = TL.numL (n.toNat / 100) ++ [46] ++ fr2 r := by
        unfold wt2
        rw [hr2, if_neg hr0]
        simp
      -- the two digits
      have hdg : ∃ z : Int, dSub (.int 2) (.int ((TL.numL r).length : Nat)) = some (.sh (.int z)) ∧ ∃ y : List Nat, dMulS (.str (SS [48])) (.int z) = some (.sh (.str (SS y))) ∧ dAdd (.str (SS y)) (.str (SS (TL.numL r))) = some (.sh (.str (SS (dg2 r)))) := by
        by_cases g : r < 10
        · have e1 : TL.numL r = [48 + r] := TL.numL_lt g
          have e2 : dg2 r = [48] ++ [48 + r] := by unfold dg2; rw [show r / 10 = 0 by omega, show r % 10 = r by omega]; rfl
          rw [e1, e2]
          exact ⟨1, rfl, [48], mulS_1, ss_add (by simp)⟩
        · have e1 : TL.numL r = dg2 r := by rw [TL.numL_step (by omega), TL.numL_lt (by omega)]; rfl
          rw [e1]
          exact ⟨0, rfl, [], mulS_0, ss_add (a := []) (by simp [dg2])⟩
      obtain ⟨z0, d1, y, d2, d3⟩ := hdg
      have hll : dLen [.str (SS (TL.numL r))] = some (.sh (.int ((TL.numL r).length : Nat))) := ss_len2 (by have := nl_len (m := r) (by omega); omega)
      generalize (TL.numL r).length = w at d1 hll
      have d1' : z0 = 2 - (w : Int) := by
        have : some (O.sh (.int (2 - (w : Int)))) = some (.sh (.int z0)) := by rw [← d1]; rfl
        injection this with this
        injection this with this
        injection this with this
        exact this.symm
      subst d1'
      have hz : ¬ ((r : Int) = 0) := by omega
      by_cases g : r % 10 = 0
      · have e1 : (SS [48 + r % 10] : Str) = SS [48] := by rw [g]
        have e2 : fr2 r = [48 + r / 10] := by unfold fr2; rw [if_pos g]
        rw [e1] at hdl2
        rw [e2] at a3 x3
        simp? only [hr, s1, s2, l_0, l_pt, hll, d2, d3, hdl2, hsl, a2, a3, hz]
        rw [x3]
      · have e1 : (SS [48 + r % 10] = SS [48]) = False := eq_false (by rw [ss_eq]; simp; omega)
        have e2 : fr2 r = dg2 r := by unfold fr2 dg2; rw [if_neg g]
        rw [e2] at a3 x3
        simp? only [hr, s1, s2, l_0, l_pt, hll, d2, d3, hdl2, e1, a2, a3, hz]
        rw [x3]
  obtain ⟨o, ρ, e, rfl, rfl⟩ := this.ex
  exact e
/-- a number within bounds, or None -/
structure Nm (d : D) : Prop where
  lf : lfD d = true
  vw : d.view = d
  rp : RpS 30 1 d
  eq : EqS 60 d
theorem nm_non : Nm .non := ⟨rfl, rfl, rps_non.mono (by decide) (by decide), eqs_non⟩
theorem nm_rd {o : Option Nat} : Nm (rdD 1 99999 o) := by
  cases o with
  | none => exact nm_non
  | some w =>
    show Nm (if (1 : Int) ≤ (w : Int) ∧ (w : Int) ≤ 99999 then D.int (w : Nat) else .non)
    split
    · rename_i h
      exact ⟨rfl, rfl, rps_int (i := (w : Nat)) (by omega) (by omega), eqs_int⟩
    · exact nm_non
theorem q_number_of_str (hl : v.length ≤ 900) : f_number_of [.sh (.str (SS v))] = .ok (.sh (rdD 1 99999 (rdO 2 v))) [.no] := by
  have h := q_partsX (k := 2) (K := 2) (.inr ⟨rfl, rfl⟩) hl
  cases e : rdO 2 v with
  | none =>
    rw [e] at h
    have h2 : f_is_number [.sh .non] = .ok (.sh (.bl false)) [.no] := by
      have := q_is_whole_else (d := .non) (x := 1) (y := 99999) rfl
      simp? only [f_is_number, m_is_number, this]
    simp? only [f_number_of, m_number_of, isi_str_str, h, oN, rdD, h2]
  | some w =>
    rw [e] at h
    by_cases g : (1 : Int) ≤ (w : Int) ∧ (w : Int) ≤ 99999
    · have g' := decide_eq_true g
      simp? only [f_number_of, m_number_of, isi_str_str, h, oN, rdD, q_is_number, g', g]
    · have g' := decide_eq_false g
      simp? only [f_number_of, m_number_of, isi_str_str, h, oN, rdD, q_is_number, g', g]
theorem q_number_of_else {d : D} (h : dIsi [d.view, .op (.ty "str")] = some (.sh (.bl false))) : f_number_of [.sh d] = .ok (.sh .non) [.no] := by
  simp? only [f_number_of, m_number_of, h]
end
end DH
set_option Elab.async false
set_option linter.all false
set_option maxRecDepth 100000
set_option autoImplicit false
set_option maxHeartbeats 4000000
namespace K02
open PySem PySem.Spec PyProof.Rows L2 DL
def top (i : Nat) : Stmt := PySem.Challenge.pw_cuetrack_k02_cue_numbers_as_texts.main.body.getD i (.Pass ⟨0, 0, 0, 0⟩)
def isx : Str → Str → Option Bool := isxL ["NoNumber"] ["CueError", "NoNumber"]
structure Txt (g : Gb) (mg : Str → Option Value) (base : Heap) : Prop where
  sys : ∃ mm, base.Ns sysModules mm
  cau_NoNumber : CauT g "NoNumber" "value"
  ki_NoNumber_CueError : PySem.W.kitOne g.K (.ref (g.cn "NoNumber")) (.ref (g.cn "CueError")) = some true
  ki_NoNumber_ValueError : PySem.W.kitOne g.K (.ref (g.cn "NoNumber")) (.type "ValueError") = some true
  mg_CueError : mg "CueError" = some (.ref (g.cn "CueError"))
  mg_NoNumber : mg "NoNumber" = some (.ref (g.cn "NoNumber"))
  isx : IsxOk g isx
  d_is_whole : DefT g mg "is_whole" (top 6) ["value", "low", "high"] []
  d_is_number : DefT g mg "is_number" (top 7) ["value"] []
  d_whole_of : DefG g mg base "whole_of" (top 8) ["text"] [] none
  d_parts_of : DefG g mg base "parts_of" (top 9) ["text", "places"] [] none
  d_number_of : DefT g mg "number_of" (top 10) ["text"] []
  d_number_text : DefT g mg "number_text" (top 11) ["number"] []
  d__law_cell : DefT g mg "_law_cell" (top 13) ["script", "k"] []
  d__law_box : DefT g mg "_law_box" (top 14) ["cell"] []
  d__law_take : DefT g mg "_law_take" (top 15) ["box", "many"] []
  d__law_write : DefT g mg "_law_write" (top 16) ["number"] []
  d__law_spoilt : DefT g mg "_law_spoilt" (top 17) ["box", "text"] []
  d__law_digits : DefT g mg "_law_digits" (top 18) ["text", "most"] []
  d__law_read : DefT g mg "_law_read" (top 19) ["value"] []
  d__law_refused : DefT g mg "_law_refused" (top 20) ["value"] []
  d_law : DefT g mg "law" (top 21) ["script"] []
  b_ValueError : mg "ValueError" = none
  b_all : mg "all" = none
  b_bool : mg "bool" = none
  b_divmod : mg "divmod" = none
  b_int : mg "int" = none
  b_isinstance : mg "isinstance" = none
  b_len : mg "len" = none
  b_list : mg "list" = none
  b_max : mg "max" = none
  b_min : mg "min" = none
  b_range : mg "range" = none
  b_repr : mg "repr" = none
  b_str : mg "str" = none
  c_DIGITS : ∃ u, mg "DIGITS" = some u ∧ RelV (.str "0123456789") u
  c_MOST_NUMBER : ∃ u, mg "MOST_NUMBER" = some u ∧ RelV (.int 99999) u
  k_number_of_0_text : KwT g mg "number_of" ["text"] 0 [0]
  k_number_text_0_number : KwT g mg "number_text" ["number"] 0 [0]
  x_NoNumber : ExD g mg "NoNumber" "CueError" "value" "value" "NoNumber.__init__" (defIn (top 2) 0)
theorem txt_wl {g : Gb} {mg : Str → Option Value} {base : Heap} (T : Txt g mg base) (l : Nat → Addr) : Txt (g.wl l) mg base := ⟨T.sys, T.cau_NoNumber, T.ki_NoNumber_CueError, T.ki_NoNumber_ValueError, T.mg_CueError, T.mg_NoNumber, T.isx, T.d_is_whole, T.d_is_number, T.d_whole_of, T.d_parts_of, T.d_number_of, T.d_number_text, T.d__law_cell, T.d__law_box, T.d__law_take, T.d__law_write, T.d__law_spoilt, T.d__law_digits, T.d__law_read, T.d__law_refused, T.d_law, T.b_ValueError, T.b_all, T.b_bool, T.b_divmod, T.b_int, T.b_isinstance, T.b_len, T.b_list, T.b_max, T.b_min, T.b_range, T.b_repr, T.b_str, T.c_DIGITS, T.c_MOST_NUMBER, T.k_number_of_0_text, T.k_number_text_0_number, T.x_NoNumber⟩
theorem isx_ok {g : Gb} {mg : Str → Option Value} {base : Heap} (T : Txt g mg base) : IsxOk g isx := T.isx
abbrev sx_NoNumber : Stmt := defIn (top 2) 0
theorem ok_x_NoNumber {P : Program} {w : World} {mg : Str → Option Value} {base : Heap} {g : Gb} (T : Txt g mg base) : ExT P w mg base g 1 "NoNumber" "value" :=
  exT_of (msg := "not a cue number") T.x_NoNumber ⟨rfl, rfl, rfl, by decide +kernel, rfl, by decide +kernel, by decide +kernel⟩ fun B mc f cdv A outer s H E hm hga hr hv =>
    pss_cons (ps_expr (pe_cinit (by rfl) hm hga hr hv (pa_cons (pe_var (i := 0) (by rfl) (Or.inl rfl)) (pa_cons pe_str pa_nil)))) (pss_cons (ps_ost (pe_var (i := 0) (by rfl) (Or.inl rfl)) (pe_var (i := 1) (by rfl) (Or.inl rfl))) pss_nil)
abbrev s_is_whole : Stmt := top 6
theorem sc_is_whole : FnScope ["value", "low", "high"] ["value", "low", "high"] (defScope s_is_whole) := ⟨rfl, rfl, rfl, by decide +kernel, rfl, by decide +kernel, by decide +kernel⟩
theorem ok_is_whole {P : Program} {w : World} {mg : Str → Option Value} {base : Heap} {g : Gb} (T : Txt g mg base) : Cal P w mg base g 1 "is_whole" 3 [] DH.f_is_whole :=
  cal_ok (j := 0) (N := ["value", "low", "high"]) T.d_is_whole sc_is_whole rfl rfl rfl fun f cdv A outer s H E hr hgd => by
    have C := cxt_def (g := g) (mg := mg) (P := P) (w := w) (base := base) (E := E) (outer := outer) (s := s) (H := H) (f := f) (cd := cdv) (A := A) (qual := "is_whole") (scope := defScope s_is_whole) sc_is_whole.nd hr hgd T.sys
    exact (sd_one (sd_ret (pd_and (pd_isinstance C T.b_isinstance (ad_cons (pd_var 0) (ad_cons (pd_gty T.b_int bootT_int) ad_nil))) (pd_and (pd_not (pd_isinstance C T.b_isinstance (ad_cons (pd_var 0) (ad_cons (pd_gty T.b_bool bootT_bool) ad_nil)))) (pd_one (pd_chnLL (pd_var 1) (pd_var 0) (pd_var 2)))))))
abbrev s_is_number : Stmt := top 7
theorem sc_is_number : FnScope ["value"] ["value"] (defScope s_is_number) := ⟨rfl, rfl, rfl, by decide +kernel, rfl, by decide +kernel, by decide +kernel⟩
theorem ok_is_number {P : Program} {w : World} {mg : Str → Option Value} {base : Heap} {g : Gb} (T : Txt g mg base) : Cal P w mg base g 2 "is_number" 1 [] DH.f_is_number :=
  cal_ok (j := 1) (N := ["value"]) T.d_is_number sc_is_number rfl rfl rfl fun f cdv A outer s H E hr hgd => by
    have C := cxt_def (g := g) (mg := mg) (P := P) (w := w) (base := base) (E := E) (outer := outer) (s := s) (H := H) (f := f) (cd := cdv) (A := A) (qual := "is_number") (scope := defScope s_is_number) sc_is_number.nd hr hgd T.sys
    exact (sd_one (sd_ret (pd_call C (ok_is_whole T) (ad_cons (pd_var 0) (ad_cons pd_int (ad_cons (pd_gint (T.c_MOST_NUMBER).choose_spec.1 (T.c_MOST_NUMBER).choose_spec.2) ad_nil))))))
abbrev s_whole_of : Stmt := top 8
theorem sc_whole_of : FnScope ["text", "sign"] ["text"] (defScope s_whole_of) := ⟨rfl, rfl, rfl, by decide +kernel, rfl, by decide +kernel, by decide +kernel⟩
theorem ok_whole_of {P : Program} {w : World} {mg : Str → Option Value} {base : Heap} {g : Gb} (T : Txt g mg base) : Cal P w mg base g 2 "whole_of" 1 [] DH.f_whole_of :=
  cal_okG (j := 1) (N := ["text", "sign"]) T.d_whole_of sc_whole_of rfl rfl rfl fun f cdv A outer s H E KA hr hgd => by
    have C := cxt_def (g := g) (mg := mg) (P := P) (w := w) (base := base) (E := E) (outer := outer) (s := s) (H := H) (f := f) (cd := cdv) (A := A) (qual := "whole_of") (scope := defScope s_whole_of) sc_whole_of.nd hr hgd T.sys
    exact (sd_cons (sd_if (qd_w (wd_or (qd_not (qd_chnLL pd_int (pd_len C T.b_len (ad_cons (pd_var 0) ad_nil)) pd_int)) (wd_or1 (qd_not (qd_val (pd_all ["sign"] C KA T.b_all (id_val C (pd_var 0)) (fun _ _ _ _ _ _ G1 => (gd_nm G1 0)) (fun _ _ _ _ _ _ G1 => (pd_in G1 (pd_var 0) (pd_gstr (T.c_DIGITS).choose_spec.1 (T.c_DIGITS).choose_spec.2))))))))) (sd_one (sd_ret pd_non)) sd_nil) (sd_cons (sd_if (qd_w (wd_and (qd_eq C (pd_ix C (pd_var 0) pd_int) pd_str) (wd_and1 (qd_ne C (pd_var 0) pd_str)))) (sd_one (sd_ret pd_non)) sd_nil) (sd_one (sd_ret (pd_int1 C T.b_int (ad_cons (pd_var 0) ad_nil))))))
abbrev s_parts_of : Stmt := top 9
theorem sc_parts_of : FnScope ["text", "places", "whole", "point", "rest", "first", "sign"] ["text", "places"] (defScope s_parts_of) := ⟨rfl, rfl, rfl, by decide +kernel, rfl, by decide +kernel, by decide +kernel⟩
theorem ok_parts_of {P : Program} {w : World} {mg : Str → Option Value} {base : Heap} {g : Gb} (T : Txt g mg base) : Cal P w mg base g 3 "parts_of" 2 [] DH.f_parts_of :=
  cal_okG (j := 2) (N := ["text", "places", "whole", "point", "rest", "first", "sign"]) T.d_parts_of sc_parts_of rfl rfl rfl fun f cdv A outer s H E KA hr hgd => by
    have C := cxt_def (g := g) (mg := mg) (P := P) (w := w) (base := base) (E := E) (outer := outer) (s := s) (H := H) (f := f) (cd := cdv) (A := A) (qual := "parts_of") (scope := defScope s_parts_of) sc_parts_of.nd hr hgd T.sys
    exact (sd_cons (sd_asg C (pd_partition (pd_var 0) C pd_str) (gd_tp C (gd_cons (gd_nm C 2) (gd_cons (gd_nm C 3) (gd_cons (gd_nm C 4) gd_nil))))) (sd_cons (sd_set C 5 (pd_call C (ok_whole_of T) (ad_cons (pd_var 2) ad_nil))) (sd_cons (sd_if (qd_isN (pd_var 5) pd_non) (sd_one (sd_ret pd_non)) sd_nil) (sd_cons (sd_if (qd_eq C (pd_var 3) pd_str) (sd_one (sd_ret (pd_if (qd_eq C (pd_var 1) pd_int) (pd_mul (pd_var 5) (pd_pow pd_int pd_int)) (pd_mul (pd_var 5) pd_int)))) sd_nil) (sd_cons (sd_if (qd_w (wd_or (qd_not (qd_chnLL pd_int (pd_len C T.b_len (ad_cons (pd_var 4) ad_nil)) (pd_var 1))) (wd_or (qd_not (qd_val (pd_all ["sign"] C KA T.b_all (id_val C (pd_var 4)) (fun _ _ _ _ _ _ G1 => (gd_nm G1 0)) (fun _ _ _ _ _ _ G1 => (pd_in G1 (pd_var 0) (pd_gstr (T.c_DIGITS).choose_spec.1 (T.c_DIGITS).choose_spec.2)))))) (wd_or1 (qd_eq C (pd_ix C (pd_var 4) pd_neg) pd_str))))) (sd_one (sd_ret pd_non)) sd_nil) (sd_one (sd_ret (pd_int1 C T.b_int (ad_cons (pd_add (pd_var 2) (pd_ljustF (pd_var 4) C (pd_var 1) pd_str)) ad_nil)))))))))
abbrev s_number_of : Stmt := top 10
theorem sc_number_of : FnScope ["text", "number"] ["text"] (defScope s_number_of) := ⟨rfl, rfl, rfl, by decide +kernel, rfl, by decide +kernel, by decide +kernel⟩
theorem ok_number_of {P : Program} {w : World} {mg : Str → Option Value} {base : Heap} {g : Gb} (T : Txt g mg base) : Cal P w mg base g 4 "number_of" 1 [] DH.f_number_of :=
  cal_ok (j := 3) (N := ["text", "number"]) T.d_number_of sc_number_of rfl rfl rfl fun f cdv A outer s H E hr hgd => by
    have C := cxt_def (g := g) (mg := mg) (P := P) (w := w) (base := base) (E := E) (outer := outer) (s := s) (H := H) (f := f) (cd := cdv) (A := A) (qual := "number_of") (scope := defScope s_number_of) sc_number_of.nd hr hgd T.sys
    exact (sd_cons (sd_if (qd_not (qd_val (pd_isinstance C T.b_isinstance (ad_cons (pd_var 0) (ad_cons (pd_gty T.b_str bootT_str) ad_nil))))) (sd_one (sd_ret pd_non)) sd_nil) (sd_cons (sd_set C 1 (pd_call C (ok_parts_of T) (ad_cons (pd_var 0) (ad_cons pd_int ad_nil)))) (sd_one (sd_ret (pd_if (qd_val (pd_call C (ok_is_number T) (ad_cons (pd_var 1) ad_nil))) (pd_var 1) pd_non)))))
abbrev s_number_text : Stmt := top 11
theorem sc_number_text : FnScope ["number", "whole", "rest"] ["number"] (defScope s_number_text) := ⟨rfl, rfl, rfl, by decide +kernel, rfl, by decide +kernel, by decide +kernel⟩
theorem ok_number_text {P : Program} {w : World} {mg : Str → Option Value} {base : Heap} {g : Gb} (T : Txt g mg base) : Cal P w mg base g 3 "number_text" 1 [] DH.f_number_text :=
  cal_ok (j := 2) (N := ["number", "whole", "rest"]) T.d_number_text sc_number_text rfl rfl rfl fun f cdv A outer s H E hr hgd => by
    have C := cxt_def (g := g) (mg := mg) (P := P) (w := w) (base := base) (E := E) (outer := outer) (s := s) (H := H) (f := f) (cd := cdv) (A := A) (qual := "number_text") (scope := defScope s_number_text) sc_number_text.nd hr hgd T.sys
    exact (sd_cons (sd_if (qd_not (qd_val (pd_call C (ok_is_number T) (ad_cons (pd_var 0) ad_nil)))) (sd_one (sd_raise C (ok_x_NoNumber T) (pd_var 0))) sd_nil) (sd_cons (sd_asg C (pd_divmod C T.b_divmod (ad_cons (pd_var 0) (ad_cons pd_int ad_nil))) (gd_tp C (gd_cons (gd_nm C 1) (gd_cons (gd_nm C 2) gd_nil)))) (sd_cons (sd_if (qd_eq C (pd_var 2) pd_int) (sd_one (sd_ret (pd_str1 C T.b_str (ad_cons (pd_var 1) ad_nil)))) sd_nil) (sd_one (sd_ret (pd_fstr (.cons (pd_fmt (pd_var 1)) (.cons pd_str (.cons (pd_fmt (pd_rstripC (pd_zfill (pd_str1 C T.b_str (ad_cons (pd_var 2) ad_nil)) C pd_int) C pd_str)) .nil)))))))))
abbrev s__law_cell : Stmt := top 13
def m__law_cell : Sm := (sSeq (sIf (eBin dLt (eVar 1) (eCB dLen [(eVar 0)])) (sRet (eBin dIx (eVar 0) (eVar 1))) sNext) (sRet (eBin dAdd (eBin dMul (eC (.int 104729)) (eVar 1)) (eC (.int 2)))))
def f__law_cell : List O → R := mkFn 2 0 [] m__law_cell
theorem sc__law_cell : FnScope ["script", "k"] ["script", "k"] (defScope s__law_cell) := ⟨rfl, rfl, rfl, by decide +kernel, rfl, by decide +kernel, by decide +kernel⟩
theorem ok__law_cell {P : Program} {w : World} {mg : Str → Option Value} {base : Heap} {g : Gb} (T : Txt g mg base) : Cal P w mg base g 1 "_law_cell" 2 [] f__law_cell :=
  cal_ok (j := 0) (N := ["script", "k"]) T.d__law_cell sc__law_cell rfl rfl rfl fun f cdv A outer s H E hr hgd => by
    have C := cxt_def (g := g) (mg := mg) (P := P) (w := w) (base := base) (E := E) (outer := outer) (s := s) (H := H) (f := f) (cd := cdv) (A := A) (qual := "_law_cell") (scope := defScope s__law_cell) sc__law_cell.nd hr hgd T.sys
    exact (sd_cons (sd_if (qd_lt (pd_var 1) (pd_len C T.b_len (ad_cons (pd_var 0) ad_nil))) (sd_one (sd_ret (pd_ix C (pd_var 0) (pd_var 1)))) sd_nil) (sd_one (sd_ret (pd_add (pd_mul pd_int (pd_var 1)) pd_int))))
abbrev s__law_box : Stmt := top 14
theorem sc__law_box : FnScope ["cell"] ["cell"] (defScope s__law_box) := ⟨rfl, rfl, rfl, by decide +kernel, rfl, by decide +kernel, by decide +kernel⟩
theorem ok__law_box {P : Program} {w : World} {mg : Str → Option Value} {base : Heap} {g : Gb} (T : Txt g mg base) : Cal P w mg base g 1 "_law_box" 1 [] DH.f__law_box_k01 :=
  cal_ok (j := 0) (N := ["cell"]) T.d__law_box sc__law_box rfl rfl rfl fun f cdv A outer s H E hr hgd => by
    have C := cxt_def (g := g) (mg := mg) (P := P) (w := w) (base := base) (E := E) (outer := outer) (s := s) (H := H) (f := f) (cd := cdv) (A := A) (qual := "_law_box") (scope := defScope s__law_box) sc__law_box.nd hr hgd T.sys
    exact (sd_one (sd_ret (pd_lst (ad_cons (pd_max C T.b_max (ad_cons pd_int (ad_cons (pd_sub (pd_var 0) (pd_pow pd_int pd_int)) ad_nil))) (ad_cons (pd_mod (pd_var 0) pd_int) (ad_cons (pd_mod (pd_var 0) pd_int) (ad_cons pd_int ad_nil)))))))
abbrev s__law_take : Stmt := top 15
def m__law_take : Sm := (sSeq (sIf (eLend (eBin dGt (eBin dIx (eVar 0) (eC (.int 0))) (eC (.int 0)))) (sSeq (sSet 2 (eBin dMod (ePix 0 (eC (.int 0))) (eVar 1))) (sSeq (sStore 0 (eC (.int 0)) (eBin dFdv (ePix 0 (eC (.int 0))) (eVar 1))) (sRetV 2))) sNext) (sSeq (sStore 0 (eC (.int 3)) (eLend (eBin dAdd (eBin dIx (eVar 0) (eC (.int 3))) (eC (.int 1))))) (sSeq (sSet 3 (ePix 0 (eC (.int 3)))) (sSeq (sSet 4 (eLend (eBin dMod (eBin dPow (eBin dAdd (eBin dAdd (eBin dMul (eBin dIx (eVar 0) (eC (.int 1))) (eBin dAdd (eBin dMul (eC (.int 2)) (eVar 3)) (eC (.int 3)))) (eBin dMul (eBin dMul (eC (.int 5981)) (eVar 3)) (eVar 3))) (eC (.int 2))) (eC (.int 5))) (eC (.int 2147483647))))) (sRet (eLend (eBin dMod (eBin dFdv (eBin dMod (eBin dPow (eBin dAdd (eBin dAdd (eVar 4) (eBin dMul (eBin dIx (eVar 0) (eC (.int 2))) (eVar 3))) (eC (.int 24))) (eC (.int 3))) (eC (.int 2147483579))) (eC (.int 16))) (eVar 1))))))))
def f__law_take : List O → R := mkFn 2 3 [true] m__law_take
theorem sc__law_take : FnScope ["box", "many", "digit", "turn", "one"] ["box", "many"] (defScope s__law_take) := ⟨rfl, rfl, rfl, by decide +kernel, rfl, by decide +kernel, by decide +kernel⟩
theorem ok__law_take {P : Program} {w : World} {mg : Str → Option Value} {base : Heap} {g : Gb} (T : Txt g mg base) : Cal P w mg base g 1 "_law_take" 2 [] f__law_take :=
  cal_ok (j := 0) (N := ["box", "many", "digit", "turn", "one"]) T.d__law_take sc__law_take rfl rfl rfl fun f cdv A outer s H E hr hgd => by
    have C := cxt_def (g := g) (mg := mg) (P := P) (w := w) (base := base) (E := E) (outer := outer) (s := s) (H := H) (f := f) (cd := cdv) (A := A) (qual := "_law_take") (scope := defScope s__law_take) sc__law_take.nd hr hgd T.sys
    exact (sd_cons (sd_if (qd_lend (qd_gt (pd_ix C (pd_var 0) pd_int) pd_int)) (sd_cons (sd_set C 2 (pd_mod (pd_pix C 0 pd_int) (pd_var 1))) (sd_cons (sd_store C 0 (pd_fdv (pd_pix C 0 pd_int) (pd_var 1)) pd_int) (sd_one (sd_retV 2)))) sd_nil) (sd_cons (sd_store C 0 (pd_lend (pd_add (pd_ix C (pd_var 0) pd_int) pd_int)) pd_int) (sd_cons (sd_set C 3 (pd_pix C 0 pd_int)) (sd_cons (sd_set C 4 (pd_lend (pd_mod (pd_pow (pd_add (pd_add (pd_mul (pd_ix C (pd_var 0) pd_int) (pd_add (pd_mul pd_int (pd_var 3)) pd_int)) (pd_mul (pd_mul pd_int (pd_var 3)) (pd_var 3))) pd_int) pd_int) pd_int))) (sd_one (sd_ret (pd_lend (pd_mod (pd_fdv (pd_mod (pd_pow (pd_add (pd_add (pd_var 4) (pd_mul (pd_ix C (pd_var 0) pd_int) (pd_var 3))) pd_int) pd_int) pd_int) pd_int) (pd_var 1)))))))))
abbrev s__law_write : Stmt := top 16
theorem sc__law_write : FnScope ["number", "whole", "rest", "digits"] ["number"] (defScope s__law_write) := ⟨rfl, rfl, rfl, by decide +kernel, rfl, by decide +kernel, by decide +kernel⟩
theorem ok__law_write {P : Program} {w : World} {mg : Str → Option Value} {base : Heap} {g : Gb} (T : Txt g mg base) : Cal P w mg base g 1 "_law_write" 1 [] DH.f__law_write_k02 :=
  cal_ok (j := 0) (N := ["number", "whole", "rest", "digits"]) T.d__law_write sc__law_write rfl rfl rfl fun f cdv A outer s H E hr hgd => by
    have C := cxt_def (g := g) (mg := mg) (P := P) (w := w) (base := base) (E := E) (outer := outer) (s := s) (H := H) (f := f) (cd := cdv) (A := A) (qual := "_law_write") (scope := defScope s__law_write) sc__law_write.nd hr hgd T.sys
    exact (sd_cons (sd_par C 1 2 (ad_cons (pd_fdv (pd_var 0) pd_int) (ad_cons (pd_mod (pd_var 0) pd_int) ad_nil))) (sd_cons (sd_if (qd_eq C (pd_var 2) pd_int) (sd_one (sd_ret (pd_str1 C T.b_str (ad_cons (pd_var 1) ad_nil)))) sd_nil) (sd_cons (sd_set C 3 (pd_add (pd_mulS pd_str (pd_sub pd_int (pd_len C T.b_len (ad_cons (pd_str1 C T.b_str (ad_cons (pd_var 2) ad_nil)) ad_nil)))) (pd_str1 C T.b_str (ad_cons (pd_var 2) ad_nil)))) (sd_one (sd_ret (pd_add (pd_add (pd_str1 C T.b_str (ad_cons (pd_var 1) ad_nil)) pd_str) (pd_if (qd_eq C (pd_ix C (pd_var 3) pd_neg) pd_str) (pd_sl C (pd_var 3) od_none (od_some pd_neg)) (pd_var 3))))))))
abbrev s__law_spoilt : Stmt := top 17
theorem sc__law_spoilt : FnScope ["box", "text", "signs", "at", "way", "sign"] ["box", "text"] (defScope s__law_spoilt) := ⟨rfl, rfl, rfl, by decide +kernel, rfl, by decide +kernel, by decide +kernel⟩
theorem ok__law_spoilt {P : Program} {w : World} {mg : Str → Option Value} {base : Heap} {g : Gb} (T : Txt g mg base) : Cal P w mg base g 2 "_law_spoilt" 2 [] (DH.f__law_spoilt_k02 f__law_take) :=
  cal_ok (j := 1) (N := ["box", "text", "signs", "at", "way", "sign"]) T.d__law_spoilt sc__law_spoilt rfl rfl rfl fun f cdv A outer s H E hr hgd => by
    have C := cxt_def (g := g) (mg := mg) (P := P) (w := w) (base := base) (E := E) (outer := outer) (s := s) (H := H) (f := f) (cd := cdv) (A := A) (qual := "_law_spoilt") (scope := defScope s__law_spoilt) sc__law_spoilt.nd hr hgd T.sys
    exact (sd_cons (sd_set C 2 pd_str) (sd_cons (sd_par C 3 4 (ad_cons (pd_callB C (ok__law_take T) 0 (ad_cons (pd_lend (pd_add (pd_len C T.b_len (ad_cons (pd_var 1) ad_nil)) pd_int)) ad_nil)) (ad_cons (pd_callB C (ok__law_take T) 0 (ad_cons pd_int ad_nil)) ad_nil))) (sd_cons (sd_set C 5 (pd_ix C (pd_var 2) (pd_callB C (ok__law_take T) 0 (ad_cons (pd_len C T.b_len (ad_cons (pd_var 2) ad_nil)) ad_nil)))) (sd_cons (sd_if (qd_eq C (pd_var 4) pd_int) (sd_one (sd_ret (pd_add (pd_add (pd_sl C (pd_var 1) od_none (od_some (pd_var 3))) (pd_var 5)) (pd_sl C (pd_var 1) (od_some (pd_var 3)) od_none)))) sd_nil) (sd_cons (sd_if (qd_eq C (pd_var 4) pd_int) (sd_one (sd_ret (pd_add (pd_sl C (pd_var 1) od_none (od_some (pd_var 3))) (pd_sl C (pd_var 1) (od_some (pd_add (pd_var 3) pd_int)) od_none)))) sd_nil) (sd_cons (sd_if (qd_eq C (pd_var 4) pd_int) (sd_one (sd_ret (pd_add (pd_add (pd_sl C (pd_var 1) od_none (od_some (pd_var 3))) (pd_var 5)) (pd_sl C (pd_var 1) (od_some (pd_add (pd_var 3) pd_int)) od_none)))) sd_nil) (sd_cons (sd_if (qd_eq C (pd_var 4) pd_int) (sd_one (sd_ret (pd_ix C (pd_lst (ad_cons (pd_add (pd_var 1) pd_str) (ad_cons (pd_add pd_str (pd_var 1)) (ad_cons (pd_add (pd_var 1) pd_str) (ad_cons (pd_add (pd_var 1) pd_str) (ad_cons (pd_add pd_str (pd_var 1)) (ad_cons pd_str (ad_cons pd_str (ad_cons pd_str (ad_cons pd_str (ad_cons pd_str ad_nil))))))))))) (pd_callB C (ok__law_take T) 0 (ad_cons pd_int ad_nil))))) sd_nil) (sd_one (sd_retV 1)))))))))
abbrev s__law_digits : Stmt := top 18
theorem sc__law_digits : FnScope ["text", "most", "sign"] ["text", "most"] (defScope s__law_digits) := ⟨rfl, rfl, rfl, by decide +kernel, rfl, by decide +kernel, by decide +kernel⟩
theorem ok__law_digits {P : Program} {w : World} {mg : Str → Option Value} {base : Heap} {g : Gb} (T : Txt g mg base) : Cal P w mg base g 1 "_law_digits" 2 [] DH.f__law_digits_k02 :=
  cal_ok (j := 0) (N := ["text", "most", "sign"]) T.d__law_digits sc__law_digits rfl rfl rfl fun f cdv A outer s H E hr hgd => by
    have C := cxt_def (g := g) (mg := mg) (P := P) (w := w) (base := base) (E := E) (outer := outer) (s := s) (H := H) (f := f) (cd := cdv) (A := A) (qual := "_law_digits") (scope := defScope s__law_digits) sc__law_digits.nd hr hgd T.sys
    exact (sd_one (sd_ret (pd_and (pd_chnLL pd_int (pd_len C T.b_len (ad_cons (pd_var 0) ad_nil)) (pd_var 1)) (pd_one (pd_eq C (pd_lcT [("sign", 2)] C (id_val C (pd_var 0)) (fun _ _ _ _ _ B1 => (gd_nm B1 2)) (fun _ _ _ _ _ B1 => (qd_notIn B1 (pd_var 2) pd_str)) (fun _ _ _ _ _ B1 => (pd_var 2))) (pd_lst ad_nil))))))
abbrev s__law_read : Stmt := top 19
theorem sc__law_read : FnScope ["value", "cut", "whole", "rest", "found"] ["value"] (defScope s__law_read) := ⟨rfl, rfl, rfl, by decide +kernel, rfl, by decide +kernel, by decide +kernel⟩
theorem ok__law_read {P : Program} {w : World} {mg : Str → Option Value} {base : Heap} {g : Gb} (T : Txt g mg base) : Cal P w mg base g 2 "_law_read" 1 [] DH.f__law_read_k02 :=
  cal_ok (j := 1) (N := ["value", "cut", "whole", "rest", "found"]) T.d__law_read sc__law_read rfl rfl rfl fun f cdv A outer s H E hr hgd => by
    have C := cxt_def (g := g) (mg := mg) (P := P) (w := w) (base := base) (E := E) (outer := outer) (s := s) (H := H) (f := f) (cd := cdv) (A := A) (qual := "_law_read") (scope := defScope s__law_read) sc__law_read.nd hr hgd T.sys
    exact (sd_cons (sd_if (qd_not (qd_val (pd_isinstance C T.b_isinstance (ad_cons (pd_var 0) (ad_cons (pd_gty T.b_str bootT_str) ad_nil))))) (sd_one (sd_ret pd_non)) sd_nil) (sd_cons (sd_set C 1 (pd_find (pd_var 0) C pd_str)) (sd_cons (sd_asg C (pd_if (qd_lt (pd_var 1) pd_int) (pd_tup (ad_cons (pd_var 0) (ad_cons pd_str ad_nil))) (pd_tup (ad_cons (pd_sl C (pd_var 0) od_none (od_some (pd_var 1))) (ad_cons (pd_sl C (pd_var 0) (od_some (pd_add (pd_var 1) pd_int)) od_none) ad_nil)))) (gd_tp C (gd_cons (gd_nm C 2) (gd_cons (gd_nm C 3) gd_nil)))) (sd_cons (sd_if (qd_w (wd_or (qd_not (qd_val (pd_call C (ok__law_digits T) (ad_cons (pd_var 2) (ad_cons pd_int ad_nil))))) (wd_or1 (qd_w (wd_and (qd_gt (pd_len C T.b_len (ad_cons (pd_var 2) ad_nil)) pd_int) (wd_and1 (qd_eq C (pd_ix C (pd_var 2) pd_int) pd_str))))))) (sd_one (sd_ret pd_non)) sd_nil) (sd_cons (sd_if (qd_w (wd_and (qd_ge (pd_var 1) pd_int) (wd_and1 (qd_w (wd_or (qd_not (qd_val (pd_call C (ok__law_digits T) (ad_cons (pd_var 3) (ad_cons pd_int ad_nil))))) (wd_or1 (qd_eq C (pd_ix C (pd_var 3) pd_neg) pd_str))))))) (sd_one (sd_ret pd_non)) sd_nil) (sd_cons (sd_set C 4 (pd_add (pd_mul (pd_int1 C T.b_int (ad_cons (pd_var 2) ad_nil)) pd_int) (pd_int1 C T.b_int (ad_cons (pd_sl C (pd_add (pd_var 3) (pd_mulS pd_str pd_int)) od_none (od_some pd_int)) ad_nil)))) (sd_one (sd_ret (pd_if (qd_chnLL pd_int (pd_var 4) pd_int) (pd_var 4) pd_non)))))))))
abbrev s__law_refused : Stmt := top 20
def m__law_refused : Sm := (sSeq (sSet 1 (eLst [(eC (.str "told"))])) (sSeq (sTry isx (sDrop (eCall DH.f_number_text [] [(eVar 0)])) [⟨"NoNumber", some 2, (fLst 1 (consX (fun _ => some (.str "none")) (consX (fldX "NoNumber" "value") (consX (isiX "NoNumber" true) (consX (isiX "NoNumber" true) (fun _ => some []))))))⟩, ⟨"CueError", none, (fLst 1 (consX (fun _ => some (.str "other")) (fun _ => some [])))⟩]) (sRetV 1)))
def f__law_refused : List O → R := mkFn 1 2 [] m__law_refused
theorem sc__law_refused : FnScope ["value", "found", "e"] ["value"] (defScope s__law_refused) := ⟨rfl, rfl, rfl, by decide +kernel, rfl, by decide +kernel, by decide +kernel⟩
theorem ok__law_refused {P : Program} {w : World} {mg : Str → Option Value} {base : Heap} {g : Gb} (T : Txt g mg base) : Cal P w mg base g 4 "_law_refused" 1 [] f__law_refused :=
  cal_ok (j := 3) (N := ["value", "found", "e"]) T.d__law_refused sc__law_refused rfl rfl rfl fun f cdv A outer s H E hr hgd => by
    have C := cxt_def (g := g) (mg := mg) (P := P) (w := w) (base := base) (E := E) (outer := outer) (s := s) (H := H) (f := f) (cd := cdv) (A := A) (qual := "_law_refused") (scope := defScope s__law_refused) sc__law_refused.nd hr hgd T.sys
    exact (sd_cons (sd_set C 1 (pd_lst (ad_cons pd_str ad_nil))) (sd_cons (sd_try C (fun _ _ _ C => (sd_one (sd_expr (pd_call C (ok_number_text T) (ad_cons (pd_var 0) ad_nil))))) (pcl_consAs C (isx_ok T) T.mg_NoNumber (su_lst C (px_cons px_str (px_cons (px_fld C T.cau_NoNumber.1 T.cau_NoNumber.2.2) (px_cons (px_isi (pp := ⟨0, 0, 0, 0⟩) C T.cau_NoNumber.2.1 T.ki_NoNumber_CueError rv_ref (pc_own T.mg_CueError) T.b_isinstance) (px_cons (px_isi (pp := ⟨0, 0, 0, 0⟩) C T.cau_NoNumber.2.1 T.ki_NoNumber_ValueError rv_ty (pc_ty T.b_ValueError (by decide +kernel)) T.b_isinstance) px_nil))))) fLst_exc (pcl_cons C (isx_ok T) T.mg_CueError (su_lst C (px_cons px_str px_nil)) pcl_nil))) (sd_one (sd_retV 1))))
abbrev s_law : Stmt := top 21
def m_law : Sm := (sSeq (sForI itRng (eCB dMax [(eC (.int 2)), (eCB dMin [(eC (.int 12)), (eCB dLen [(eVar 0)])])]) (TD.tg (TD.nm 1)) (sSeq (sSet 2 (eCall DH.f__law_box_k01 [] [(eCall f__law_cell [] [(eVar 0), (eVar 1)])])) (sSeq (sSet 3 (eBin dIx (eLst [(eC (.int 1)), (eC (.int 99999)), (eBin dAdd (eC (.int 1)) (eCallB 2 f__law_take [] [(eBin dAdd (eBin dSub (eC (.int 99999)) (eC (.int 1))) (eC (.int 1)))])), (eBin dMul (eC (.int 100)) (eBin dAdd (eC (.int 1)) (eCallB 2 f__law_take [] [(eC (.int 999))]))), (eBin dAdd (eC (.int 1)) (eCallB 2 f__law_take [] [(eC (.int 300))]))]) (eCallB 2 f__law_take [] [(eC (.int 5))]))) (sSeq (sSet 4 (eCall DH.f__law_write_k02 [] [(eVar 3)])) (sSeq (sSet 5 (eBin dIx (eLst [(eC .non), (eVar 3), (eC (.bl true)), (eLst [(eVar 4)]), (eTup [(eVar 4)]), eDct0, (eC (.str "")), (eBin dAdd (eVar 4) (eC (.str "\n"))), (eBin dAdd (eC (.str " ")) (eVar 4))]) (eCallB 2 f__law_take [] [(eC (.int 9))]))) (sSeq (sForI itRng (eC (.int 2)) (TD.tg (TD.nm 6)) (sSeq (sIf (eOr (eBin dNe (eCall DH.f_number_text [] [(eVar 3)]) (eVar 4)) (eOr (eBin dNe (eCB dRepr [(eCallK DH.f_number_text [0] [(eVar 3)])]) (eCB dRepr [(eVar 4)])) (eBin dNe (eCB dRepr [(eCall DH.f_number_of [] [(eVar 4)])]) (eCB dRepr [(eVar 3)])))) (sRet (eC (.bl false))) sNext) (sForI itV (eLst [(eCallB 2 (DH.f__law_spoilt_k02 f__law_take) [] [(eVar 4)]), (eCallB 2 (DH.f__law_spoilt_k02 f__law_take) [] [(eVar 4)]), (eVar 5)]) (TD.tg (TD.nm 7)) (sSeq (sSet 8 (eIf (eBin dEq (eVar 6) (eC (.int 0))) (eCallK DH.f_number_of [0] [(eVar 7)]) (eCall DH.f_number_of [] [(eVar 7)]))) (sIf (eOr (eBin dNe (eVar 8) (eCall DH.f__law_read_k02 [] [(eVar 7)])) (eBin dNe (eCB dRepr [(eVar 8)]) (eCB dRepr [(eCall DH.f__law_read_k02 [] [(eVar 7)])]))) (sRet (eC (.bl false))) sNext))))) (sSeq (sSet 9 (eIxT (eLst [(eBin dSub (eC (.int 1)) (eC (.int 1))), (eBin dAdd (eC (.int 99999)) (eC (.int 1))), (eBin dPow (eC (.int 10)) (eC (.int 29))), (eVar 4), (eC .non), (eC (.bl true)), (eLst [(eVar 3)]), (eTup [(eVar 3)]), (eShr eDct0)]) (eCallB 2 f__law_take [] [(eC (.int 9))]))) (sOwn 1 9 (sSeq (sSet 8 (eLendLF (eCall f__law_refused [] [(eVar 9)]))) (sSeq (sIf (eLend (eCB dIsi [(eVar 9), (eC (.op (.ty "list")))])) (sDrop (eAppT 9 (eC (.str "more")))) sNext) (sIf (eBin dNe (eLendLF (eCB dRepr [(eVar 8)])) (eLendLF (eCB dRepr [(eLst [(eC (.str "none")), (eVar 9), (eC (.bl true)), (eC (.bl true))])]))) (sRet (eC (.bl false))) sNext))))))))))) (sRet (eC (.bl true))))
def f_law : List O → R := mkFn 1 9 [] m_law
theorem sc_law : FnScope ["script", "k", "box", "number", "text", "odd", "turn", "value", "found", "bad"] ["script"] (defScope s_law) := ⟨rfl, rfl, rfl, by decide +kernel, rfl, by decide +kernel, by decide +kernel⟩
theorem ok_law {P : Program} {w : World} {mg : Str → Option Value} {base : Heap} {g : Gb} (T : Txt g mg base) : Cal P w mg base g 5 "law" 1 [] f_law :=
  cal_ok (j := 4) (N := ["script", "k", "box", "number", "text", "odd", "turn", "value", "found", "bad"]) T.d_law sc_law rfl rfl rfl fun f cdv A outer s H E hr hgd => by
    have C := cxt_def (g := g) (mg := mg) (P := P) (w := w) (base := base) (E := E) (outer := outer) (s := s) (H := H) (f := f) (cd := cdv) (A := A) (qual := "law") (scope := defScope s_law) sc_law.nd hr hgd T.sys
    exact (sd_cons (sd_for C (id_rng1 T.b_range (pd_max C T.b_max (ad_cons pd_int (ad_cons (pd_min C T.b_min (ad_cons pd_int (ad_cons (pd_len C T.b_len (ad_cons (pd_var 0) ad_nil)) ad_nil))) ad_nil)))) (gd_nm C 1) (sd_cons (sd_set C 2 (pd_call C (ok__law_box T) (ad_cons (pd_call C (ok__law_cell T) (ad_cons (pd_var 0) (ad_cons (pd_var 1) ad_nil))) ad_nil))) (sd_cons (sd_set C 3 (pd_ix C (pd_lst (ad_cons pd_int (ad_cons pd_int (ad_cons (pd_add pd_int (pd_callB C (ok__law_take T) 2 (ad_cons (pd_add (pd_sub pd_int pd_int) pd_int) ad_nil))) (ad_cons (pd_mul pd_int (pd_add pd_int (pd_callB C (ok__law_take T) 2 (ad_cons pd_int ad_nil)))) (ad_cons (pd_add pd_int (pd_callB C (ok__law_take T) 2 (ad_cons pd_int ad_nil))) ad_nil)))))) (pd_callB C (ok__law_take T) 2 (ad_cons pd_int ad_nil)))) (sd_cons (sd_set C 4 (pd_call C (ok__law_write T) (ad_cons (pd_var 3) ad_nil))) (sd_cons (sd_set C 5 (pd_ix C (pd_lst (ad_cons pd_non (ad_cons (pd_var 3) (ad_cons pd_bl (ad_cons (pd_lst (ad_cons (pd_var 4) ad_nil)) (ad_cons (pd_tup (ad_cons (pd_var 4) ad_nil)) (ad_cons pd_dct0 (ad_cons pd_str (ad_cons (pd_add (pd_var 4) pd_str) (ad_cons (pd_add pd_str (pd_var 4)) ad_nil)))))))))) (pd_callB C (ok__law_take T) 2 (ad_cons pd_int ad_nil)))) (sd_cons (sd_for C (id_rng1 T.b_range pd_int) (gd_nm C 6) (sd_cons (sd_if (qd_w (wd_or (qd_ne C (pd_call C (ok_number_text T) (ad_cons (pd_var 3) ad_nil)) (pd_var 4)) (wd_or (qd_ne C (pd_repr C T.b_repr (ad_cons (pd_callK0 C (ok_number_text T) T.k_number_text_0_number (kd_cons (pd_var 3) kd_nil)) ad_nil)) (pd_repr C T.b_repr (ad_cons (pd_var 4) ad_nil))) (wd_or1 (qd_ne C (pd_repr C T.b_repr (ad_cons (pd_call C (ok_number_of T) (ad_cons (pd_var 4) ad_nil)) ad_nil)) (pd_repr C T.b_repr (ad_cons (pd_var 3) ad_nil))))))) (sd_one (sd_ret pd_bl)) sd_nil) (sd_one (sd_for C (id_val C (pd_lst (ad_cons (pd_callB C (ok__law_spoilt T) 2 (ad_cons (pd_var 4) ad_nil)) (ad_cons (pd_callB C (ok__law_spoilt T) 2 (ad_cons (pd_var 4) ad_nil)) (ad_cons (pd_var 5) ad_nil))))) (gd_nm C 7) (sd_cons (sd_set C 8 (pd_if (qd_eq C (pd_var 6) pd_int) (pd_callK0 C (ok_number_of T) T.k_number_of_0_text (kd_cons (pd_var 7) kd_nil)) (pd_call C (ok_number_of T) (ad_cons (pd_var 7) ad_nil)))) (sd_one (sd_if (qd_w (wd_or (qd_ne C (pd_var 8) (pd_call C (ok__law_read T) (ad_cons (pd_var 7) ad_nil))) (wd_or1 (qd_ne C (pd_repr C T.b_repr (ad_cons (pd_var 8) ad_nil)) (pd_repr C T.b_repr (ad_cons (pd_call C (ok__law_read T) (ad_cons (pd_var 7) ad_nil)) ad_nil)))))) (sd_one (sd_ret pd_bl)) sd_nil))))))) (sd_cons (sd_set C 9 (pd_ixT C (pd_lst (ad_cons (pd_sub pd_int pd_int) (ad_cons (pd_add pd_int pd_int) (ad_cons (pd_pow pd_int pd_int) (ad_cons (pd_var 4) (ad_cons pd_non (ad_cons pd_bl (ad_cons (pd_lst (ad_cons (pd_var 3) ad_nil)) (ad_cons (pd_tup (ad_cons (pd_var 3) ad_nil)) (ad_cons (pd_shr pd_dct0) ad_nil)))))))))) (pd_callB C (ok__law_take T) 2 (ad_cons pd_int ad_nil)))) (sd_own 1 9 fun l => by have T := txt_wl T l; have C := Cxt.wl (l := l) C; exact (sd_cons (sd_set C 8 (pd_lendLF (pd_call C (ok__law_refused T) (ad_cons (pd_var 9) ad_nil)))) (sd_cons (sd_if (qd_val (pd_lend (pd_isinstance C T.b_isinstance (ad_cons (pd_var 9) (ad_cons (pd_gty T.b_list bootT_list) ad_nil))))) (sd_one (sd_expr (pd_appT C 9 pd_str))) sd_nil) (sd_one (sd_if (qd_ne C (pd_lendLF (pd_repr C T.b_repr (ad_cons (pd_var 8) ad_nil))) (pd_lendLF (pd_repr C T.b_repr (ad_cons (pd_lst (ad_cons pd_str (ad_cons (pd_var 9) (ad_cons pd_bl (ad_cons pd_bl ad_nil))))) ad_nil)))) (sd_one (sd_ret pd_bl)) sd_nil)))))))))))) (sd_one (sd_ret pd_bl)))
/-! the end -/
section
variable {l : PySem.W.OpenLaw} {q : Program} {w : World} {h : Heap} {mg : Str → Option Value}
def gOf (K : PySem.W.Frag) (tb : List Addr) (cl : List (Str × Addr)) (nl : List (Addr × Str)) : Gb := ⟨K, fun s => (cl.lookup s).getD 0, tb, fun p => nl.lookup p, fun _ => 0⟩
theorem kit_ownX {K : PySem.W.Frag} {C D : Addr} (hdct : PySem.W.hasDictIn K D = true) (ht : PySem.W.typeIn K (.ref D) = some (.type "type")) (h4 : PySem.W.subIn K (.ref C) (.ref D) = some true) : PySem.W.kitOne K (.ref C) (.ref D) = some true := by
  obtain ⟨cd, hc, _⟩ := PySem.W.any_some hdct
  have e2 : ((PySem.W.clsIn K D).isSome && PySem.W.typeIn K (.ref D) == some (.type "type")) = true := by rw [hc, ht] <;> rfl
  unfold PySem.W.kitOne
  split
  · rfl
  · show (if ((PySem.W.clsIn K D).isSome && PySem.W.typeIn K (.ref D) == some (.type "type")) = true then PySem.W.subIn K (.ref C) (.ref D) else none) = _
    rw [if_pos e2]; exact h4
theorem kit_tyX {K : PySem.W.Frag} {C : Addr} {T : String} (hm : PySem.W.kitMeta T = true) (h4 : PySem.W.subIn K (.ref C) (.type T) = some true) : PySem.W.kitOne K (.ref C) (.type T) = some true := by
  unfold PySem.W.kitOne
  split
  · rfl
  · show (if PySem.W.kitMeta T = true then PySem.W.subIn K (.ref C) (.type T) else none) = _
    rw [if_pos hm]; exact h4
theorem all_mk {K : PySem.W.Frag} {f0 : Addr} {oc0 kV0 dc0 pm0 cd0 ct0 : Value} {od0 an0 : Option Addr} {sl0 : Array (Option Value)} {f1 : Addr} {oc1 kV1 dc1 pm1 cd1 ct1 : Value} {od1 an1 : Option Addr} {sl1 : Array (Option Value)} {f2 : Addr} {oc2 kV2 dc2 pm2 cd2 ct2 : Value} {od2 an2 : Option Addr} {sl2 : Array (Option Value)} {cc2 P2 : Addr} {tc2 : Value} {td2 : Option Addr} {tsl2 : Array (Option Value)} {tv2 : Array Value} {f3 : Addr} {oc3 kV3 dc3 pm3 cd3 ct3 : Value} {od3 an3 : Option Addr} {sl3 : Array (Option Value)} {cc3 P3 : Addr} {tc3 : Value} {td3 : Option Addr} {tsl3 : Array (Option Value)} {tv3 : Array Value} {f4 : Addr} {oc4 kV4 dc4 pm4 cd4 ct4 : Value} {od4 an4 : Option Addr} {sl4 : Array (Option Value)} {f5 : Addr} {oc5 kV5 dc5 pm5 cd5 ct5 : Value} {od5 an5 : Option Addr} {sl5 : Array (Option Value)} {f6 : Addr} {oc6 kV6 dc6 pm6 cd6 ct6 : Value} {od6 an6 : Option Addr} {sl6 : Array (Option Value)} {f7 : Addr} {oc7 kV7 dc7 pm7 cd7 ct7 : Value} {od7 an7 : Option Addr} {sl7 : Array (Option Value)} {f8 : Addr} {oc8 kV8 dc8 pm8 cd8 ct8 : Value} {od8 an8 : Option Addr} {sl8 : Array (Option Value)} {f9 : Addr} {oc9 kV9 dc9 pm9 cd9 ct9 : Value} {od9 an9 : Option Addr} {sl9 : Array (Option Value)} {f10 : Addr} {oc10 kV10 dc10 pm10 cd10 ct10 : Value} {od10 an10 : Option Addr} {sl10 : Array (Option Value)} {f11 : Addr} {oc11 kV11 dc11 pm11 cd11 ct11 : Value} {od11 an11 : Option Addr} {sl11 : Array (Option Value)} {f12 : Addr} {oc12 kV12 dc12 pm12 cd12 ct12 : Value} {od12 an12 : Option Addr} {sl12 : Array (Option Value)} {f13 : Addr} {oc13 kV13 dc13 pm13 cd13 ct13 : Value} {od13 an13 : Option Addr} {sl13 : Array (Option Value)} {f14 : Addr} {oc14 kV14 dc14 pm14 cd14 ct14 : Value} {od14 an14 : Option Addr} {sl14 : Array (Option Value)} {Vc_DIGITS : Value} {Vc_MOST_NUMBER : Value} {EH0 : Addr} {XC0 XI0 XB0 XN0 : Addr} {xnm0 xq0 : Str} {xbs0 xbm0 : List Value} {xsn0 : List Str} {xsub0 : List Value} {xab0 : Bool} {xcol0 : Option Bool} {xdd0 : Option Addr} {xm00 xm10 xm20 xm30 xm50 : Option Value} {xoc0 xkV0 xdc0 xpm0 xcd0 xct0 : Value} {xod0 xan0 : Option Addr} {xsl0 : Array (Option Value)} (X : K.In h) (G : h.Ns mainGlobals mg) (TT : TabsD q K h)
    (a0 : PySem.W.nsIn K mainGlobals "is_whole" = some (some (.ref f0)))
    (l0 : K.lookup f0 = some ⟨oc0, od0, .func (PySem.W.fnOf "is_whole" "is_whole" (defArgs s_is_whole) (defBody s_is_whole) (defScope s_is_whole) .none kV0 dc0 pm0 an0 cd0 ct0), sl0⟩)
    (c0 : PySem.W.codeIn K cd0 "is_whole" = true)
    (k0 : PySem.W.keepIn K (.ref f0) = true)
    (a1 : PySem.W.nsIn K mainGlobals "is_number" = some (some (.ref f1)))
    (l1 : K.lookup f1 = some ⟨oc1, od1, .func (PySem.W.fnOf "is_number" "is_number" (defArgs s_is_number) (defBody s_is_number) (defScope s_is_number) .none kV1 dc1 pm1 an1 cd1 ct1), sl1⟩)
    (c1 : PySem.W.codeIn K cd1 "is_number" = true)
    (k1 : PySem.W.keepIn K (.ref f1) = true)
    (a2 : PySem.W.nsIn K mainGlobals "whole_of" = some (some (.ref f2)))
    (l2 : K.lookup f2 = some ⟨oc2, od2, .func (PySem.W.fnOf "whole_of" "whole_of" (defArgs s_whole_of) (defBody s_whole_of) (defScope s_whole_of) .none kV2 dc2 pm2 an2 cd2 ct2), sl2⟩)
    (c2 : PySem.W.codeIn K cd2 "whole_of" = true)
    (k2 : PySem.W.keepIn K (.ref f2) = true)
    (h2 : cd2 = .ref cc2)
    (t2 : K.lookup cc2 = some ⟨tc2, td2, .fields tv2, tsl2⟩)
    (v2 : (tv2[11]? : Option Value) = some (.ref P2))
    (n2 : K.lookup P2 = none)
    (r2 : ((recsOf q).find? (fun e => e.name == ("whole_of" : Str))).isSome = true)
    (a3 : PySem.W.nsIn K mainGlobals "parts_of" = some (some (.ref f3)))
    (l3 : K.lookup f3 = some ⟨oc3, od3, .func (PySem.W.fnOf "parts_of" "parts_of" (defArgs s_parts_of) (defBody s_parts_of) (defScope s_parts_of) .none kV3 dc3 pm3 an3 cd3 ct3), sl3⟩)
    (c3 : PySem.W.codeIn K cd3 "parts_of" = true)
    (k3 : PySem.W.keepIn K (.ref f3) = true)
    (h3 : cd3 = .ref cc3)
    (t3 : K.lookup cc3 = some ⟨tc3, td3, .fields tv3, tsl3⟩)
    (v3 : (tv3[11]? : Option Value) = some (.ref P3))
    (n3 : K.lookup P3 = none)
    (r3 : ((recsOf q).find? (fun e => e.name == ("parts_of" : Str))).isSome = true)
    (a4 : PySem.W.nsIn K mainGlobals "number_of" = some (some (.ref f4)))
    (l4 : K.lookup f4 = some ⟨oc4, od4, .func (PySem.W.fnOf "number_of" "number_of" (defArgs s_number_of) (defBody s_number_of) (defScope s_number_of) .none kV4 dc4 pm4 an4 cd4 ct4), sl4⟩)
    (c4 : PySem.W.codeIn K cd4 "number_of" = true)
    (k4 : PySem.W.keepIn K (.ref f4) = true)
    (a5 : PySem.W.nsIn K mainGlobals "number_text" = some (some (.ref f5)))
    (l5 : K.lookup f5 = some ⟨oc5, od5, .func (PySem.W.fnOf "number_text" "number_text" (defArgs s_number_text) (defBody s_number_text) (defScope s_number_text) .none kV5 dc5 pm5 an5 cd5 ct5), sl5⟩)
    (c5 : PySem.W.codeIn K cd5 "number_text" = true)
    (k5 : PySem.W.keepIn K (.ref f5) = true)
    (a6 : PySem.W.nsIn K mainGlobals "_law_cell" = some (some (.ref f6)))
    (l6 : K.lookup f6 = some ⟨oc6, od6, .func (PySem.W.fnOf "_law_cell" "_law_cell" (defArgs s__law_cell) (defBody s__law_cell) (defScope s__law_cell) .none kV6 dc6 pm6 an6 cd6 ct6), sl6⟩)
    (c6 : PySem.W.codeIn K cd6 "_law_cell" = true)
    (k6 : PySem.W.keepIn K (.ref f6) = true)
    (a7 : PySem.W.nsIn K mainGlobals "_law_box" = some (some (.ref f7)))
    (l7 : K.lookup f7 = some ⟨oc7, od7, .func (PySem.W.fnOf "_law_box" "_law_box" (defArgs s__law_box) (defBody s__law_box) (defScope s__law_box) .none kV7 dc7 pm7 an7 cd7 ct7), sl7⟩)
    (c7 : PySem.W.codeIn K cd7 "_law_box" = true)
    (k7 : PySem.W.keepIn K (.ref f7) = true)
    (a8 : PySem.W.nsIn K mainGlobals "_law_take" = some (some (.ref f8)))
    (l8 : K.lookup f8 = some ⟨oc8, od8, .func (PySem.W.fnOf "_law_take" "_law_take" (defArgs s__law_take) (defBody s__law_take) (defScope s__law_take) .none kV8 dc8 pm8 an8 cd8 ct8), sl8⟩)
    (c8 : PySem.W.codeIn K cd8 "_law_take" = true)
    (k8 : PySem.W.keepIn K (.ref f8) = true)
    (a9 : PySem.W.nsIn K mainGlobals "_law_write" = some (some (.ref f9)))
    (l9 : K.lookup f9 = some ⟨oc9, od9, .func (PySem.W.fnOf "_law_write" "_law_write" (defArgs s__law_write) (defBody s__law_write) (defScope s__law_write) .none kV9 dc9 pm9 an9 cd9 ct9), sl9⟩)
    (c9 : PySem.W.codeIn K cd9 "_law_write" = true)
    (k9 : PySem.W.keepIn K (.ref f9) = true)
    (a10 : PySem.W.nsIn K mainGlobals "_law_spoilt" = some (some (.ref f10)))
    (l10 : K.lookup f10 = some ⟨oc10, od10, .func (PySem.W.fnOf "_law_spoilt" "_law_spoilt" (defArgs s__law_spoilt) (defBody s__law_spoilt) (defScope s__law_spoilt) .none kV10 dc10 pm10 an10 cd10 ct10), sl10⟩)
    (c10 : PySem.W.codeIn K cd10 "_law_spoilt" = true)
    (k10 : PySem.W.keepIn K (.ref f10) = true)
    (a11 : PySem.W.nsIn K mainGlobals "_law_digits" = some (some (.ref f11)))
    (l11 : K.lookup f11 = some ⟨oc11, od11, .func (PySem.W.fnOf "_law_digits" "_law_digits" (defArgs s__law_digits) (defBody s__law_digits) (defScope s__law_digits) .none kV11 dc11 pm11 an11 cd11 ct11), sl11⟩)
    (c11 : PySem.W.codeIn K cd11 "_law_digits" = true)
    (k11 : PySem.W.keepIn K (.ref f11) = true)
    (a12 : PySem.W.nsIn K mainGlobals "_law_read" = some (some (.ref f12)))
    (l12 : K.lookup f12 = some ⟨oc12, od12, .func (PySem.W.fnOf "_law_read" "_law_read" (defArgs s__law_read) (defBody s__law_read) (defScope s__law_read) .none kV12 dc12 pm12 an12 cd12 ct12), sl12⟩)
    (c12 : PySem.W.codeIn K cd12 "_law_read" = true)
    (k12 : PySem.W.keepIn K (.ref f12) = true)
    (a13 : PySem.W.nsIn K mainGlobals "_law_refused" = some (some (.ref f13)))
    (l13 : K.lookup f13 = some ⟨oc13, od13, .func (PySem.W.fnOf "_law_refused" "_law_refused" (defArgs s__law_refused) (defBody s__law_refused) (defScope s__law_refused) .none kV13 dc13 pm13 an13 cd13 ct13), sl13⟩)
    (c13 : PySem.W.codeIn K cd13 "_law_refused" = true)
    (k13 : PySem.W.keepIn K (.ref f13) = true)
    (a14 : PySem.W.nsIn K mainGlobals "law" = some (some (.ref f14)))
    (l14 : K.lookup f14 = some ⟨oc14, od14, .func (PySem.W.fnOf "law" "law" (defArgs s_law) (defBody s_law) (defScope s_law) .none kV14 dc14 pm14 an14 cd14 ct14), sl14⟩)
    (c14 : PySem.W.codeIn K cd14 "law" = true)
    (k14 : PySem.W.keepIn K (.ref f14) = true)
    (b_ValueError : PySem.W.nsIn K mainGlobals "ValueError" = some none)
    (b_all : PySem.W.nsIn K mainGlobals "all" = some none)
    (b_bool : PySem.W.nsIn K mainGlobals "bool" = some none)
    (b_divmod : PySem.W.nsIn K mainGlobals "divmod" = some none)
    (b_int : PySem.W.nsIn K mainGlobals "int" = some none)
    (b_isinstance : PySem.W.nsIn K mainGlobals "isinstance" = some none)
    (b_len : PySem.W.nsIn K mainGlobals "len" = some none)
    (b_list : PySem.W.nsIn K mainGlobals "list" = some none)
    (b_max : PySem.W.nsIn K mainGlobals "max" = some none)
    (b_min : PySem.W.nsIn K mainGlobals "min" = some none)
    (b_range : PySem.W.nsIn K mainGlobals "range" = some none)
    (b_repr : PySem.W.nsIn K mainGlobals "repr" = some none)
    (b_str : PySem.W.nsIn K mainGlobals "str" = some none)
    (c_DIGITS : PySem.W.nsIn K mainGlobals "DIGITS" = some (some Vc_DIGITS))
    (c_DIGITSr : RelV (.str "0123456789") Vc_DIGITS)
    (c_MOST_NUMBER : PySem.W.nsIn K mainGlobals "MOST_NUMBER" = some (some Vc_MOST_NUMBER))
    (c_MOST_NUMBERr : RelV (.int 99999) Vc_MOST_NUMBER)
    (eh0 : PySem.W.nsIn K mainGlobals "CueError" = some (some (.ref EH0)))
    (ei0 : PySem.W.subIn K (.ref EH0) (.type "BaseException") = some true)
    (ej0 : PySem.W.hasDictIn K EH0 = true)
    (ek0 : PySem.W.typeIn K (.ref EH0) = some (.type "type"))
    (xa0 : PySem.W.nsIn K mainGlobals "NoNumber" = some (some (.ref XC0)))
    (xl0 : K.lookup XC0 = some (excClassObj xnm0 xq0 XC0 XN0 xbs0 xbm0 true xsn0 xsub0 xab0 xcol0 xdd0 xm00 xm10 xm20 xm30 xm50 "ValueError.__new__"))
    (xr0 : PySem.HandSPX.refsVE xbm0 = true)
    (xs0 : PySem.W.findIn K (.ref XC0) "__setattr__" = some (some (.builtin "object.__setattr__")))
    (xe0 : PySem.W.subIn K (.ref XC0) (.type "BaseException") = some true)
    (xt0 : PySem.W.typeIn K (.ref XC0) = some (.type "type"))
    (xk0 : PySem.W.keepIn K (.ref XC0) = true)
    (xi0 : PySem.W.findIn K (.ref XC0) "__init__" = some (some (.ref XI0)))
    (xj0 : PySem.W.typeIn K (.ref XI0) = some (.type "function"))
    (xm0 : K.lookup XI0 = some ⟨xoc0, xod0, .func (PySem.W.fnOf "__init__" "NoNumber.__init__" (defArgs sx_NoNumber) (defBody sx_NoNumber) (defScope sx_NoNumber) .none xkV0 xdc0 xpm0 xan0 xcd0 xct0), xsl0⟩)
    (xc0 : PySem.W.codeIn K xcd0 "NoNumber.__init__" = true)
    (xf0 : PySem.W.findIn K (.ref XC0) "value" = some none)
    (xb0 : PySem.W.nsIn K mainGlobals "CueError" = some (some (.ref XB0)))
    (xg0 : PySem.W.specialIn K (.ref XB0) "__getattribute__" = some (some (.builtin "type.__getattribute__")))
    (xw0 : PySem.W.readsIn K XB0 (.type "type") = true)
    (xv0 : PySem.W.findCls K (.ref XB0) (.type "type") "__init__" = some (.val (.builtin "ValueError.__init__")))
    (yg0 : PySem.W.findIn K (.ref XC0) "__getattribute__" = some (some (.builtin "BaseException.__getattribute__")))
    (yh0 : PySem.W.findIn K (.ref XC0) "__getattr__" = some none)
    (yd0 : PySem.W.hasDictIn K XC0 = true)
    (ya0 : PySem.W.findIn K (.ref XC0) "__class__" = some (some (.builtin "object.__class__")))
    (yn0 : PySem.W.specialIn K (.builtin "object.__class__") "__get__" = some (some (.builtin "getset_descriptor.__get__")))
    (yt0 : PySem.W.takesIn K (.builtin "object.__class__") = some true)
    (ym0 : PySem.W.mroIn K XC0 (.type "object") = some true)
    (em0_0 : PySem.W.subIn K (.ref XC0) (.ref EH0) = some true)
    (em0_1 : PySem.W.subIn K (.ref XC0) (.ref XC0) = some true)
    (kx0_ValueError : PySem.W.subIn K (.ref XC0) (.type "ValueError") = some true)
    (pl : ∀ ns : List Int, ns.length ≤ 63 → (∀ z ∈ ns, Builtin.Int.intBits z ≤ 1048576) → ∃ ρ, f_law [.sh (.scr ns)] = .ok (.sh (.bl true)) ρ) : LawD l w K 5 63 mg h := by
  have T2 := TT "whole_of" _ _ r2 (tabIn_of a2 l2 h2 t2 v2)
  have T3 := TT "parts_of" _ _ r3 (tabIn_of a3 l3 h3 t3 v3)
  have en_NoNumber : (gOf K [P2, P3] [("NoNumber", XC0), ("CueError", EH0)] []).cn "NoNumber" = XC0 := by first | rfl | simp [gOf]
  have en_CueError : (gOf K [P2, P3] [("NoNumber", XC0), ("CueError", EH0)] []).cn "CueError" = EH0 := by first | rfl | simp [gOf]
  refine ⟨gOf K [P2, P3] [("NoNumber", XC0), ("CueError", EH0)] [], [(cc2, P2), (cc3, P3)], f_law, rfl, rfl, (List.forall_mem_cons.mpr ⟨T2.2, (List.forall_mem_cons.mpr ⟨T3.2, (fun _ m => (nomatch m))⟩)⟩), (List.forall_mem_cons.mpr ⟨n2, (List.forall_mem_cons.mpr ⟨n3, (fun _ m => (nomatch m))⟩)⟩), (List.forall_mem_cons.mpr ⟨T2.1, (List.forall_mem_cons.mpr ⟨T3.1, (fun _ m => (nomatch m))⟩)⟩), fun base KB NB sy TB => ok_law (g := gOf K [P2, P3] [("NoNumber", XC0), ("CueError", EH0)] []) {
    sys := sy, d_is_whole := defT_of (g := gOf K [P2, P3] [("NoNumber", XC0), ("CueError", EH0)] []) (h := h) X G a0 l0 c0 k0 ((bl3 fun _ _ _ => rfl)),
    d_is_number := defT_of (g := gOf K [P2, P3] [("NoNumber", XC0), ("CueError", EH0)] []) (h := h) X G a1 l1 c1 k1 ((bl1 fun _ => rfl)),
    d_whole_of := defG_of (g := gOf K [P2, P3] [("NoNumber", XC0), ("CueError", EH0)] []) (h := h) X G a2 l2 c2 k2 ((bl1 fun _ => rfl)) h2 (by simp [gOf]) rfl (TB (cc2, P2) (by simp)),
    d_parts_of := defG_of (g := gOf K [P2, P3] [("NoNumber", XC0), ("CueError", EH0)] []) (h := h) X G a3 l3 c3 k3 ((bl2 fun _ _ => rfl)) h3 (by simp [gOf]) rfl (TB (cc3, P3) (by simp)),
    d_number_of := defT_of (g := gOf K [P2, P3] [("NoNumber", XC0), ("CueError", EH0)] []) (h := h) X G a4 l4 c4 k4 ((bl1 fun _ => rfl)),
    d_number_text := defT_of (g := gOf K [P2, P3] [("NoNumber", XC0), ("CueError", EH0)] []) (h := h) X G a5 l5 c5 k5 ((bl1 fun _ => rfl)),
    d__law_cell := defT_of (g := gOf K [P2, P3] [("NoNumber", XC0), ("CueError", EH0)] []) (h := h) X G a6 l6 c6 k6 ((bl2 fun _ _ => rfl)),
    d__law_box := defT_of (g := gOf K [P2, P3] [("NoNumber", XC0), ("CueError", EH0)] []) (h := h) X G a7 l7 c7 k7 ((bl1 fun _ => rfl)),
    d__law_take := defT_of (g := gOf K [P2, P3] [("NoNumber", XC0), ("CueError", EH0)] []) (h := h) X G a8 l8 c8 k8 ((bl2 fun _ _ => rfl)),
    d__law_write := defT_of (g := gOf K [P2, P3] [("NoNumber", XC0), ("CueError", EH0)] []) (h := h) X G a9 l9 c9 k9 ((bl1 fun _ => rfl)),
    d__law_spoilt := defT_of (g := gOf K [P2, P3] [("NoNumber", XC0), ("CueError", EH0)] []) (h := h) X G a10 l10 c10 k10 ((bl2 fun _ _ => rfl)),
    d__law_digits := defT_of (g := gOf K [P2, P3] [("NoNumber", XC0), ("CueError", EH0)] []) (h := h) X G a11 l11 c11 k11 ((bl2 fun _ _ => rfl)),
    d__law_read := defT_of (g := gOf K [P2, P3] [("NoNumber", XC0), ("CueError", EH0)] []) (h := h) X G a12 l12 c12 k12 ((bl1 fun _ => rfl)),
    d__law_refused := defT_of (g := gOf K [P2, P3] [("NoNumber", XC0), ("CueError", EH0)] []) (h := h) X G a13 l13 c13 k13 ((bl1 fun _ => rfl)),
    d_law := defT_of (g := gOf K [P2, P3] [("NoNumber", XC0), ("CueError", EH0)] []) (h := h) X G a14 l14 c14 k14 ((bl1 fun _ => rfl)),
    b_ValueError := PySem.W.mg_none_of X G b_ValueError,
    b_all := PySem.W.mg_none_of X G b_all,
    b_bool := PySem.W.mg_none_of X G b_bool,
    b_divmod := PySem.W.mg_none_of X G b_divmod,
    b_int := PySem.W.mg_none_of X G b_int,
    b_isinstance := PySem.W.mg_none_of X G b_isinstance,
    b_len := PySem.W.mg_none_of X G b_len,
    b_list := PySem.W.mg_none_of X G b_list,
    b_max := PySem.W.mg_none_of X G b_max,
    b_min := PySem.W.mg_none_of X G b_min,
    b_range := PySem.W.mg_none_of X G b_range,
    b_repr := PySem.W.mg_none_of X G b_repr,
    b_str := PySem.W.mg_none_of X G b_str,
    c_DIGITS := con_of (g := gOf K [P2, P3] [("NoNumber", XC0), ("CueError", EH0)] []) (h := h) X G c_DIGITS c_DIGITSr,
    c_MOST_NUMBER := con_of (g := gOf K [P2, P3] [("NoNumber", XC0), ("CueError", EH0)] []) (h := h) X G c_MOST_NUMBER c_MOST_NUMBERr,
    k_number_of_0_text := kw_of (g := gOf K [P2, P3] [("NoNumber", XC0), ("CueError", EH0)] []) (h := h) X G a4 l4 rfl rfl (List.cons_ne_nil _ _) (fun us ws h1 h2 => match us, ws, h1, h2 with | [], [_], _, _ => rfl),
    k_number_text_0_number := kw_of (g := gOf K [P2, P3] [("NoNumber", XC0), ("CueError", EH0)] []) (h := h) X G a5 l5 rfl rfl (List.cons_ne_nil _ _) (fun us ws h1 h2 => match us, ws, h1, h2 with | [], [_], _, _ => rfl),
    mg_CueError := by rw [en_CueError]; exact PySem.W.mg_of X G eh0,
    mg_NoNumber := by rw [en_NoNumber]; exact PySem.W.mg_of X G xa0,
    isx := isxL_ok (List.forall_mem_cons.mpr ⟨(List.forall_mem_cons.mpr ⟨(by rw [en_NoNumber, en_CueError]; exact (PySem.W.exm_ref ei0 ej0 ek0 em0_0).trans (by decide +kernel)), (List.forall_mem_cons.mpr ⟨(by rw [en_NoNumber]; exact (PySem.W.exm_ref xe0 yd0 xt0 em0_1).trans (by decide +kernel)), (fun _ m => (nomatch m))⟩)⟩), (fun _ m => (nomatch m))⟩),
    cau_NoNumber := by unfold CauT; rw [en_NoNumber]; exact ⟨⟨yg0, yh0, xe0, yd0⟩, ⟨yg0, yh0, xe0, yd0, ya0, yn0, yt0, ym0⟩, xf0⟩,
    ki_NoNumber_CueError := by rw [en_NoNumber, en_CueError]; exact kit_ownX ej0 ek0 em0_0,
    ki_NoNumber_ValueError := by rw [en_NoNumber]; exact kit_tyX (by decide +kernel) kx0_ValueError,
    x_NoNumber := by
      have e : (gOf K [P2, P3] [("NoNumber", XC0), ("CueError", EH0)] []).cn "NoNumber" = XC0 := by first | rfl | simp [gOf]
      unfold ExD
      rw [e]
      exact ⟨XI0, XB0, _, .type "type", ⟨⟨_, _, _, _, _, _, _, _, _, _, _, _, _, _, _, xl0, xr0⟩, xs0, xe0, xt0, xk0⟩, xi0, xj0, ⟨_, _, _, _, _, _, _, _, _, _, rfl, xm0, xc0⟩, PySem.W.mg_of X G xa0, .all (bl2 fun _ _ => rfl), xf0, PySem.W.mg_of X G xb0, xg0, xw0, xv0⟩ }, pl⟩
end
end K02
set_option Elab.async false
set_option autoImplicit false
set_option linter.all false
set_option maxRecDepth 100000
namespace K02
open DL PySem PySem.Spec L2 TL DH
theorem takeT : TakeOk f__law_take := take_ok (c1 := 5981) (c2 := 2) (c3 := 24) (by decide) (by decide) (by decide)
theorem q_cell {ns : List Int} {k : Nat} (hn : ns.length ≤ 63) : wE (fun o ρ => ∃ c : Int, o = .sh (.int c)) (f__law_cell [.sh (.scr ns), .sh (.int k)]) := by
  simp? only [f__law_cell, m__law_cell]
  refine wO_if (fun h => ?_) (fun h => ?_)
  · have h' : k < ns.length := by omega
    simp? only [ix_scr (ns := ns) (i := (k : Int)) (x := ns[k]) (by omega) (by rw [show ((k : Int).toNat) = k by omega]; exact List.getElem?_eq_getElem h')]
    exact ⟨_, rfl⟩
  · simp? only [DL.wE_ok]
    exact ⟨_, rfl⟩
section
variable {n i : Int} {v : List Nat} {d : D} {ρ : En}
theorem isx_nt {d : D} : isx (Exn.mk "NoNumber" [("value", d)]).c "NoNumber" = some true := by
  show isx "NoNumber" "NoNumber" = some true
  decide +kernel
/-- no time: a whole number out of bounds, or of another kind -/
def NoT (d : D) : Prop := (∃ i : Int, d = .int i ∧ ¬ (1 ≤ i ∧ i ≤ 99999)) ∨ (∃ b : Bool, d = .bl b) ∨ dIsi [d.view, .op (.ty "int")] = some (.sh (.bl false))
theorem q_is_number_no (h : NoT d) : f_is_number [.sh d] = .ok (.sh (.bl false)) [.no] := by
  rcases h with ⟨i, rfl, h⟩ | ⟨b, rfl⟩ | h
  · rw [q_is_number, decide_eq_false h]
  · simp? only [f_is_number, m_is_number, q_is_whole_bl]
  · simp? only [f_is_number, m_is_number, q_is_whole_else h]
theorem q_number_text_x (h : NoT d) : ∃ ρ, f_number_text [.sh d] = .exc ⟨"NoNumber", [("value", d)]⟩ ρ := by
  have hq := q_is_number_no h
  refine ⟨[.no], ?_⟩
  simp? only [f_number_text, m_number_text, hq, sRaise_ev, toO_exc, then_exc, back_exc]
def rfD (d : D) : D := .lst [.str "none", d, .bl true, .bl true]
def rfO (d : D) : O := .lst ([D.str "none", d, .bl true, .bl true].map .sh)
theorem q_law_refused (h : NoT d) : f__law_refused [.sh d] = .ok (rfO d) [.no] := by
  obtain ⟨ρ', e⟩ := q_number_text_x h
  have hf : ∀ ρ : En, fLst 1 (consX (fun _ => some (.str "none")) (consX (fldX "NoNumber" "value") (consX (isiX "NoNumber" true) (consX (isiX "NoNumber" true) (fun _ => some []))))) ⟨"NoNumber", [("value", d)]⟩ ρ = En.put ρ 1 (rfO d) := fun ρ => fLst_ev rfl (by simp)
  simp? only [f__law_refused, m__law_refused, sTry_ev, try_exc, goK_hit isx_nt, kl_some (s := Sl.no), hf, map_next, e, toO_exc, bind_exc, then_exc, after_exc]
/-- number_of answers as the law reads -/
theorem q_of (h : Od d) : ∃ o : D, Nm o ∧ f_number_of [.sh d] = .ok (.sh o) [.no] ∧ f__law_read_k02 [.sh d] = .ok (.sh o) [.no] := by
  rcases h.kd with ⟨v, hv, rfl⟩ | hk
  · exact ⟨rdD 1 99999 (rdO 2 v), nm_rd, q_number_of_str (by omega), q_read_k02 (by omega)⟩
  · rw [← h.vw] at hk
    exact ⟨.non, nm_non, q_number_of_else hk, q_read_k02_else hk⟩
def okB (n : Int) (o : O) : Prop := (∃ d, o = .sh d ∧ Bd d ∧ NoT d) ∨ o = .lst [.sh (.int n)]
theorem bad_all {t : List Nat} (ht : t.length ≤ 100) (hs : SmL t) (h0 : 1 ≤ n) (h1 : n ≤ 99999) : ∀ x ∈ [O.sh (.int 0), .sh (.int 100000), .sh (.int 100000000000000000000000000000), .sh (.str (SS t)), .sh .non, .sh (.bl true), .lst [.sh (.int n)], .sh (.tup [.int n]), .sh (.dct [])], okB n x := by
  intro x hx
  simp only [List.mem_cons, List.not_mem_nil, or_false] at hx
  rcases hx with rfl | rfl | rfl | rfl | rfl | rfl | rfl | rfl | rfl
  · exact .inl ⟨_, rfl, ⟨rfl, rfl, rfl, ⟨_, rfl, rfl, by decide, by decide +kernel⟩, rfl⟩, .inl ⟨_, rfl, by omega⟩⟩
  · exact .inl ⟨_, rfl, ⟨rfl, rfl, rfl, (rps_int (by decide) (by decide)).mono (by decide) (by decide), rfl⟩, .inl ⟨_, rfl, by omega⟩⟩
  · exact .inl ⟨_, rfl, ⟨rfl, rfl, rfl, (rps_int (by decide) (by decide)).mono (by decide) (by decide), rfl⟩, .inl ⟨_, rfl, by omega⟩⟩
  · exact .inl ⟨_, rfl, ⟨rfl, rfl, rfl, (ss_rps ht hs).mono (by decide) (by decide), rfl⟩, .inr (.inr rfl)⟩
  · exact .inl ⟨_, rfl, ⟨rfl, rfl, rfl, rps_non.mono (by decide) (by decide), rfl⟩, .inr (.inr rfl)⟩
  · exact .inl ⟨_, rfl, ⟨rfl, rfl, rfl, rps_bl.mono (by decide) (by decide), rfl⟩, .inr (.inl ⟨_, rfl⟩)⟩
  · exact .inr rfl
  · exact .inl ⟨_, rfl, ⟨rfl, rfl, rfl, (rps_tup (k := 1) (w := 30) (dep := 1) (by simp) (fun d m => by rw [List.mem_singleton.mp m]; exact rps_int (by omega) (by omega))).mono (by decide) (by decide), rfl⟩, .inr (.inr rfl)⟩
  · exact .inl ⟨_, rfl, ⟨rfl, rfl, rfl, ⟨_, rfl, rfl, by decide, by decide +kernel⟩, rfl⟩, .inr (.inr rfl)⟩
theorem rf_rps (h : RpS 1002 3 d) : RpS 10000 4 (rfD d) := by
  refine (rps_lst (k := 4) (w := 1002) (dep := 3) (by simp) fun x m => ?_).mono (by decide) (by decide)
  simp only [List.mem_cons, List.not_mem_nil, or_false] at m
  rcases m with rfl | rfl | rfl | rfl
  · exact (rps_str (x := "none") (k := 4) (by decide +kernel) (by decide +kernel)).mono (by decide) (by decide)
  · exact h
  · exact rps_bl.mono (by decide) (by decide)
  · exact rps_bl.mono (by decide) (by decide)
end
theorem law_true (ns : List Int) (hn : ns.length ≤ 63) (hb : ∀ z ∈ ns, Builtin.Int.intBits z ≤ 1048576) : ∃ ρ, f_law [.sh (.scr ns)] = .ok (.sh (.bl true)) ρ := by
  have T := takeT
  have main : wE (fun o _ => o = .sh (.bl true)) (f_law [.sh (.scr ns)]) := by
    simp? only [f_law, m_law, min_int, max_int]
    have hm : ∃ m : Nat, itRng (.int (if (if (ns.length : Int) < 12 then (ns.length : Int) else 12) > 2 then (if (ns.length : Int) < 12 then (ns.length : Int) else 12) else 2)) = some ((List.range m).map fun (i : Nat) => .int (i : Int)) := ⟨_, itRng_int (by split <;> split <;> omega) (by split <;> split <;> omega)⟩
    obtain ⟨m, hm⟩ := hm
    simp? only [hm]
    refine wInv (fun ρ => ∃ s1 s2 s3 s4 s5 s6 s7 s8 s9 : Sl, Cl s1 ∧ Cl s2 ∧ Cl s3 ∧ Cl s4 ∧ Cl s5 ∧ Cl s6 ∧ Cl s7 ∧ Cl s8 ∧ Cl s9 ∧ ρ = [.v (.sh (.scr ns)), s1, s2, s3, s4, s5, s6, s7, s8, s9]) ⟨.no, .no, .no, .no, .no, .no, .no, .no, .no, .no, .no, .no, .no, .no, .no, .no, .no, .no, rfl⟩ ?_ ?_
    · rintro k mk ρ ⟨s1, s2, s3, s4, s5, s6, s7, s8, s9, c1, c2, c3, c4, c5, c6, c7, c8, c9, rfl⟩
      simp? only [frS_f c1.f]
      refine (q_cell hn).mono ?_
      rintro _ _ ⟨c, rfl⟩
      simp? only [DL.wE_ok]
      refine (q_law_box c).mono ?_
      rintro bx _ hb0
      simp? only [frS_f c2.f]
      refine (T.w hb0 (by omega) (by omega) (by omega)).mono ?_; rintro _ _ ⟨x1, b1, rfl, rfl, l1, u1, k1⟩
      simp? only [DL.wE_ok]
      refine (T.w k1 (by omega) (by omega) (by omega)).mono ?_; rintro _ _ ⟨x2, b2, rfl, rfl, l2, u2, k2⟩
      simp? only [DL.wE_ok]
      refine (T.w k2 (by omega) (by omega) (by omega)).mono ?_; rintro _ _ ⟨x3, b3, rfl, rfl, l3, u3, k3⟩
      simp? only [DL.wE_ok]
      refine (T.w k3 (by omega) (by omega) (by omega)).mono ?_; rintro _ _ ⟨x4, b4, rfl, rfl, l4, u4, k4⟩
      obtain ⟨n, hin, n0, n1⟩ : ∃ n : Int, dIx (.lst [.int 1, .int 99999, .int (1 + x1), .int (100 * (1 + x2)), .int (1 + x3)]) (.int x4) = some (.sh (.int n)) ∧ 1 ≤ n ∧ n ≤ 99999 := by
        have : x4 = 0 ∨ x4 = 1 ∨ x4 = 2 ∨ x4 = 3 ∨ x4 = 4 := by omega
        rcases this with rfl | rfl | rfl | rfl | rfl
        · exact ⟨_, rfl, by omega, by omega⟩
        · exact ⟨_, rfl, by omega, by omega⟩
        · exact ⟨_, rfl, by omega, by omega⟩
        · exact ⟨_, rfl, by omega, by omega⟩
        · exact ⟨_, rfl, by omega, by omega⟩
      have hw := q_law_write_k02 n0 n1
      have htt := q_number_textX n0 n1
      have hwl := wt2_len (m := n.toNat) (by omega)
      have hws := wt2_sm (m := n.toNat)
      have hof := q_number_of_str (v := wt2 n.toNat) (by omega)
      rw [wt2_rd (by omega)] at hof
      have hofn : rdD 1 99999 (some n.toNat) = .int n := by
        show (if (1 : Int) ≤ (n.toNat : Int) ∧ (n.toNat : Int) ≤ 99999 then D.int (n.toNat : Nat) else .non) = _
        rw [if_pos ⟨by omega, by omega⟩, Int.toNat_of_nonneg (by omega)]
      rw [hofn] at hof
      generalize wt2 n.toNat = t at hw htt hwl hws hof
      obtain ⟨p1, p2⟩ := lits_nl
      have ad1 := ss_add (a := t) (b := [10]) (by simp; omega)
      have ad2 := ss_add (a := [32]) (b := t) (by simp; omega)
      simp? only [hin, hw, frS_f c3.f, frS_f c4.f, l_e, p1, p2, ad1, ad2]
      refine (T.w k4 (by omega) (by omega) (by omega)).mono ?_; rintro _ _ ⟨x5, b5, rfl, rfl, l5, u5, k5⟩
      obtain ⟨od, hod, e5⟩ := od_ix (i := x5) rfl l5 u5 (od_all (n := n) (t := t) (by omega))
      have r2 : itRng (.int 2) = some ((List.range 2).map fun (i : Nat) => .int (i : Int)) := itRng_nat (n := 2) (by decide)
      have hdk : O.dk [] = [] := by simp [O.dk]
      simp? only [hdk, e5, frS_f c5.f, r2]
      have rt := repr_d (ss_rps (a := t) (by omega) hws) (by decide) (by decide)
      have rn := repr_d (d := .int n) (rps_int (by omega) (by omega)) (by decide) (by decide)
      refine wFor (fun xs ρ => ∃ (b : O) (s6 s7 s8 : Sl), xs.length ≤ 2 ∧ OkB (100 + 10 * (2 - (xs.length : Int))) b ∧ Cl s6 ∧ Cl s7 ∧ Cl s8 ∧ ρ = [.v (.sh (.scr ns)), .v (.sh (.int (k : Int))), .v b, .v (.sh (.int n)), .v (.sh (.str (SS t))), .v (.sh od), s6, s7, s8, s9]) ?_ ?_ ?_
      · exact ⟨b5, s6, s7, s8, by simp, k5.mono (by simp), c6, c7, c8, rfl⟩
      · rintro x xs ρ ⟨b, s6, s7, s8, hx, kb, c6, c7, c8, rfl⟩
        rw [List.length_cons] at hx kb
        simp? only [frS_f c6.f, htt, hof, rt, rn, hod.vw]
        refine (q_law_spoilt T kb (by omega) (show t.length ≤ 100 by omega)).mono ?_
        rintro _ _ ⟨v1, o1, rfl, rfl, hv1, kb1⟩
        simp? only [DL.wE_ok]
        refine (q_law_spoilt T kb1 (by omega) (show t.length ≤ 100 by omega)).mono ?_
        rintro _ _ ⟨v2, o2, rfl, rfl, hv2, kb2⟩
        simp? only [hod.vw]
        have hit : itV (.lst [.str (SS v1), .str (SS v2), od]) = some ([D.str (SS v1), .str (SS v2), od].map fun d => d) := rfl
        simp only [hit, DL.forK_some]
        refine wFor (fun ys ρ => ∃ s7 s8 : Sl, (∀ d ∈ ys, Od d) ∧ Cl s7 ∧ Cl s8 ∧ ρ = [.v (.sh (.scr ns)), .v (.sh (.int (k : Int))), .v o2, .v (.sh (.int n)), .v (.sh (.str (SS t))), .v (.sh od), .v (.sh (.int (x : Int))), s7, s8, s9]) ?_ ?_ ?_
        · refine ⟨s7, s8, fun d m => ?_, c7, c8, rfl⟩
          simp only [List.mem_cons, List.not_mem_nil, or_false] at m
          rcases m with rfl | rfl | rfl
          · exact Od.str hv1
          · exact Od.str hv2
          · exact hod
        · rintro d ys ρ ⟨s7, s8, hys, c7, c8, rfl⟩
          have hd := hys d List.mem_cons_self
          obtain ⟨o, ho, q1, q2⟩ := q_of hd
          have ro := repr_d ho.rp (by decide) (by decide)
          have ne := ne_self_d ho.eq
          simp? only [frS_f c7.f, frS_f c8.f, hd.vw, q1, q2, ne, ro, ho.vw]
          exact ⟨_, _, fun d m => hys d (List.mem_cons_of_mem _ m), Cl.sh hd.lf, Cl.sh ho.lf, rfl⟩
        · rintro ρ ⟨s7, s8, _, c7, c8, rfl⟩
          exact ⟨o2, _, s7, s8, by omega, kb2.mono (by omega), Cl.sh rfl, c7, c8, rfl⟩
      · rintro ρ ⟨b, s6, s7, s8, _, kb, c6, c7, c8, rfl⟩
        simp? only [eIxT_ev, eShr_ev, hdk]
        refine (T.w kb (by omega) (by omega) (by omega)).mono ?_; rintro _ _ ⟨x6, b6, rfl, rfl, l6, u6, k6⟩
        obtain ⟨o9, h9, e9⟩ := at9 (i := x6) rfl l6 u6 (okB n) (bad_all (t := t) (n := n) (by omega) hws n0 n1)
        simp? only [ixT_ev, Int.reduceSub, Int.reduceAdd, e9, frS_f c9.f]
        have l0 : lfSl (.v (.sh (.scr ns))) = true := rfl
        have l1 : ∀ z : Int, lfSl (.v (.sh (.int z))) = true := fun _ => rfl
        have l2 : lfSl (.v b6) = true := lf_box k6
        have l4 : lfSl (.v (.sh (.str (SS t)))) = true := rfl
        have l5 : lfSl (.v (.sh od)) = true := hod.lf
        have q1 : ∀ d : D, slLst2 (.v (.sh d)) = true := fun _ => rfl
        have q2 : slLst2 (.v b6) = true := sh_box k6
        rcases h9 with ⟨d, rfl, hB, hN⟩ | rfl
        · have l9 : lfSl (.v (.sh d)) = true := hB.lf
          have hF : ∀ s : Sl, lfSl s = true → List.all [.v (.sh (.scr ns)), .v (.sh (.int (k : Int))), .v b6, .v (.sh (.int n)), .v (.sh (.str (SS t))), .v (.sh od), s6, s7, s, .v (.sh d)] lfSl = true := fun s hs => by
            simp only [List.all_cons, List.all_nil, l0, l1, l2, l4, l5, l9, hs, c6.lf, c7.lf, Bool.and_self]
          have hS : ∀ s : Sl, slLst2 s = true → List.all [.v (.sh (.scr ns)), .v (.sh (.int (k : Int))), .v b6, .v (.sh (.int n)), .v (.sh (.str (SS t))), .v (.sh od), s6, s7, s, .v (.sh d)] slLst2 = true := fun s hs => by
            simp only [List.all_cons, List.all_nil, q1, q2, hs, c6.sl, c7.sl, Bool.and_self]
          have ho : stO 1 (.sh d) = .sh d := (lf_O (n := 1) (.sh d) hB.lf).1
          have hw1 : ownT 1 (.sh d) = .sh d := rfl
          have hrl : lfO (rfO d) = true := lf_shs fun x m => by
            simp only [List.mem_cons, List.not_mem_nil, or_false] at m
            rcases m with rfl | rfl | rfl | rfl
            · rfl
            · exact hB.lf
            · rfl
            · rfl
          have hrf : fgO (rfO d) = rfO d := (lf_O (n := 1) _ hrl).2
          have hrn : noO (rfO d) = true := by
            show (true && (noD d && (true && (true && true)))) = true
            rw [hB.no]; rfl
          have hrs : slLst2 (.v (rfO d)) = true := rfl
          have hrd : (rfO d).d = rfD d := by unfold rfO rfD; show D.lst (O.ds _) = _; rw [shs_ds]
          have hrd2 : lfD (rfD d) = true := by
            show (true && (lfD d && (true && (true && true)))) = true
            rw [hB.lf]; rfl
          have hfi : fiD [] d = d := (lf_D (n := 1) d hB.lf).2.2
          have hfr : fiD [] (rfD d) = rfD d := (lf_D (n := 1) _ hrd2).2.2
          have hvr : (rfD d).view = rfD d := rfl
          have hpr := repr_d (rf_rps hB.rp) (by decide) (by decide)
          have hpr2 : dRepr [.lst [.str "none", d, .bl true, .bl true]] = some (.sh (.str (rpr (rfD d)))) := hpr
          have hlr := fun ρ1 : En => lendRL_ok (ρ1 := ρ1) (F := fgO) (o := rfO d) (by rw [hrf]; exact hrn) (hS s8 c8.sl)
          have hlr2 := fun ρ1 : En => lendRL_ok (ρ1 := ρ1) (F := fgO) (o := .sh (.str (rpr (rfD d)))) rfl (hS (.v (rfO d)) hrs)
          have hfs : fgO (.sh (.str (rpr (rfD d)))) = .sh (.str (rpr (rfD d))) := by simp [fgO, fgD]
          rw [sOwn_ev (o := .sh d) rfl, lf_map (hF s8 c8.lf), ho, hw1, wO_st]
          simp? only [eLendLF_ev, tgs_nil (hF s8 c8.lf), tgs_nil (hF (.v (rfO d)) hrl), List.map_cons, List.map_nil, lendF_v, hfi, q_law_refused hN, hlr, hrf, frS_f c8.f, hB.vw, hB.il, hrd, hfr, hvr, hpr, hpr2, hlr2, hfs]
          rw [lf_sl l0, lf_sl (l1 _), lf_sl l2, lf_sl (l1 _), lf_sl l4, lf_sl l5, lf_sl c6.lf, lf_sl c7.lf, lf_sl (s := .v (rfO d)) hrl, lf_sl l9]
          exact ⟨_, _, _, _, _, _, _, _, _, Cl.sh rfl, Cl.box k6, Cl.sh rfl, Cl.sh rfl, Cl.sh hod.lf, c6, c7, Cl.mk (s := .v (rfO d)) hrl hrs fS_v, Cl.sh hB.lf, rfl⟩
        · have hF : List.all [.v (.sh (.scr ns)), .v (.sh (.int (k : Int))), .v b6, .v (.sh (.int n)), .v (.sh (.str (SS t))), .v (.sh od), s6, s7, s8, .v (.lst [.sh (.int n)])] lfSl = true := by
            have l9 : lfSl (.v (.lst [.sh (.int n)])) = true := rfl
            simp only [List.all_cons, List.all_nil, l0, l1, l2, l4, l5, l9, c6.lf, c7.lf, c8.lf, Bool.and_self]
          have hS : ∀ (s : Sl) (ds : List D), slLst2 s = true → List.all [.v (.sh (.scr ns)), .v (.sh (.int (k : Int))), .v b6, .v (.sh (.int n)), .v (.sh (.str (SS t))), .v (.sh od), s6, s7, s, .v (.tag 1 (.lst (ds.map .sh)))] slLst2 = true := fun s ds hs => by
            have q9 : slLst2 (.v (.tag 1 (.lst (ds.map .sh)))) = true := shs_all
            simp only [List.all_cons, List.all_nil, q1, q2, q9, hs, c6.sl, c7.sl, Bool.and_self]
          have hT : ∀ (s : Sl) (ds : List D), (∀ ρ, tgs (s :: ρ) = tgs ρ) → tgs [.v (.sh (.scr ns)), .v (.sh (.int (k : Int))), .v b6, .v (.sh (.int n)), .v (.sh (.str (SS t))), .v (.sh od), s6, s7, s, .v (.tag 1 (.lst (ds.map .sh)))] = [(1, .lst ds)] := fun s ds hs => by
            rw [lf_tgs l0, lf_tgs (l1 _), lf_tgs l2, lf_tgs (l1 _), lf_tgs l4, lf_tgs l5, lf_tgs c6.lf, lf_tgs c7.lf, hs, tgs_tag]
            show [(1, D.lst (O.ds (ds.map .sh)))] = _
            rw [shs_ds]
          have ho : stO 1 (.lst [.sh (.int n)]) = .lst [.sh (.int n)] := (lf_O (n := 1) (.lst [.sh (.int n)]) rfl).1
          have hw1 : ownT 1 (.lst [.sh (.int n)]) = .tag 1 (.lst ([D.int n].map .sh)) := rfl
          have hN : NoT (.lab 1 (.lst [.int n])) := .inr (.inr rfl)
          have hd1 : (O.tag 1 (.lst ([D.int n].map .sh))).d = .lab 1 (.lst [.int n]) := rfl
          have hfi : fiD [(1, .lst [.int n])] (.lab 1 (.lst [.int n])) = .lab 1 (.lst [.int n]) := by simp [fiD]
          have hv1 : (D.lab 1 (.lst [.int n])).view = .lst [.int n] := rfl
          have hrf : fgO (rfO (.lab 1 (.lst [.int n]))) = rfO (.lab 1 .any) := by simp [rfO, fgO, fgOs, fgD]
          have hrn : noO (rfO (.lab 1 .any)) = true := rfl
          have hrs : slLst2 (.v (rfO (.lab 1 .any))) = true := rfl
          have hrd : (rfO (.lab 1 .any)).d = rfD (.lab 1 .any) := by unfold rfO rfD; show D.lst (O.ds _) = _; rw [shs_ds]
          have hil : dIsi [.lst [.int n], .op (.ty "list")] = some (.sh (.bl true)) := rfl
          have hap : ([D.int n].map O.sh).length < 1000000 := by simp
          have hap2 : ([D.int n].map O.sh) ++ [.sh (.str "more")] = ([D.int n, .str "more"].map O.sh) := rfl
          have hd2 : (O.tag 1 (.lst ([D.int n, .str "more"].map .sh))).d = .lab 1 (.lst [.int n, .str "more"]) := rfl
          have hfi2 : fiD [(1, .lst [.int n, .str "more"])] (.lab 1 (.lst [.int n, .str "more"])) = .lab 1 (.lst [.int n, .str "more"]) := by simp [fiD]
          have hfr : fiD [(1, .lst [.int n, .str "more"])] (rfD (.lab 1 .any)) = rfD (.lab 1 (.lst [.int n, .str "more"])) := by simp [rfD, fiD, fiDs]
          have hrp : RpS 1002 3 (.lab 1 (.lst [.int n, .str "more"])) := rps_lab (d := .lst [.int n, .str "more"]) (by
            refine (rps_lst (k := 2) (w := 100) (dep := 1) (by simp) fun x m => ?_).mono (by decide) (by decide)
            simp only [List.mem_cons, List.not_mem_nil, or_false] at m
            rcases m with rfl | rfl
            · exact (rps_int (by omega) (by omega)).mono (by decide) (by decide)
            · exact (rps_str (x := "more") (k := 4) (by decide +kernel) (by decide +kernel)).mono (by decide) (by decide))
          have hvr : (rfD (.lab 1 (.lst [.int n, .str "more"]))).view = rfD (.lab 1 (.lst [.int n, .str "more"])) := rfl
          have hpr := repr_d (rf_rps hrp) (by decide) (by decide)
          have hpr2 : dRepr [.lst [.str "none", .lab 1 (.lst [.int n, .str "more"]), .bl true, .bl true]] = some (.sh (.str (rpr (rfD (.lab 1 (.lst [.int n, .str "more"])))))) := hpr
          have hpr3 : dRepr [.lst [.str "none", .lst [.int n, .str "more"], .bl true, .bl true]] = some (.sh (.str (rpr (rfD (.lab 1 (.lst [.int n, .str "more"])))))) := hpr
          generalize rpr (rfD (.lab 1 (.lst [.int n, .str "more"]))) = tx at hpr hpr2 hpr3
          have hlr := fun ρ1 : En => lendRL_ok (ρ1 := ρ1) (F := fgO) (o := rfO (.lab 1 (.lst [.int n]))) (by rw [hrf]; exact hrn) (hS s8 [.int n] c8.sl)
          have hlr2 := fun ρ1 : En => lendRL_ok (ρ1 := ρ1) (F := fgO) (o := .sh (.str tx)) rfl (hS (.v (rfO (.lab 1 .any))) [.int n, .str "more"] hrs)
          have hfs : fgO (.sh (.str tx)) = .sh (.str tx) := by simp [fgO, fgD]
          have ht1 := hT s8 [.int n] fun _ => lf_tgs c8.lf
          have ht2 := hT (.v (rfO (.lab 1 .any))) [.int n, .str "more"] fun _ => rfl
          rw [sOwn_ev (o := .lst [.sh (.int n)]) rfl, lf_map hF, ho, hw1, wO_st]
          have hst : stSl 1 (.v (.tag 1 (.lst ([D.int n, .str "more"].map O.sh)))) = .v (.lst ([D.int n, .str "more"].map O.sh)) := by
            rw [stSl_tag, (lf_O (n := 1) (.lst ([D.int n, .str "more"].map O.sh)) rfl).1]
          have hst8 : stSl 1 (.v (rfO (.lab 1 .any))) = .v (rfO .any) := by simp [DL.stSl, rfO, DL.stO, DL.stOs, DL.stD]
          have hcl9 : Cl (.v (.lst ([D.int n, .str "more"].map O.sh))) := ⟨rfl, rfl, fS_v⟩
          generalize ([D.int n].map O.sh) = os1 at hw1 hd1 hap hap2 hlr ht1 ⊢
          generalize ([D.int n, .str "more"].map O.sh) = os2 at hap2 hd2 hlr2 ht2 hst hcl9 ⊢
          simp? only [eLendLF_ev, ht1, List.map_cons, List.map_nil, lendF_v, hd1, hfi, q_law_refused hN, hlr, hrf, frS_f c8.f, hv1, hil, eAppT_ev, appTK_tag, appT2_tag hap, hap2, ht2, hd2, hfi2, hrd, hfr, hvr, hpr, hpr2, hpr3, hlr2, hfs]
          rw [lf_sl l0, lf_sl (l1 _), lf_sl l2, lf_sl (l1 _), lf_sl l4, lf_sl l5, lf_sl c6.lf, lf_sl c7.lf, hst8, hst]
          exact ⟨_, _, _, _, _, _, _, _, _, Cl.sh rfl, Cl.box k6, Cl.sh rfl, Cl.sh rfl, Cl.sh hod.lf, c6, c7, ⟨rfl, rfl, fS_v⟩, hcl9, rfl⟩
    · rintro ρ ⟨s1, s2, s3, s4, s5, s6, s7, s8, s9, c1, c2, c3, c4, c5, c6, c7, c8, c9, rfl⟩
      simp? only [DL.wE_ok]
  obtain ⟨o, ρ, e, rfl⟩ := main.ex
  exact ⟨ρ, e⟩
end K02
open PySem PySem.W PyProof.Rows
def PySem.W.Fast.tw12979588543922905264 : Nat := 0
def PySem.W.Fast.tw75592598736611238 : Nat := 0
def PySem.W.Fast.tw16895431754007488475 : Nat := 0
def PySem.W.Fast.tw4947694495951069019 : Nat := 0
def PySem.W.Fast.tw6437314355762395440 : Nat := 0
set_option maxRecDepth 100000 in
set_option maxHeartbeats 0 in
theorem PySem.Challenge.cw_cuetrack_k02_cue_numbers_as_texts_holds : PySem.Challenge.rw_cuetrack_k02_cue_numbers_as_texts.Holds := by
  w_on; o_law; k_head; (case hw => w_witness2)
  k_fill
  refine DL.walk_D (l := PySem.Challenge.rw_cuetrack_k02_cue_numbers_as_texts) (n := 63) (k := 5) rfl (by decide) rfl rfl (by decide +kernel) ⟨rfl, by decide, by decide⟩ (fun w h Y => PySem.W.kIn_of Y) ?F
  case F =>
    intro w mg h Y KX G TT
    refine' K02.all_mk KX G TT ?a0 ?l0 ?c0 ?k0 ?a1 ?l1 ?c1 ?k1 ?a2 ?l2 ?c2 ?k2 ?h2 ?t2 ?v2 ?n2 ?r2 ?a3 ?l3 ?c3 ?k3 ?h3 ?t3 ?v3 ?n3 ?r3 ?a4 ?l4 ?c4 ?k4 ?a5 ?l5 ?c5 ?k5 ?a6 ?l6 ?c6 ?k6 ?a7 ?l7 ?c7 ?k7 ?a8 ?l8 ?c8 ?k8 ?a9 ?l9 ?c9 ?k9 ?a10 ?l10 ?c10 ?k10 ?a11 ?l11 ?c11 ?k11 ?a12 ?l12 ?c12 ?k12 ?a13 ?l13 ?c13 ?k13 ?a14 ?l14 ?c14 ?k14 ?b_ValueError ?b_all ?b_bool ?b_divmod ?b_int ?b_isinstance ?b_len ?b_list ?b_max ?b_min ?b_range ?b_repr ?b_str ?c_DIGITS ?c_DIGITSr ?c_MOST_NUMBER ?c_MOST_NUMBERr ?eh0 ?ei0 ?ej0 ?ek0 ?xa0 ?xl0 ?xr0 ?xs0 ?xe0 ?xt0 ?xk0 ?xi0 ?xj0 ?xm0 ?xc0 ?xf0 ?xb0 ?xg0 ?xw0 ?xv0 ?yg0 ?yh0 ?yd0 ?ya0 ?yn0 ?yt0 ?ym0 ?em0_0 ?em0_1 ?kx0_ValueError K02.law_true
    (case a0 => k_is)
    (case l0 => k_is)
    (case c0 => k_is)
    (case k0 => k_is)
    (case a1 => k_is)
    (case l1 => k_is)
    (case c1 => k_is)
    (case k1 => k_is)
    (case a2 => k_is)
    (case l2 => k_is)
    (case c2 => k_is)
    (case k2 => k_is)
    (case h2 => rfl)
    (case t2 => k_is)
    (case v2 => rfl)
    (case n2 => kernel_rfl)
    (case r2 => decide +kernel)
    (case a3 => k_is)
    (case l3 => k_is)
    (case c3 => k_is)
    (case k3 => k_is)
    (case h3 => rfl)
    (case t3 => k_is)
    (case v3 => rfl)
    (case n3 => kernel_rfl)
    (case r3 => decide +kernel)
    (case a4 => k_is)
    (case l4 => k_is)
    (case c4 => k_is)
    (case k4 => k_is)
    (case a5 => k_is)
    (case l5 => k_is)
    (case c5 => k_is)
    (case k5 => k_is)
    (case a6 => k_is)
    (case l6 => k_is)
    (case c6 => k_is)
    (case k6 => k_is)
    (case a7 => k_is)
    (case l7 => k_is)
    (case c7 => k_is)
    (case k7 => k_is)
    (case a8 => k_is)
    (case l8 => k_is)
    (case c8 => k_is)
    (case k8 => k_is)
    (case a9 => k_is)
    (case l9 => k_is)
    (case c9 => k_is)
    (case k9 => k_is)
    (case a10 => k_is)
    (case l10 => k_is)
    (case c10 => k_is)
    (case k10 => k_is)
    (case a11 => k_is)
    (case l11 => k_is)
    (case c11 => k_is)
    (case k11 => k_is)
    (case a12 => k_is)
    (case l12 => k_is)
    (case c12 => k_is)
    (case k12 => k_is)
    (case a13 => k_is)
    (case l13 => k_is)
    (case c13 => k_is)
    (case k13 => k_is)
    (case a14 => k_is)
    (case l14 => k_is)
    (case c14 => k_is)
    (case k14 => k_is)
    (case b_ValueError => k_is)
    (case b_all => k_is)
    (case b_bool => k_is)
    (case b_divmod => k_is)
    (case b_int => k_is)
    (case b_isinstance => k_is)
    (case b_len => k_is)
    (case b_list => k_is)
    (case b_max => k_is)
    (case b_min => k_is)
    (case b_range => k_is)
    (case b_repr => k_is)
    (case b_str => k_is)
    (case c_DIGITS => k_is)
    (case c_DIGITSr => exact ⟨_, rfl⟩)
    (case c_MOST_NUMBER => k_is)
    (case c_MOST_NUMBERr => exact ⟨_, rfl⟩)
    (case eh0 => k_is)
    (case ei0 => k_is)
    (case ej0 => k_is)
    (case ek0 => k_is)
    (case xa0 => k_is)
    (case xl0 => k_is)
    (case xr0 => first | rfl | decide +kernel)
    (case xs0 => k_is)
    (case xe0 => k_is)
    (case xt0 => k_is)
    (case xk0 => k_is)
    (case xi0 => k_is)
    (case xj0 => k_is)
    (case xm0 => k_is)
    (case xc0 => k_is)
    (case xf0 => k_is)
    (case xb0 => k_is)
    (case xg0 => k_is)
    (case xw0 => k_is)
    (case xv0 => k_is)
    (case yg0 => k_is)
    (case yh0 => k_is)
    (case yd0 => k_is)
    (case ya0 => k_is)
    (case yn0 => k_is)
    (case yt0 => k_is)
    (case ym0 => k_is)
    (case em0_0 => k_is)
    (case em0_1 => k_is)
    (case kx0_ValueError => k_is)
