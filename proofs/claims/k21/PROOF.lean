import PyProof.Rows.All
import Wide.All
import OpenK.AllK
import Wide.FinOn
import HandS.ForMost
import HandS.AnyAll
import HandS.Exc
import HandS.ExcInit
import HandS.WordsExc
import HandS.Lambda
import HandS.CallSlots
import HandS.MakeKwOnly
import HandS.Wide
import HandS.IsInst
import HandS.TupAny
import HandS.Flow
import HandS.GenList
import HandS.DictComp
import HandS.Zip
import HandS.Iter
import HandS.NoneIn
import KE.KEqNest
import PyProof.NeKinds
import HandS.Text
import HandS.Conv
import HandS.More
import HandS.Codes
import HandS.Rev
import HandS.Dict
import HandS.FStr
import PyProof.Rows.TmSorted
import HandS.Style
import HandS.WideBits
import PyProof.ReprRoads
import HandS.EndTab
import HandS.Finally
import HandS.MakeKw
import HandS.Property
import HandS.Defaults
import HandS.StrMore
import HandS.RaiseMore
import HandS.ExcIs
import PyProof.Rows.StrPadFill
import PyProof.Rows.StrPadWhole
import HandS.SortKw
import KE.KSortKeyAny
import PyProof.DictUpdate
import HandS.TryMany
import HandS.ExcField
import HandS.OwnEq
import PyProof.InstNe
import PyProof.Rows.EqNone
import PyProof.Rows.FloatCmp
import HandS.ListItems
import KE.KDictList
import KE.KCallOwn
import HandS.Records
import PySem.Challenge.RW_cuetrack_k21_cues_made
set_option Elab.async false
set_option linter.all false
set_option maxRecDepth 100000
set_option autoImplicit false
/-! DL1: Python data as trees, what is shared and what is owned, the state of a def's frame. -/
namespace DL
open PySem PySem.Spec PyProof.Rows L2
inductive D where
  | non | bl (b : Bool) | int (i : Int) | str (x : Str)
  | lst (xs : List D) | tup (xs : List D) | dct (kds : List (Key × D))
  | ins (c : Str) (fs : List (Str × D))
  | exn (c : Str) (fs : List (Str × D))
  /-- the object that the label n names, and what is known of it -/
  | lab (n : Nat) (d : D)
  /-- nothing is known -/
  | any
  /-- the law's own script -/
  | scr (ns : List Int)
  | op (v : V)
/-- what is fixed through a law: the written part, the classes by name, the tables of code objects -/
structure Gb where
  K : PySem.W.Frag
  cn : Str → Addr
  tb : List Addr
  /-- the name of the code objects that such a table tells, where it is asked for -/
  nm : Addr → Option Str
  /-- what the labels name -/
  lb : Nat → Addr
/-- strictly kept -/
def Gr (S S' : Hp) : Prop := ∀ a u, S a = some u → S' a = some u
abbrev Sub (S H : Hp) : Prop := Gr S H
/-- kept; a dict may be locked behind it, for good -/
def Ex (S S' : Hp) : Prop := ∀ a u, S a = some u → S' a = some u ∨ ∃ kvs o, u = .dK kvs ∧ S' a = some (.frz o u)
theorem Gr.refl (S : Hp) : Gr S S := fun _ _ h => h
theorem Gr.trans {S S1 S2 : Hp} (a : Gr S S1) (b : Gr S1 S2) : Gr S S2 := fun x u h => b x u (a x u h)
theorem Gr.new {H : Hp} {p : Addr} {o : HO} (h : H p = none) : Gr H (upd H p o) := fun a u e => by
  rw [upd_ne (ne_of_none e h)]
  exact e
theorem Gr.rd {S S' : Hp} (e : Gr S S') {a : Addr} {u : HO} (h : Rd S a u) : Rd S' a u := by
  rcases h with h | ⟨o, h⟩
  · exact .inl (e _ _ h)
  · exact .inr ⟨o, e _ _ h⟩
theorem Gr.sqT {K : PySem.W.Frag} {S S' : Hp} (e : Gr S S') {a : Addr} {xs : List V} (h : SqT K S a xs) : SqT K S' a xs := by
  rcases h with h | h
  · exact .inl (e.rd h)
  · exact .inr h
theorem Gr.sqL {K : PySem.W.Frag} {S S' : Hp} (e : Gr S S') {a : Addr} {xs : List V} (h : SqL K S a xs) : SqL K S' a xs := by
  rcases h with h | h
  · exact .inl (e.rd h)
  · exact .inr h
theorem Gr.lst {S H : Hp} (h : Gr S H) {a : Addr} {xs : List V} (q : S a = some (.lst xs)) : H a = some (.lst xs) := h _ _ q
theorem Gr.none {S H : Hp} (e : Gr S H) {a : Addr} (h : H a = none) : S a = none := by
  cases q : S a with
  | none => rfl
  | some u => rw [e a u q] at h; cases h
theorem Gr.ex {S S' : Hp} (e : Gr S S') : Ex S S' := fun a u h => .inl (e a u h)
theorem Ex.refl (S : Hp) : Ex S S := fun _ _ h => .inl h
theorem Ex.trans {S S1 S2 : Hp} (a : Ex S S1) (b : Ex S1 S2) : Ex S S2 := fun x u h => by
  rcases a x u h with q | ⟨kvs, o, z, q⟩
  · exact b x u q
  · rcases b x _ q with q2 | ⟨_, _, z2, _⟩
    · exact .inr ⟨kvs, o, z, q2⟩
    · cases z2
theorem Ex.new {H : Hp} {p : Addr} {o : HO} (h : H p = none) : Ex H (upd H p o) := (Gr.new h).ex
theorem Ex.at {S H : Hp} (h : Ex S H) {a : Addr} {u : HO} (q : S a = some u) (n : ∀ kvs, u ≠ .dK kvs := by intro _ z; cases z) : H a = some u := (h a u q).elim id fun ⟨kvs, _, z, _⟩ => (n kvs z).elim
theorem Ex.rd {S H : Hp} (h : Ex S H) {a : Addr} {u : HO} (q : Rd S a u) : Rd H a u := by
  rcases q with q | ⟨o, q⟩
  · exact (h a u q).elim .inl fun ⟨kvs, o, z, w⟩ => .inr ⟨o, w⟩
  · exact .inr ⟨o, h.at q⟩
theorem Ex.sqT {K : PySem.W.Frag} {S S' : Hp} (e : Ex S S') {a : Addr} {xs : List V} (h : SqT K S a xs) : SqT K S' a xs := by
  rcases h with h | h
  · exact .inl (e.rd h)
  · exact .inr h
theorem Ex.sqL {K : PySem.W.Frag} {S S' : Hp} (e : Ex S S') {a : Addr} {xs : List V} (h : SqL K S a xs) : SqL K S' a xs := by
  rcases h with h | h
  · exact .inl (e.rd h)
  · exact .inr h
theorem Ex.lst {S H : Hp} (h : Ex S H) {a : Addr} {xs : List V} (q : S a = some (.lst xs)) : H a = some (.lst xs) := h.at q
theorem Ex.none {S S' : Hp} (e : Ex S S') {a : Addr} (h : S' a = none) : S a = none := by
  cases q : S a with
  | none => rfl
  | some u => rcases e a u q with z | ⟨_, _, _, z⟩ <;> (rw [h] at z; cases z)
mutual
def Rep (g : Gb) (S : Hp) : D → V → Prop
  | .non, v => v = .non
  | .bl b, v => v = .bl b
  | .int i, v => v = .int i
  | .str x, v => v = .str x
  | .lst ds, v => ∃ a vs, v = .ref a ∧ S a = some (.lst vs) ∧ Reps g S ds vs
  | .tup ds, v => ∃ a vs, v = .ref a ∧ SqT g.K S a vs ∧ Reps g S ds vs
  | .dct kds, v => ∃ a kvs, v = .ref a ∧ Rd S a (.dK kvs) ∧ RepK g S kds kvs
  | .ins c fs, v => ∃ a dx fvs, v = .ref a ∧ S a = some (.ins (g.cn c) dx fvs) ∧ S dx = some (.own a) ∧ RepF g S fs fvs
  | .exn c fs, v => ∃ a dx fvs, v = .ref a ∧ S a = some (exo a (g.cn c) (some dx)) ∧ S dx = some (exd dx fvs) ∧ RepF g S fs fvs
  | .lab n d, v => v = .ref (g.lb n) ∧ Rep g S d v
  | .any, _ => True
  | .scr ns, v => ∃ a, v = .ref a ∧ SqL g.K S a (ns.map V.int)
  | .op u, v => v = u
def Reps (g : Gb) (S : Hp) : List D → List V → Prop
  | [], vs => vs = []
  | d :: ds, vs => ∃ v r, vs = v :: r ∧ Rep g S d v ∧ Reps g S ds r
def RepK (g : Gb) (S : Hp) : List (Key × D) → List (Key × V) → Prop
  | [], vs => vs = []
  | (k, d) :: ds, vs => ∃ v r, vs = (k, v) :: r ∧ Rep g S d v ∧ RepK g S ds r
def RepF (g : Gb) (S : Hp) : List (Str × D) → List (Str × V) → Prop
  | [], vs => vs = []
  | (k, d) :: ds, vs => ∃ v r, vs = (k, v) :: r ∧ Rep g S d v ∧ RepF g S ds r
end
mutual
theorem Rep.mono {g : Gb} {S S' : Hp} (h : Ex S S') : ∀ (d : D) v, Rep g S d v → Rep g S' d v
  | .non, _, r => r
  | .bl _, _, r => r
  | .int _, _, r => r
  | .str _, _, r => r
  | .lst ds, _, ⟨a, vs, e, q, b⟩ => ⟨a, vs, e, h.lst q, Reps.mono h ds vs b⟩
  | .tup ds, _, ⟨a, vs, e, q, b⟩ => ⟨a, vs, e, h.sqT q, Reps.mono h ds vs b⟩
  | .dct ds, _, ⟨a, vs, e, q, b⟩ => ⟨a, vs, e, h.rd q, RepK.mono h ds vs b⟩
  | .ins _ ds, _, ⟨a, dx, vs, e, q, q2, b⟩ => ⟨a, dx, vs, e, h.at q, h.at q2, RepF.mono h ds vs b⟩
  | .exn _ ds, _, ⟨a, dx, vs, e, q, q2, b⟩ => ⟨a, dx, vs, e, h.at q, h.at q2, RepF.mono h ds vs b⟩
  | .lab _ d, v, ⟨e, b⟩ => ⟨e, Rep.mono h d v b⟩
  | .any, _, r => r
  | .scr _, _, ⟨a, e, q⟩ => ⟨a, e, h.sqL q⟩
  | .op _, _, r => r
theorem Reps.mono {g : Gb} {S S' : Hp} (h : Ex S S') : ∀ (d : List D) v, Reps g S d v → Reps g S' d v
  | [], _, r => r
  | d :: ds, _, ⟨v, r, e, a, b⟩ => ⟨v, r, e, Rep.mono h d v a, Reps.mono h ds r b⟩
theorem RepK.mono {g : Gb} {S S' : Hp} (h : Ex S S') : ∀ (d : List (Key × D)) v, RepK g S d v → RepK g S' d v
  | [], _, r => r
  | (_, d) :: ds, _, ⟨v, r, e, a, b⟩ => ⟨v, r, e, Rep.mono h d v a, RepK.mono h ds r b⟩
theorem RepF.mono {g : Gb} {S S' : Hp} (h : Ex S S') : ∀ (d : List (Str × D)) v, RepF g S d v → RepF g S' d v
  | [], _, r => r
  | (_, d) :: ds, _, ⟨v, r, e, a, b⟩ => ⟨v, r, e, Rep.mono h d v a, RepF.mono h ds r b⟩
end
section
variable {g : Gb} {S H : Hp}
theorem Reps.len : ∀ {ds : List D} {vs : List V}, Reps g S ds vs → vs.length = ds.length
  | [], _, r => by have e : _ = [] := r; rw [e]; rfl
  | d :: ds, _, ⟨v, r, e, _, b⟩ => by rw [e, List.length_cons, List.length_cons, Reps.len b]
theorem Reps.get : ∀ {ds : List D} {vs : List V} {i : Nat} {d : D}, Reps g S ds vs → ds[i]? = some d → ∃ v, vs[i]? = some v ∧ Rep g S d v
  | [], _, _, _, _, e => by simp at e
  | d :: ds, _, 0, _, ⟨v, r, e, a, _⟩, h => by
    have h' : d = _ := Option.some.inj (by simpa using h)
    subst h'
    exact ⟨v, by rw [e]; rfl, a⟩
  | d :: ds, _, i + 1, _, ⟨v, r, e, _, b⟩, h => by
    obtain ⟨v', h1, h2⟩ := Reps.get (i := i) b (by simpa using h)
    exact ⟨v', by rw [e]; simpa using h1, h2⟩
theorem Reps.getV : ∀ {ds : List D} {vs : List V} {i : Nat} {v : V}, Reps g S ds vs → vs[i]? = some v → ∃ d, ds[i]? = some d ∧ Rep g S d v := fun {ds vs i v} r h => by
  have hl := r.len
  have hi := (List.getElem?_eq_some_iff.mp h).1
  obtain ⟨v', h1, h2⟩ := r.get (i := i) (d := ds[i]'(by omega)) (List.getElem?_eq_getElem _)
  rw [h] at h1
  cases h1
  exact ⟨_, List.getElem?_eq_getElem _, h2⟩
theorem Reps.append : ∀ {ds es : List D} {vs us : List V}, Reps g S ds vs → Reps g S es us → Reps g S (ds ++ es) (vs ++ us)
  | [], _, _, _, r, q => by have e : _ = [] := r; rw [e]; exact q
  | d :: ds, _, _, _, ⟨v, r, e, a, b⟩, q => ⟨v, r ++ _, by rw [e]; rfl, a, Reps.append b q⟩
theorem Reps.take : ∀ {ds : List D} {vs : List V} (n : Nat), Reps g S ds vs → Reps g S (ds.take n) (vs.take n)
  | _, _, 0, _ => by simp [Reps]
  | [], _, n + 1, r => by have e : _ = [] := r; rw [e]; simp [Reps]
  | d :: ds, _, n + 1, ⟨v, r, e, a, b⟩ => ⟨v, r.take n, by rw [e]; rfl, a, Reps.take n b⟩
theorem Reps.drop : ∀ {ds : List D} {vs : List V} (n : Nat), Reps g S ds vs → Reps g S (ds.drop n) (vs.drop n)
  | _, _, 0, r => r
  | [], _, n + 1, r => by have e : _ = [] := r; rw [e]; simp [Reps]
  | d :: ds, _, n + 1, ⟨v, r, e, a, b⟩ => by rw [e]; exact Reps.drop n b
theorem Reps.all : ∀ {ds : List D} {vs : List V}, ds.length = vs.length → (∀ (i : Nat) (d : D) (v : V), ds[i]? = some d → vs[i]? = some v → Rep g S d v) → Reps g S ds vs
  | [], [], _, _ => rfl
  | d :: ds, v :: vs, l, h => ⟨v, vs, rfl, h 0 d v rfl rfl, Reps.all (by simpa using l) fun i d' v' h1 h2 => h (i + 1) d' v' (by simpa using h1) (by simpa using h2)⟩
theorem RepK.len : ∀ {ds : List (Key × D)} {vs : List (Key × V)}, RepK g S ds vs → vs.length = ds.length
  | [], _, r => by have e : _ = [] := r; rw [e]; rfl
  | (k, d) :: ds, _, ⟨v, r, e, _, b⟩ => by rw [e, List.length_cons, List.length_cons, RepK.len b]
theorem RepF.lookup : ∀ {ds : List (Str × D)} {vs : List (Str × V)} {f : Str} {d : D}, RepF g S ds vs → ds.lookup f = some d → ∃ v, vs.lookup f = some v ∧ Rep g S d v
  | [], _, _, _, _, e => by simp at e
  | (k, d) :: ds, _, f, d', ⟨v, r, e, a, b⟩, h => by
    rw [e]
    by_cases q : f == k
    · rw [List.lookup, q] at h ⊢
      cases h
      exact ⟨v, rfl, a⟩
    · have q' : (f == k) = false := by simpa using q
      rw [List.lookup, q'] at h ⊢
      exact RepF.lookup b h
end
/-! ### what is owned: it stands at addresses that nothing else knows -/
inductive O where
  | sh (d : D)
  | lst (os : List O)
  | dct (kos : List (Key × O))
  | ins (c : Str) (fs : List (Str × O))
  /-- the label n names it -/
  | tag (n : Nat) (o : O)
mutual
def O.d : O → D
  | .sh d => d
  | .lst os => .lst (O.ds os)
  | .dct kos => .dct (O.dk kos)
  | .ins c fs => .ins c (O.df fs)
  | .tag n o => .lab n o.d
def O.ds : List O → List D
  | [] => []
  | o :: os => o.d :: O.ds os
def O.dk : List (Key × O) → List (Key × D)
  | [] => []
  | (k, o) :: os => (k, o.d) :: O.dk os
def O.df : List (Str × O) → List (Str × D)
  | [] => []
  | (k, o) :: os => (k, o.d) :: O.df os
end
mutual
def RelO (g : Gb) (S H : Hp) : O → V → List Addr → Prop
  | .sh d, v, A => A = [] ∧ Rep g S d v
  | .lst os, v, A => ∃ l vs A', v = .ref l ∧ H l = some (.lst vs) ∧ A = l :: A' ∧ RelOs g S H os vs A'
  | .dct kos, v, A => ∃ l kvs A', v = .ref l ∧ H l = some (.dK kvs) ∧ A = l :: A' ∧ RelOK g S H kos kvs A'
  | .ins c fs, v, A => ∃ x dx fvs A', v = .ref x ∧ H x = some (.ins (g.cn c) dx fvs) ∧ H dx = some (.own x) ∧ A = x :: dx :: A' ∧ RelOF g S H fs fvs A'
  | .tag n o, v, A => v = .ref (g.lb n) ∧ RelO g S H o v A
def RelOs (g : Gb) (S H : Hp) : List O → List V → List Addr → Prop
  | [], vs, A => vs = [] ∧ A = []
  | o :: os, vs, A => ∃ v r A1 A2, vs = v :: r ∧ A = A1 ++ A2 ∧ RelO g S H o v A1 ∧ RelOs g S H os r A2
def RelOK (g : Gb) (S H : Hp) : List (Key × O) → List (Key × V) → List Addr → Prop
  | [], vs, A => vs = [] ∧ A = []
  | (k, o) :: os, vs, A => ∃ v r A1 A2, vs = (k, v) :: r ∧ A = A1 ++ A2 ∧ RelO g S H o v A1 ∧ RelOK g S H os r A2
def RelOF (g : Gb) (S H : Hp) : List (Str × O) → List (Str × V) → List Addr → Prop
  | [], vs, A => vs = [] ∧ A = []
  | (k, o) :: os, vs, A => ∃ v r A1 A2, vs = (k, v) :: r ∧ A = A1 ++ A2 ∧ RelO g S H o v A1 ∧ RelOF g S H os r A2
end
mutual
theorem RelO.mono {g : Gb} {S S' H H' : Hp} (h : Ex S S') : ∀ (o : O) v A, (∀ a ∈ A, H' a = H a) → RelO g S H o v A → RelO g S' H' o v A
  | .sh d, v, A, _, ⟨e, r⟩ => ⟨e, Rep.mono h d v r⟩
  | .lst os, v, A, k, ⟨l, vs, A', e, q, eA, r⟩ => by
    subst eA
    exact ⟨l, vs, A', e, (k l (List.mem_cons_self ..)).trans q, rfl, RelOs.mono h os vs A' (fun a m => k a (List.mem_cons_of_mem _ m)) r⟩
  | .dct os, v, A, k, ⟨l, vs, A', e, q, eA, r⟩ => by
    subst eA
    exact ⟨l, vs, A', e, (k l (List.mem_cons_self ..)).trans q, rfl, RelOK.mono h os vs A' (fun a m => k a (List.mem_cons_of_mem _ m)) r⟩
  | .ins c os, v, A, k, ⟨x, dx, vs, A', e, q, q2, eA, r⟩ => by
    subst eA
    exact ⟨x, dx, vs, A', e, (k x (List.mem_cons_self ..)).trans q, (k dx (List.mem_cons_of_mem _ (List.mem_cons_self ..))).trans q2, rfl,
      RelOF.mono h os vs A' (fun a m => k a (List.mem_cons_of_mem _ (List.mem_cons_of_mem _ m))) r⟩
  | .tag n o, v, A, k, ⟨e, r⟩ => ⟨e, RelO.mono h o v A k r⟩
theorem RelOs.mono {g : Gb} {S S' H H' : Hp} (h : Ex S S') : ∀ (os : List O) vs A, (∀ a ∈ A, H' a = H a) → RelOs g S H os vs A → RelOs g S' H' os vs A
  | [], _, _, _, r => r
  | o :: os, _, _, k, ⟨v, r, A1, A2, e, eA, a, b⟩ => by
    subst eA
    exact ⟨v, r, A1, A2, e, rfl, RelO.mono h o v A1 (fun a m => k a (List.mem_append_left _ m)) a, RelOs.mono h os r A2 (fun a m => k a (List.mem_append_right _ m)) b⟩
theorem RelOK.mono {g : Gb} {S S' H H' : Hp} (h : Ex S S') : ∀ (os : List (Key × O)) vs A, (∀ a ∈ A, H' a = H a) → RelOK g S H os vs A → RelOK g S' H' os vs A
  | [], _, _, _, r => r
  | (_, o) :: os, _, _, k, ⟨v, r, A1, A2, e, eA, a, b⟩ => by
    subst eA
    exact ⟨v, r, A1, A2, e, rfl, RelO.mono h o v A1 (fun a m => k a (List.mem_append_left _ m)) a, RelOK.mono h os r A2 (fun a m => k a (List.mem_append_right _ m)) b⟩
theorem RelOF.mono {g : Gb} {S S' H H' : Hp} (h : Ex S S') : ∀ (os : List (Str × O)) vs A, (∀ a ∈ A, H' a = H a) → RelOF g S H os vs A → RelOF g S' H' os vs A
  | [], _, _, _, r => r
  | (_, o) :: os, _, _, k, ⟨v, r, A1, A2, e, eA, a, b⟩ => by
    subst eA
    exact ⟨v, r, A1, A2, e, rfl, RelO.mono h o v A1 (fun a m => k a (List.mem_append_left _ m)) a, RelOF.mono h os r A2 (fun a m => k a (List.mem_append_right _ m)) b⟩
end
mutual
theorem RelO.dom {g : Gb} {S H : Hp} : ∀ (o : O) v A, RelO g S H o v A → ∀ a ∈ A, ∃ u, H a = some u
  | .sh d, v, A, ⟨e, _⟩, a, m => by subst e; cases m
  | .lst os, v, A, ⟨l, vs, A', e, q, eA, r⟩, a, m => by
    subst eA
    rcases List.mem_cons.mp m with z | m
    · rw [z]; exact ⟨_, q⟩
    · exact RelOs.dom os vs A' r a m
  | .dct os, v, A, ⟨l, vs, A', e, q, eA, r⟩, a, m => by
    subst eA
    rcases List.mem_cons.mp m with z | m
    · rw [z]; exact ⟨_, q⟩
    · exact RelOK.dom os vs A' r a m
  | .ins c os, v, A, ⟨x, dx, vs, A', e, q, q2, eA, r⟩, a, m => by
    subst eA
    rcases List.mem_cons.mp m with z | m
    · rw [z]; exact ⟨_, q⟩
    rcases List.mem_cons.mp m with z | m
    · rw [z]; exact ⟨_, q2⟩
    · exact RelOF.dom os vs A' r a m
  | .tag n o, v, A, ⟨e, r⟩, a, m => RelO.dom o v A r a m
theorem RelOs.dom {g : Gb} {S H : Hp} : ∀ (os : List O) vs A, RelOs g S H os vs A → ∀ a ∈ A, ∃ u, H a = some u
  | [], _, _, ⟨_, e⟩, a, m => by subst e; cases m
  | o :: os, _, _, ⟨v, r, A1, A2, e, eA, x, y⟩, a, m => by
    subst eA
    rcases List.mem_append.mp m with m | m
    · exact RelO.dom o v A1 x a m
    · exact RelOs.dom os r A2 y a m
theorem RelOK.dom {g : Gb} {S H : Hp} : ∀ (os : List (Key × O)) vs A, RelOK g S H os vs A → ∀ a ∈ A, ∃ u, H a = some u
  | [], _, _, ⟨_, e⟩, a, m => by subst e; cases m
  | (_, o) :: os, _, _, ⟨v, r, A1, A2, e, eA, x, y⟩, a, m => by
    subst eA
    rcases List.mem_append.mp m with m | m
    · exact RelO.dom o v A1 x a m
    · exact RelOK.dom os r A2 y a m
theorem RelOF.dom {g : Gb} {S H : Hp} : ∀ (os : List (Str × O)) vs A, RelOF g S H os vs A → ∀ a ∈ A, ∃ u, H a = some u
  | [], _, _, ⟨_, e⟩, a, m => by subst e; cases m
  | (_, o) :: os, _, _, ⟨v, r, A1, A2, e, eA, x, y⟩, a, m => by
    subst eA
    rcases List.mem_append.mp m with m | m
    · exact RelO.dom o v A1 x a m
    · exact RelOF.dom os r A2 y a m
end
/-! what was owned is shared from here on: T holds the shadow and what stands at A -/
mutual
theorem RelO.rep {g : Gb} {S H T : Hp} (h : Ex S T) : ∀ (o : O) v A, (∀ a ∈ A, ∀ u, H a = some u → T a = some u) → RelO g S H o v A → Rep g T o.d v
  | .sh d, v, A, _, ⟨_, r⟩ => Rep.mono h d v r
  | .lst os, v, A, k, ⟨l, vs, A', e, q, eA, r⟩ => by
    subst eA
    exact ⟨l, vs, e, k l (List.mem_cons_self ..) _ q, RelOs.rep h os vs A' (fun a m => k a (List.mem_cons_of_mem _ m)) r⟩
  | .dct os, v, A, k, ⟨l, vs, A', e, q, eA, r⟩ => by
    subst eA
    exact ⟨l, vs, e, .inl (k l (List.mem_cons_self ..) _ q), RelOK.rep h os vs A' (fun a m => k a (List.mem_cons_of_mem _ m)) r⟩
  | .ins c os, v, A, k, ⟨x, dx, vs, A', e, q, q2, eA, r⟩ => by
    subst eA
    exact ⟨x, dx, vs, e, k x (List.mem_cons_self ..) _ q, k dx (List.mem_cons_of_mem _ (List.mem_cons_self ..)) _ q2,
      RelOF.rep h os vs A' (fun a m => k a (List.mem_cons_of_mem _ (List.mem_cons_of_mem _ m))) r⟩
  | .tag n o, v, A, k, ⟨e, r⟩ => ⟨e, RelO.rep h o v A k r⟩
theorem RelOs.rep {g : Gb} {S H T : Hp} (h : Ex S T) : ∀ (os : List O) vs A, (∀ a ∈ A, ∀ u, H a = some u → T a = some u) → RelOs g S H os vs A → Reps g T (O.ds os) vs
  | [], _, _, _, ⟨e, _⟩ => e
  | o :: os, _, _, k, ⟨v, r, A1, A2, e, eA, x, y⟩ => by
    subst eA
    exact ⟨v, r, e, RelO.rep h o v A1 (fun a m => k a (List.mem_append_left _ m)) x, RelOs.rep h os r A2 (fun a m => k a (List.mem_append_right _ m)) y⟩
theorem RelOK.rep {g : Gb} {S H T : Hp} (h : Ex S T) : ∀ (os : List (Key × O)) vs A, (∀ a ∈ A, ∀ u, H a = some u → T a = some u) → RelOK g S H os vs A → RepK g T (O.dk os) vs
  | [], _, _, _, ⟨e, _⟩ => e
  | (_, o) :: os, _, _, k, ⟨v, r, A1, A2, e, eA, x, y⟩ => by
    subst eA
    exact ⟨v, r, e, RelO.rep h o v A1 (fun a m => k a (List.mem_append_left _ m)) x, RelOK.rep h os r A2 (fun a m => k a (List.mem_append_right _ m)) y⟩
theorem RelOF.rep {g : Gb} {S H T : Hp} (h : Ex S T) : ∀ (os : List (Str × O)) vs A, (∀ a ∈ A, ∀ u, H a = some u → T a = some u) → RelOF g S H os vs A → RepF g T (O.df os) vs
  | [], _, _, _, ⟨e, _⟩ => e
  | (_, o) :: os, _, _, k, ⟨v, r, A1, A2, e, eA, x, y⟩ => by
    subst eA
    exact ⟨v, r, e, RelO.rep h o v A1 (fun a m => k a (List.mem_append_left _ m)) x, RelOF.rep h os r A2 (fun a m => k a (List.mem_append_right _ m)) y⟩
end
/-- the shadow and what H holds at A -/
def join (S H : Hp) (A : List Addr) : Hp := fun a => if a ∈ A then H a else S a
theorem join_in {S H : Hp} {A : List Addr} {a : Addr} (h : a ∈ A) : join S H A a = H a := if_pos h
theorem join_out {S H : Hp} {A : List Addr} {a : Addr} (h : a ∉ A) : join S H A a = S a := if_neg h
theorem join_ex {S H : Hp} {A : List Addr} (h : ∀ a ∈ A, S a = none) : Ex S (join S H A) := fun a u e => by
  rw [join_out fun m => by rw [h a m] at e; cases e]
  exact .inl e
theorem join_sub {S H : Hp} {A : List Addr} (h : Sub S H) : Sub (join S H A) H := fun a u e => by
  by_cases m : a ∈ A
  · rw [join_in m] at e; exact e
  · rw [join_out m] at e; exact h a u e
section
variable {g : Gb} {S H : Hp}
theorem RelOs.len : ∀ {os : List O} {vs : List V} {A : List Addr}, RelOs g S H os vs A → vs.length = os.length
  | [], _, _, ⟨e, _⟩ => by rw [e]; rfl
  | o :: os, _, _, ⟨v, r, A1, A2, e, _, _, b⟩ => by rw [e, List.length_cons, List.length_cons, RelOs.len b]
theorem RelOs.append : ∀ {os ps : List O} {vs us : List V} {A B : List Addr}, RelOs g S H os vs A → RelOs g S H ps us B → RelOs g S H (os ++ ps) (vs ++ us) (A ++ B)
  | [], _, _, _, _, _, ⟨e, e2⟩, q => by rw [e, e2]; exact q
  | o :: os, _, _, _, _, _, ⟨v, r, A1, A2, e, eA, x, y⟩, q => ⟨v, r ++ _, A1, A2 ++ _, by rw [e]; rfl, by rw [eA, List.append_assoc], x, RelOs.append y q⟩
theorem RelOs.one {o : O} {v : V} {A : List Addr} (h : RelO g S H o v A) : RelOs g S H [o] [v] A := ⟨v, [], A, [], rfl, by simp, h, rfl, rfl⟩
theorem RelOs.split : ∀ {os ps : List O} {vs us : List V} {A : List Addr}, vs.length = os.length → RelOs g S H (os ++ ps) (vs ++ us) A → ∃ A1 A2, A = A1 ++ A2 ∧ RelOs g S H os vs A1 ∧ RelOs g S H ps us A2
  | [], _, [], _, A, _, q => ⟨[], A, rfl, ⟨rfl, rfl⟩, q⟩
  | o :: os, ps, v :: vs, us, A, l, ⟨v', r, A1, A2, e, eA, x, y⟩ => by
    have e' := List.cons.inj e
    obtain ⟨e1, e2⟩ := e'
    subst e1
    subst e2
    obtain ⟨B1, B2, eB, q1, q2⟩ := RelOs.split (by simpa using l) y
    exact ⟨A1 ++ B1, B2, by rw [eA, eB, List.append_assoc], ⟨_, vs, A1, B1, rfl, rfl, x, q1⟩, q2⟩
theorem RelOs.oneInv {o : O} {v : V} {A : List Addr} (h : RelOs g S H [o] [v] A) : RelO g S H o v A := by
  obtain ⟨v', r, A1, A2, e, eA, x, ⟨e2, e3⟩⟩ := h
  have e' := List.cons.inj e
  rw [e'.1, eA, e3, List.append_nil]
  exact x
theorem RelOs.get : ∀ {os : List O} {vs : List V} {A : List Addr} {i : Nat} {o : O}, RelOs g S H os vs A → os[i]? = some o → ∃ v Ao, vs[i]? = some v ∧ RelO g S H o v Ao ∧ ∀ a ∈ Ao, a ∈ A
  | [], _, _, _, _, _, e => by simp at e
  | o :: os, _, _, 0, _, ⟨v, r, A1, A2, e, eA, x, _⟩, h => by
    have h' : o = _ := Option.some.inj (by simpa using h)
    subst h'
    exact ⟨v, A1, by rw [e]; rfl, x, fun a m => by rw [eA]; exact List.mem_append_left _ m⟩
  | o :: os, _, _, i + 1, _, ⟨v, r, A1, A2, e, eA, _, b⟩, h => by
    obtain ⟨v', Ao, h1, h2, h3⟩ := RelOs.get (i := i) b (by simpa using h)
    exact ⟨v', Ao, by rw [e]; simpa using h1, h2, fun a m => by rw [eA]; exact List.mem_append_right _ (h3 a m)⟩
theorem RelOs.sh {ds : List D} : ∀ {vs : List V}, Reps g S ds vs → RelOs g S H (ds.map .sh) vs [] := by
  induction ds with
  | nil => intro vs r; exact ⟨r, rfl⟩
  | cons d ds ih => intro vs ⟨v, r, e, a, b⟩; exact ⟨v, r, [], [], e, rfl, ⟨rfl, a⟩, ih b⟩
theorem RelOK.sh {ds : List (Key × D)} : ∀ {vs : List (Key × V)}, RepK g S ds vs → RelOK g S H (ds.map fun p => (p.1, .sh p.2)) vs [] := by
  induction ds with
  | nil => intro vs r; exact ⟨r, rfl⟩
  | cons d ds ih => obtain ⟨k, d⟩ := d; intro vs ⟨v, r, e, a, b⟩; exact ⟨v, r, [], [], e, rfl, ⟨rfl, a⟩, ih b⟩
end
theorem ds_map_sh (ds : List D) : O.ds (ds.map .sh) = ds := by
  induction ds with
  | nil => rfl
  | cons d ds ih => show d :: O.ds (ds.map .sh) = d :: ds; rw [ih]
theorem ds_eq_map (os : List O) : O.ds os = os.map O.d := by
  induction os with
  | nil => rfl
  | cons o os ih => show o.d :: O.ds os = o.d :: os.map O.d; rw [ih]
/-! ### the state of a frame -/
/-- a slot: nothing known | a local | borrowed from the caller (never stored anew) -/
inductive Sl where
  | no | v (o : O) | b (o : O)
abbrev En := List Sl
abbrev Sg := L2.St
/-- where the def (or the loop) was entered: the shadow, the heap, what was handed over for change, the slots -/
structure Zn where
  S0 : Hp
  H0 : Hp
  B : List Addr
  σ0 : Sg
/-- a table of code objects -/
def TabN (g : Gb) (S H : Hp) (p : Addr) : Prop := ∃ ps : Array Value, H p = some (.tbl ps) ∧ TriplesOk ps.toList ∧ ∀ q, g.nm p = some q → ∀ pos cv, codeAmong pos ps.toList = some cv → ∃ c, cv = .ref c ∧ S c = some (LamX.CodeO c q)
theorem TabN.g {g : Gb} {S H : Hp} {p : Addr} (h : TabN g S H p) : GxR.TabG H p := by
  obtain ⟨ps, e, t, _⟩ := h
  exact ⟨ps, e, t⟩
theorem codeO_dk {c : Addr} {q : Str} : ∀ kvs, LamX.CodeO c q ≠ .dK kvs := fun kvs z => by
  unfold LamX.CodeO at z
  cases z
theorem TabN.ex {g : Gb} {S S' H : Hp} {p : Addr} (h : TabN g S H p) (e : Ex S S') : TabN g S' H p := by
  obtain ⟨ps, e1, t, k⟩ := h
  refine ⟨ps, e1, t, fun q hq pos cv hc => ?_⟩
  obtain ⟨c, e2, e3⟩ := k q hq pos cv hc
  exact ⟨c, e2, e.at e3 codeO_dk⟩
structure Bs (g : Gb) (Z : Zn) (S H : Hp) : Prop where
  sub : Sub S H
  mono : Ex Z.S0 S
  new : ∀ a, S a ≠ none → Z.S0 a = none → Z.H0 a = none ∨ a ∈ Z.B
  frm : ∀ a u, Z.H0 a = some u → a ∉ Z.B → a ∉ g.tb → H a = some u ∨ (Z.S0 a ≠ none ∧ ∃ kvs o, u = .dK kvs ∧ H a = some (.frz o u))
  dom : ∀ a u, Z.H0 a = some u → ∃ u', H a = some u'
  tbl : ∀ p ∈ g.tb, TabN g S H p
  tbS : ∀ p ∈ g.tb, S p = none
structure Hold (g : Gb) (Z : Zn) (S H : Hp) (τ : List V) (θ : List O) (σ : Sg) (ρ : En) (A : List Addr) (α : Nat → List Addr) : Prop where
  bs : Bs g Z S H
  tmp : RelOs g S H θ τ A
  len : ρ.length ≤ σ.length
  slot : ∀ (i : Nat) (o : O), (ρ[i]? = some (.v o) ∨ ρ[i]? = some (.b o)) → ∃ v, σ[i]? = some (some v) ∧ RelO g S H o v (α i)
  ndA : A.Nodup
  nd : ∀ i, (α i).Nodup
  dis : ∀ i j, i ≠ j → ∀ a ∈ α i, a ∉ α j
  disA : ∀ i, ∀ a ∈ α i, a ∉ A
  own : ∀ a, (a ∈ A ∨ ∃ i, a ∈ α i) → S a = none ∧ (∃ u, H a = some u) ∧ (a ∈ Z.B ∨ Z.H0 a = none) ∧ a ∉ g.tb
  pin : ∀ (i : Nat) (o : O), ρ[i]? = some (.b o) → σ[i]? = Z.σ0[i]?
def St (g : Gb) (Z : Zn) (S H : Hp) (τ : List V) (θ : List O) (σ : Sg) (ρ : En) : Prop := ∃ A α, Hold g Z S H τ θ σ ρ A α
/-- a new value, made from H on (the shadow may grow by what is new) -/
def New (g : Gb) (S H : Hp) (o : O) (v : V) (H' : Hp) : Prop := ∃ S' A, Ex S S' ∧ (∀ a, S' a ≠ none → S a = none → H a = none) ∧ Sub S' H' ∧ RelO g S' H' o v A ∧ A.Nodup ∧ (∀ a ∈ A, H a = none ∧ S' a = none) ∧ Gr H H'
theorem New.same {g : Gb} {S H : Hp} {d : D} {v : V} (e : Sub S H) (h : Rep g S d v) : New g S H (.sh d) v H := ⟨S, [], Ex.refl _, fun _ h1 h2 => absurd h2 h1, e, ⟨rfl, h⟩, List.nodup_nil, fun _ m => (nomatch m), Gr.refl _⟩
theorem tabG_ex {g : Gb} {S H H' : Hp} {p : Addr} (e : Gr H H') (h : TabN g S H p) : TabN g S H' p := by
  obtain ⟨ps, a, b⟩ := h
  exact ⟨ps, e _ _ a, b⟩
section
variable {g : Gb} {Z : Zn} {S H H' S' : Hp} {τ : List V} {θ : List O} {σ : Sg} {ρ : En} {A : List Addr} {α : Nat → List Addr} {o : O} {v : V}
theorem Bs.grow (b : Bs g Z S H) (e : Gr H H') : Bs g Z S H' :=
  ⟨b.sub.trans e, b.mono, b.new, fun a u h h1 h2 => (b.frm a u h h1 h2).elim (fun z => .inl (e _ _ z)) fun ⟨n, kvs, o, z, w⟩ => .inr ⟨n, kvs, o, z, e _ _ w⟩, fun a u h => let ⟨u', q⟩ := b.dom a u h; ⟨u', e _ _ q⟩, fun p m => tabG_ex e (b.tbl p m), b.tbS⟩
theorem Bs.fresh (b : Bs g Z S H) {a : Addr} (h : H a = none) : Z.H0 a = none := by
  cases q : Z.H0 a with
  | none => rfl
  | some u => obtain ⟨u', z⟩ := b.dom a u q; rw [h] at z; cases z
theorem Bs.notb (b : Bs g Z S H) {a : Addr} (h : H a = none) : a ∉ g.tb := fun m => by
  obtain ⟨ps, e, _⟩ := b.tbl a m
  rw [h] at e; cases e
/-- the heap grows, nothing that is known changes -/
theorem Hold.grow (h : Hold g Z S H τ θ σ ρ A α) (e : Gr H H') : Hold g Z S H' τ θ σ ρ A α := by
  have k : ∀ a, (a ∈ A ∨ ∃ i, a ∈ α i) → H' a = H a := fun a m => by
    obtain ⟨_, ⟨u, q⟩, _⟩ := h.own a m
    rw [q, e _ _ q]
  exact ⟨h.bs.grow e, RelOs.mono (Ex.refl _) θ τ A (fun a m => k a (.inl m)) h.tmp, h.len,
    fun i o hi => let ⟨v, q, r⟩ := h.slot i o hi; ⟨v, q, RelO.mono (Ex.refl _) o v (α i) (fun a m => k a (.inr ⟨i, m⟩)) r⟩, h.ndA, h.nd, h.dis, h.disA,
    fun a m => let ⟨q1, ⟨u, q2⟩, q3⟩ := h.own a m; ⟨q1, ⟨u, e _ _ q2⟩, q3⟩, h.pin⟩
theorem Hold.shadow (h : Hold g Z S H τ θ σ ρ A α) (e : Ex S S') (hn : ∀ a, S' a ≠ none → S a = none → ∀ u, Z.H0 a = some u → False) (hn2 : ∀ a, S' a ≠ none → S a = none → a ∉ A ∧ (∀ i, a ∉ α i) ∧ a ∉ g.tb) (hs : Sub S' H) : Hold g Z S' H τ θ σ ρ A α := by
  refine ⟨⟨hs, h.bs.mono.trans e, fun a h1 h2 => ?_, h.bs.frm, h.bs.dom, fun p m => (h.bs.tbl p m).ex e, fun p m => ?_⟩, RelOs.mono e θ τ A (fun _ _ => rfl) h.tmp, h.len,
    fun i o hi => let ⟨v, q, r⟩ := h.slot i o hi; ⟨v, q, RelO.mono e o v (α i) (fun _ _ => rfl) r⟩, h.ndA, h.nd, h.dis, h.disA, fun a m => ?_, h.pin⟩
  · by_cases q : S a = none
    · refine .inl ?_
      cases q2 : Z.H0 a with
      | none => rfl
      | some u => exact (hn a h1 q u q2).elim
    · exact h.bs.new a q h2
  · by_cases q : S' p = none
    · exact q
    · exact ((hn2 p q (h.bs.tbS p m)).2.2 m).elim
  · obtain ⟨q1, q2⟩ := h.own a m
    refine ⟨?_, q2⟩
    by_cases q : S' a = none
    · exact q
    · obtain ⟨z1, z2, _⟩ := hn2 a q q1
      rcases m with m | ⟨i, m⟩
      · exact (z1 m).elim
      · exact (z2 i m).elim
theorem Hold.push (h : Hold g Z S H τ θ σ ρ A α) (n : New g S H o v H') : ∃ S', Ex S S' ∧ St g Z S' H' (τ ++ [v]) (θ ++ [o]) σ ρ := by
  obtain ⟨T, B, eS, fr, sT, r, nd, hB, e⟩ := n
  have out : ∀ a, H a = none → a ∉ A ∧ (∀ i, a ∉ α i) ∧ a ∉ g.tb := by
    intro a q0
    refine ⟨fun m2 => ?_, fun i m2 => ?_, h.bs.notb q0⟩
    · obtain ⟨_, ⟨u, q⟩, _⟩ := h.own a (.inl m2)
      rw [q0] at q; cases q
    · obtain ⟨_, ⟨u, q⟩, _⟩ := h.own a (.inr ⟨i, m2⟩)
      rw [q0] at q; cases q
  have h' := (h.grow e).shadow eS (fun a h1 h2 u q => by rw [h.bs.fresh (fr a h1 h2)] at q; cases q) (fun a h1 h2 => out a (fr a h1 h2)) sT
  refine ⟨T, eS, A ++ B, α, h'.bs, h'.tmp.append (RelOs.one r), h'.len, h'.slot, ?_, h'.nd, h'.dis, ?_, ?_, h'.pin⟩
  · exact List.nodup_append.mpr ⟨h.ndA, nd, fun a m b m2 z => (out b (hB b m2).1).1 (z ▸ m)⟩
  · intro i a m m2
    rcases List.mem_append.mp m2 with m2 | m2
    · exact h.disA i a m m2
    · exact (out a (hB a m2).1).2.1 i m
  · rintro a (m | m)
    · rcases List.mem_append.mp m with m | m
      · exact h'.own a (.inl m)
      · exact ⟨(hB a m).2, RelO.dom _ _ _ r a m, .inr (h.bs.fresh (hB a m).1), h.bs.notb (hB a m).1⟩
    · exact h'.own a (.inr m)
theorem St.push (h : St g Z S H τ θ σ ρ) (n : New g S H o v H') : ∃ S', Ex S S' ∧ St g Z S' H' (τ ++ [v]) (θ ++ [o]) σ ρ := by
  obtain ⟨A, α, h⟩ := h
  exact h.push n
theorem St.sub (h : St g Z S H τ θ σ ρ) : Sub S H := by obtain ⟨A, α, h⟩ := h; exact h.bs.sub
theorem St.tlen (h : St g Z S H τ θ σ ρ) : τ.length = θ.length := by obtain ⟨A, α, h⟩ := h; exact h.tmp.len
/-- A (a part of what is owned) is shared from here on -/
theorem Bs.join (b : Bs g Z S H) {B : List Addr} (hB : ∀ a ∈ B, S a = none ∧ (a ∈ Z.B ∨ Z.H0 a = none) ∧ a ∉ g.tb) : Bs g Z (join S H B) H :=
  ⟨join_sub b.sub, b.mono.trans (join_ex fun a m => (hB a m).1), fun a h1 h2 => by
    by_cases m : a ∈ B
    · exact (hB a m).2.1.symm
    · rw [join_out m] at h1; exact b.new a h1 h2, b.frm, b.dom, fun p m => (b.tbl p m).ex (join_ex fun a m => (hB a m).1), fun p m => by
    rw [join_out fun m2 => (hB p m2).2.2 m]
    exact b.tbS p m⟩
/-- the last value held is shared from here on, and let go -/
theorem St.pop (h : St g Z S H (τ ++ [v]) (θ ++ [o]) σ ρ) : ∃ S', Ex S S' ∧ St g Z S' H τ θ σ ρ ∧ Rep g S' o.d v := by
  obtain ⟨A, α, h⟩ := h
  have hl : τ.length = θ.length := by have := h.tmp.len; simp at this; exact this
  obtain ⟨A1, A2, e, r1, r2⟩ := h.tmp.split hl
  subst e
  have r2 := r2.oneInv
  have hB : ∀ a ∈ A2, S a = none ∧ (a ∈ Z.B ∨ Z.H0 a = none) ∧ a ∉ g.tb := fun a m => let ⟨q1, _, q2⟩ := h.own a (.inl (List.mem_append_right _ m)); ⟨q1, q2⟩
  have ex : Ex S (join S H A2) := join_ex fun a m => (hB a m).1
  obtain ⟨n1, n2, n3⟩ := List.nodup_append.mp h.ndA
  refine ⟨join S H A2, ex, ⟨A1, α, h.bs.join hB, RelOs.mono ex θ τ A1 (fun _ _ => rfl) r1, h.len, fun i o hi => let ⟨v, q, r⟩ := h.slot i o hi; ⟨v, q, RelO.mono ex o v (α i) (fun _ _ => rfl) r⟩, n1, h.nd, h.dis,
    fun i a m m2 => h.disA i a m (List.mem_append_left _ m2), ?_, h.pin⟩, RelO.rep ex o v A2 (fun a m u q => by rw [join_in m]; exact q) r2⟩
  intro a m
  have m' : a ∈ A1 ++ A2 ∨ ∃ i, a ∈ α i := m.imp (fun m => List.mem_append_left _ m) id
  obtain ⟨q1, q2, q3⟩ := h.own a m'
  refine ⟨?_, q2, q3⟩
  rw [join_out]
  · exact q1
  · intro m2
    rcases m with m | ⟨i, m⟩
    · exact n3 a m a m2 rfl
    · exact h.disA i a m (List.mem_append_right _ m2)
/-- the slot i is shared from here on -/
theorem St.share {i : Nat} (h : St g Z S H τ θ σ ρ) (hi : ρ[i]? = some (.v o)) : ∃ S' v, Ex S S' ∧ St g Z S' H τ θ σ (ρ.set i (.v (.sh o.d))) ∧ σ[i]? = some (some v) ∧ Rep g S' o.d v := by
  obtain ⟨A, α, h⟩ := h
  obtain ⟨v, e, r⟩ := h.slot i o (.inl hi)
  have hB : ∀ a ∈ α i, S a = none ∧ (a ∈ Z.B ∨ Z.H0 a = none) ∧ a ∉ g.tb := fun a m => let ⟨q1, _, q2⟩ := h.own a (.inr ⟨i, m⟩); ⟨q1, q2⟩
  have ex : Ex S (join S H (α i)) := join_ex fun a m => (hB a m).1
  have rep : Rep g (join S H (α i)) o.d v := RelO.rep ex o v (α i) (fun a m u q => by rw [join_in m]; exact q) r
  have il : i < ρ.length := (List.getElem?_eq_some_iff.mp hi).1
  refine ⟨join S H (α i), v, ex, ⟨A, fun j => if j = i then [] else α j, h.bs.join hB, RelOs.mono ex θ τ A (fun _ _ => rfl) h.tmp, by rw [List.length_set]; exact h.len, ?_, h.ndA, ?_, ?_, ?_, ?_, ?_⟩, e, rep⟩
  · intro j o' hj
    by_cases z : j = i
    · subst z
      rw [List.getElem?_set_self il] at hj
      rcases hj with hj | hj
      · cases hj; exact ⟨v, e, by rw [if_pos rfl]; exact ⟨rfl, rep⟩⟩
      · cases hj
    · rw [List.getElem?_set_ne (Ne.symm z)] at hj
      obtain ⟨v', q, r'⟩ := h.slot j o' hj
      exact ⟨v', q, by rw [if_neg z]; exact RelO.mono ex o' v' (α j) (fun _ _ => rfl) r'⟩
  · intro j; (try dsimp only); split
    · exact List.nodup_nil
    · exact h.nd j
  · intro j k n a m
    (try dsimp only at m ⊢)
    split at m
    · cases m
    · split
      · exact List.not_mem_nil
      · exact h.dis j k n a m
  · intro j a m
    (try dsimp only at m)
    split at m
    · cases m
    · exact h.disA j a m
  · intro a m
    have m' : a ∈ A ∨ ∃ j, j ≠ i ∧ a ∈ α j := by
      rcases m with m | ⟨j, m⟩
      · exact .inl m
      · (try dsimp only at m)
        split at m
        · cases m
        · rename_i n; exact .inr ⟨j, n, m⟩
    obtain ⟨q1, q2, q3⟩ := h.own a (m'.imp id fun ⟨j, _, m⟩ => ⟨j, m⟩)
    refine ⟨?_, q2, q3⟩
    rw [join_out]
    · exact q1
    · intro m2
      rcases m' with m | ⟨j, n, m⟩
      · exact h.disA i a m2 m
      · exact h.dis j i n a m m2
  · intro j o' hj
    by_cases z : j = i
    · subst z
      rw [List.getElem?_set_self il] at hj
      cases hj
    · rw [List.getElem?_set_ne (Ne.symm z)] at hj
      exact h.pin j o' hj
/-- the last value held goes into the slot i -/
theorem St.store {i : Nat} (h : St g Z S H (τ ++ [v]) (θ ++ [o]) σ ρ) (il : i < ρ.length) (hb : ∀ o' : O, ρ[i]? ≠ some (.b o')) : St g Z S H τ θ (σ.set i (some v)) (ρ.set i (.v o)) := by
  obtain ⟨A, α, h⟩ := h
  have hl : τ.length = θ.length := by have := h.tmp.len; simp at this; exact this
  obtain ⟨A1, A2, e, r1, r2⟩ := h.tmp.split hl
  subst e
  have r2 := r2.oneInv
  obtain ⟨n1, n2, n3⟩ := List.nodup_append.mp h.ndA
  have il2 : i < σ.length := Nat.lt_of_lt_of_le il h.len
  refine ⟨A1, fun j => if j = i then A2 else α j, h.bs, r1, by rw [List.length_set, List.length_set]; exact h.len, ?_, n1, ?_, ?_, ?_, ?_, ?_⟩
  · intro j o' hj
    by_cases z : j = i
    · subst z
      rw [List.getElem?_set_self il] at hj
      rw [List.getElem?_set_self il2]
      rcases hj with hj | hj
      · cases hj; exact ⟨v, rfl, by rw [if_pos rfl]; exact r2⟩
      · cases hj
    · rw [List.getElem?_set_ne (Ne.symm z)] at hj ⊢
      obtain ⟨v', q, r'⟩ := h.slot j o' hj
      exact ⟨v', q, by rw [if_neg z]; exact r'⟩
  · intro j; (try dsimp only); split
    · exact n2
    · exact h.nd j
  · intro j k n a m
    (try dsimp only at m ⊢)
    split at m
    · split
      · rename_i z1 z2; exact absurd (z1.trans z2.symm) n
      · intro m2; exact h.disA k a m2 (List.mem_append_right _ m)
    · split
      · intro m2; exact h.disA j a m (List.mem_append_right _ m2)
      · exact h.dis j k n a m
  · intro j a m m2
    (try dsimp only at m)
    split at m
    · exact n3 a m2 a m rfl
    · exact h.disA j a m (List.mem_append_left _ m2)
  · intro a m
    refine h.own a ?_
    rcases m with m | ⟨j, m⟩
    · exact .inl (List.mem_append_left _ m)
    · (try dsimp only at m)
      split at m
      · exact .inl (List.mem_append_right _ m)
      · exact .inr ⟨j, m⟩
  · intro j o' hj
    by_cases z : j = i
    · subst z
      rw [List.getElem?_set_self il] at hj
      cases hj
    · rw [List.getElem?_set_ne (Ne.symm z)] at hj ⊢
      exact h.pin j o' hj
theorem St.popN : ∀ (n : Nat) (τ' : List V) (θ' : List O) {S : Hp}, τ'.length = n → θ'.length = n → St g Z S H (τ ++ τ') (θ ++ θ') σ ρ → ∃ S', Ex S S' ∧ St g Z S' H τ θ σ ρ ∧ Reps g S' (O.ds θ') τ' := by
  intro n
  induction n with
  | zero =>
    intro τ' θ' S l1 l2 h
    have e : θ' = [] := List.eq_nil_of_length_eq_zero l2
    have e' : τ' = [] := List.eq_nil_of_length_eq_zero l1
    subst e
    subst e'
    rw [List.append_nil, List.append_nil] at h
    exact ⟨S, Ex.refl _, h, rfl⟩
  | succ n ih =>
    intro τ' θ' S l1 l2 h
    have hne : θ' ≠ [] := by intro z; subst z; simp at l2
    have hne' : τ' ≠ [] := by intro z; subst z; simp at l1
    obtain ⟨θ2, o, rfl⟩ : ∃ θ2 o, θ' = θ2 ++ [o] := ⟨θ'.dropLast, θ'.getLast hne, (List.dropLast_concat_getLast hne).symm⟩
    obtain ⟨τ2, v, rfl⟩ : ∃ θ2 o, τ' = θ2 ++ [o] := ⟨τ'.dropLast, τ'.getLast hne', (List.dropLast_concat_getLast hne').symm⟩
    rw [← List.append_assoc, ← List.append_assoc] at h
    obtain ⟨S1, e1, h1, r1⟩ := h.pop
    obtain ⟨S2, e2, h2, r2⟩ := ih τ2 θ2 (by simpa using l1) (by simpa using l2) h1
    refine ⟨S2, e1.trans e2, h2, ?_⟩
    rw [ds_eq_map, List.map_append, ← ds_eq_map]
    exact r2.append ⟨v, [], rfl, Rep.mono e2 _ _ r1, rfl⟩
end
end DL
set_option Elab.async false
set_option linter.all false
set_option maxRecDepth 100000
set_option autoImplicit false
/-! DL2: readings by total functions on data: expressions, tests, argument lists. -/
namespace DL
open PySem PySem.Spec PyProof.Rows L2
structure Exn where
  c : Str
  fs : List (Str × D)
inductive R where
  | ok (o : O) (ρ : En) | exc (x : Exn) (ρ : En) | stuck
abbrev E := En → R
def R.bind : R → (O → E) → R
  | .ok o ρ, k => k o ρ
  | .exc x ρ, _ => .exc x ρ
  | .stuck, _ => .stuck
def R.of : Option O → E
  | some o, ρ => .ok o ρ
  | none, _ => .stuck
/-- behind a raise: the exception's own dict stands at d -/
def ExnAt (g : Gb) (S H : Hp) (x : Exn) (d : Addr) : Prop := ∃ fvs, H d = some (.xd fvs) ∧ RepF g S x.fs fvs
theorem ExnAt.mono {g : Gb} {S S' H : Hp} {x : Exn} {d : Addr} (e : Ex S S') (h : ExnAt g S H x d) : ExnAt g S' H x d := let ⟨f, a, b⟩ := h; ⟨f, a, RepF.mono e _ _ b⟩
def PostR (g : Gb) (W : WX) (Z : Zn) (S : Hp) (τ : List V) (θ : List O) (σ : Sg) (r : R) (Q : VK) : Prop := match r with
  | .ok o ρ => ∀ v S' H', Ex S S' → St g Z S' H' (τ ++ [v]) (θ ++ [o]) σ ρ → Q v H'
  | .exc x ρ => ∀ d S' H', Ex S S' → St g Z S' H' τ θ σ ρ → ExnAt g S' H' x d → W (.ref (g.cn x.c)) (some d) σ H'
  | .stuck => False
/-- an expression's reading by a function -/
def LE (g : Gb) (W : WX) (m : E) : TE := fun σ H Q => ∃ Z S τ θ ρ, St g Z S H τ θ σ ρ ∧ PostR g W Z S τ θ σ (m ρ) Q
/-- a test's -/
abbrev LT (g : Gb) (W : WX) (m : E) : TT := tB (LE g W m)
inductive RA where
  | ok (os : List O) (ρ : En) | exc (x : Exn) (ρ : En) | stuck
def RA.bind : RA → (List O → E) → R
  | .ok o ρ, k => k o ρ
  | .exc x ρ, _ => .exc x ρ
  | .stuck, _ => .stuck
def evs : List E → En → RA
  | [], ρ => .ok [] ρ
  | m :: ms, ρ => match m ρ with
    | .ok o ρ1 => match evs ms ρ1 with
      | .ok os ρ2 => .ok (o :: os) ρ2
      | .exc x ρ2 => .exc x ρ2
      | .stuck => .stuck
    | .exc x ρ1 => .exc x ρ1
    | .stuck => .stuck
def PostA (g : Gb) (W : WX) (Z : Zn) (S : Hp) (τ : List V) (θ : List O) (σ : Sg) (r : RA) (Q : List V → Hp → Prop) : Prop := match r with
  | .ok os ρ => ∀ vs S' H', Ex S S' → St g Z S' H' (τ ++ vs) (θ ++ os) σ ρ → Q vs H'
  | .exc x ρ => ∀ d S' H', Ex S S' → St g Z S' H' τ θ σ ρ → ExnAt g S' H' x d → W (.ref (g.cn x.c)) (some d) σ H'
  | .stuck => False
def LA (g : Gb) (W : WX) (ms : List E) : TA := fun σ H Q => ∃ Z S τ θ ρ, St g Z S H τ θ σ ρ ∧ PostA g W Z S τ θ σ (evs ms ρ) Q
theorem PE_imp {X : Cx} {e : Expr} {t t' : TE} (h : PE X e t) (k : ∀ σ H Q, t' σ H Q → t σ H Q) : PE X e t' := ⟨fun pins s σ H Q I q => h.run pins s σ H Q I (k _ _ _ q)⟩
theorem PT_imp {X : Cx} {e : Expr} {t t' : TT} (h : PT X e t) (k : ∀ σ H Q, t' σ H Q → t σ H Q) : PT X e t' := ⟨fun pins s σ H Q I q => h.run pins s σ H Q I (k _ _ _ q)⟩
theorem PW_imp {X : Cx} {e : Expr} {t t' : TT} (h : PW X e t) (k : ∀ σ H Q, t' σ H Q → t σ H Q) : PW X e t' := ⟨fun wh pins s σ H Q I q => h.run wh pins s σ H Q I (k _ _ _ q)⟩
theorem PA_imp {X : Cx} {es : List Expr} {t t' : TA} (h : PA X es t) (k : ∀ σ H Q, t' σ H Q → t σ H Q) : PA X es t' := ⟨fun pos pins s σ H Q I q => h.run pos pins s σ H Q I (k _ _ _ q)⟩
section
variable {g : Gb} {W : WX} {Z : Zn} {S S' H H' : Hp} {τ τ' : List V} {θ θ' : List O} {σ : Sg} {ρ : En} {Q Q' : VK} {m ma mb mc : E} {k : O → E} {o : O} {v : V} {r : R}
theorem St.nil (h : St g Z S H τ θ σ ρ) : St g Z S H (τ ++ []) (θ ++ []) σ ρ := by rw [List.append_nil, List.append_nil]; exact h
theorem PostR.mono (e : Ex S S') (h : PostR g W Z S τ θ σ r Q) : PostR g W Z S' τ θ σ r Q := by
  cases r with
  | ok o ρ => exact fun v T H' q st => h v T H' (e.trans q) st
  | exc x ρ => exact fun d T H' q st => h d T H' (e.trans q) st
  | stuck => exact h
theorem PostA.mono {r : RA} {Q : List V → Hp → Prop} (e : Ex S S') (h : PostA g W Z S τ θ σ r Q) : PostA g W Z S' τ θ σ r Q := by
  cases r with
  | ok o ρ => exact fun v T H' q st => h v T H' (e.trans q) st
  | exc x ρ => exact fun d T H' q st => h d T H' (e.trans q) st
  | stuck => exact h
/-- one part is read, τ' held meanwhile; then k -/
theorem stepN {n : Nat} (st : St g Z S H (τ ++ τ') (θ ++ θ') σ ρ) (l1 : τ'.length = n) (l2 : θ'.length = n) (post : PostR g W Z S τ θ σ ((m ρ).bind k) Q)
    (hk : ∀ o ρ1 v S1 H1, Ex S S1 → St g Z S1 H1 (τ ++ (τ' ++ [v])) (θ ++ (θ' ++ [o])) σ ρ1 → PostR g W Z S1 τ θ σ (k o ρ1) Q → Q' v H1) : LE g W m σ H Q' := by
  refine ⟨Z, S, τ ++ τ', θ ++ θ', ρ, st, ?_⟩
  cases h : m ρ with
  | ok o ρ1 =>
    rw [h] at post
    intro v S1 H1 e1 st1
    rw [List.append_assoc, List.append_assoc] at st1
    exact hk o ρ1 v S1 H1 e1 st1 (PostR.mono e1 post)
  | exc x ρ1 =>
    rw [h] at post
    intro d S1 H1 e1 st1 xa
    obtain ⟨S2, e2, st2, _⟩ := st1.popN n τ' θ' l1 l2
    exact post d S2 H1 (e1.trans e2) st2 (xa.mono e2)
  | stuck => rw [h] at post; exact post
theorem step0 (st : St g Z S H τ θ σ ρ) (post : PostR g W Z S τ θ σ ((m ρ).bind k) Q)
    (hk : ∀ o ρ1 v S1 H1, Ex S S1 → St g Z S1 H1 (τ ++ [v]) (θ ++ [o]) σ ρ1 → PostR g W Z S1 τ θ σ (k o ρ1) Q → Q' v H1) : LE g W m σ H Q' :=
  stepN (n := 0) st.nil rfl rfl post hk
theorem PostR.fin (post : PostR g W Z S τ θ σ (.ok o ρ) Q) (e : Ex S S') (st : St g Z S' H τ θ σ ρ) (n : New g S' H o v H') : Q v H' := by
  obtain ⟨S2, e2, st2⟩ := st.push n
  exact post v S2 H' (e.trans e2) st2
theorem PostR.of {oo : Option O} (post : PostR g W Z S τ θ σ (R.of oo ρ) Q) : ∃ o, oo = some o ∧ PostR g W Z S τ θ σ (.ok o ρ) Q := by
  cases oo with
  | none => exact post.elim
  | some o => exact ⟨o, rfl, post⟩
/-! ### names, constants -/
def eVar (i : Nat) : E := fun ρ => match ρ[i]? with
  | some (.v (.sh d)) => .ok (.sh d) ρ
  | some (.v o) => .ok (.sh o.d) (ρ.set i (.v (.sh o.d)))
  | _ => .stuck
theorem le_var {i : Nat} (q : LE g W (eVar i) σ H Q) : tVar i σ H Q := by
  obtain ⟨Z, S, τ, θ, ρ, st, post⟩ := q
  have key : ∀ o : O, ρ[i]? = some (.v o) → PostR g W Z S τ θ σ (.ok (.sh o.d) (ρ.set i (.v (.sh o.d)))) Q → tVar i σ H Q := fun o e post => by
    obtain ⟨S', v, e1, st1, e2, r⟩ := st.share e
    exact ⟨v, e2, post.fin e1 st1 (New.same st1.sub r)⟩
  unfold eVar at post
  split at post
  · rename_i d e
    refine key _ e ?_
    have : ρ.set i (.v (.sh d)) = ρ := by
      apply List.ext_getElem?
      intro j
      by_cases z : j = i
      · subst z; rw [List.getElem?_set_self (List.getElem?_eq_some_iff.mp e).1, e]
      · rw [List.getElem?_set_ne (Ne.symm z)]
    show PostR g W Z S τ θ σ (.ok (.sh d) (ρ.set i (.v (.sh d)))) Q
    rw [this]
    exact post
  · rename_i o _ e
    exact key o e post
  · exact post.elim
def eC (d : D) : E := fun ρ => .ok (.sh d) ρ
def D.val : D → V
  | .bl b => .bl b | .int i => .int i | .str x => .str x | .op v => v | _ => .non
def D.flat : D → Bool
  | .non | .bl _ | .int _ | .str _ | .op _ => true
  | _ => false
theorem rep_flat {d : D} (h : d.flat = true) : Rep g S d d.val := by
  cases d <;> first | rfl | cases h
theorem rep_flat_eq {d : D} {v : V} (h : d.flat = true) (r : Rep g S d v) : v = d.val := by
  cases d <;> first | exact r | cases h
theorem New.flat {d : D} (e : Sub S H) (h : d.flat = true) : New g S H (.sh d) d.val H := New.same e (rep_flat h)
theorem le_c {d : D} (h : d.flat = true) (q : LE g W (eC d) σ H Q) : tC d.val σ H Q := by
  obtain ⟨Z, S, τ, θ, ρ, st, post⟩ := q
  exact PostR.fin post (Ex.refl _) st (New.flat st.sub h)
/-! ### operators -/
def D.view : D → D
  | .lab _ d => d.view
  | d => d
theorem Rep.view : ∀ {d : D} {v : V}, Rep g S d v → Rep g S d.view v
  | .lab _ d, _, ⟨_, r⟩ => Rep.view (d := d) r
  | .non, _, r | .bl _, _, r | .int _, _, r | .str _, _, r | .lst _, _, r | .tup _, _, r | .dct _, _, r | .ins _ _, _, r | .exn _ _, _, r | .op _, _, r | .scr _, _, r | .any, _, r => r
/-- an operator on values does what f says on data -/
def OpS (g : Gb) (r : R2) (f : D → D → Option O) : Prop := ∀ S H x y dx dy o (Q : VK), Sub S H → Rep g S dx x → Rep g S dy y → f dx dy = some o → (∀ v H', New g S H o v H' → Q v H') → r x y H Q
def eBin (f : D → D → Option O) (a b : E) : E := fun ρ => (a ρ).bind fun o1 ρ1 => (b ρ1).bind fun o2 ρ2 => R.of (f o1.d.view o2.d.view) ρ2
theorem le_bin {r : R2} {f : D → D → Option O} (hs : OpS g r f) (q : LE g W (eBin f ma mb) σ H Q) : tOp r (LE g W ma) (LE g W mb) σ H Q := by
  obtain ⟨Z, S, τ, θ, ρ, st, post⟩ := q
  refine step0 st post fun o1 ρ1 v1 S1 H1 e1 st1 post1 => ?_
  refine stepN (n := 1) st1 rfl rfl post1 fun o2 ρ2 v2 S2 H2 e2 st2 post2 => ?_
  obtain ⟨S3, e3, st3, a1, r1, ea, ra, b1, r2, eb, rb, _⟩ := st2.popN 2 [v1, v2] [o1, o2] rfl rfl
  cases ea
  cases eb
  obtain ⟨o, hf, post3⟩ := post2.of
  exact hs S3 H2 v1 v2 _ _ o Q st3.sub ra.view rb.view hf fun v H' n => post3.fin e3 st3 n
def eUn (f : D → Option O) (a : E) : E := fun ρ => (a ρ).bind fun o1 ρ1 => R.of (f o1.d.view) ρ1
/-! ### and, or, not, if else: bools decide -/
def eAnd (a b : E) : E := fun ρ => (a ρ).bind fun o ρ1 => match o with
  | .sh (.bl true) => b ρ1
  | .sh (.bl false) => .ok (.sh (.bl false)) ρ1
  | _ => .stuck
def eOr (a b : E) : E := fun ρ => (a ρ).bind fun o ρ1 => match o with
  | .sh (.bl true) => .ok (.sh (.bl true)) ρ1
  | .sh (.bl false) => b ρ1
  | _ => .stuck
def eNot (a : E) : E := fun ρ => (a ρ).bind fun o ρ1 => match o with
  | .sh (.bl b) => .ok (.sh (.bl (!b))) ρ1
  | _ => .stuck
def eIf (t a b : E) : E := fun ρ => (t ρ).bind fun o ρ1 => match o with
  | .sh (.bl true) => a ρ1
  | .sh (.bl false) => b ρ1
  | _ => .stuck
/-- a bool is read; it decides -/
theorem step_bl {k : O → E} (st : St g Z S H τ θ σ ρ) (post : PostR g W Z S τ θ σ ((m ρ).bind k) Q) (hb : ∀ o ρ1, (∀ b, o ≠ .sh (.bl b)) → k o ρ1 = .stuck)
    (hk : ∀ b ρ1 S1 H1, Ex S S1 → St g Z S1 H1 τ θ σ ρ1 → PostR g W Z S1 τ θ σ (k (.sh (.bl b)) ρ1) Q → Q' (.bl b) H1) : LE g W m σ H Q' :=
  step0 st post fun o1 ρ1 v1 S1 H1 e1 st1 post1 => by
    by_cases z : ∃ b, o1 = .sh (.bl b)
    · obtain ⟨b, rfl⟩ := z
      obtain ⟨S2, e2, st2, ra⟩ := st1.pop
      have ev : v1 = .bl b := ra
      subst ev
      exact hk b ρ1 S2 H1 (e1.trans e2) st2 (post1.mono e2)
    · rw [hb o1 ρ1 fun b e => z ⟨b, e⟩] at post1
      exact post1.elim
theorem le_and (q : LE g W (eAnd ma mb) σ H Q) : tAndV (LE g W ma) (LE g W mb) σ H Q := by
  obtain ⟨Z, S, τ, θ, ρ, st, post⟩ := q
  refine step_bl st post (fun o ρ1 h => ?_) fun b ρ1 S1 H1 e1 st1 post1 => ⟨b, rfl, ?_⟩
  · split
    · exact (h _ rfl).elim
    · exact (h _ rfl).elim
    · rfl
  · cases b with
    | true => exact iteT ⟨Z, S1, τ, θ, ρ1, st1, post1⟩
    | false => exact iteF (PostR.fin post1 (Ex.refl _) st1 (New.flat (d := .bl false) st1.sub rfl))
theorem le_not (q : LE g W (eNot ma) σ H Q) : tNotV (LE g W ma) σ H Q := by
  obtain ⟨Z, S, τ, θ, ρ, st, post⟩ := q
  refine step_bl st post (fun o ρ1 h => ?_) fun b ρ1 S1 H1 e1 st1 post1 => ⟨b, rfl, ?_⟩
  · split
    · exact (h _ rfl).elim
    · rfl
  · exact PostR.fin post1 (Ex.refl _) st1 (New.flat (d := .bl (!b)) st1.sub rfl)
theorem le_if (q : LE g W (eIf mc ma mb) σ H Q) : tIf (LT g W mc) (LE g W ma) (LE g W mb) σ H Q := by
  obtain ⟨Z, S, τ, θ, ρ, st, post⟩ := q
  refine step_bl st post (fun o ρ1 h => ?_) fun b ρ1 S1 H1 e1 st1 post1 => ⟨b, rfl, ?_⟩
  · split
    · exact (h _ rfl).elim
    · exact (h _ rfl).elim
    · rfl
  · cases b with
    | true => exact iteT ⟨Z, S1, τ, θ, ρ1, st1, post1⟩
    | false => exact iteF ⟨Z, S1, τ, θ, ρ1, st1, post1⟩
theorem lt_and {Q : Bool → Hp → Prop} (q : LT g W (eAnd ma mb) σ H Q) : tAnd (LT g W ma) (LT g W mb) σ H Q := by
  obtain ⟨Z, S, τ, θ, ρ, st, post⟩ := q
  refine step_bl st post (fun o ρ1 h => ?_) fun b ρ1 S1 H1 e1 st1 post1 => ⟨b, rfl, ?_⟩
  · split
    · exact (h _ rfl).elim
    · exact (h _ rfl).elim
    · rfl
  · cases b with
    | true => exact iteT ⟨Z, S1, τ, θ, ρ1, st1, post1⟩
    | false =>
      obtain ⟨c, e, q⟩ := PostR.fin post1 (Ex.refl _) st1 (New.flat (d := .bl false) st1.sub rfl)
      cases e
      exact iteF q
theorem lt_or {Q : Bool → Hp → Prop} (q : LT g W (eOr ma mb) σ H Q) : tOr (LT g W ma) (LT g W mb) σ H Q := by
  obtain ⟨Z, S, τ, θ, ρ, st, post⟩ := q
  refine step_bl st post (fun o ρ1 h => ?_) fun b ρ1 S1 H1 e1 st1 post1 => ⟨b, rfl, ?_⟩
  · split
    · exact (h _ rfl).elim
    · exact (h _ rfl).elim
    · rfl
  · cases b with
    | false => exact iteF ⟨Z, S1, τ, θ, ρ1, st1, post1⟩
    | true =>
      obtain ⟨c, e, q⟩ := PostR.fin post1 (Ex.refl _) st1 (New.flat (d := .bl true) st1.sub rfl)
      cases e
      exact iteT q
theorem lt_not {Q : Bool → Hp → Prop} (q : LT g W (eNot ma) σ H Q) : tNot (LT g W ma) σ H Q := by
  obtain ⟨Z, S, τ, θ, ρ, st, post⟩ := q
  refine step_bl st post (fun o ρ1 h => ?_) fun b ρ1 S1 H1 e1 st1 post1 => ⟨b, rfl, ?_⟩
  · split
    · exact (h _ rfl).elim
    · rfl
  · obtain ⟨c, e, q⟩ := PostR.fin post1 (Ex.refl _) st1 (New.flat (d := .bl (!b)) st1.sub rfl)
    cases e
    exact q
/-! ### argument lists, displays -/
theorem la_nil {Q : List V → Hp → Prop} (q : LA g W [] σ H Q) : tNil σ H Q := by
  obtain ⟨Z, S, τ, θ, ρ, st, post⟩ := q
  exact post [] S H (Ex.refl _) st.nil
theorem la_cons {ms : List E} {Q : List V → Hp → Prop} (q : LA g W (m :: ms) σ H Q) : tCons (LE g W m) (LA g W ms) σ H Q := by
  obtain ⟨Z, S, τ, θ, ρ, st, post⟩ := q
  refine ⟨Z, S, τ, θ, ρ, st, ?_⟩
  unfold evs at post
  cases h : m ρ with
  | stuck => rw [h] at post; exact post.elim
  | exc x ρ1 => rw [h] at post; exact post
  | ok o ρ1 =>
    rw [h] at post
    intro v S1 H1 e1 st1
    refine ⟨Z, S1, τ ++ [v], θ ++ [o], ρ1, st1, ?_⟩
    dsimp only at post
    cases h2 : evs ms ρ1 with
    | stuck => rw [h2] at post; exact post.elim
    | exc x ρ2 =>
      rw [h2] at post
      intro d S2 H2 e2 st2 xa
      obtain ⟨S3, e3, st3, _⟩ := st2.pop
      exact post d S3 H2 ((e1.trans e2).trans e3) st3 (xa.mono e3)
    | ok os ρ2 =>
      rw [h2] at post
      intro vs S2 H2 e2 st2
      rw [List.append_assoc, List.append_assoc] at st2
      exact post (v :: vs) S2 H2 (e1.trans e2) st2
/-- all parts are read, then k -/
theorem stepA {ms : List E} {k : List O → E} {Q' : List V → Hp → Prop} (st : St g Z S H τ θ σ ρ) (post : PostR g W Z S τ θ σ ((evs ms ρ).bind k) Q)
    (hk : ∀ os ρ1 vs S1 H1, Ex S S1 → vs.length = os.length → St g Z S1 H1 (τ ++ vs) (θ ++ os) σ ρ1 → PostR g W Z S1 τ θ σ (k os ρ1) Q → Q' vs H1) : LA g W ms σ H Q' := by
  refine ⟨Z, S, τ, θ, ρ, st, ?_⟩
  cases h : evs ms ρ with
  | stuck => rw [h] at post; exact post.elim
  | exc x ρ1 => rw [h] at post; exact post
  | ok os ρ1 =>
    rw [h] at post
    intro vs S1 H1 e1 st1
    have l := st1.tlen
    have l0 := st.tlen
    exact hk os ρ1 vs S1 H1 e1 (by simp at l; omega) st1 (PostR.mono e1 post)
theorem Hold.wrap {A : List Addr} {α : Nat → List Addr} {vs : List V} {os : List O} (h : Hold g Z S H (τ ++ vs) (θ ++ os) σ ρ A α) (l : τ.length = θ.length) {p : Addr} (hp : H p = none) : St g Z S (upd H p (.lst vs)) (τ ++ [.ref p]) (θ ++ [.lst os]) σ ρ := by
  have h' := h.grow (Gr.new (o := .lst vs) hp)
  obtain ⟨A1, A2, e, r1, r2⟩ := h'.tmp.split l
  subst e
  have out : ∀ a, (a ∈ A1 ++ A2 ∨ ∃ i, a ∈ α i) → a ≠ p := fun a m z => by
    obtain ⟨_, ⟨u, q⟩, _⟩ := h.own a m
    rw [z, hp] at q; cases q
  obtain ⟨n1, n2, n3⟩ := List.nodup_append.mp h.ndA
  refine ⟨A1 ++ p :: A2, α, h'.bs, r1.append (RelOs.one ⟨p, vs, A2, rfl, upd_same, rfl, r2⟩), h'.len, h'.slot, ?_, h'.nd, h'.dis, ?_, ?_, h'.pin⟩
  · refine List.nodup_append.mpr ⟨n1, List.nodup_cons.mpr ⟨fun m => out p (.inl (List.mem_append_right _ m)) rfl, n2⟩, fun a m b m2 z => ?_⟩
    rcases List.mem_cons.mp m2 with m2 | m2
    · exact out a (.inl (List.mem_append_left _ m)) (z.trans m2)
    · exact n3 a m b m2 z
  · intro i a m m2
    rcases List.mem_append.mp m2 with m2 | m2
    · exact h.disA i a m (List.mem_append_left _ m2)
    · rcases List.mem_cons.mp m2 with m2 | m2
      · exact out a (.inr ⟨i, m⟩) m2
      · exact h.disA i a m (List.mem_append_right _ m2)
  · rintro a (m | m)
    · rcases List.mem_append.mp m with m | m
      · exact h'.own a (.inl (List.mem_append_left _ m))
      · rcases List.mem_cons.mp m with m | m
        · subst m
          exact ⟨h.bs.sub.none hp, ⟨_, upd_same⟩, .inr (h.bs.fresh hp), h.bs.notb hp⟩
        · exact h'.own a (.inl (List.mem_append_right _ m))
    · exact h'.own a (.inr m)
def eLst (ms : List E) : E := fun ρ => (evs ms ρ).bind fun os ρ1 => if os.length ≤ 1000000 then .ok (.lst os) ρ1 else .stuck
theorem small {n : Nat} (h : n ≤ 1000000) : n ≤ sizeLine := Nat.le_trans h (by decide)
theorem le_lst {ms : List E} (q : LE g W (eLst ms) σ H Q) : tLst (LA g W ms) σ H Q := by
  obtain ⟨Z, S, τ, θ, ρ, st, post⟩ := q
  refine stepA st post fun os ρ1 vs S1 H1 e1 l st1 post1 => ?_
  split at post1
  · rename_i hl
    refine ⟨small (by omega), fun p hp => ?_⟩
    obtain ⟨A, α, h1⟩ := st1
    exact post1 _ S1 _ (Ex.refl _) (h1.wrap st.tlen hp)
  · exact post1.elim
def eTup (ms : List E) : E := fun ρ => (evs ms ρ).bind fun os ρ1 => if os.length ≤ 1000000 then .ok (.sh (.tup (O.ds os))) ρ1 else .stuck
theorem New.tup {ds : List D} {vs : List V} {p : Addr} (e : Sub S H) (r : Reps g S ds vs) (hp : H p = none) : New g S H (.sh (.tup ds)) (.ref p) (upd H p (.tup vs)) := by
  have hs : S p = none := e.none hp
  refine ⟨upd S p (.tup vs), [], Ex.new hs, fun a h1 h2 => ?_, fun a u q => ?_, ⟨rfl, p, vs, rfl, .inl (.inl upd_same), Reps.mono (Ex.new hs) _ _ r⟩, List.nodup_nil, fun _ m => (nomatch m), Gr.new hp⟩
  · by_cases z : a = p
    · rw [z]; exact hp
    · rw [upd_ne z] at h1; exact absurd h2 h1
  · by_cases z : a = p
    · subst z; rw [upd_same] at q ⊢; exact q
    · rw [upd_ne z] at q ⊢; exact e a u q
theorem le_tup {ms : List E} (q : LE g W (eTup ms) σ H Q) : tTup (LA g W ms) σ H Q := by
  obtain ⟨Z, S, τ, θ, ρ, st, post⟩ := q
  refine stepA st post fun os ρ1 vs S1 H1 e1 l st1 post1 => ?_
  split at post1
  · rename_i hl
    refine ⟨small (by omega), fun p hp => ?_⟩
    obtain ⟨S2, e2, st2, rep⟩ := st1.popN os.length vs os l rfl
    exact post1.fin e2 st2 (New.tup st2.sub rep hp)
  · exact post1.elim
/-! ### builtins on values -/
def CallS (g : Gb) (r : List V → Hp → VK → Prop) (f : List D → Option O) : Prop := ∀ S H xs ds o (Q : VK), Sub S H → Reps g S ds xs → f (ds.map D.view) = some o → (∀ v H', New g S H o v H' → Q v H') → r xs H Q
def eCB (f : List D → Option O) (ms : List E) : E := fun ρ => (evs ms ρ).bind fun os ρ1 => R.of (f ((O.ds os).map D.view)) ρ1
theorem le_callB {r : List V → Hp → VK → Prop} {f : List D → Option O} {ms : List E} (hs : CallS g r f) (q : LE g W (eCB f ms) σ H Q) : tCB r (LA g W ms) σ H Q := by
  obtain ⟨Z, S, τ, θ, ρ, st, post⟩ := q
  refine stepA st post fun os ρ1 vs S1 H1 e1 l st1 post1 => ?_
  obtain ⟨o, hf, post3⟩ := post1.of
  obtain ⟨S2, e2, st2, rep⟩ := st1.popN os.length vs os l rfl
  exact hs S2 H1 vs _ o Q st2.sub rep hf fun v H' n => post3.fin e2 st2 n
end
end DL
set_option Elab.async false
set_option linter.all false
set_option maxRecDepth 100000
set_option autoImplicit false
/-! DL3: statements; a def's promise by a function; calls. -/
namespace DL
open PySem PySem.Spec PyProof.Rows L2
inductive Out where
  | next (ρ : En) | ret (o : O) (ρ : En) | brk (ρ : En) | cont (ρ : En) | exc (x : Exn) (ρ : En) | stuck
abbrev Sm := En → Out
def R.toO : R → (O → En → Out) → Out
  | .ok o ρ, k => k o ρ
  | .exc x ρ, _ => .exc x ρ
  | .stuck, _ => .stuck
def PostO (g : Gb) (W : WX) (Z : Zn) (S : Hp) (r : Out) (D : Ends) : Prop := match r with
  | .next ρ => ∀ σ' S' H', Ex S S' → St g Z S' H' [] [] σ' ρ → D.nx σ' H'
  | .brk ρ => ∀ σ' S' H', Ex S S' → St g Z S' H' [] [] σ' ρ → D.bk σ' H'
  | .cont ρ => ∀ σ' S' H', Ex S S' → St g Z S' H' [] [] σ' ρ → D.ct σ' H'
  | .ret o ρ => ∀ v σ' S' H', Ex S S' → St g Z S' H' [v] [o] σ' ρ → D.rt v H'
  | .exc x ρ => ∀ d σ' S' H', Ex S S' → St g Z S' H' [] [] σ' ρ → ExnAt g S' H' x d → W (.ref (g.cn x.c)) (some d) σ' H'
  | .stuck => False
def LS (g : Gb) (W : WX) (m : Sm) : TS := fun D σ H => ∃ Z S ρ, St g Z S H [] [] σ ρ ∧ PostO g W Z S (m ρ) D
theorem PS_imp {X : Cx} {s : Stmt} {t t' : TS} (h : PS X s t) (k : ∀ D σ H, t' D σ H → t D σ H) : PS X s t' := ⟨fun pins s σ H D I q => h.run pins s σ H D I (k _ _ _ q)⟩
theorem PSs_imp {X : Cx} {s : List Stmt} {t t' : TS} (h : PSs X s t) (k : ∀ D σ H, t' D σ H → t D σ H) : PSs X s t' := ⟨fun pins s σ H D I q => h.run pins s σ H D I (k _ _ _ q)⟩
section
variable {g : Gb} {W : WX} {Z : Zn} {S S' H H' : Hp} {τ τ' : List V} {θ θ' : List O} {σ : Sg} {ρ : En} {Q Q' : VK} {m ma mb mc : E} {o : O} {v : V} {D : Ends} {a b : Sm}
theorem PostO.mono {r : Out} (e : Ex S S') (h : PostO g W Z S r D) : PostO g W Z S' r D := by
  cases r with
  | next ρ => exact fun σ' T H' q st => h σ' T H' (e.trans q) st
  | brk ρ => exact fun σ' T H' q st => h σ' T H' (e.trans q) st
  | cont ρ => exact fun σ' T H' q st => h σ' T H' (e.trans q) st
  | ret o ρ => exact fun v σ' T H' q st => h v σ' T H' (e.trans q) st
  | exc x ρ => exact fun d σ' T H' q st => h d σ' T H' (e.trans q) st
  | stuck => exact h
theorem sstep {k : O → En → Out} (st : St g Z S H [] [] σ ρ) (post : PostO g W Z S ((m ρ).toO k) D)
    (hk : ∀ o ρ1 v S1 H1, Ex S S1 → St g Z S1 H1 [v] [o] σ ρ1 → PostO g W Z S1 (k o ρ1) D → Q' v H1) : LE g W m σ H Q' := by
  refine ⟨Z, S, [], [], ρ, st, ?_⟩
  cases h : m ρ with
  | ok o ρ1 => rw [h] at post; exact fun v S1 H1 e1 st1 => hk o ρ1 v S1 H1 e1 st1 (PostO.mono e1 post)
  | exc x ρ1 => rw [h] at post; exact fun d S1 H1 e1 st1 xa => post d σ S1 H1 e1 st1 xa
  | stuck => rw [h] at post; exact post
theorem sstep_bl {k : O → En → Out} (st : St g Z S H [] [] σ ρ) (post : PostO g W Z S ((m ρ).toO k) D) (hb : ∀ o ρ1, (∀ b, o ≠ .sh (.bl b)) → k o ρ1 = .stuck)
    (hk : ∀ b ρ1 S1 H1, Ex S S1 → St g Z S1 H1 [] [] σ ρ1 → PostO g W Z S1 (k (.sh (.bl b)) ρ1) D → Q' (.bl b) H1) : LE g W m σ H Q' :=
  sstep st post fun o1 ρ1 v1 S1 H1 e1 st1 post1 => by
    by_cases z : ∃ b, o1 = .sh (.bl b)
    · obtain ⟨b, rfl⟩ := z
      obtain ⟨S2, e2, st2, ra⟩ := St.pop (τ := []) (θ := []) st1
      have ev : v1 = .bl b := ra
      subst ev
      exact hk b ρ1 S2 H1 (e1.trans e2) st2 (post1.mono e2)
    · rw [hb o1 ρ1 fun b e => z ⟨b, e⟩] at post1
      exact post1.elim
def sNext : Sm := fun ρ => .next ρ
theorem ls_nil (q : LS g W sNext D σ H) : tNext D σ H := by
  obtain ⟨Z, S, ρ, st, post⟩ := q
  exact post σ S H (Ex.refl _) st
def Out.andThen : Out → Sm → Out
  | .next ρ, k => k ρ
  | r, _ => r
def sSeq (a b : Sm) : Sm := fun ρ => (a ρ).andThen b
theorem ls_seq (q : LS g W (sSeq a b) D σ H) : tSeq (LS g W a) (LS g W b) D σ H := by
  obtain ⟨Z, S, ρ, st, post⟩ := q
  refine ⟨Z, S, ρ, st, ?_⟩
  unfold sSeq at post
  cases h : a ρ with
  | next ρ1 => rw [h] at post; exact fun σ' S1 H1 e1 st1 => ⟨Z, S1, ρ1, st1, PostO.mono e1 post⟩
  | brk ρ1 => rw [h] at post; exact post
  | cont ρ1 => rw [h] at post; exact post
  | ret o ρ1 => rw [h] at post; exact post
  | exc x ρ1 => rw [h] at post; exact post
  | stuck => rw [h] at post; exact post
def sIf (t : E) (a b : Sm) : Sm := fun ρ => (t ρ).toO fun o ρ1 => match o with
  | .sh (.bl true) => a ρ1
  | .sh (.bl false) => b ρ1
  | _ => .stuck
theorem ls_if (q : LS g W (sIf m a b) D σ H) : tIfS (LT g W m) (LS g W a) (LS g W b) D σ H := by
  obtain ⟨Z, S, ρ, st, post⟩ := q
  refine sstep_bl st post (fun o ρ1 h => ?_) fun b ρ1 S1 H1 e1 st1 post1 => ⟨b, rfl, ?_⟩
  · split
    · exact (h _ rfl).elim
    · exact (h _ rfl).elim
    · rfl
  · cases b with
    | true => exact iteT ⟨Z, S1, ρ1, st1, post1⟩
    | false => exact iteF ⟨Z, S1, ρ1, st1, post1⟩
/-- x = e; x is no name that was handed over for change -/
def En.put (ρ : En) (i : Nat) (o : O) : Out := match ρ[i]? with
  | some (.b _) => .stuck
  | some _ => .next (ρ.set i (.v o))
  | none => .stuck
def sSet (i : Nat) (m : E) : Sm := fun ρ => (m ρ).toO fun o ρ1 => En.put ρ1 i o
theorem put_next {i : Nat} (st : St g Z S H [v] [o] σ ρ) (post : PostO g W Z S (En.put ρ i o) D) : D.nx (σ.set i (some v)) H := by
  unfold En.put at post
  cases h : ρ[i]? with
  | none => rw [h] at post; exact post.elim
  | some sl =>
    rw [h] at post
    have il := (List.getElem?_eq_some_iff.mp h).1
    cases sl with
    | b o' => exact post.elim
    | no => exact post _ S H (Ex.refl _) (St.store (τ := []) (θ := []) st il fun o' z => by rw [h] at z; cases z)
    | v o' => exact post _ S H (Ex.refl _) (St.store (τ := []) (θ := []) st il fun o' z => by rw [h] at z; cases z)
theorem ls_set {i : Nat} (q : LS g W (sSet i m) D σ H) : tAsg (LE g W m) (gName i) D σ H := by
  obtain ⟨Z, S, ρ, st, post⟩ := q
  exact sstep st post fun o1 ρ1 v1 S1 H1 e1 st1 post1 => put_next st1 post1
def sDrop (m : E) : Sm := fun ρ => (m ρ).toO fun _ ρ1 => .next ρ1
theorem ls_drop (q : LS g W (sDrop m) D σ H) : tDrop (LE g W m) D σ H := by
  obtain ⟨Z, S, ρ, st, post⟩ := q
  refine sstep st post fun o1 ρ1 v1 S1 H1 e1 st1 post1 => ?_
  obtain ⟨S2, e2, st2, _⟩ := St.pop (τ := []) (θ := []) st1
  exact post1 σ S2 H1 e2 st2
def sRet (m : E) : Sm := fun ρ => (m ρ).toO fun o ρ1 => .ret o ρ1
theorem ls_ret (q : LS g W (sRet m) D σ H) : tRet (LE g W m) D σ H := by
  obtain ⟨Z, S, ρ, st, post⟩ := q
  exact sstep st post fun o1 ρ1 v1 S1 H1 e1 st1 post1 => post1 v1 σ S1 H1 (Ex.refl _) st1
/-- return x: what x owns goes out -/
def sRetV (i : Nat) : Sm := fun ρ => match ρ[i]? with
  | some (.v o) => .ret o (ρ.set i .no)
  | _ => .stuck
theorem St.take {i : Nat} (h : St g Z S H [] [] σ ρ) (hi : ρ[i]? = some (.v o)) : ∃ v, σ[i]? = some (some v) ∧ St g Z S H [v] [o] σ (ρ.set i .no) := by
  obtain ⟨A, α, h⟩ := h
  obtain ⟨v, e, r⟩ := h.slot i o (.inl hi)
  have il := (List.getElem?_eq_some_iff.mp hi).1
  obtain ⟨_, hA⟩ := h.tmp
  subst hA
  refine ⟨v, e, α i, fun j => if j = i then [] else α j, h.bs, RelOs.one r, by rw [List.length_set]; exact h.len, ?_, h.nd i, ?_, ?_, ?_, ?_, ?_⟩
  · intro j o' hj
    by_cases z : j = i
    · subst z
      rw [List.getElem?_set_self il] at hj
      rcases hj with hj | hj <;> cases hj
    · rw [List.getElem?_set_ne (Ne.symm z)] at hj
      rw [if_neg z]
      exact h.slot j o' hj
  · intro j; (try dsimp only); split
    · exact List.nodup_nil
    · exact h.nd j
  · intro j k n a m
    (try dsimp only at m ⊢)
    split at m
    · cases m
    · split
      · exact List.not_mem_nil
      · exact h.dis j k n a m
  · intro j a m m2
    (try dsimp only at m)
    split at m
    · cases m
    · rename_i z
      exact h.dis j i z a m m2
  · intro a m
    refine h.own a (.inr ?_)
    rcases m with m | ⟨j, m⟩
    · exact ⟨i, m⟩
    · (try dsimp only at m)
      split at m
      · cases m
      · exact ⟨j, m⟩
  · intro j o' hj
    by_cases z : j = i
    · subst z
      rw [List.getElem?_set_self il] at hj
      cases hj
    · rw [List.getElem?_set_ne (Ne.symm z)] at hj
      exact h.pin j o' hj
theorem ls_retV {i : Nat} (q : LS g W (sRetV i) D σ H) : tRet (tVar i) D σ H := by
  obtain ⟨Z, S, ρ, st, post⟩ := q
  unfold sRetV at post
  split at post
  · rename_i o e
    obtain ⟨v, e2, st2⟩ := st.take e
    exact ⟨v, e2, post v σ S H (Ex.refl _) st2⟩
  · exact post.elim
def sRetN : Sm := fun ρ => .ret (.sh .non) ρ
end
/-! ### a def's promise -/
def PostF (g : Gb) (Z : Zn) (r : R) (Q : VK) (E : XK) : Prop := match r with
  | .ok o ρ => ∀ v S' H', St g Z S' H' [v] [o] Z.σ0 ρ → Q v H'
  | .exc x ρ => ∀ d S' H', St g Z S' H' [] [] Z.σ0 ρ → ExnAt g S' H' x d → E (.ref (g.cn x.c)) (some d) H'
  | .stuck => False
/-- called with n values that are so (shared | handed over for change), it does what f says -/
def spD (g : Gb) (n : Nat) (f : List O → R) : Sp := fun vs H Q E => vs.length = n ∧ ∃ S os A, RelOs g S H os vs A ∧ A.Nodup ∧ (∀ a ∈ A, S a = none ∧ a ∉ g.tb) ∧ Sub S H ∧ (∀ p ∈ g.tb, TabN g S H p ∧ S p = none) ∧ PostF g ⟨S, H, A, vs.map some⟩ (f os) Q E
def ini : List Bool → List O → En
  | true :: bs, o :: os => .b o :: ini bs os
  | false :: bs, o :: os => .v o :: ini bs os
  | [], o :: os => .v o :: ini [] os
  | _, [] => []
def backs (n : Nat) (ρ : En) : En := (ρ.take n).map fun s => match s with
  | .b o => .b o
  | _ => .no
def Out.back (n : Nat) : Out → R
  | .next ρ => .ok (.sh .non) (backs n ρ)
  | .ret o ρ => .ok o (backs n ρ)
  | .exc x ρ => .exc x (backs n ρ)
  | _ => .stuck
/-- the def's function: n parameters (which of them are handed over for change), k further names, the body -/
def mkFn (n k : Nat) (bor : List Bool) (m : Sm) : List O → R := fun os => (m (ini bor os ++ List.replicate k .no)).back n
section
variable {g : Gb} {W : WX} {Z : Zn} {S S' H H' : Hp} {τ τ' : List V} {θ θ' : List O} {σ : Sg} {ρ : En} {Q Q' : VK} {m ma mb mc : E} {o : O} {v : V} {D : Ends}
theorem ini_get : ∀ (bs : List Bool) (os : List O) (i : Nat) (o : O), ((ini bs os)[i]? = some (.v o) ∨ (ini bs os)[i]? = some (.b o)) → os[i]? = some o
  | true :: bs, p :: os, 0, o, h => by rcases h with h | h <;> simp [ini] at h; subst h; rfl
  | false :: bs, p :: os, 0, o, h => by rcases h with h | h <;> simp [ini] at h; subst h; rfl
  | [], p :: os, 0, o, h => by rcases h with h | h <;> simp [ini] at h; subst h; rfl
  | true :: bs, p :: os, i + 1, o, h => by simpa using ini_get bs os i o (by simpa [ini] using h)
  | false :: bs, p :: os, i + 1, o, h => by simpa using ini_get bs os i o (by simpa [ini] using h)
  | [], p :: os, i + 1, o, h => by simpa using ini_get [] os i o (by simpa [ini] using h)
  | [], [], i, o, h => by rcases h with h | h <;> simp [ini] at h
  | true :: bs, [], i, o, h => by rcases h with h | h <;> simp [ini] at h
  | false :: bs, [], i, o, h => by rcases h with h | h <;> simp [ini] at h
theorem ini_len : ∀ (bs : List Bool) (os : List O), (ini bs os).length = os.length
  | true :: bs, p :: os => by simp [ini, ini_len bs os]
  | false :: bs, p :: os => by simp [ini, ini_len bs os]
  | [], p :: os => by simp [ini, ini_len [] os]
  | [], [] => rfl
  | true :: bs, [] => rfl
  | false :: bs, [] => rfl
theorem RelOs.parts : ∀ {os : List O} {vs : List V} {A : List Addr}, RelOs g S H os vs A → A.Nodup → ∃ α : Nat → List Addr, (∀ i o, os[i]? = some o → ∃ v, vs[i]? = some v ∧ RelO g S H o v (α i)) ∧ (∀ i, (α i).Nodup) ∧ (∀ i j, i ≠ j → ∀ a ∈ α i, a ∉ α j) ∧ ∀ i, ∀ a ∈ α i, a ∈ A
  | [], _, _, _, _ => ⟨fun _ => [], fun i o h => by simp at h, fun _ => List.nodup_nil, fun _ _ _ a m => (nomatch m), fun _ a m => (nomatch m)⟩
  | o :: os, _, _, ⟨v, r, A1, A2, e, eA, x, y⟩, nd => by
    subst eA
    obtain ⟨n1, n2, n3⟩ := List.nodup_append.mp nd
    obtain ⟨α, h1, h2, h3, h4⟩ := RelOs.parts y n2
    refine ⟨fun i => match i with | 0 => A1 | i + 1 => α i, fun i o' hi => ?_, fun i => ?_, fun i j hij a m => ?_, fun i a m => ?_⟩
    · cases i with
      | zero =>
        have : o = o' := by simpa using hi
        subst this
        exact ⟨v, by rw [e]; rfl, x⟩
      | succ i =>
        obtain ⟨v', q, r'⟩ := h1 i o' (by simpa using hi)
        exact ⟨v', by rw [e]; simpa using q, r'⟩
    · cases i with
      | zero => exact n1
      | succ i => exact h2 i
    · cases i with
      | zero => cases j with
        | zero => exact (hij rfl).elim
        | succ j => exact fun m2 => n3 a m a (h4 j a m2) rfl
      | succ i => cases j with
        | zero => exact fun m2 => n3 a m2 a (h4 i a m) rfl
        | succ j => exact h3 i j (fun z => hij (by rw [z])) a m
    · cases i with
      | zero => exact List.mem_append_left _ m
      | succ i => exact List.mem_append_right _ (h4 i a m)
/-- where a body begins -/
theorem st_start {n k : Nat} {vs : List V} {os : List O} {A : List Addr} {bor : List Bool} {N : List Str} (hl : vs.length = n) (hN : N.length = n + k) (r : RelOs g S H os vs A) (nd : A.Nodup) (hA : ∀ a ∈ A, S a = none ∧ a ∉ g.tb) (e : Sub S H) (ht : ∀ p ∈ g.tb, TabN g S H p ∧ S p = none) :
    St g ⟨S, H, A, vs.map some⟩ S H [] [] (L2.start N vs) (ini bor os ++ List.replicate k .no) := by
  obtain ⟨α, h1, h2, h3, h4⟩ := r.parts nd
  have lo : os.length = n := by rw [← r.len, hl]
  have sg : ∀ i v, vs[i]? = some v → (L2.start N vs)[i]? = some (some v) := fun i v h => by
    unfold L2.start
    rw [List.getElem?_append_left (by rw [List.length_map]; exact (List.getElem?_eq_some_iff.mp h).1), List.getElem?_map, h]
    rfl
  have ig : ∀ (i : Nat) (o : O), ((ini bor os ++ List.replicate k Sl.no)[i]? = some (.v o) ∨ (ini bor os ++ List.replicate k Sl.no)[i]? = some (.b o)) → os[i]? = some o := fun i o h => by
    by_cases hi : i < (ini bor os).length
    · rw [List.getElem?_append_left hi] at h
      exact ini_get bor os i o h
    · rw [List.getElem?_append_right (by omega)] at h
      rcases h with h | h <;> (rw [List.getElem?_replicate] at h; split at h <;> cases h)
  refine ⟨[], α, ⟨e, Ex.refl _, fun a p q => absurd q p, fun a u q _ _ => .inl q, fun a u q => ⟨u, q⟩, fun p m => (ht p m).1, fun p m => (ht p m).2⟩, ⟨rfl, rfl⟩, ?_, fun i o hi => ?_, List.nodup_nil, h2, h3, fun _ _ _ => List.not_mem_nil, fun a m => ?_, fun i o hi => ?_⟩
  · unfold L2.start
    simp only [List.length_append, List.length_replicate, List.length_map, ini_len]
    omega
  · obtain ⟨v, q, r'⟩ := h1 i o (ig i o hi)
    exact ⟨v, sg i v q, r'⟩
  · rcases m with m | ⟨i, m⟩
    · cases m
    · obtain ⟨v0, q0⟩ : ∃ u, H a = some u := RelOs.dom _ _ _ r a (h4 i a m)
      exact ⟨(hA a (h4 i a m)).1, ⟨v0, q0⟩, .inl (h4 i a m), (hA a (h4 i a m)).2⟩
  · obtain ⟨v, q, _⟩ := h1 i o (ig i o (.inr hi))
    rw [sg i v q, List.getElem?_map, q]
    rfl
theorem backs_get {n i : Nat} {ρ : En} {s : Sl} (h : (backs n ρ)[i]? = some s) : i < n ∧ ((∃ o, s = .b o ∧ ρ[i]? = some (.b o)) ∨ s = .no) := by
  unfold backs at h
  rw [List.getElem?_map, List.getElem?_take] at h
  split at h
  · rename_i hi
    refine ⟨hi, ?_⟩
    cases q : ρ[i]? with
    | none => rw [q] at h; cases h
    | some t =>
      rw [q] at h
      cases t with
      | no => simp at h; exact .inr h.symm
      | v o => simp at h; exact .inr h.symm
      | b o => simp at h; exact .inl ⟨o, h.symm, rfl⟩
  · cases h
/-- what the caller gets back -/
theorem St.back {n : Nat} (h : St g Z S H τ θ σ ρ) (hn : Z.σ0.length = n) : St g Z S H τ θ Z.σ0 (backs n ρ) := by
  obtain ⟨A, α, h⟩ := h
  refine ⟨A, α, h.bs, h.tmp, ?_, fun i o hi => ?_, h.ndA, h.nd, h.dis, h.disA, h.own, fun i o hi => rfl⟩
  · unfold backs
    rw [List.length_map, List.length_take]
    omega
  · rcases hi with hi | hi
    · rcases (backs_get hi).2 with ⟨_, z, _⟩ | z <;> cases z
    · rcases (backs_get hi).2 with ⟨o', z, q⟩ | z
      · cases z
        obtain ⟨v, q1, r⟩ := h.slot i o (.inr q)
        exact ⟨v, by rw [← h.pin i o q]; exact q1, r⟩
      · cases z
end
/-- a def of the text as it stands behind the top -/
structure DefK (K : PySem.W.Frag) (x qual : Str) (st : Stmt) (f : Addr) (fd : FuncData) : Prop where
  ex : ∃ (oc : Value) (od : Option Addr) (dV kV doc pm : Value) (an : Option Addr) (cdv ct : Value) (osl : Array (Option Value)),
    fd = PySem.W.fnOf x qual (defArgs st) (defBody st) (defScope st) dV kV doc pm an cdv ct ∧ K.lookup f = some ⟨oc, od, .func fd, osl⟩ ∧ PySem.W.codeIn K cdv qual = true
/-- a def's promise, as FnOk, where no repr runs below -/
structure FnW (P : Program) (w : World) (K : PySem.W.Frag) (mg : Str → Option Value) (base : Heap) (CX : CXT) (k : Nat) (f : Addr) (fd : FuncData) (ps : List Str) (sp : Sp) : Prop where
  len : ∀ vs H Q E, sp vs H Q E → vs.length = ps.length
  run : ∀ (A : Around) (outer : List Env) (s : Shared) (H : Hp) (args : Args) (us : List Value) (vs : List V) (Q : VK) (E : XK), Room k A → A.guards = some [] → Env0 P w K mg base A outer s H → BindsTo s fd args (ps.zip us) → Vals vs us → sp vs H Q E →
    codeAny (model P w) A (.call (.ref f) args) (CR CX outer P w H s Q E) s
theorem fnW_of {CX : CXT} {P : Program} {w : World} {K : PySem.W.Frag} {mg : Str → Option Value} {base : Heap} {k : Nat} {f : Addr} {name qual : Str} {params : Arguments} {body : List Stmt} {scope : Scope} {dV kV doc pm cdv ct oc : Value} {an od : Option Addr}
    {osl : Array (Option Value)} {N ps : List Str} {sp : Sp} (lk : K.lookup f = some ⟨oc, od, .func (PySem.W.fnOf name qual params body scope dV kV doc pm an cdv ct), osl⟩) (hcd : PySem.W.codeIn K cdv qual = true) (S : FnScope N ps scope)
    (len : ∀ vs H Q E, sp vs H Q E → vs.length = ps.length)
    (hbody : ∀ (A : Around) (outer : List Env) (s : Shared) (H : Hp) (vs : List V) (Q : VK) (E : XK), Room k (A.deeper (envOfC qual scope s.heap.objs.size f cdv)) → A.guards = some [] → sp vs H Q E →
      ∃ t, PSs (cxOf CX P w K mg base N qual scope f cdv A outer s H E) body t ∧ t { nx := fun _ H' => Q .non H', rt := Q } (L2.start N vs) H) :
    FnW P w K mg base CX (k + 1) f (PySem.W.fnOf name qual params body scope dV kV doc pm an cdv ct) ps sp := by
  refine ⟨len, fun A outer s H args us vs Q E hr hgd e0 hb r hsp => ?_⟩
  have hl := len _ _ _ _ hsp
  have KX : K.In s.heap := e0.mod.kin.keeps fun b o e => (e0.bs b o e).1
  have lim : s.heap.NoLimit := e0.mod.nolimit.keeps fun b o e => (e0.bs b o e).1
  have hkind : ∀ y ∈ ps.zip us, scope.names.lookup y.1 = some .local ∨ (scope.names.lookup y.1 = some .cell ∧ ((cellsFrom (s.heap.objs.size + 1) scope.names []).lookup y.1).isSome = true) := fun ⟨n, v⟩ hy => by
    rcases S.par n (List.of_mem_zip hy).1 with q | q
    · exact .inl q
    · exact .inr ⟨q, PySem.W.cellsFrom_some _ _ _ (.inl q)⟩
  refine codeAny_call_function hr.depth (KX _ _ lk) rfl S.co S.gen rfl (PySem.W.codeRec_of KX hcd) (hb _ _ _ _ ?_)
  refine wpAny_newFunctionEnv_cells S.kind hkind fun env he s1 x => ?_
  subst he
  refine ⟨lim.keeps x.toInCall.keep, codeAny_func ?_⟩
  obtain ⟨t, ht, hq⟩ := hbody A outer s H vs Q E (hr.deeper _) hgd hsp
  have I : Inv (cxOf CX P w K mg base N qual scope f cdv A outer s H E) [] (L2.start N vs) H s1 := inv_start S hr.hd e0 hl r x
  refine wpAny_mono (ht.run [] s1 (L2.start N vs) H _ I hq) (fun fl s' hs => ?_) fun e s' hs => hs
  have fin : ∀ {σ' : L2.St} {H' : Hp} {v : V} {u : Value}, Inv (cxOf CX P w K mg base N qual scope f cdv A outer s H E) [] σ' H' s' → RelV v u → Q v H' → CE outer P w H s Q u s' :=
    fun {σ' H' v u} J rv q => ⟨v, H', J.os, J.bare, J.base, J.hok, rv, q⟩
  cases fl with
  | ret u =>
    obtain ⟨v, σ', H', J, rv, q⟩ := hs
    exact fin J rv q
  | next =>
    obtain ⟨σ', H', J, q⟩ := hs
    exact fin (v := V.non) (u := Value.none) J rfl q
  | brk =>
    obtain ⟨_, _, _, q⟩ := hs
    exact False.elim q
  | cont =>
    obtain ⟨_, _, _, q⟩ := hs
    exact False.elim q
section
variable {P : Program} {w : World} {mg : Str → Option Value} {base : Heap} {g : Gb}
abbrev WF (E : XK) : WX := fun cls d _ H => E cls d H
/-- a def by its body -/
theorem def_ok {x qual : Str} {st : Stmt} {f : Addr} {fd : FuncData} {N ps : List Str} {j n k : Nat} {bor : List Bool} {m : Sm} (F : DefK g.K x qual st f fd) (Sc : FnScope N ps (defScope st)) (hp : ps.length = n) (hN : N.length = n + k)
    (hbody : ∀ (cdv : Value) (A : Around) (outer : List Env) (s : Shared) (H : Hp) (E : XK), fd.code = cdv → Room j (A.deeper (envOfC qual (defScope st) s.heap.objs.size f cdv)) → A.guards = some [] →
      PSs (cxOf (L2.CX P w) P w g.K mg base N qual (defScope st) f cdv A outer s H E) (defBody st) (LS g (WF E) m)) : FnW P w g.K mg base (L2.CX P w) (j + 1) f fd ps (spD g n (mkFn n k bor m)) := by
  obtain ⟨oc, od, dV, kV, doc, pm, an, cdv, ct, osl, rfl, lk, hcd⟩ := F.ex
  refine fnW_of lk hcd Sc (fun vs H Q E h => h.1.trans hp.symm) fun A outer s H vs Q E hr hgd hsp => ⟨_, hbody cdv A outer s H E rfl hr hgd, ?_⟩
  obtain ⟨hl, S, os, A0, r, nd, hA, e, ht, post⟩ := hsp
  refine ⟨_, S, _, st_start (bor := bor) hl hN r nd hA e ht, ?_⟩
  have hn : (vs.map some).length = n := by rw [List.length_map, hl]
  unfold mkFn at post
  cases h : m (ini bor os ++ List.replicate k .no) with
  | next ρ =>
    rw [h] at post
    intro σ' S' H' e' st'
    obtain ⟨S2, e2, st2⟩ := st'.push (New.flat (d := .non) st'.sub rfl)
    exact post _ S2 H' (St.back st2 hn)
  | ret o ρ => rw [h] at post; exact fun v σ' S' H' e' st' => post v S' H' (St.back st' hn)
  | exc x ρ => rw [h] at post; exact fun d σ' S' H' e' st' xa => post d S' H' (St.back st' hn) xa
  | brk ρ => rw [h] at post; exact post.elim
  | cont ρ => rw [h] at post; exact post.elim
  | stuck => rw [h] at post; exact post.elim
end
/-! ### calls -/
section
variable {g : Gb} {W : WX} {Z : Zn} {S S' H H' : Hp} {τ τ' : List V} {θ θ' : List O} {σ σv : Sg} {ρ ρb : En} {Q Q' : VK} {m ma mb mc : E} {o : O} {v : V}
theorem Bs.frmO (b : Bs g Z S H) {a : Addr} {u : HO} (h : Z.H0 a = some u) (h1 : a ∉ Z.B) (h2 : a ∉ g.tb) (hn : Z.S0 a = none) : H a = some u := (b.frm a u h h1 h2).elim id fun z => (z.1 hn).elim
theorem Bs.frmT {B' : List Addr} (h : Bs g Z S H) (c : Bs g ⟨S, H, B', σv⟩ S' H') {a : Addr} {u : HO} (h1 : Z.H0 a = some u) (h2 : a ∉ Z.B) (h3 : a ∉ g.tb) (h4 : a ∉ B') : H' a = some u ∨ (Z.S0 a ≠ none ∧ ∃ kvs o, u = .dK kvs ∧ H' a = some (.frz o u)) := by
  rcases h.frm a u h1 h2 h3 with q | ⟨n, kvs, o, z, q⟩
  · rcases c.frm a u q h4 h3 with q2 | ⟨n2, kvs, o, z, q2⟩
    · exact .inl q2
    · refine .inr ⟨fun z0 => ?_, kvs, o, z, q2⟩
      rcases h.new a n2 z0 with z3 | z3
      · rw [h1] at z3; cases z3
      · exact h2 z3
  · rcases c.frm a _ q h4 h3 with q2 | ⟨n2, kvs2, o2, z2, q2⟩
    · exact .inr ⟨n, kvs, o, z, q2⟩
    · cases z2
/-- behind a call that was handed nothing for change -/
theorem St.after (st : St g Z S H τ θ σ ρ) (c : St g ⟨S, H, [], σv⟩ S' H' τ' θ' σv ρb) : Ex S S' ∧ St g Z S' H' (τ ++ τ') (θ ++ θ') σ ρ := by
  obtain ⟨A, α, h⟩ := st
  obtain ⟨A', α', c⟩ := c
  have ex : Ex S S' := c.bs.mono
  have kp : ∀ a, (a ∈ A ∨ ∃ i, a ∈ α i) → H' a = H a ∧ S' a = none := fun a m => by
    obtain ⟨q1, ⟨u, q2⟩, _, q4⟩ := h.own a m
    refine ⟨by rw [q2]; exact c.bs.frmO q2 List.not_mem_nil q4 q1, ?_⟩
    by_cases z : S' a = none
    · exact z
    · rcases c.bs.new a z q1 with z2 | z2
      · have z2 : H a = none := z2
        rw [z2] at q2; cases q2
      · cases z2
  have fr : ∀ a, a ∈ A' → H a = none := fun a m => by
    rcases (c.own a (.inl m)).2.2.1 with z | z
    · cases z
    · exact z
  have out : ∀ a, a ∈ A' → a ∉ A ∧ ∀ i, a ∉ α i := fun a m => by
    refine ⟨fun m2 => ?_, fun i m2 => ?_⟩
    · obtain ⟨_, ⟨u, q⟩, _⟩ := h.own a (.inl m2)
      rw [fr a m] at q; cases q
    · obtain ⟨_, ⟨u, q⟩, _⟩ := h.own a (.inr ⟨i, m2⟩)
      rw [fr a m] at q; cases q
  refine ⟨ex, A ++ A', α, ⟨c.bs.sub, h.bs.mono.trans ex, fun a h1 h2 => ?_, fun a u h1 h2 h3 => h.bs.frmT c.bs h1 h2 h3 List.not_mem_nil, fun a u h1 => let ⟨u', q⟩ := h.bs.dom a u h1; c.bs.dom a u' q, c.bs.tbl, c.bs.tbS⟩,
    (RelOs.mono ex θ τ A (fun a m => (kp a (.inl m)).1) h.tmp).append c.tmp, h.len, fun i o hi => let ⟨v, q, r⟩ := h.slot i o hi; ⟨v, q, RelO.mono ex o v (α i) (fun a m => (kp a (.inr ⟨i, m⟩)).1) r⟩,
    List.nodup_append.mpr ⟨h.ndA, c.ndA, fun a m b m2 z => (out b m2).1 (z ▸ m)⟩, h.nd, h.dis, fun i a m m2 => ?_, fun a m => ?_, h.pin⟩
  · by_cases q : S a = none
    · rcases c.bs.new a h1 q with z | z
      · exact .inl (h.bs.fresh z)
      · cases z
    · exact h.bs.new a q h2
  · rcases List.mem_append.mp m2 with m2 | m2
    · exact h.disA i a m m2
    · exact (out a m2).2 i m
  · have m' : (a ∈ A ∨ ∃ i, a ∈ α i) ∨ a ∈ A' := by
      rcases m with m | m
      · rcases List.mem_append.mp m with m | m
        · exact .inl (.inl m)
        · exact .inr m
      · exact .inl (.inr m)
    rcases m' with m | m
    · obtain ⟨_, ⟨u, q2⟩, q3, q4⟩ := h.own a m
      obtain ⟨k1, k2⟩ := kp a m
      exact ⟨k2, ⟨u, by rw [k1]; exact q2⟩, q3, q4⟩
    · obtain ⟨q1, q2, _, q4⟩ := c.own a (.inl m)
      exact ⟨q1, q2, .inr (h.bs.fresh (fr a m)), q4⟩
/-- the caller's view of what a def does -/
def after (r : R) (ρ : En) : R := match r with
  | .ok o _ => .ok o ρ
  | .exc x _ => .exc x ρ
  | .stuck => .stuck
/-- f(e, ..): fn is f's function, dds what its defaults are -/
def eCall (fn : List O → R) (dds : List D) (ms : List E) : E := fun ρ => (evs ms ρ).bind fun os ρ1 => after (fn ((O.ds os ++ dds).map .sh)) ρ1
theorem call_sp {n : Nat} {fn : List O → R} {ds : List D} {xs : List V} {E : XK} (st : St g Z S H τ θ σ ρ) (rep : Reps g S ds xs) (hn : ds.length = n) (hE : ∀ cls d H, W cls d σ H → E cls d H)
    (post : PostR g W Z S τ θ σ (after (fn (ds.map .sh)) ρ) Q) : spD g n fn xs H Q E := by
  refine ⟨rep.len.trans hn, S, ds.map .sh, [], RelOs.sh rep, List.nodup_nil, fun _ m => (nomatch m), st.sub, fun p m => ?_, ?_⟩
  · obtain ⟨A, α, h⟩ := st
    exact ⟨h.bs.tbl p m, h.bs.tbS p m⟩
  · cases h : fn (ds.map .sh) with
    | ok o ρb =>
      rw [h] at post
      intro v S' H' c
      obtain ⟨e', st'⟩ := st.after c
      exact post v S' H' e' st'
    | exc x ρb =>
      rw [h] at post
      intro d S' H' c xa
      obtain ⟨e', st'⟩ := st.after c
      rw [List.append_nil, List.append_nil] at st'
      exact hE _ _ _ (post d S' H' e' st' xa)
    | stuck => rw [h] at post; exact post
theorem evs_len : ∀ {ms : List E} {ρ ρ1 : En} {os : List O}, evs ms ρ = .ok os ρ1 → os.length = ms.length
  | [], _, _, _, h => by cases h; rfl
  | m :: ms, ρ, ρ1, os, h => by
    unfold evs at h
    cases h1 : m ρ with
    | ok o ρ2 =>
      rw [h1] at h
      dsimp only at h
      cases h2 : evs ms ρ2 with
      | ok os2 ρ3 => rw [h2] at h; cases h; rw [List.length_cons, List.length_cons, evs_len h2]
      | exc x ρ3 => rw [h2] at h; cases h
      | stuck => rw [h2] at h; cases h
    | exc x ρ2 => rw [h1] at h; cases h
    | stuck => rw [h1] at h; cases h
theorem stepA' {ms : List E} {k : List O → E} {Q' : List V → Hp → Prop} (st : St g Z S H τ θ σ ρ) (post : PostR g W Z S τ θ σ ((evs ms ρ).bind k) Q)
    (hk : ∀ os ρ1 vs S1 H1, Ex S S1 → vs.length = ms.length → os.length = ms.length → St g Z S1 H1 (τ ++ vs) (θ ++ os) σ ρ1 → PostR g W Z S1 τ θ σ (k os ρ1) Q → Q' vs H1) : LA g W ms σ H Q' := by
  refine ⟨Z, S, τ, θ, ρ, st, ?_⟩
  cases h : evs ms ρ with
  | stuck => rw [h] at post; exact post.elim
  | exc x ρ1 => rw [h] at post; exact post
  | ok os ρ1 =>
    rw [h] at post
    intro vs S1 H1 e1 st1
    have l := st1.tlen
    have l0 := st.tlen
    have l1 := evs_len h
    exact hk os ρ1 vs S1 H1 e1 (by simp at l; omega) l1 st1 (PostR.mono e1 post)
theorem le_call {n : Nat} {fn : List O → R} {dds : List D} {dvs : List V} {ms : List E} (hd : ∀ S, Reps g S dds dvs) (hn : ms.length + dds.length = n) (q : LE g W (eCall fn dds ms) σ H Q) : tCallSD (spD g n fn) dvs (WE W) (LA g W ms) σ H Q := by
  obtain ⟨Z, S, τ, θ, ρ, st, post⟩ := q
  refine stepA' st post fun os ρ1 vs S1 H1 e1 l1 l2 st1 post1 => ?_
  obtain ⟨S2, e2, st2, rep⟩ := st1.popN ms.length vs os l1 l2
  refine call_sp st2 (rep.append (hd S2)) ?_ (fun cls d H h => h) (post1.mono e2)
  rw [List.length_append, ds_eq_map, List.length_map, l2]
  exact hn
/-! a call that is handed the slot i for change -/
def slO : Sl → Option O
  | .v o => some o | .b o => some o | .no => none
def Sl.re (s : Sl) (o : O) : Sl := match s with
  | .b _ => .b o
  | _ => .v o
theorem St.afterB {i : Nat} {s : Sl} {oi oi' : O} {vi : V} (st : St g Z S H τ θ σ ρ) (hs : ρ[i]? = some s) (ho : slO s = some oi)
    (c : ∀ A α, Hold g Z S H τ θ σ ρ A α → St g ⟨S, H, α i, σv⟩ S' H' τ' θ' σv ρb) (hv : σ[i]? = some (some vi)) (hv0 : σv[0]? = some (some vi)) (hb : ρb[0]? = some (.b oi')) : Ex S S' ∧ St g Z S' H' (τ ++ τ') (θ ++ θ') σ (ρ.set i (s.re oi')) := by
  obtain ⟨A, α, h⟩ := st
  obtain ⟨A', α', c⟩ := c A α h
  have ex : Ex S S' := c.bs.mono
  have il := (List.getElem?_eq_some_iff.mp hs).1
  have kp : ∀ a, (a ∈ A ∨ ∃ j, j ≠ i ∧ a ∈ α j) → H' a = H a ∧ S' a = none := fun a m => by
    have m' : a ∈ A ∨ ∃ j, a ∈ α j := m.imp id fun ⟨j, _, m⟩ => ⟨j, m⟩
    have ni : a ∉ α i := fun z => by
      rcases m with m | ⟨j, n, m⟩
      · exact h.disA i a z m
      · exact h.dis j i n a m z
    obtain ⟨q1, ⟨u, q2⟩, _, q4⟩ := h.own a m'
    refine ⟨by rw [q2]; exact c.bs.frmO q2 ni q4 q1, ?_⟩
    by_cases z : S' a = none
    · exact z
    · rcases c.bs.new a z q1 with z2 | z2
      · have z2 : H a = none := z2
        rw [z2] at q2; cases q2
      · exact (ni z2).elim
  have fr : ∀ a, (a ∈ A' ∨ ∃ j, a ∈ α' j) → a ∈ α i ∨ H a = none := fun a m => (c.own a m).2.2.1
  have out : ∀ a, (a ∈ A' ∨ ∃ j, a ∈ α' j) → a ∉ A ∧ ∀ j, j ≠ i → a ∉ α j := fun a m => by
    rcases fr a m with z | z
    · exact ⟨h.disA i a z, fun j n m2 => h.dis j i n a m2 z⟩
    · refine ⟨fun m2 => ?_, fun j _ m2 => ?_⟩
      · obtain ⟨_, ⟨u, q⟩, _⟩ := h.own a (.inl m2)
        rw [z] at q; cases q
      · obtain ⟨_, ⟨u, q⟩, _⟩ := h.own a (.inr ⟨j, m2⟩)
        rw [z] at q; cases q
  have own' : ∀ a, (a ∈ A' ∨ ∃ j, a ∈ α' j) → S' a = none ∧ (∃ u, H' a = some u) ∧ (a ∈ Z.B ∨ Z.H0 a = none) ∧ a ∉ g.tb := fun a m => by
    obtain ⟨q1, q2, q3, q4⟩ := c.own a m
    refine ⟨q1, q2, ?_, q4⟩
    rcases q3 with z | z
    · exact (h.own a (.inr ⟨i, z⟩)).2.2.1
    · exact .inr (h.bs.fresh z)
  obtain ⟨v0, e0, r0⟩ := c.slot 0 oi' (.inr hb)
  have ev : v0 = vi := by rw [hv0] at e0; cases e0; rfl
  subst ev
  refine ⟨ex, A ++ A', fun j => if j = i then α' 0 else α j, ⟨c.bs.sub, h.bs.mono.trans ex, fun a h1 h2 => ?_, fun a u h1 h2 h3 => ?_, fun a u h1 => let ⟨u', q⟩ := h.bs.dom a u h1; c.bs.dom a u' q, c.bs.tbl, c.bs.tbS⟩,
    (RelOs.mono ex θ τ A (fun a m => (kp a (.inl m)).1) h.tmp).append c.tmp, by rw [List.length_set]; exact h.len, fun j o hj => ?_, List.nodup_append.mpr ⟨h.ndA, c.ndA, fun a m b m2 z => (out b (.inl m2)).1 (z ▸ m)⟩, fun j => ?_, fun j k n a m => ?_, fun j a m m2 => ?_, fun a m => ?_, fun j o hj => ?_⟩
  · by_cases q : S a = none
    · rcases c.bs.new a h1 q with z | z
      · exact .inl (h.bs.fresh z)
      · exact (h.own a (.inr ⟨i, z⟩)).2.2.1.symm
    · exact h.bs.new a q h2
  · refine h.bs.frmT c.bs h1 h2 h3 (fun z => ?_)
    rcases (h.own a (.inr ⟨i, z⟩)).2.2.1 with q | q
    · exact h2 q
    · rw [h1] at q; cases q
  · by_cases z : j = i
    · subst z
      rw [List.getElem?_set_self il] at hj
      have eo : o = oi' := by
        cases s with
        | no => cases ho
        | v p => rcases hj with hj | hj <;> cases hj; rfl
        | b p => rcases hj with hj | hj <;> cases hj; rfl
      subst eo
      exact ⟨_, hv, by rw [if_pos rfl]; exact r0⟩
    · rw [List.getElem?_set_ne (Ne.symm z)] at hj
      obtain ⟨v', q, r'⟩ := h.slot j o hj
      exact ⟨v', q, by rw [if_neg z]; exact RelO.mono ex o v' (α j) (fun a m => (kp a (.inr ⟨j, z, m⟩)).1) r'⟩
  · (try dsimp only); split
    · exact c.nd 0
    · exact h.nd j
  · (try dsimp only at m ⊢)
    split at m
    · rename_i z
      split
      · rename_i z2; exact absurd (z.trans z2.symm) n
      · rename_i z2; exact (out a (.inr ⟨0, m⟩)).2 k z2
    · rename_i z
      split
      · intro m2; exact (out a (.inr ⟨0, m2⟩)).2 j z m
      · exact h.dis j k n a m
  · (try dsimp only at m)
    split at m
    · rcases List.mem_append.mp m2 with m2 | m2
      · exact (out a (.inr ⟨0, m⟩)).1 m2
      · exact c.disA 0 a m m2
    · rename_i z
      rcases List.mem_append.mp m2 with m2 | m2
      · exact h.disA j a m m2
      · exact (out a (.inl m2)).2 j z m
  · have m' : (a ∈ A ∨ ∃ j, j ≠ i ∧ a ∈ α j) ∨ (a ∈ A' ∨ ∃ j, a ∈ α' j) := by
      rcases m with m | ⟨j, m⟩
      · rcases List.mem_append.mp m with m | m
        · exact .inl (.inl m)
        · exact .inr (.inl m)
      · (try dsimp only at m)
        split at m
        · exact .inr (.inr ⟨0, m⟩)
        · rename_i z; exact .inl (.inr ⟨j, z, m⟩)
    rcases m' with m | m
    · obtain ⟨_, ⟨u, q2⟩, q3, q4⟩ := h.own a (m.imp id fun ⟨j, _, m⟩ => ⟨j, m⟩)
      obtain ⟨k1, k2⟩ := kp a m
      exact ⟨k2, ⟨u, by rw [k1]; exact q2⟩, q3, q4⟩
    · exact own' a m
  · by_cases z : j = i
    · subst z
      rw [List.getElem?_set_self il] at hj
      cases s with
      | no => cases ho
      | v p => cases hj
      | b p => exact h.pin j p hs
    · rw [List.getElem?_set_ne (Ne.symm z)] at hj
      exact h.pin j o hj
mutual
theorem relO_addrs {g : Gb} {S S' H : Hp} : ∀ (o : O) v A B, RelO g S H o v A → RelO g S' H o v B → A = B
  | .sh d, v, A, B, ⟨e, _⟩, ⟨e', _⟩ => by rw [e, e']
  | .lst os, v, A, B, ⟨l, vs, A', e, q, eA, r⟩, ⟨l2, vs2, A2, e2, q2, eA2, r2⟩ => by
    rw [e] at e2; cases e2
    rw [q] at q2; cases q2
    rw [eA, eA2, relOs_addrs os vs A' A2 r r2]
  | .dct os, v, A, B, ⟨l, vs, A', e, q, eA, r⟩, ⟨l2, vs2, A2, e2, q2, eA2, r2⟩ => by
    rw [e] at e2; cases e2
    rw [q] at q2; cases q2
    rw [eA, eA2, relOK_addrs os vs A' A2 r r2]
  | .ins c os, v, A, B, ⟨x, dx, vs, A', e, q, q0, eA, r⟩, ⟨x2, dx2, vs2, A2, e2, q2, q02, eA2, r2⟩ => by
    rw [e] at e2; cases e2
    rw [q] at q2; cases q2
    rw [eA, eA2, relOF_addrs os vs A' A2 r r2]
  | .tag n o, v, A, B, ⟨_, r⟩, ⟨_, r2⟩ => relO_addrs o v A B r r2
theorem relOs_addrs {g : Gb} {S S' H : Hp} : ∀ (os : List O) vs A B, RelOs g S H os vs A → RelOs g S' H os vs B → A = B
  | [], _, _, _, ⟨_, e⟩, ⟨_, e'⟩ => by rw [e, e']
  | o :: os, _, _, _, ⟨v, r, A1, A2, e, eA, x, y⟩, ⟨v', r', B1, B2, e', eB, x', y'⟩ => by
    rw [e] at e'; cases e'
    rw [eA, eB, relO_addrs o v A1 B1 x x', relOs_addrs os r A2 B2 y y']
theorem relOK_addrs {g : Gb} {S S' H : Hp} : ∀ (os : List (Key × O)) vs A B, RelOK g S H os vs A → RelOK g S' H os vs B → A = B
  | [], _, _, _, ⟨_, e⟩, ⟨_, e'⟩ => by rw [e, e']
  | (_, o) :: os, _, _, _, ⟨v, r, A1, A2, e, eA, x, y⟩, ⟨v', r', B1, B2, e', eB, x', y'⟩ => by
    rw [e] at e'; cases e'
    rw [eA, eB, relO_addrs o v A1 B1 x x', relOK_addrs os r A2 B2 y y']
theorem relOF_addrs {g : Gb} {S S' H : Hp} : ∀ (os : List (Str × O)) vs A B, RelOF g S H os vs A → RelOF g S' H os vs B → A = B
  | [], _, _, _, ⟨_, e⟩, ⟨_, e'⟩ => by rw [e, e']
  | (_, o) :: os, _, _, _, ⟨v, r, A1, A2, e, eA, x, y⟩, ⟨v', r', B1, B2, e', eB, x', y'⟩ => by
    rw [e] at e'; cases e'
    rw [eA, eB, relO_addrs o v A1 B1 x x', relOF_addrs os r A2 B2 y y']
end
/-- f(x, e, ..): x, the slot i, is handed over for change -/
def afterB (r : R) (i : Nat) (ρ : En) : R := match r with
  | .ok o ρb => match ρb with
    | .b o' :: _ => .ok o (ρ.set i ((ρ.getD i .no).re o'))
    | _ => .stuck
  | .exc x ρb => match ρb with
    | .b o' :: _ => .exc x (ρ.set i ((ρ.getD i .no).re o'))
    | _ => .stuck
  | .stuck => .stuck
def eCallB (i : Nat) (fn : List O → R) (dds : List D) (ms : List E) : E := fun ρ => match slO (ρ.getD i .no) with
  | none => .stuck
  | some _ => (evs ms ρ).bind fun os ρ1 => match slO (ρ1.getD i .no) with
    | some oi => afterB (fn (oi :: (O.ds os ++ dds).map .sh)) i ρ1
    | none => .stuck
theorem callB_sp {i n : Nat} {fn : List O → R} {ds : List D} {xs : List V} {vi : V} {oi : O} {E : XK} (st : St g Z S H τ θ σ ρ) (hv : σ[i]? = some (some vi)) (ho : slO (ρ.getD i .no) = some oi) (rep : Reps g S ds xs) (hn : ds.length + 1 = n) (hE : ∀ cls d H, W cls d σ H → E cls d H)
    (post : PostR g W Z S τ θ σ (afterB (fn (oi :: ds.map .sh)) i ρ) Q) : spD g n fn (vi :: xs) H Q E := by
  obtain ⟨s, hs⟩ : ∃ s, ρ[i]? = some s := by
    cases q : ρ[i]? with
    | none => rw [List.getD_eq_getElem?_getD, q] at ho; cases ho
    | some s => exact ⟨s, rfl⟩
  have es : ρ.getD i .no = s := by rw [List.getD_eq_getElem?_getD, hs]; rfl
  rw [es] at ho
  obtain ⟨A, α, h⟩ := id st
  have hs2 : ρ[i]? = some (.v oi) ∨ ρ[i]? = some (.b oi) := by
    cases s with
    | no => cases ho
    | v p => cases ho; exact .inl hs
    | b p => cases ho; exact .inr hs
  obtain ⟨v', q', r'⟩ := h.slot i oi hs2
  have ev : v' = vi := by rw [hv] at q'; cases q'; rfl
  subst ev
  refine ⟨by rw [List.length_cons, rep.len]; exact hn, S, oi :: ds.map .sh, α i, ⟨v', xs, α i, [], rfl, by simp, r', RelOs.sh rep⟩, h.nd i, fun a m => ?_, st.sub, fun p m => ⟨h.bs.tbl p m, h.bs.tbS p m⟩, ?_⟩
  · obtain ⟨q1, _, _, q4⟩ := h.own a (.inr ⟨i, m⟩)
    exact ⟨q1, q4⟩
  · have zz : ∀ A2 α2, Hold g Z S H τ θ σ ρ A2 α2 → α2 i = α i := fun A2 α2 h2 => by
      obtain ⟨v2, q2, r2⟩ := h2.slot i oi hs2
      rw [hv] at q2
      cases q2
      exact relO_addrs oi v' _ _ r2 r'
    cases hf : fn (oi :: ds.map .sh) with
    | ok o ρb =>
      rw [hf] at post
      intro v S' H' c
      unfold afterB at post
      dsimp only at post
      split at post
      · rename_i o' rest
        obtain ⟨e', st'⟩ := st.afterB hs ho (fun A2 α2 h2 => by rw [zz A2 α2 h2]; exact c) hv rfl rfl
        rw [es] at post
        exact post v S' H' e' st'
      · exact post.elim
    | exc x ρb =>
      rw [hf] at post
      intro d S' H' c xa
      unfold afterB at post
      dsimp only at post
      split at post
      · rename_i o' rest
        obtain ⟨e', st'⟩ := st.afterB hs ho (fun A2 α2 h2 => by rw [zz A2 α2 h2]; exact c) hv rfl rfl
        rw [List.append_nil, List.append_nil] at st'
        rw [es] at post
        exact hE _ _ _ (post d S' H' e' st' xa)
      · exact post.elim
    | stuck => rw [hf] at post; exact post
theorem le_callB1 {i n : Nat} {fn : List O → R} {dds : List D} {dvs : List V} {ms : List E} (hd : ∀ S, Reps g S dds dvs) (hn : ms.length + dds.length + 1 = n) (q : LE g W (eCallB i fn dds ms) σ H Q) : tCallSD (spD g n fn) dvs (WE W) (tCons (tVar i) (LA g W ms)) σ H Q := by
  obtain ⟨Z, S, τ, θ, ρ, st, post⟩ := q
  unfold eCallB at post
  split at post
  · exact post.elim
  · rename_i o0 ho0
    obtain ⟨vi, hv⟩ : ∃ vi, σ[i]? = some (some vi) := by
      obtain ⟨A, α, h⟩ := id st
      cases q : ρ[i]? with
      | none => rw [List.getD_eq_getElem?_getD, q] at ho0; cases ho0
      | some s =>
        rw [List.getD_eq_getElem?_getD, q] at ho0
        cases s with
        | no => cases ho0
        | v p => obtain ⟨vi, hv, _⟩ := h.slot i p (.inl q); exact ⟨vi, hv⟩
        | b p => obtain ⟨vi, hv, _⟩ := h.slot i p (.inr q); exact ⟨vi, hv⟩
    refine ⟨vi, hv, ?_⟩
    refine stepA' st post fun os ρ1 vs S1 H1 e1 l1 l2 st1 post1 => ?_
    obtain ⟨S2, e2, st2, rep⟩ := st1.popN ms.length vs os l1 l2
    split at post1
    · rename_i oi ho
      refine callB_sp st2 hv ho (rep.append (hd S2)) ?_ (fun cls d H h => h) (post1.mono e2)
      rw [List.length_append, ds_eq_map, List.length_map, l2]
      exact hn
    · exact post1.elim
end
end DL
set_option Elab.async false
set_option linter.all false
set_option maxRecDepth 100000
set_option autoImplicit false
/-! DL4: operators on data. -/
namespace DL
open PySem PySem.Spec PyProof.Rows L2
section
variable {X : Cx} {g : Gb}
theorem OpR_or {f : Value → Value → Sem Value} {r r' : R2} (h : OpR X f r) (h' : OpR X f r') : OpR X f (fun x y H Q => r x y H Q ∨ r' x y H Q) := by
  intro pins s σ H x y v u Q I rx ry q
  rcases q with q | q
  · exact h pins s σ H x y v u Q I rx ry q
  · exact h' pins s σ H x y v u Q I rx ry q
theorem OpS.inl {r r' : R2} {f : D → D → Option O} (h : OpS g r f) : OpS g (fun x y H Q => r x y H Q ∨ r' x y H Q) f := fun S H x y dx dy o Q e rx ry hf k => .inl (h S H x y dx dy o Q e rx ry hf k)
theorem OpS.inr {r r' : R2} {f : D → D → Option O} (h : OpS g r' f) : OpS g (fun x y H Q => r x y H Q ∨ r' x y H Q) f := fun S H x y dx dy o Q e rx ry hf k => .inr (h S H x y dx dy o Q e rx ry hf k)
end
/-! ### what the operators do -/
def oI (i : Int) : Option O := some (.sh (.int i))
def oB (b : Bool) : Option O := some (.sh (.bl b))
def oS (x : Str) : Option O := some (.sh (.str x))
def dAdd : D → D → Option O
  | .int i, .int j => oI (i + j)
  | .str x, .str y => if x.length + y.length ≤ 1000000 then oS (x ++ y) else none
  | .lst xs, .lst ys => if xs.length + ys.length ≤ 1000000 then some (.lst ((xs ++ ys).map .sh)) else none
  | _, _ => none
def dSub : D → D → Option O
  | .int i, .int j => oI (i - j)
  | _, _ => none
def dMul : D → D → Option O
  | .int i, .int j => if i.natAbs < 2 ^ 64 ∨ j.natAbs < 2 ^ 64 then oI (i * j) else none
  | .lst xs, .int k => if 0 ≤ k ∧ k ≤ 1000 ∧ xs.length ≤ 1000 then some (.lst ((List.replicate k.toNat xs).flatten.map .sh)) else none
  | _, _ => none
def dFdv : D → D → Option O
  | .int i, .int j => if 0 < j ∧ j < 2 ^ 128 then oI (i / j) else none
  | _, _ => none
def dMod : D → D → Option O
  | .int i, .int j => if 0 < j then oI (i % j) else none
  | _, _ => none
def dPow : D → D → Option O
  | .int i, .int j => if 0 ≤ j ∧ j ≤ 1000 ∧ i.natAbs < 2 ^ 64 then oI (i ^ j.toNat) else none
  | _, _ => none
def dLt : D → D → Option O
  | .int i, .int j => oB (decide (i < j))
  | .str x, .str y => oB (decide (x.cps.toList < y.cps.toList))
  | _, _ => none
def dGt (x y : D) : Option O := dLt y x
def dLe : D → D → Option O
  | .int i, .int j => oB (decide (i ≤ j))
  | .str x, .str y => oB (!decide (y.cps.toList < x.cps.toList))
  | _, _ => none
def dGe (x y : D) : Option O := dLe y x
def dIsN : D → D → Option O
  | .non, .non => oB true
  | .bl _, .non | .int _, .non | .str _, .non | .lst _, .non | .tup _, .non | .dct _, .non | .ins _ _, .non | .exn _ _, .non | .scr _, .non => oB false
  | _, _ => none
def dNotN : D → D → Option O
  | .non, .non => oB false
  | .bl _, .non | .int _, .non | .str _, .non | .lst _, .non | .tup _, .non | .dct _, .non | .ins _ _, .non | .exn _ _, .non | .scr _, .non => oB true
  | _, _ => none
section
variable {X : Cx} {g : Gb}
theorem new_flat {S H : Hp} {d : D} {v : V} (e : Sub S H) (h : d.flat = true) (hv : v = d.val) : New g S H (.sh d) v H := by subst hv; exact New.flat e h
theorem New.lst {S H : Hp} {ds : List D} {vs : List V} {p : Addr} (e : Sub S H) (r : Reps g S ds vs) (hp : H p = none) : New g S H (.lst (ds.map .sh)) (.ref p) (upd H p (.lst vs)) :=
  ⟨S, [p], Ex.refl _, fun _ h1 h2 => absurd h2 h1, e.trans (Gr.new hp), ⟨p, vs, [], rfl, upd_same, rfl, RelOs.sh r⟩, by simp, fun a m => by
    have z : a = p := by simpa using m
    subst z
    exact ⟨hp, e.none hp⟩, Gr.new hp⟩
abbrev rAdd : R2 := fun x y H Q => rI0 (fun i j => .int (i + j)) x y H Q ∨ ((∃ i j, x = .str i ∧ y = .str j ∧ i.length + j.length ≤ sizeLine ∧ Q (.str (i ++ j)) H) ∨ rCat x y H Q)
theorem op_addA : OpR X (binaryOp .Add) rAdd := OpR_or op_add (OpR_or op_add_str op_cat)
theorem os_add : OpS g rAdd dAdd := by
  intro S H x y dx dy o Q e rx ry hf k
  unfold dAdd at hf
  split at hf
  · rename_i i j
    cases hf
    exact .inl ⟨i, j, rx, ry, k _ H (new_flat e rfl rfl)⟩
  · rename_i i j
    split at hf
    · rename_i hl
      cases hf
      exact .inr (.inl ⟨i, j, rx, ry, small hl, k _ H (new_flat e rfl rfl)⟩)
    · cases hf
  · rename_i xs ys
    split at hf
    · rename_i hl
      cases hf
      obtain ⟨a, vs, rfl, qa, ra⟩ := rx
      obtain ⟨b, us, rfl, qb, rb⟩ := ry
      exact .inr (.inr ⟨a, b, vs, us, rfl, rfl, e.lst qa, e.lst qb, small (by rw [ra.len, rb.len]; exact hl), fun p hp => k _ _ (New.lst e (ra.append rb) hp)⟩)
    · cases hf
  · cases hf
theorem os_sub : OpS g (rI0 fun i j => .int (i - j)) dSub := by
  intro S H x y dx dy o Q e rx ry hf k
  unfold dSub at hf
  split at hf
  · rename_i i j
    cases hf
    exact ⟨i, j, rx, ry, k _ H (new_flat e rfl rfl)⟩
  · cases hf
abbrev rMul : R2 := fun x y H Q => rI CMul (fun i j => .int (i * j)) x y H Q ∨ rRep x y H Q
theorem op_mulA : OpR X (binaryOp .Mult) rMul := OpR_or op_mul op_rep
theorem Reps.rep {S : Hp} {ds : List D} {vs : List V} (r : Reps g S ds vs) : ∀ n : Nat, Reps g S (List.replicate n ds).flatten (List.replicate n vs).flatten
  | 0 => rfl
  | n + 1 => by
    rw [List.replicate_succ, List.replicate_succ, List.flatten_cons, List.flatten_cons]
    exact r.append (Reps.rep r n)
theorem os_mul : OpS g rMul dMul := by
  intro S H x y dx dy o Q e rx ry hf k
  unfold dMul at hf
  split at hf
  · rename_i i j
    split at hf
    · rename_i hl
      cases hf
      refine .inl ⟨i, j, rx, ry, ?_, k _ H (new_flat e rfl rfl)⟩
      rcases hl with hl | hl
      · exact .inl (by omega)
      · exact .inr (by omega)
    · cases hf
  · rename_i xs n
    split at hf
    · rename_i hl
      cases hf
      obtain ⟨a, vs, rfl, qa, ra⟩ := rx
      obtain ⟨h1, h2, h3⟩ := hl
      refine .inr ⟨a, n, vs, rfl, ry, e.lst qa, by omega, by omega, small ?_, fun p hp => k _ _ (New.lst e (ra.rep _) hp)⟩
      rw [ra.len]
      exact Nat.le_trans (Nat.mul_le_mul h3 (show n.toNat ≤ 1000 by omega)) (by decide)
    · cases hf
  · cases hf
theorem log2_lt {n k : Nat} (h : n < 2 ^ k) (hk : 0 < k) : n.log2 < k := by
  by_cases z : n = 0
  · subst z; exact hk
  · exact (Nat.log2_lt z).mpr h
theorem os_fdv : OpS g (rI CDivW fun i j => .int (i / j)) dFdv := by
  intro S H x y dx dy o Q e rx ry hf k
  unfold dFdv at hf
  split at hf
  · rename_i i j
    split at hf
    · rename_i hl
      cases hf
      exact ⟨i, j, rx, ry, ⟨hl.1, Nat.lt_of_lt_of_le (log2_lt (k := 128) (by omega) (by decide)) (by decide)⟩, k _ H (new_flat e rfl rfl)⟩
    · cases hf
  · cases hf
theorem os_mod : OpS g (rI (fun _ j => 0 < j) fun i j => .int (i % j)) dMod := by
  intro S H x y dx dy o Q e rx ry hf k
  unfold dMod at hf
  split at hf
  · rename_i i j
    split at hf
    · rename_i hl
      cases hf
      exact ⟨i, j, rx, ry, hl, k _ H (new_flat e rfl rfl)⟩
    · cases hf
  · cases hf
theorem os_pow : OpS g (rI CPow fun i j => .int (i ^ j.toNat)) dPow := by
  intro S H x y dx dy o Q e rx ry hf k
  unfold dPow at hf
  split at hf
  · rename_i i j
    split at hf
    · rename_i hl
      cases hf
      exact ⟨i, j, rx, ry, ⟨hl.1, by omega, hl.2.2⟩, k _ H (new_flat e rfl rfl)⟩
    · cases hf
  · cases hf
abbrev rLt2 : R2 := fun x y H Q => rI0 (fun i j => .bl (decide (i < j))) x y H Q ∨ (∃ i j, x = .str i ∧ y = .str j ∧ Q (.bl (decide (i.cps.toList < j.cps.toList))) H)
theorem op_lt2 : OpR X (compareOp .Lt) rLt2 := OpR_or op_lt op_lt_str
theorem os_lt : OpS g rLt2 dLt := by
  intro S H x y dx dy o Q e rx ry hf k
  unfold dLt at hf
  split at hf
  · rename_i i j
    cases hf
    exact .inl ⟨i, j, rx, ry, k _ H (new_flat e rfl rfl)⟩
  · rename_i i j
    cases hf
    exact .inr ⟨i, j, rx, ry, k _ H (new_flat e rfl rfl)⟩
  · cases hf
abbrev rGt2 : R2 := fun x y H Q => rI0 (fun i j => .bl (decide (j < i))) x y H Q ∨ (∃ i j, x = .str i ∧ y = .str j ∧ Q (.bl (decide (j.cps.toList < i.cps.toList))) H)
theorem op_gt2 : OpR X (compareOp .Gt) rGt2 := OpR_or op_gt op_gt_str
theorem os_gt : OpS g rGt2 dGt := by
  intro S H x y dx dy o Q e rx ry hf k
  unfold dGt dLt at hf
  split at hf
  · rename_i j i
    cases hf
    exact .inl ⟨i, j, rx, ry, k _ H (new_flat e rfl rfl)⟩
  · rename_i j i
    cases hf
    exact .inr ⟨i, j, rx, ry, k _ H (new_flat e rfl rfl)⟩
  · cases hf
abbrev rLe2 : R2 := fun x y H Q => rI0 (fun i j => .bl (decide (i ≤ j))) x y H Q ∨ (∃ i j, x = .str i ∧ y = .str j ∧ Q (.bl (!decide (j.cps.toList < i.cps.toList))) H)
theorem op_le2 : OpR X (compareOp .LtE) rLe2 := OpR_or op_le op_le_str
theorem os_le : OpS g rLe2 dLe := by
  intro S H x y dx dy o Q e rx ry hf k
  unfold dLe at hf
  split at hf
  · rename_i i j
    cases hf
    exact .inl ⟨i, j, rx, ry, k _ H (new_flat e rfl rfl)⟩
  · rename_i i j
    cases hf
    exact .inr ⟨i, j, rx, ry, k _ H (new_flat e rfl rfl)⟩
  · cases hf
theorem rep_notnon {S : Hp} {d : D} {v : V} (r : Rep g S d v) (h : ∀ u, d ≠ .op u) (h2 : d ≠ .non) (h3 : ∀ a e, d ≠ .lab a e) (h4 : d ≠ .any) : v ≠ .non := by
  cases d with
  | non => exact absurd rfl h2
  | bl b => rw [show v = .bl b from r]; exact fun z => nomatch z
  | int b => rw [show v = .int b from r]; exact fun z => nomatch z
  | str b => rw [show v = .str b from r]; exact fun z => nomatch z
  | lst b => obtain ⟨a, _, e, _⟩ := r; rw [e]; exact fun z => nomatch z
  | tup b => obtain ⟨a, _, e, _⟩ := r; rw [e]; exact fun z => nomatch z
  | dct b => obtain ⟨a, _, e, _⟩ := r; rw [e]; exact fun z => nomatch z
  | ins c b => obtain ⟨a, _, _, e, _⟩ := r; rw [e]; exact fun z => nomatch z
  | exn c b => obtain ⟨a, _, _, e, _⟩ := r; rw [e]; exact fun z => nomatch z
  | lab a e => exact absurd rfl (h3 a e)
  | any => exact absurd rfl h4
  | scr b => obtain ⟨a, e, _⟩ := r; rw [e]; exact fun z => nomatch z
  | op u => exact absurd rfl (h u)
theorem os_isN : OpS g (fun x y H Q => y = .non ∧ Q (.bl (decide (x = .non))) H) dIsN := by
  intro S H x y dx dy o Q e rx ry hf k
  unfold dIsN at hf
  split at hf
  · cases hf
    have ex : x = .non := rx
    subst ex
    exact ⟨ry, k _ H (new_flat e rfl rfl)⟩
  all_goals first
    | (cases hf
       have z := rep_notnon rx (fun _ q => nomatch q) (fun q => nomatch q) (fun _ _ q => nomatch q) (fun q => nomatch q)
       exact ⟨ry, k _ H (new_flat e rfl (by rw [decide_eq_false z]; rfl))⟩)
    | cases hf
theorem os_notN : OpS g (fun x y H Q => y = .non ∧ Q (.bl (!decide (x = .non))) H) dNotN := by
  intro S H x y dx dy o Q e rx ry hf k
  unfold dNotN at hf
  split at hf
  · cases hf
    have ex : x = .non := rx
    subst ex
    exact ⟨ry, k _ H (new_flat e rfl rfl)⟩
  all_goals first
    | (cases hf
       have z := rep_notnon rx (fun _ q => nomatch q) (fun q => nomatch q) (fun _ _ q => nomatch q) (fun q => nomatch q)
       exact ⟨ry, k _ H (new_flat e rfl (by rw [decide_eq_false z]; rfl))⟩)
    | cases hf
/-! ### items, in, len -/
def lookK {α : Type} (k : Key) (l : List (Key × α)) : Option α := (l.find? fun p => decide (p.1 = k)).map (·.2)
def keyD : D → Option Key
  | .int i => some (.inl i) | .str x => some (.inr x) | _ => none
def dIx : D → D → Option O
  | .lst xs, .int i => (atI xs i).map .sh
  | .tup xs, .int i => (atI xs i).map .sh
  | .scr ns, .int i => (atI ns i).map fun n => .sh (.int n)
  | .str z, .int i => if z.length ≤ 1000000 then (atI z.cps.toList i).map fun c => .sh (.str ⟨#[c]⟩) else none
  | .dct kds, k => (keyD k).bind fun k => (lookK k kds).map .sh
  | _, _ => none
theorem RepK.val {S : Hp} : ∀ {kds : List (Key × D)} {kvs : List (Key × V)} (k : Key), RepK g S kds kvs → (lookK k kds = none ∧ valV kvs k = none) ∨ ∃ d v, lookK k kds = some d ∧ valV kvs k = some v ∧ Rep g S d v
  | [], _, k, r => by have e : _ = [] := r; subst e; exact .inl ⟨rfl, rfl⟩
  | (k', d) :: r, _, k, ⟨v, r', e, a, b⟩ => by
    subst e
    by_cases q : k' = k
    · subst q
      exact .inr ⟨d, v, by simp [lookK], by simp [valV], a⟩
    · have h1 : lookK k ((k', d) :: r) = lookK k r := by simp [lookK, q]
      have h2 : valV ((k', v) :: r') k = valV r' k := by simp [valV, q]
      rw [h1, h2]
      exact RepK.val k b
theorem keyD_rep {S : Hp} {d : D} {v : V} {k : Key} (h : keyD d = some k) (r : Rep g S d v) : v = kV k := by
  cases d <;> first | (cases h; exact r) | cases h
theorem atI_map {α β : Type} (f : α → β) (l : List α) (i : Int) : atI (l.map f) i = (atI l i).map f := by
  unfold atI
  rw [List.length_map]
  cases ixN l.length i with
  | none => rfl
  | some j => show (l.map f)[j]? = (l[j]?).map f; rw [List.getElem?_map]
theorem Reps.atI {S : Hp} {ds : List D} {vs : List V} {i : Int} {d : D} (r : Reps g S ds vs) (h : L2.atI ds i = some d) : ∃ v, L2.atI vs i = some v ∧ Rep g S d v := by
  unfold L2.atI at h ⊢
  rw [r.len]
  cases e : ixN ds.length i with
  | none => rw [e] at h; cases h
  | some j => rw [e] at h; exact r.get h
def rIxD : R2 := fun x y H Q => ∃ a v, x = .ref a ∧ DGet H a y (some v) ∧ Q v H
theorem sub_tail {prog : Program} {w : World} {A : Around} {E : Value → Shared → Prop} {s : Shared} {value slice : Expr} {o i : Value} {T id : String} {Q : Value → Shared → Prop} (hT : s.TypeIs o T)
    (hl : typeLookup (.type T) "__getitem__" = pure (some (.builtin id))) (h : wpAny (model prog w) A (getItem o i) Q E s)
    (hs : subscripted slice false o i = operate [o, i] (getItem o i)) : wpAny (model prog w) A (subscriptTail value slice o i) Q E s := by
  unfold subscriptTail
  refine wpAny_bind ?_
  rw [getitemInPython_of_ne hT.not_modules]
  refine wpAny_bind (wpAny_specialOf hT hl ?_)
  have fin : wpAny (model prog w) A (subscripted slice false o i) (fun r s₃ => wpAny (model prog w) A (letTemporaryGo value o r >>= fun _ => pure r) Q E s₃) E s := by
    rw [hs]
    exact wpAny_operating (wpAny_mono h (fun r s₃ h₃ => wpAny_bind (wpAny_letTemporaryGo (wpAny_pure h₃))) fun _ _ x => x)
  first
    | exact wpAny_pure (wpAny_bind fin)
    | exact wpAny_bind (wpAny_pure (wpAny_bind fin))
    | exact wpAny_bind fin
theorem ix_dict (hu : X.A.units + 1 < cLine) : IxR X rIxD := by
  intro value slice pins s σ H x y v u Q I rx ry h hs
  obtain ⟨a, z, rfl, gt, q⟩ := h
  obtain rfl : v = Value.ref a := rx
  exact sub_tail (dict_typeIs I gt) PySem.F.slot_dict_getitem.lookup (d_getItem hu I gt ry fun w' s3 I3 rw' => ⟨z, H, I3, rw', q⟩) hs
def rIxA (K : PySem.W.Frag) : R2 := fun x y H Q => rIx K x y H Q ∨ rIxD x y H Q
theorem ix_any (hu : X.A.units + 1 < cLine) : IxR X (rIxA X.K) := IxR.or ix_seq (ix_dict hu)
theorem os_ix : OpS g (rIxA g.K) dIx := by
  intro S H x y dx dy o Q e rx ry hf k
  unfold dIx at hf
  split at hf
  · rename_i xs i
    obtain ⟨a, vs, rfl, qa, ra⟩ := rx
    cases h : L2.atI xs i with
    | none => rw [h] at hf; cases hf
    | some d =>
      rw [h] at hf
      cases hf
      obtain ⟨v, h1, h2⟩ := ra.atI h
      exact .inl (.inl ⟨a, vs, i, v, rfl, ry, .inl (.inl (e.lst qa)), h1, k v H (New.same e h2)⟩)
  · rename_i xs i
    obtain ⟨a, vs, rfl, qa, ra⟩ := rx
    cases h : L2.atI xs i with
    | none => rw [h] at hf; cases hf
    | some d =>
      rw [h] at hf
      cases hf
      obtain ⟨v, h1, h2⟩ := ra.atI h
      exact .inl (.inr (.inl ⟨a, vs, i, v, rfl, ry, e.sqT qa, h1, k v H (New.same e h2)⟩))
  · rename_i ns i
    obtain ⟨a, rfl, qa⟩ := rx
    cases h : L2.atI ns i with
    | none => rw [h] at hf; cases hf
    | some n =>
      rw [h] at hf
      cases hf
      exact .inl (.inl ⟨a, _, i, .int n, rfl, ry, e.sqL qa, by rw [atI_map, h]; rfl, k _ H (new_flat e rfl rfl)⟩)
  · rename_i z i
    split at hf
    · rename_i hl
      cases h : L2.atI z.cps.toList i with
      | none => rw [h] at hf; cases hf
      | some c =>
        rw [h] at hf
        cases hf
        exact .inl (.inr (.inr ⟨z, i, c, rx, ry, small hl, h, k _ H (new_flat e rfl rfl)⟩))
    · cases hf
  · rename_i kds
    cases hk : keyD dy with
    | none => rw [hk] at hf; cases hf
    | some key =>
      rw [hk] at hf
      dsimp only [Option.bind_some] at hf
      obtain ⟨a, kvs, rfl, qa, ra⟩ := rx
      rcases ra.val key with ⟨h1, _⟩ | ⟨d', v, h1, h2, h3⟩
      · rw [h1] at hf; cases hf
      · rw [h1] at hf
        cases hf
        have ey := keyD_rep hk ry
        exact .inr ⟨a, v, rfl, .inl ⟨kvs, key, e.rd qa, ey, h2.symm⟩, k v H (New.same e h3)⟩
  · cases hf
/-! in -/
def flatD : D → Bool
  | .non | .bl _ | .int _ | .str _ => true
  | _ => false
def dIn0 : D → D → Option Bool
  | .str i, .str j => match i.cps.toList with
    | [c] => some (decide (c ∈ j.cps.toList))
    | _ => some (!(Builtin.Str.occurrences j i 0 j.length 1).isEmpty)
  | d, .dct kds => (keyD d).map fun k => (lookK k kds).isSome
  | d, .lst xs => if flatD d && xs.all flatD then some (inV d.val (xs.map D.val)) else none
  | d, .tup xs => if flatD d && xs.all flatD then some (inV d.val (xs.map D.val)) else none
  | d, .scr ns => if flatD d then some (inV d.val (ns.map V.int)) else none
  | _, _ => none
def dIn (x y : D) : Option O := (dIn0 x y).map fun b => .sh (.bl b)
def dNotIn (x y : D) : Option O := (dIn0 x y).map fun b => .sh (.bl (!b))
theorem flatD_flat {d : D} (h : flatD d = true) : d.flat = true := by cases d <;> first | rfl | cases h
theorem flatD_V {d : D} (h : flatD d = true) : flatV d.val = true := by cases d <;> first | rfl | cases h
theorem reps_flat {S : Hp} : ∀ {ds : List D} {vs : List V}, Reps g S ds vs → ds.all flatD = true → vs = ds.map D.val ∧ vs.all flatV = true
  | [], _, r, _ => by have e : _ = [] := r; subst e; exact ⟨rfl, rfl⟩
  | d :: ds, _, ⟨v, r, e, a, b⟩, h => by
    rw [List.all_cons, Bool.and_eq_true] at h
    obtain ⟨h1, h2⟩ := reps_flat b h.2
    have ev := rep_flat_eq (flatD_flat h.1) a
    subst ev
    rw [e, List.map_cons, ← h1, List.all_cons, h2, flatD_V h.1]
    exact ⟨rfl, rfl⟩
def rInStr (f : Bool → Bool) : R2 := fun x y H Q => ∃ i j, x = .str i ∧ y = .str j ∧ Q (.bl (f (!(Builtin.Str.occurrences j i 0 j.length 1).isEmpty))) H
def rInSign (f : Bool → Bool) : R2 := fun x y H Q => ∃ (c : Nat) (z : Str), x = .str ⟨#[c]⟩ ∧ y = .str z ∧ Q (.bl (f (decide (c ∈ z.cps.toList)))) H
def rInDict (f : Bool → Bool) : R2 := fun y x H Q => ∃ a o, x = .ref a ∧ DGet H a y o ∧ Q (.bl (f o.isSome)) H
theorem op_inDict (hu : X.A.units + 1 < cLine) : OpR X (compareOp .In) (rInDict fun b => b) := by
  intro pins s σ H y x v u Q I ry rx h
  obtain ⟨a, o, rfl, gt, q⟩ := h
  obtain rfl : u = Value.ref a := rx
  exact d_in hu I gt ry fun s3 I3 => ⟨.bl o.isSome, H, I3, rfl, q⟩
def rInA (K : PySem.W.Frag) (neg : Bool) (f : Bool → Bool) : R2 := fun x y H Q => rInSign f x y H Q ∨ (rInStr f x y H Q ∨ (rInDict f x y H Q ∨ rIn K neg x y H Q))
theorem op_inA (hu : X.A.units + 1 < cLine) : OpR X (compareOp .In) (rInA X.K false fun b => b) := OpR_or op_in_sign (OpR_or op_in_str (OpR_or (op_inDict hu) op_in_seq))
theorem os_inG {neg : Bool} {f : Bool → Bool} (hf0 : ∀ b, f b = if neg then !b else b) : OpS g (rInA g.K neg f) (fun x y => (dIn0 x y).map fun b => .sh (.bl (f b))) := by
  intro S H x y dx dy o Q e rx ry hf k
  dsimp only at hf
  unfold dIn0 at hf
  split at hf
  · rename_i i j
    split at hf
    · rename_i c hc
      cases hf
      have ei : i = ⟨#[c]⟩ := TL.ext_tl (by rw [TL.tl, hc] <;> rfl)
      subst ei
      exact .inl ⟨c, j, rx, ry, k _ H (new_flat e rfl rfl)⟩
    · cases hf
      exact .inr (.inl ⟨i, j, rx, ry, k _ H (new_flat e rfl rfl)⟩)
  · cases hk : keyD dx with
    | none => rw [hk] at hf; cases hf
    | some key =>
      rw [hk] at hf
      cases hf
      obtain ⟨a, kvs, rfl, qa, ra⟩ := ry
      have ey := keyD_rep hk rx
      refine .inr (.inr (.inl ⟨a, valV kvs key, rfl, .inl ⟨kvs, key, e.rd qa, ey, rfl⟩, ?_⟩))
      rcases ra.val key with ⟨h1, h2⟩ | ⟨d', v, h1, h2, h3⟩
      · rw [h2]; dsimp only at k; rw [h1] at k; exact k _ H (new_flat e rfl rfl)
      · rw [h2]; dsimp only at k; rw [h1] at k; exact k _ H (new_flat e rfl rfl)
  · rename_i xs _
    split at hf
    · rename_i hb
      cases hf
      rw [Bool.and_eq_true] at hb
      obtain ⟨a, vs, rfl, qa, ra⟩ := ry
      obtain ⟨h1, h2⟩ := reps_flat ra hb.2
      have ex := rep_flat_eq (flatD_flat hb.1) rx
      subst ex
      refine .inr (.inr (.inr ⟨a, vs, rfl, .inl (.inl (.inl (e.lst qa))), flatD_V hb.1, h2, ?_⟩))
      rw [h1]
      refine k _ H (new_flat e rfl ?_)
      rw [hf0]; cases neg <;> rfl
    · cases hf
  · rename_i xs _
    split at hf
    · rename_i hb
      cases hf
      rw [Bool.and_eq_true] at hb
      obtain ⟨a, vs, rfl, qa, ra⟩ := ry
      obtain ⟨h1, h2⟩ := reps_flat ra hb.2
      have ex := rep_flat_eq (flatD_flat hb.1) rx
      subst ex
      refine .inr (.inr (.inr ⟨a, vs, rfl, .inr (e.sqT qa), flatD_V hb.1, h2, ?_⟩))
      rw [h1]
      refine k _ H (new_flat e rfl ?_)
      rw [hf0]; cases neg <;> rfl
    · cases hf
  · rename_i ns _
    split at hf
    · rename_i hb
      cases hf
      obtain ⟨a, rfl, qa⟩ := ry
      have ex := rep_flat_eq (flatD_flat hb) rx
      subst ex
      refine .inr (.inr (.inr ⟨a, _, rfl, .inl (e.sqL qa), flatD_V hb, ?_, ?_⟩))
      · rw [List.all_eq_true]
        intro z hz
        obtain ⟨n, _, rfl⟩ := List.mem_map.mp hz
        rfl
      · refine k _ H (new_flat e rfl ?_)
        rw [hf0]; cases neg <;> rfl
    · cases hf
  · cases hf
theorem os_in : OpS g (rInA g.K false fun b => b) dIn := os_inG fun b => rfl
/-! len -/
def dLen : List D → Option O
  | [.str x] => if x.length ≤ 1000000 then oI x.length else none
  | [.lst xs] => oI xs.length
  | [.tup xs] => oI xs.length
  | [.scr ns] => oI ns.length
  | [.dct kds] => oI kds.length
  | _ => none
theorem call_lenD2 : CallR X (.builtin "len") (fun xs H Q => ∃ a kvs, xs = [V.ref a] ∧ Rd H a (.dK kvs) ∧ Q (.int kvs.length) H) := by
  intro pins s σ H xs us Q I r h
  obtain ⟨a, kvs, rfl, hd, q⟩ := h
  obtain ⟨u, rfl, ru⟩ := vals1 r
  cases ru
  exact d_len I hd fun t s' I' => ⟨.int kvs.length, H, I', ⟨t, rfl⟩, q⟩
def rLenA (K : PySem.W.Frag) : List V → Hp → VK → Prop := fun xs H Q => (∃ x n, xs = [x] ∧ LenV K x H n ∧ Q (.int n) H) ∨ ∃ a kvs, xs = [V.ref a] ∧ Rd H a (.dK kvs) ∧ Q (.int kvs.length) H
theorem call_lenA : CallR X (.builtin "len") (rLenA X.K) := CallR.or call_len call_lenD2
theorem reps1 {S : Hp} {d : D} {xs : List V} (r : Reps g S [d] xs) : ∃ v, xs = [v] ∧ Rep g S d v := by
  obtain ⟨v, r', e, a, e2⟩ := r
  have e2 : r' = [] := e2
  subst e2
  exact ⟨v, e, a⟩
theorem reps2 {S : Hp} {d d2 : D} {xs : List V} (r : Reps g S [d, d2] xs) : ∃ v v2, xs = [v, v2] ∧ Rep g S d v ∧ Rep g S d2 v2 := by
  obtain ⟨v, r', e, a, b⟩ := r
  obtain ⟨v2, e2, c⟩ := reps1 b
  subst e2
  exact ⟨v, v2, e, a, c⟩
/-- for builtins: the arguments are seen without their labels -/
theorem callS_of {r : List V → Hp → VK → Prop} {f : List D → Option O} (h : ∀ S H xs ds o (Q : VK), Sub S H → Reps g S ds xs → f ds = some o → (∀ v H', New g S H o v H' → Q v H') → r xs H Q) : CallS g r f := by
  intro S H xs ds o Q e r hf k
  refine h S H xs (ds.map D.view) o Q e ?_ hf k
  clear hf k
  induction ds generalizing xs with
  | nil => exact r
  | cons d ds ih =>
    obtain ⟨v, r', e', a, b⟩ := r
    exact ⟨v, r', e', a.view, ih r' b⟩
theorem cs_len : CallS g (rLenA g.K) dLen := callS_of fun S H xs ds o Q e r hf k => by
  unfold dLen at hf
  split at hf
  · rename_i x
    obtain ⟨v, rfl, rv⟩ := reps1 r
    split at hf
    · rename_i hl
      cases hf
      have ev : v = .str x := rv
      subst ev
      exact .inl ⟨_, x.length, rfl, ⟨small hl, rfl⟩, k _ H (new_flat e rfl rfl)⟩
    · cases hf
  · rename_i xs
    obtain ⟨v, rfl, a, vs, rfl, qa, ra⟩ := reps1 r
    cases hf
    exact .inl ⟨_, vs.length, rfl, .inl ⟨vs, .inl (.inl (e.lst qa)), rfl⟩, k _ H (new_flat e rfl (by rw [ra.len]; rfl))⟩
  · rename_i xs
    obtain ⟨v, rfl, a, vs, rfl, qa, ra⟩ := reps1 r
    cases hf
    exact .inl ⟨_, vs.length, rfl, .inr ⟨vs, e.sqT qa, rfl⟩, k _ H (new_flat e rfl (by rw [ra.len]; rfl))⟩
  · rename_i ns
    obtain ⟨v, rfl, a, rfl, qa⟩ := reps1 r
    cases hf
    exact .inl ⟨_, (ns.map V.int).length, rfl, .inl ⟨_, e.sqL qa, rfl⟩, k _ H (new_flat e rfl (by rw [List.length_map]; rfl))⟩
  · rename_i kds
    obtain ⟨v, rfl, a, kvs, rfl, qa, ra⟩ := reps1 r
    cases hf
    exact .inr ⟨a, kvs, rfl, e.rd qa, k _ H (new_flat e rfl (by rw [ra.len]; rfl))⟩
  · cases hf
end
end DL
set_option Elab.async false
set_option linter.all false
set_option maxRecDepth 100000
set_option autoImplicit false
/-! DL5: what is owned changes: peeks, stores, methods that change. -/
namespace DL
open PySem PySem.Spec PyProof.Rows L2
section
variable {g : Gb} {W : WX} {Z : Zn} {S S' H H' : Hp} {τ τ' : List V} {θ θ' : List O} {σ : Sg} {ρ : En} {Q Q' : VK} {m ma mb mc : E} {o oi : O} {v : V} {i : Nat}
theorem getD_of {s : Sl} (h : ρ[i]? = some s) : ρ.getD i .no = s := by rw [List.getD_eq_getElem?_getD, h]; rfl
theorem of_getD (h : slO (ρ.getD i .no) = some oi) : ∃ s, ρ[i]? = some s ∧ slO s = some oi ∧ (ρ[i]? = some (.v oi) ∨ ρ[i]? = some (.b oi)) := by
  cases q : ρ[i]? with
  | none => rw [List.getD_eq_getElem?_getD, q] at h; cases h
  | some s =>
    rw [getD_of q] at h
    cases s with
    | no => cases h
    | v p => cases h; exact ⟨_, rfl, rfl, .inl rfl⟩
    | b p => cases h; exact ⟨_, rfl, rfl, .inr rfl⟩
/-- the value at a slot, seen as it stands -/
theorem St.peek (h : St g Z S H τ θ σ ρ) (ho : slO (ρ.getD i .no) = some oi) : ∃ v A, σ[i]? = some (some v) ∧ RelO g S H oi v A := by
  obtain ⟨s, _, _, hs⟩ := of_getD ho
  obtain ⟨A, α, h⟩ := h
  obtain ⟨v, e, r⟩ := h.slot i oi hs
  exact ⟨v, α i, e, r⟩
theorem St.slotV (h : St g Z S H τ θ σ ρ) (ho : (slO (ρ.getD i .no)).isSome = true) : ∃ v, σ[i]? = some (some v) := by
  cases q : slO (ρ.getD i .no) with
  | none => rw [q] at ho; cases ho
  | some o => obtain ⟨v, _, e, _⟩ := h.peek q; exact ⟨v, e⟩
/-- the object at l, owned by the slot i, changes; what τ' held may have gone into it, a part of it may come out -/
theorem Hold.mutG {A : List Addr} {α : Nat → List Addr} {A1 A2 A' An : List Addr} {τn : List V} {θn : List O} {l : Addr} {u : HO} {vi : V} {o' : O} (h : Hold g Z S H (τ ++ τ') (θ ++ θ') σ ρ A α) (eA : A = A1 ++ A2) (r1 : RelOs g S H θ τ A1) (ho : slO (ρ.getD i .no) = some oi) (hv : σ[i]? = some (some vi))
    (hl : l ∈ α i) (r : RelO g S (upd H l u) o' vi A') (rn : RelOs g S (upd H l u) θn τn An) (nd : (A' ++ An).Nodup) (hA : ∀ a ∈ A' ++ An, a ∈ α i ∨ a ∈ A2) : St g Z S (upd H l u) (τ ++ τn) (θ ++ θn) σ (ρ.set i ((ρ.getD i .no).re o')) := by
  subst eA
  obtain ⟨s, hs, hso, _⟩ := of_getD ho
  rw [getD_of hs]
  have il := (List.getElem?_eq_some_iff.mp hs).1
  obtain ⟨n1, n2, n3⟩ := List.nodup_append.mp h.ndA
  obtain ⟨p1, p2, p3⟩ := List.nodup_append.mp nd
  have hne : ∀ a, a ∈ A1 ++ A2 ∨ (∃ j, j ≠ i ∧ a ∈ α j) → a ≠ l := fun a m z => by
    subst z
    rcases m with m | ⟨j, n, m⟩
    · exact h.disA i a hl m
    · exact h.dis j i n a m hl
  have out : ∀ a ∈ A' ++ An, a ∉ A1 ∧ ∀ j, j ≠ i → a ∉ α j := fun a m => by
    rcases hA a m with z | z
    · exact ⟨fun q => h.disA i a z (List.mem_append_left _ q), fun j n q => h.dis j i n a q z⟩
    · exact ⟨fun q => n3 a q a z rfl, fun j n q => h.disA j a q (List.mem_append_right _ z)⟩
  have outL : ∀ a ∈ A', a ∉ A1 ∧ ∀ j, j ≠ i → a ∉ α j := fun a m => out a (List.mem_append_left _ m)
  have outR : ∀ a ∈ An, a ∉ A1 ∧ ∀ j, j ≠ i → a ∉ α j := fun a m => out a (List.mem_append_right _ m)
  have hlo := h.own l (.inr ⟨i, hl⟩)
  have k : ∀ a, a ≠ l → upd H l u a = H a := fun a z => upd_ne z
  refine ⟨A1 ++ An, fun j => if j = i then A' else α j, ⟨fun a u' q => ?_, h.bs.mono, h.bs.new, fun a u' h1 h2 h3 => ?_, fun a u' h1 => ?_, fun p m => ?_, h.bs.tbS⟩,
    (RelOs.mono (Ex.refl _) θ τ A1 (fun a m => k a (hne a (.inl (List.mem_append_left _ m)))) r1).append rn, by rw [List.length_set]; exact h.len, fun j o hj => ?_, List.nodup_append.mpr ⟨n1, p2, fun a m b m2 z => (outR b m2).1 (z ▸ m)⟩, fun j => ?_, fun j k' n a m => ?_, fun j a m m2 => ?_, fun a m => ?_, fun j o hj => ?_⟩
  · rw [k a fun z => by rw [z, hlo.1] at q; cases q]
    exact h.bs.sub a u' q
  · rw [k a fun z => by
      subst z
      rcases hlo.2.2.1 with q | q
      · exact h2 q
      · rw [h1] at q; cases q]
    exact h.bs.frm a u' h1 h2 h3
  · by_cases z : a = l
    · subst z; exact ⟨_, upd_same⟩
    · obtain ⟨u2, q⟩ := h.bs.dom a u' h1; exact ⟨u2, by rw [k a z]; exact q⟩
  · obtain ⟨ps, q1, q2⟩ := h.bs.tbl p m
    exact ⟨ps, by rw [k p fun z => hlo.2.2.2 (z ▸ m)]; exact q1, q2⟩
  · by_cases z : j = i
    · subst z
      rw [List.getElem?_set_self il] at hj
      have eo : o = o' := by
        cases s with
        | no => cases hso
        | v p => rcases hj with hj | hj <;> cases hj; rfl
        | b p => rcases hj with hj | hj <;> cases hj; rfl
      subst eo
      exact ⟨vi, hv, by rw [if_pos rfl]; exact r⟩
    · rw [List.getElem?_set_ne (Ne.symm z)] at hj
      obtain ⟨v', q, r'⟩ := h.slot j o hj
      exact ⟨v', q, by rw [if_neg z]; exact RelO.mono (Ex.refl _) o v' (α j) (fun a m => k a (hne a (.inr ⟨j, z, m⟩))) r'⟩
  · (try dsimp only); split
    · exact p1
    · exact h.nd j
  · (try dsimp only at m ⊢)
    split at m
    · rename_i z
      split
      · rename_i z2; exact absurd (z.trans z2.symm) n
      · rename_i z2; exact (outL a m).2 k' z2
    · rename_i z
      split
      · intro m2; exact (outL a m2).2 j z m
      · exact h.dis j k' n a m
  · (try dsimp only at m)
    split at m
    · rcases List.mem_append.mp m2 with m2 | m2
      · exact (outL a m).1 m2
      · exact p3 a m a m2 rfl
    · rename_i z
      rcases List.mem_append.mp m2 with m2 | m2
      · exact h.disA j a m (List.mem_append_left _ m2)
      · exact (outR a m2).2 j z m
  · have m' : a ∈ A1 ∨ (∃ j, j ≠ i ∧ a ∈ α j) ∨ a ∈ A' ++ An := by
      rcases m with m | ⟨j, m⟩
      · rcases List.mem_append.mp m with m | m
        · exact .inl m
        · exact .inr (.inr (List.mem_append_right _ m))
      · (try dsimp only at m)
        split at m
        · exact .inr (.inr (List.mem_append_left _ m))
        · rename_i z; exact .inr (.inl ⟨j, z, m⟩)
    have fin : ∀ a, (a ∈ A1 ++ A2 ∨ ∃ j, a ∈ α j) → S a = none ∧ (∃ u', upd H l u a = some u') ∧ (a ∈ Z.B ∨ Z.H0 a = none) ∧ a ∉ g.tb := fun a m => by
      obtain ⟨q1, ⟨u', q2⟩, q3⟩ := h.own a m
      refine ⟨q1, ?_, q3⟩
      by_cases z : a = l
      · subst z; exact ⟨_, upd_same⟩
      · exact ⟨u', by rw [k a z]; exact q2⟩
    rcases m' with m | ⟨j, _, m⟩ | m
    · exact fin a (.inl (List.mem_append_left _ m))
    · exact fin a (.inr ⟨j, m⟩)
    · rcases hA a m with z | z
      · exact fin a (.inr ⟨i, z⟩)
      · exact fin a (.inl (List.mem_append_right _ z))
  · by_cases z : j = i
    · subst z
      rw [List.getElem?_set_self il] at hj
      cases s with
      | no => cases hso
      | v p => cases hj
      | b p => exact h.pin j p hs
    · rw [List.getElem?_set_ne (Ne.symm z)] at hj
      exact h.pin j o hj
theorem Hold.mut {A : List Addr} {α : Nat → List Addr} {A1 A2 A' : List Addr} {l : Addr} {u : HO} {vi : V} {o' : O} (h : Hold g Z S H (τ ++ τ') (θ ++ θ') σ ρ A α) (eA : A = A1 ++ A2) (r1 : RelOs g S H θ τ A1) (ho : slO (ρ.getD i .no) = some oi) (hv : σ[i]? = some (some vi))
    (hl : l ∈ α i) (r : RelO g S (upd H l u) o' vi A') (nd : A'.Nodup) (hA : ∀ a ∈ A', a ∈ α i ∨ a ∈ A2) : St g Z S (upd H l u) τ θ σ (ρ.set i ((ρ.getD i .no).re o')) := by
  have q := h.mutG (τn := []) (θn := []) (An := []) eA r1 ho hv hl r ⟨rfl, rfl⟩ (by rw [List.append_nil]; exact nd) (by rw [List.append_nil]; exact hA)
  rw [List.append_nil, List.append_nil] at q
  exact q
theorem RelOs.splitAt : ∀ {os : List O} {vs : List V} {A : List Addr} {j : Nat} {o : O}, RelOs g S H os vs A → os[j]? = some o → ∃ v A1 Ao A2, vs[j]? = some v ∧ A = A1 ++ (Ao ++ A2) ∧ RelO g S H o v Ao ∧
    (∀ H' S' o' v' B, Ex S S' → (∀ a, a ∈ A1 ∨ a ∈ A2 → H' a = H a) → RelO g S' H' o' v' B → RelOs g S' H' (os.set j o') (vs.set j v') (A1 ++ (B ++ A2))) ∧
    (∀ H' S', Ex S S' → (∀ a, a ∈ A1 ∨ a ∈ A2 → H' a = H a) → RelOs g S' H' (os.eraseIdx j) (vs.eraseIdx j) (A1 ++ A2))
  | [], _, _, _, _, _, e => by simp at e
  | p :: os, _, _, 0, o, ⟨v, r, A1, A2, e, eA, x, y⟩, h => by
    have h' : p = o := by simpa using h
    subst h'
    refine ⟨v, [], A1, A2, by rw [e]; rfl, by rw [eA]; rfl, x, fun H' S' o' v' B ex k q => ?_, fun H' S' ex k => ?_⟩
    · rw [e]
      exact ⟨v', r, B, A2, rfl, rfl, q, RelOs.mono ex os r A2 (fun a m => k a (.inr m)) y⟩
    · rw [e]
      exact RelOs.mono ex os r A2 (fun a m => k a (.inr m)) y
  | p :: os, _, _, j + 1, o, ⟨v, r, A1, A2, e, eA, x, y⟩, h => by
    obtain ⟨v', B1, Bo, B2, h1, h2, h3, h4, h5⟩ := RelOs.splitAt (j := j) y (by simpa using h)
    refine ⟨v', A1 ++ B1, Bo, B2, by rw [e]; simpa using h1, by rw [eA, h2, List.append_assoc], h3, fun H' S' o' v2 B ex k q => ?_, fun H' S' ex k => ?_⟩
    · rw [e]
      refine ⟨v, r.set j v2, A1, B1 ++ (B ++ B2), rfl, by rw [List.append_assoc], RelO.mono ex p v A1 (fun a m => k a (.inl (List.mem_append_left _ m))) x, h4 H' S' o' v2 B ex (fun a m => k a ?_) q⟩
      rcases m with m | m
      · exact .inl (List.mem_append_right _ m)
      · exact .inr m
    · rw [e]
      refine ⟨v, r.eraseIdx j, A1, B1 ++ B2, rfl, by rw [List.append_assoc], RelO.mono ex p v A1 (fun a m => k a (.inl (List.mem_append_left _ m))) x, h5 H' S' ex fun a m => k a ?_⟩
      rcases m with m | m
      · exact .inl (List.mem_append_right _ m)
      · exact .inr m
/-! ### x[e], x a slot that is only looked at -/
def lkO (k : Key) (l : List (Key × O)) : Option O := (l.find? fun p => decide (p.1 = k)).map (·.2)
def oIx : O → D → Option D
  | .lst os, .int k => (atI os k).bind fun o => match o with
    | .sh d => some d
    | _ => none
  | .dct kos, k => (keyD k).bind fun k => (lkO k kos).bind fun o => match o with
    | .sh d => some d
    | _ => none
  | .sh d, k => (dIx d.view k).bind fun o => match o with
    | .sh d => some d
    | _ => none
  | _, _ => none
def ePix (i : Nat) (m : E) : E := fun ρ => if (slO (ρ.getD i .no)).isSome then (m ρ).bind fun o ρ1 => R.of (((slO (ρ1.getD i .no)).bind fun oi => oIx oi o.d.view).map .sh) ρ1 else .stuck
theorem RelOK.val : ∀ {kos : List (Key × O)} {kvs : List (Key × V)} {A : List Addr} (k : Key), RelOK g S H kos kvs A → (lkO k kos = none ∧ valV kvs k = none) ∨ ∃ o v Ao, lkO k kos = some o ∧ valV kvs k = some v ∧ RelO g S H o v Ao ∧ ∀ a ∈ Ao, a ∈ A
  | [], _, _, k, ⟨e, _⟩ => by subst e; exact .inl ⟨rfl, rfl⟩
  | (k', o) :: r, _, _, k, ⟨v, r', A1, A2, e, eA, a, b⟩ => by
    subst e
    by_cases q : k' = k
    · subst q
      exact .inr ⟨o, v, A1, by simp [lkO], by simp [valV], a, fun x m => by rw [eA]; exact List.mem_append_left _ m⟩
    · have h1 : lkO k ((k', o) :: r) = lkO k r := by simp [lkO, q]
      have h2 : valV ((k', v) :: r') k = valV r' k := by simp [valV, q]
      rw [h1, h2]
      rcases RelOK.val k b with z | ⟨o', v', Ao, z1, z2, z3, z4⟩
      · exact .inl z
      · exact .inr ⟨o', v', Ao, z1, z2, z3, fun x m => by rw [eA]; exact List.mem_append_right _ (z4 x m)⟩
theorem RelOs.atI {os : List O} {vs : List V} {A : List Addr} {k : Int} {o : O} (r : RelOs g S H os vs A) (h : L2.atI os k = some o) : ∃ v Ao, L2.atI vs k = some v ∧ RelO g S H o v Ao ∧ ∀ a ∈ Ao, a ∈ A := by
  unfold L2.atI at h ⊢
  rw [r.len]
  cases e : ixN os.length k with
  | none => rw [e] at h; cases h
  | some j => rw [e] at h; exact r.get h
theorem oIx_rule {A : List Addr} {vi vk : V} {dk d : D} (e : Sub S H) (r : RelO g S H oi vi A) (rk : Rep g S dk vk) (h : oIx oi dk = some d) (k : ∀ v H', New g S H (.sh d) v H' → Q v H') : rIxA g.K vi vk H Q := by
  cases oi with
  | lst os =>
    cases dk with
    | int n =>
      obtain ⟨l, vs, A', rfl, hl, _, r'⟩ := r
      have h : ((L2.atI os n).bind fun o => match o with | .sh d => some d | _ => none) = some d := h
      cases h1 : L2.atI os n with
      | none => rw [h1] at h; cases h
      | some o =>
        rw [h1] at h
        cases o with
        | sh d' =>
          have h : some d' = some d := h
          cases h
          obtain ⟨v, Ao, h2, h3, _⟩ := r'.atI h1
          exact .inl (.inl ⟨l, vs, n, v, rfl, rk, .inl (.inl hl), h2, k v H (New.same e h3.2)⟩)
        | lst _ => cases h
        | dct _ => cases h
        | ins _ _ => cases h
        | tag _ _ => cases h
    | _ => cases h
  | dct kos =>
    have h : ((keyD dk).bind fun k => (lkO k kos).bind fun o => match o with | .sh d => some d | _ => none) = some d := h
    cases hk : keyD dk with
    | none => rw [hk] at h; cases h
    | some key =>
      rw [hk] at h
      have h : ((lkO key kos).bind fun o => match o with | .sh d => some d | _ => none) = some d := h
      obtain ⟨l, kvs, A', rfl, hl, _, r'⟩ := r
      rcases r'.val key with ⟨h1, _⟩ | ⟨o, v, Ao, h1, h2, h3, _⟩
      · rw [h1] at h; cases h
      · rw [h1] at h
        cases o with
        | sh d' =>
          have h : some d' = some d := h
          cases h
          exact .inr ⟨l, v, rfl, .inl ⟨kvs, key, .inl hl, keyD_rep hk rk, h2.symm⟩, k v H (New.same e h3.2)⟩
        | lst _ => cases h
        | dct _ => cases h
        | ins _ _ => cases h
        | tag _ _ => cases h
  | sh d0 =>
    have h : ((dIx d0.view dk).bind fun o => match o with | .sh d => some d | _ => none) = some d := h
    cases h1 : dIx d0.view dk with
    | none => rw [h1] at h; cases h
    | some o =>
      rw [h1] at h
      cases o with
      | sh d' =>
        have h : some d' = some d := h
        cases h
        exact os_ix S H vi vk d0.view dk _ Q e r.2.view rk h1 k
      | lst _ => cases h
      | dct _ => cases h
      | ins _ _ => cases h
      | tag _ _ => cases h
  | ins c fs => cases h
  | tag _ _ => cases h
theorem le_pix (q : LE g W (ePix i m) σ H Q) : tOp (rIxA g.K) (tVar i) (LE g W m) σ H Q := by
  obtain ⟨Z, S, τ, θ, ρ, st, post⟩ := q
  unfold ePix at post
  split at post
  · rename_i hs
    obtain ⟨vi, hv⟩ := st.slotV hs
    refine ⟨vi, hv, ?_⟩
    refine step0 st post fun o1 ρ1 v1 S1 H1 e1 st1 post1 => ?_
    obtain ⟨S2, e2, st2, rk⟩ := st1.pop
    obtain ⟨o, hf, post3⟩ := post1.of
    cases ho : slO (ρ1.getD i .no) with
    | none => rw [ho] at hf; cases hf
    | some oi =>
      rw [ho] at hf
      have hf : (oIx oi o1.d.view).map O.sh = some o := hf
      cases h1 : oIx oi o1.d.view with
      | none => rw [h1] at hf; cases hf
      | some d =>
        rw [h1] at hf
        cases hf
        obtain ⟨v', A, hv', r⟩ := st2.peek ho
        rw [hv] at hv'
        cases hv'
        exact oIx_rule st2.sub r rk.view h1 fun v H' n => post3.fin e2 st2 n
  · exact post.elim
/-! ### x[e] = e2, x a slot -/
def rSetA : V → V → V → Hp → (Hp → Prop) → Prop := fun o i v H Q => rSetL o i v H Q ∨ ∃ a H', o = .ref a ∧ DPut H a i v H' ∧ Q H'
theorem set_any {X : Cx} (hu : X.A.units + 1 < cLine) : PSet X rSetA := by
  intro pins s σ H o i v ov iv u Q I ro ri rv h
  rcases h with h | ⟨a, H', rfl, gp, q⟩
  · exact set_list pins s σ H o i v ov iv u Q I ro ri rv h
  · obtain rfl : ov = Value.ref a := ro
    exact d_setItem hu I gp ri rv fun s' I' => ⟨H', I', q⟩
/-- the pairs behind x[k] = o -/
def putO (kos : List (Key × O)) (k : Key) (o : O) : List (Key × O) :=
  if (kos.any fun p => decide (p.1 = k)) = true then kos.map (fun p => if p.1 = k then (p.1, o) else p) else kos ++ [(k, o)]
def oSet (oi : O) (dk : D) (o : O) : Option O := match oi with
  | .lst os => match dk with
    | .int n => (ixN os.length n).map fun j => .lst (os.set j o)
    | _ => none
  | .dct kos => if kos.length < 1000000 then (keyD dk).map fun k => .dct (putO kos k (.sh o.d)) else none
  | _ => none
def sStore (i : Nat) (me mv : E) : Sm := fun ρ => (mv ρ).toO fun o ρ1 => if (slO (ρ1.getD i .no)).isSome then (me ρ1).toO fun k ρ2 =>
  match (slO (ρ2.getD i .no)).bind fun oi => oSet oi k.d.view o with
  | some o' => .next (ρ2.set i ((ρ2.getD i .no).re o'))
  | none => .stuck else .stuck
theorem sstepN {D : Ends} {n : Nat} {k : O → En → Out} (st : St g Z S H τ' θ' σ ρ) (l1 : τ'.length = n) (l2 : θ'.length = n) (post : PostO g W Z S ((m ρ).toO k) D)
    (hk : ∀ o ρ1 v S1 H1, Ex S S1 → St g Z S1 H1 (τ' ++ [v]) (θ' ++ [o]) σ ρ1 → PostO g W Z S1 (k o ρ1) D → Q' v H1) : LE g W m σ H Q' := by
  refine ⟨Z, S, τ', θ', ρ, st, ?_⟩
  cases h : m ρ with
  | ok o ρ1 => rw [h] at post; exact fun v S1 H1 e1 st1 => hk o ρ1 v S1 H1 e1 st1 (PostO.mono e1 post)
  | exc x ρ1 =>
    rw [h] at post
    intro d S1 H1 e1 st1 xa
    obtain ⟨S2, e2, st2, _⟩ := St.popN (τ := []) (θ := []) n τ' θ' l1 l2 st1
    exact post d σ S2 H1 (e1.trans e2) st2 (xa.mono e2)
  | stuck => rw [h] at post; exact post
theorem putO_rel {k : Key} {d : D} {v : V} (rv : Rep g S d v) : ∀ {kos : List (Key × O)} {kvs : List (Key × V)} {A : List Addr}, (∀ a ∈ A, H' a = H a) → RelOK g S H kos kvs A → ∃ A', RelOK g S H' (kos.map fun p => if p.1 = k then (p.1, .sh d) else p) (kvs.map fun p => if p.1 = k then (p.1, v) else p) A' ∧ A'.Sublist A
  | [], _, _, _, ⟨e, eA⟩ => by subst e; subst eA; exact ⟨[], ⟨rfl, rfl⟩, .slnil⟩
  | (k', o) :: r, _, _, kp, ⟨v', r', A1, A2, e, eA, x, y⟩ => by
    subst e
    subst eA
    obtain ⟨A', h1, h2⟩ := putO_rel (k := k) rv (fun a m => kp a (List.mem_append_right _ m)) y
    by_cases q : k' = k
    · subst q
      have e1 : (List.map (fun p : Key × O => if p.1 = k' then (p.1, O.sh d) else p) ((k', o) :: r)) = (k', O.sh d) :: List.map (fun p : Key × O => if p.1 = k' then (p.1, O.sh d) else p) r := by rw [List.map_cons, if_pos rfl]
      have e2 : (List.map (fun p : Key × V => if p.1 = k' then (p.1, v) else p) ((k', v') :: r')) = (k', v) :: List.map (fun p : Key × V => if p.1 = k' then (p.1, v) else p) r' := by rw [List.map_cons, if_pos rfl]
      rw [e1, e2]
      exact ⟨[] ++ A', ⟨v, _, [], A', rfl, rfl, ⟨rfl, rv⟩, h1⟩, (List.nil_sublist A1).append h2⟩
    · have e1 : (List.map (fun p : Key × O => if p.1 = k then (p.1, O.sh d) else p) ((k', o) :: r)) = (k', o) :: List.map (fun p : Key × O => if p.1 = k then (p.1, O.sh d) else p) r := by rw [List.map_cons, if_neg q]
      have e2 : (List.map (fun p : Key × V => if p.1 = k then (p.1, v) else p) ((k', v') :: r')) = (k', v') :: List.map (fun p : Key × V => if p.1 = k then (p.1, v) else p) r' := by rw [List.map_cons, if_neg q]
      rw [e1, e2]
      exact ⟨A1 ++ A', ⟨v', _, A1, A', rfl, rfl, RelO.mono (Ex.refl _) o v' A1 (fun a m => kp a (List.mem_append_left _ m)) x, h1⟩, (List.Sublist.refl A1).append h2⟩
theorem RelOK.snoc {k : Key} {d : D} {v : V} (rv : Rep g S d v) : ∀ {kos : List (Key × O)} {kvs : List (Key × V)} {A : List Addr}, (∀ a ∈ A, H' a = H a) → RelOK g S H kos kvs A → RelOK g S H' (kos ++ [(k, .sh d)]) (kvs ++ [(k, v)]) A
  | [], _, _, _, ⟨e, eA⟩ => by subst e; subst eA; exact ⟨v, [], [], [], rfl, rfl, ⟨rfl, rv⟩, rfl, rfl⟩
  | (k', o) :: r, _, _, kp, ⟨v', r', A1, A2, e, eA, x, y⟩ => by
    subst e
    subst eA
    exact ⟨v', _, A1, A2, rfl, rfl, RelO.mono (Ex.refl _) o v' A1 (fun a m => kp a (List.mem_append_left _ m)) x, RelOK.snoc rv (fun a m => kp a (List.mem_append_right _ m)) y⟩
theorem RelOK.klen : ∀ {kos : List (Key × O)} {kvs : List (Key × V)} {A : List Addr}, RelOK g S H kos kvs A → kvs.length = kos.length
  | [], _, _, ⟨e, _⟩ => by rw [e]; rfl
  | (k, o) :: os, _, _, ⟨v, r, A1, A2, e, _, _, b⟩ => by rw [e, List.length_cons, List.length_cons, RelOK.klen b]
theorem RelOK.has : ∀ {kos : List (Key × O)} {kvs : List (Key × V)} {A : List Addr} (k : Key), RelOK g S H kos kvs A → (kvs.any fun p => decide (p.1 = k)) = kos.any fun p => decide (p.1 = k)
  | [], _, _, k, ⟨e, _⟩ => by rw [e]; rfl
  | (k', o) :: os, _, _, k, ⟨v, r, A1, A2, e, _, _, b⟩ => by rw [e, List.any_cons, List.any_cons, RelOK.has k b]
theorem putO_ok {k : Key} {d : D} {v : V} {kos : List (Key × O)} {kvs : List (Key × V)} {A : List Addr} (rv : Rep g S d v) (kp : ∀ a ∈ A, H' a = H a) (r : RelOK g S H kos kvs A) : ∃ A', RelOK g S H' (putO kos k (.sh d)) (putK kvs k v) A' ∧ A'.Sublist A := by
  unfold putO putK
  rw [r.has k]
  split
  · exact putO_rel rv kp r
  · exact ⟨A, r.snoc rv kp, List.Sublist.refl _⟩
/-- what a slot holds, with the ends of its ownership -/
theorem Hold.at {A : List Addr} {α : Nat → List Addr} (h : Hold g Z S H τ θ σ ρ A α) (ho : slO (ρ.getD i .no) = some oi) (hv : σ[i]? = some (some v)) : RelO g S H oi v (α i) := by
  obtain ⟨s, _, _, hs⟩ := of_getD ho
  obtain ⟨v', e, r⟩ := h.slot i oi hs
  rw [hv] at e
  cases e
  exact r
/-- a dict's or a list's place is stored anew -/
theorem store_rule {D : Ends} {ko o' : O} {vi vv vk : V} (st : St g Z S H ([] ++ [vv] ++ [vk]) ([] ++ [o] ++ [ko]) σ ρ) (hv : σ[i]? = some (some vi)) (ho : slO (ρ.getD i .no) = some oi) (h : oSet oi ko.d.view o = some o')
    (post : PostO g W Z S (.next (ρ.set i ((ρ.getD i .no).re o'))) D) : rSetA vi vk vv H fun H4 => D.nx σ H4 := by
  obtain ⟨S2, e2, st2, rk⟩ := st.pop
  have rk := rk.view
  cases oi with
  | lst os =>
    have h : (match ko.d.view with | .int n => (ixN os.length n).map fun j => O.lst (os.set j o) | _ => none) = some o' := h
    split at h
    · rename_i n hn
      rw [hn] at rk
      cases hj : ixN os.length n with
      | none => rw [hj] at h; cases h
      | some j =>
        rw [hj] at h
        have h : some (O.lst (os.set j o)) = some o' := h
        cases h
        obtain ⟨A, α, hd⟩ := st2
        obtain ⟨l, vs, A', rfl, hl, eA', r'⟩ := hd.at ho hv
        obtain ⟨A1, A2, eA, r1, r2⟩ := hd.tmp.split rfl
        have r2 := r2.oneInv
        obtain ⟨_, rfl⟩ := r1
        have jl := (ixN_seq hj).2.1
        obtain ⟨ov, ho2⟩ : ∃ ov, os[j]? = some ov := ⟨_, List.getElem?_eq_getElem jl⟩
        obtain ⟨v0, B1, Bo, B2, q1, q2, q3, q4, _⟩ := r'.splitAt ho2
        refine .inl ⟨l, vs, n, j, rfl, rk, hl, by rw [r'.len]; exact hj, ?_⟩
        have ndi := hd.nd i
        rw [eA'] at ndi
        obtain ⟨nl, ndA'⟩ := List.nodup_cons.mp ndi
        have nA2 : ∀ a ∈ A2, a ∉ α i := fun a m m2 => hd.disA i a m2 (by rw [eA]; exact List.mem_append_right _ m)
        have kk : ∀ a, a ∈ A' ∨ a ∈ A2 → upd H l (.lst (vs.set j vv)) a = H a := fun a m => by
          refine upd_ne fun z => ?_
          subst z
          rcases m with m | m
          · exact nl m
          · exact nA2 a m (by rw [eA']; exact List.mem_cons_self)
        have kb : ∀ a, a ∈ B1 ∨ a ∈ B2 → a ∈ A' := fun a m => by
          rw [q2]
          rcases m with m | m
          · exact List.mem_append_left _ m
          · exact List.mem_append_right _ (List.mem_append_right _ m)
        have rs := q4 (upd H l (.lst (vs.set j vv))) S2 o vv A2 (Ex.refl _) (fun a m => kk a (.inl (kb a m))) (RelO.mono (Ex.refl _) o vv A2 (fun a m => kk a (.inr m)) r2)
        refine post σ S2 _ e2 (hd.mut (τ := []) (θ := []) (A1 := []) (A2 := A2) (A' := l :: (B1 ++ (A2 ++ B2))) eA ⟨rfl, rfl⟩ ho hv (by rw [eA']; exact List.mem_cons_self) ⟨l, _, _, rfl, upd_same, rfl, rs⟩ ?_ ?_)
        · rw [q2] at ndA' nl
          obtain ⟨m1, m2, m3⟩ := List.nodup_append.mp ndA'
          obtain ⟨m4, m5, m6⟩ := List.nodup_append.mp m2
          have ndA2 : A2.Nodup := by have := hd.ndA; rw [eA] at this; exact (List.nodup_append.mp this).2.1
          refine List.nodup_cons.mpr ⟨fun z => ?_, List.nodup_append.mpr ⟨m1, List.nodup_append.mpr ⟨ndA2, m5, fun a x b y z => ?_⟩, fun a x b y z => ?_⟩⟩
          · rcases List.mem_append.mp z with z | z
            · exact nl (List.mem_append_left _ z)
            · rcases List.mem_append.mp z with z | z
              · exact nA2 l z (by rw [eA']; exact List.mem_cons_self)
              · exact nl (List.mem_append_right _ (List.mem_append_right _ z))
          · subst z
            exact nA2 a x (by rw [eA', q2]; exact List.mem_cons_of_mem _ (List.mem_append_right _ (List.mem_append_right _ y)))
          · subst z
            rcases List.mem_append.mp y with y | y
            · exact nA2 a y (by rw [eA', q2]; exact List.mem_cons_of_mem _ (List.mem_append_left _ x))
            · exact m3 a x a (List.mem_append_right _ y) rfl
        · intro a m
          rw [eA', q2]
          rcases List.mem_cons.mp m with m | m
          · subst m; exact .inl List.mem_cons_self
          · rcases List.mem_append.mp m with m | m
            · exact .inl (List.mem_cons_of_mem _ (List.mem_append_left _ m))
            · rcases List.mem_append.mp m with m | m
              · exact .inr m
              · exact .inl (List.mem_cons_of_mem _ (List.mem_append_right _ (List.mem_append_right _ m)))
    · cases h
  | dct kos =>
    have h : (if kos.length < 1000000 then (keyD ko.d.view).map fun k => O.dct (putO kos k (.sh o.d)) else none) = some o' := h
    split at h
    · rename_i hsz
      cases hk : keyD ko.d.view with
      | none => rw [hk] at h; cases h
      | some key =>
        rw [hk] at h
        have h : some (O.dct (putO kos key (.sh o.d))) = some o' := h
        cases h
        obtain ⟨S3, e3, st3, rv⟩ := st2.pop
        obtain ⟨A, α, hd⟩ := st3
        obtain ⟨l, kvs, A', rfl, hl, eA', r'⟩ := hd.at ho hv
        obtain ⟨_, eA0⟩ := hd.tmp
        subst eA0
        have ndi := hd.nd i
        rw [eA'] at ndi
        obtain ⟨nl, ndA'⟩ := List.nodup_cons.mp ndi
        obtain ⟨A2, p1, p2⟩ := putO_ok (H' := upd H l (.dK (putK kvs key vv))) (k := key) rv (fun a m => upd_ne fun z => nl (z ▸ m)) r'
        refine .inr ⟨l, _, rfl, .inl ⟨kvs, key, hl, keyD_rep hk rk, Nat.lt_of_lt_of_le (by rw [r'.klen]; exact hsz) (show 1000000 ≤ sizeLine by decide), rfl⟩, ?_⟩
        refine post σ S3 _ (e2.trans e3) (hd.mut (τ := []) (θ := []) (τ' := []) (θ' := []) (A1 := []) (A2 := []) (A' := l :: A2) rfl ⟨rfl, rfl⟩ ho hv (by rw [eA']; exact List.mem_cons_self) ⟨l, _, _, rfl, upd_same, rfl, p1⟩ ?_ ?_)
        · exact List.nodup_cons.mpr ⟨fun z => nl (p2.subset z), ndA'.sublist p2⟩
        · intro a m
          rw [eA']
          rcases List.mem_cons.mp m with m | m
          · subst m; exact .inl List.mem_cons_self
          · exact .inl (List.mem_cons_of_mem _ (p2.subset m))
    · cases h
  | sh d => cases h
  | ins c fs => cases h
  | tag _ _ => cases h
theorem ls_store {D : Ends} {me mv : E} (q : LS g W (sStore i me mv) D σ H) : tAsg (LE g W mv) (gSub (tVar i) (LE g W me) rSetA) D σ H := by
  obtain ⟨Z, S, ρ, st, post⟩ := q
  refine sstepN (τ' := []) (θ' := []) (n := 0) st rfl rfl post fun o1 ρ1 v1 S1 H1 e1 st1 post1 => ?_
  split at post1
  · rename_i hs
    obtain ⟨vi, hv⟩ := st1.slotV hs
    refine ⟨vi, hv, ?_⟩
    refine sstepN (n := 1) st1 rfl rfl post1 fun o2 ρ2 v2 S2 H2 e2 st2 post2 => ?_
    split at post2
    · rename_i o' h
      cases ho : slO (ρ2.getD i .no) with
      | none => rw [ho] at h; cases h
      | some oi =>
        rw [ho] at h
        exact store_rule st2 hv ho h post2
    · exact post2.elim
  · exact post1.elim
end
end DL
set_option Elab.async false
set_option linter.all false
set_option maxRecDepth 100000
set_option autoImplicit false
/-! DL6: methods that change a slot's list; loops. -/
namespace DL
open PySem PySem.Spec PyProof.Rows L2
section
variable {g : Gb} {W : WX} {Z : Zn} {S S' H H' : Hp} {τ τ' : List V} {θ θ' : List O} {σ : Sg} {ρ : En} {Q Q' : VK} {m ma mb mc : E} {o oi : O} {v : V} {i : Nat}
/-! ### x.append(e), x.pop(e), x.pop() -/
def eApp (i : Nat) (m : E) : E := fun ρ => match slO (ρ.getD i .no) with
  | some (.lst _) => (m ρ).bind fun o ρ1 => match slO (ρ1.getD i .no) with
    | some (.lst os) => if os.length < 1000000 then .ok (.sh .non) (ρ1.set i ((ρ1.getD i .no).re (.lst (os ++ [o])))) else .stuck
    | _ => .stuck
  | _ => .stuck
theorem le_one {Qa : List V → Hp → Prop} (h : LE g W m σ H fun v H1 => Qa [v] H1) : LA g W [m] σ H Qa := by
  obtain ⟨Z, S, τ, θ, ρ, st, post⟩ := h
  refine ⟨Z, S, τ, θ, ρ, st, ?_⟩
  unfold evs
  cases h : m ρ with
  | ok o ρ1 =>
    rw [h] at post
    intro vs S' H' e st'
    have l := st'.tlen
    have l0 := st.tlen
    obtain ⟨v, rfl⟩ : ∃ v, vs = [v] := by
      simp at l
      have : vs.length = 1 := by omega
      match vs, this with
      | [v], _ => exact ⟨v, rfl⟩
    exact post v S' H' e st'
  | exc x ρ1 => rw [h] at post; exact post
  | stuck => rw [h] at post; exact post
theorem le_app (q : LE g W (eApp i m) σ H Q) : tBM g.K "list" rAppend (tVar i) (LA g W [m]) σ H Q := by
  obtain ⟨Z, S, τ, θ, ρ, st, post⟩ := q
  unfold eApp at post
  split at post
  · rename_i os0 ho0
    obtain ⟨vi, A, hv, l0, vs0, A0, rfl, hl0, _, _⟩ := st.peek ho0
    refine ⟨_, hv, .inl ⟨rfl, vs0, .inl (.inl hl0)⟩, le_one ?_⟩
    refine step0 st post fun o1 ρ1 v1 S1 H1 e1 st1 post1 => ?_
    split at post1
    · rename_i os ho
      split at post1
      · rename_i hz
        obtain ⟨A, α, hd⟩ := st1
        obtain ⟨l, vs, A', e, hl, eA', r'⟩ := hd.at ho hv
        cases e
        obtain ⟨A1, A2, eA, r1, r2⟩ := hd.tmp.split st.tlen
        have r2 := r2.oneInv
        have ndi := hd.nd i
        rw [eA'] at ndi
        obtain ⟨nl, ndA'⟩ := List.nodup_cons.mp ndi
        have nA2 : ∀ a ∈ A2, a ∉ α i := fun a m m2 => hd.disA i a m2 (by rw [eA]; exact List.mem_append_right _ m)
        have ndA2 : A2.Nodup := by have := hd.ndA; rw [eA] at this; exact (List.nodup_append.mp this).2.1
        have kk : ∀ a, a ∈ A' ∨ a ∈ A2 → upd H1 l0 (.lst (vs ++ [v1])) a = H1 a := fun a m => by
          refine upd_ne fun z => ?_
          subst z
          rcases m with m | m
          · exact nl m
          · exact nA2 a m (by rw [eA']; exact List.mem_cons_self)
        refine ⟨l0, vs, v1, rfl, rfl, hl, Nat.lt_of_lt_of_le (by rw [r'.len]; exact hz) (show 1000000 ≤ sizeLine by decide), ?_⟩
        have st2 := hd.mut (A' := l0 :: (A' ++ A2)) (u := .lst (vs ++ [v1])) (o' := .lst (os ++ [o1])) eA r1 ho hv (by rw [eA']; exact List.mem_cons_self)
          ⟨l0, _, _, rfl, upd_same, rfl, (RelOs.mono (Ex.refl _) os vs A' (fun a m => kk a (.inl m)) r').append (RelOs.one (RelO.mono (Ex.refl _) o1 v1 A2 (fun a m => kk a (.inr m)) r2))⟩
          (List.nodup_cons.mpr ⟨fun z => by
            rcases List.mem_append.mp z with z | z
            · exact nl z
            · exact nA2 l0 z (by rw [eA']; exact List.mem_cons_self), List.nodup_append.mpr ⟨ndA', ndA2, fun a x b y z => nA2 a (z ▸ y) (by rw [eA']; exact List.mem_cons_of_mem _ x)⟩⟩)
          (fun a m => by
            rw [eA']
            rcases List.mem_cons.mp m with m | m
            · subst m; exact .inl List.mem_cons_self
            · rcases List.mem_append.mp m with m | m
              · exact .inl (List.mem_cons_of_mem _ m)
              · exact .inr m)
        exact post1.fin (Ex.refl _) st2 (New.flat (d := .non) st2.sub rfl)
      · exact post1.elim
    · exact post1.elim
  · exact post.elim
def ePopAt (i : Nat) (m : E) : E := fun ρ => match slO (ρ.getD i .no) with
  | some (.lst _) => (m ρ).bind fun k ρ1 => match slO (ρ1.getD i .no), k.d.view with
    | some (.lst os), .int n => if 0 ≤ n ∧ n < 1000000 then match os[n.toNat]? with
      | some o => .ok o (ρ1.set i ((ρ1.getD i .no).re (.lst (os.eraseIdx n.toNat))))
      | none => .stuck else .stuck
    | _, _ => .stuck
  | _ => .stuck
theorem Hold.popAt {A : List Addr} {α : Nat → List Addr} {os : List O} {l : Addr} {j : Nat} (hd : Hold g Z S H τ θ σ ρ A α) (ho : slO (ρ.getD i .no) = some (.lst os)) (hv : σ[i]? = some (some (.ref l))) (hj : os[j]? = some o) :
    ∃ vs v, H l = some (.lst vs) ∧ vs.length = os.length ∧ vs[j]? = some v ∧ vs.length ≤ vs.length ∧ ∀ u, u = vs.eraseIdx j → St g Z S (upd H l (.lst u)) (τ ++ [v]) (θ ++ [o]) σ (ρ.set i ((ρ.getD i .no).re (.lst (os.eraseIdx j)))) := by
  obtain ⟨l', vs, A', e, hl, eA', r'⟩ := hd.at ho hv
  cases e
  obtain ⟨v, B1, Bo, B2, q1, q2, q3, _, q5⟩ := r'.splitAt hj
  refine ⟨vs, v, hl, r'.len, q1, Nat.le_refl _, fun u hu => ?_⟩
  subst hu
  have ndi := hd.nd i
  rw [eA'] at ndi
  obtain ⟨nl, ndA'⟩ := List.nodup_cons.mp ndi
  rw [q2] at ndA' nl
  obtain ⟨m1, m2, m3⟩ := List.nodup_append.mp ndA'
  obtain ⟨m4, m5, m6⟩ := List.nodup_append.mp m2
  have kk : ∀ a, a ∈ B1 ++ (Bo ++ B2) → upd H l (.lst (vs.eraseIdx j)) a = H a := fun a m => upd_ne fun z => by subst z; exact nl m
  have tm : RelOs g S H (θ ++ []) (τ ++ []) (A ++ []) := by rw [List.append_nil, List.append_nil, List.append_nil]; exact hd.tmp
  have hd' : Hold g Z S H (τ ++ []) (θ ++ []) σ ρ A α := by rw [List.append_nil, List.append_nil]; exact hd
  refine hd'.mutG (A1 := A) (A2 := []) (A' := l :: (B1 ++ B2)) (An := Bo) (by rw [List.append_nil]) hd.tmp ho hv (by rw [eA']; exact List.mem_cons_self)
    ⟨l, _, _, rfl, upd_same, rfl, q5 _ S (Ex.refl _) fun a m => kk a ?_⟩ (RelOs.one (RelO.mono (Ex.refl _) o v Bo (fun a m => kk a (List.mem_append_right _ (List.mem_append_left _ m))) q3)) ?_ ?_
  · rcases m with m | m
    · exact List.mem_append_left _ m
    · exact List.mem_append_right _ (List.mem_append_right _ m)
  · refine List.nodup_append.mpr ⟨List.nodup_cons.mpr ⟨fun z => ?_, List.nodup_append.mpr ⟨m1, m5, fun a x b y => m3 a x b (List.mem_append_right _ y)⟩⟩, m4, fun a x b y z => ?_⟩
    · rcases List.mem_append.mp z with z | z
      · exact nl (List.mem_append_left _ z)
      · exact nl (List.mem_append_right _ (List.mem_append_right _ z))
    · subst z
      rcases List.mem_cons.mp x with x | x
      · subst x; exact nl (List.mem_append_right _ (List.mem_append_left _ y))
      · rcases List.mem_append.mp x with x | x
        · exact m3 a x a (List.mem_append_left _ y) rfl
        · exact m6 a y a x rfl
  · intro a m
    refine .inl ?_
    rw [eA', q2]
    rcases List.mem_append.mp m with m | m
    · rcases List.mem_cons.mp m with m | m
      · subst m; exact List.mem_cons_self
      · rcases List.mem_append.mp m with m | m
        · exact List.mem_cons_of_mem _ (List.mem_append_left _ m)
        · exact List.mem_cons_of_mem _ (List.mem_append_right _ (List.mem_append_right _ m))
    · exact List.mem_cons_of_mem _ (List.mem_append_right _ (List.mem_append_left _ m))
theorem seqIx_nat {n : Int} {len : Nat} (h0 : 0 ≤ n) (h1 : n.toNat < len) : seqIndex? n len = some n.toNat := seqIndex_of h0 (by omega)
theorem le_popAt (q : LE g W (ePopAt i m) σ H Q) : tBM g.K "list" rPopAt (tVar i) (LA g W [m]) σ H Q := by
  obtain ⟨Z, S, τ, θ, ρ, st, post⟩ := q
  unfold ePopAt at post
  split at post
  · rename_i os0 ho0
    obtain ⟨vi, A, hv, l0, vs0, A0, rfl, hl0, _, _⟩ := st.peek ho0
    refine ⟨_, hv, .inl ⟨rfl, vs0, .inl (.inl hl0)⟩, le_one ?_⟩
    refine step0 st post fun o1 ρ1 v1 S1 H1 e1 st1 post1 => ?_
    split at post1
    · rename_i os n ho hn
      split at post1
      · rename_i h0
        split at post1
        · rename_i o ho2
          obtain ⟨S2, e2, st2, rk⟩ := st1.pop
          have rk := rk.view
          rw [hn] at rk
          have rk : v1 = .int n := rk
          subst rk
          obtain ⟨A, α, hd⟩ := st2
          obtain ⟨vs, v, hl, hlen, hvj, _, stn⟩ := hd.popAt ho hv ho2
          have jl := (List.getElem?_eq_some_iff.mp hvj).1
          refine ⟨l0, vs, n, n.toNat, v, rfl, rfl, hl, by omega, by omega, seqIx_nat h0.1 jl, hvj, ?_⟩
          exact post1 v S2 _ e2 (stn _ rfl)
        · exact post1.elim
      · exact post1.elim
    · exact post1.elim
  · exact post.elim
/-! ### loops -/
/-- what a target does with an item -/
abbrev Tg := D → En → Option En
def En.set1 (ρ : En) (i : Nat) (d : D) : Option En := match ρ[i]? with
  | some (.b _) => none
  | some _ => some (ρ.set i (.v (.sh d)))
  | none => none
def tgN (i : Nat) : Tg := fun d ρ => ρ.set1 i d
def forL (tg : Tg) (body : Sm) : List D → Sm
  | [], ρ => .next ρ
  | d :: ds, ρ => match tg d ρ with
    | none => .stuck
    | some ρ1 => match body ρ1 with
      | .next ρ2 => forL tg body ds ρ2
      | .cont ρ2 => forL tg body ds ρ2
      | .brk ρ2 => .next ρ2
      | .ret o ρ2 => .ret o ρ2
      | .exc x ρ2 => .exc x ρ2
      | .stuck => .stuck
/-- a target is stored as tg says: g its reading -/
def TgS (gb : Gb) (gr : TG) (tg : Tg) : Prop := ∀ Z S H σ ρ (d : D) v ρ1 (Q : L2.St → Hp → Prop), St gb Z S H [] [] σ ρ → Rep gb S d v → tg d ρ = some ρ1 → (∀ σ', St gb Z S H [] [] σ' ρ1 → Q σ' H) → gr v σ H Q
/-- the turns of a loop over ds -/
def ForP (g : Gb) (W : WX) (Z : Zn) (S1 : Hp) (En : Ends) (tg : Tg) (body : Sm) (ds : List D) (i : Nat) : L2.St → Hp → Prop := fun σ H => ∃ S ρ, Ex S1 S ∧ St g Z S H [] [] σ ρ ∧ PostO g W Z S (forL tg body (ds.drop i) ρ) En
/-- what is walked hands out ds, one by one, as long as the shadow S1 stands -/
structure WkS (g : Gb) (J : It) (S1 : Hp) (ds : List D) : Prop where
  go : ∀ i d S H, Ex S1 S → Sub S H → ds[i]? = some d → J.go i H ∧ ∀ x H', J.yld i H x H' → New g S H (.sh d) x H'
  stop : ∀ S H, Ex S1 S → Sub S H → J.stop ds.length H
theorem for_walk {J : It} {ds : List D} {S1 : Hp} {En : Ends} {gr : TG} {tg : Tg} {body : Sm} (wk : WkS g J S1 ds) (ht : TgS g gr tg) (st : St g Z S1 H [] [] σ ρ) (post : PostO g W Z S1 (forL tg body ds ρ) En) :
    ∃ W' : Nat → Nat → L2.St → Hp → Prop, (∃ m, W' 0 m σ H) ∧ ∀ i m σ H, W' i m σ H →
      (J.stop i H ∧ En.nx σ H) ∨ (J.go i H ∧ ∃ N : L2.St → Hp → Prop, (∀ σ' H', N σ' H' → ∃ m', m' < m ∧ W' (i + 1) m' σ' H') ∧ ∀ x H', J.yld i H x H' → gr x σ H' fun σ2 H2 => (LS g W body) { En with nx := N, ct := N, bk := En.nx } σ2 H2) := by
  refine ⟨fun i m σ H => m = ds.length - i ∧ i ≤ ds.length ∧ ForP g W Z S1 En tg body ds i σ H, ⟨ds.length, by simp, Nat.zero_le _, S1, ρ, Ex.refl _, st, by rw [List.drop_zero]; exact post⟩, ?_⟩
  rintro i m σ H ⟨rfl, hi, S, ρ, e, st, post⟩
  by_cases hlt : i < ds.length
  · have hd : ds[i]? = some ds[i] := List.getElem?_eq_getElem hlt
    obtain ⟨g1, g2⟩ := wk.go i ds[i] S H e st.sub hd
    refine .inr ⟨g1, ForP g W Z S1 En tg body ds (i + 1), fun σ' H' p' => ⟨ds.length - (i + 1), by omega, rfl, hlt, p'⟩, fun x H' y => ?_⟩
    obtain ⟨S2, e2, st2⟩ := st.push (g2 x H' y)
    obtain ⟨S3, e3, st3, r3⟩ := St.pop (τ := []) (θ := []) st2
    have e13 : Ex S S3 := e2.trans e3
    rw [List.drop_eq_getElem_cons hlt] at post
    unfold forL at post
    cases h : tg ds[i] ρ with
    | none => rw [h] at post; exact post.elim
    | some ρ1 =>
      rw [h] at post
      refine ht Z S3 H' σ ρ ds[i] x ρ1 _ st3 r3 h fun σ' st4 => ⟨Z, S3, ρ1, st4, ?_⟩
      have post := PostO.mono e13 post
      dsimp only at post
      cases hb : body ρ1 with
      | next ρ2 => rw [hb] at post; exact fun σ2 S4 H2 e4 st5 => ⟨S4, ρ2, (e.trans e13).trans e4, st5, PostO.mono e4 post⟩
      | cont ρ2 => rw [hb] at post; exact fun σ2 S4 H2 e4 st5 => ⟨S4, ρ2, (e.trans e13).trans e4, st5, PostO.mono e4 post⟩
      | brk ρ2 => rw [hb] at post; exact post
      | ret o ρ2 => rw [hb] at post; exact post
      | exc x ρ2 => rw [hb] at post; exact post
      | stuck => rw [hb] at post; exact post
  · have e0 : i = ds.length := by omega
    subst e0
    rw [List.drop_of_length_le (Nat.le_refl _)] at post
    exact .inl ⟨wk.stop S H e st.sub, post σ S H (Ex.refl _) st⟩
/-! range -/
theorem wk_range {n : Nat} {lo : Int} {S1 : Hp} : WkS g (Itr lo n) S1 ((List.range n).map fun (i : Nat) => .int (lo + i)) where
  go := fun i d S H _ e2 hi => by
    rw [List.getElem?_map] at hi
    cases h : (List.range n)[i]? with
    | none => rw [h] at hi; cases hi
    | some j =>
      rw [h] at hi
      cases hi
      obtain ⟨h1, h2⟩ := List.getElem?_eq_some_iff.mp h
      rw [List.getElem_range] at h2
      subst h2
      rw [List.length_range] at h1
      exact ⟨h1, fun x H' y => by obtain ⟨e, y⟩ := y; subst e; subst y; exact new_flat e2 rfl rfl⟩
  stop := fun S H _ _ => by
    show n ≤ _
    rw [List.length_map, List.length_range]
    exact Nat.le_refl _
def rangeD (lo hi : Int) : List D := (List.range (hi - lo).toNat).map fun (i : Nat) => .int (lo + i)
/-! a list, a tuple, a text, the script -/
theorem wk_list {a : Addr} {ds : List D} {vs : List V} {S1 : Hp} (h : S1 a = some (.lst vs)) (r : Reps g S1 ds vs) : WkS g (Itl g.K a) S1 ds where
  go := fun i d S H e1 e2 hi => by
    obtain ⟨v, h1, h2⟩ := r.get hi
    have q : SqL g.K H a vs := .inl (.inl (e2.lst (e1.lst h)))
    refine ⟨⟨vs, v, q, h1⟩, fun x H' y => ?_⟩
    obtain ⟨e, y⟩ := y
    subst e
    have := y vs q
    rw [h1] at this
    cases this
    exact New.same e2 (Rep.mono e1 _ _ h2)
  stop := fun S H e1 e2 => ⟨vs, .inl (.inl (e2.lst (e1.lst h))), Nat.le_of_eq r.len⟩
theorem wk_tup {a : Addr} {ds : List D} {vs : List V} {S1 : Hp} (h : SqT g.K S1 a vs) (r : Reps g S1 ds vs) : WkS g (Itt g.K a) S1 ds where
  go := fun i d S H e1 e2 hi => by
    obtain ⟨v, h1, h2⟩ := r.get hi
    have q : SqT g.K H a vs := e2.sqT (e1.sqT h)
    refine ⟨⟨vs, v, q, h1⟩, fun x H' y => ?_⟩
    obtain ⟨e, y⟩ := y
    subst e
    have := y vs q
    rw [h1] at this
    cases this
    exact New.same e2 (Rep.mono e1 _ _ h2)
  stop := fun S H e1 e2 => ⟨vs, e2.sqT (e1.sqT h), Nat.le_of_eq r.len⟩
theorem wk_scr {a : Addr} {ns : List Int} {S1 : Hp} (h : SqL g.K S1 a (ns.map V.int)) : WkS g (Itl g.K a) S1 (ns.map D.int) where
  go := fun i d S H e1 e2 hi => by
    have q : SqL g.K H a (ns.map V.int) := e2.sqL (e1.sqL h)
    rw [List.getElem?_map] at hi
    cases h1 : ns[i]? with
    | none => rw [h1] at hi; cases hi
    | some n =>
      rw [h1] at hi
      cases hi
      have h2 : (ns.map V.int)[i]? = some (.int n) := by rw [List.getElem?_map, h1]; rfl
      refine ⟨⟨_, _, q, h2⟩, fun x H' y => ?_⟩
      obtain ⟨e, y⟩ := y
      subst e
      have := y _ q
      rw [h2] at this
      cases this
      exact new_flat e2 rfl rfl
  stop := fun S H e1 e2 => ⟨_, e2.sqL (e1.sqL h), by rw [List.length_map, List.length_map]; exact Nat.le_refl _⟩
def signs (z : Str) : List D := z.cps.toList.map fun c => .str ⟨#[c]⟩
theorem wk_str {z : Str} {S1 : Hp} : WkS g (Its z) S1 (signs z) where
  go := fun i d S H e1 e2 hi => by
    unfold signs at hi
    rw [List.getElem?_map, Array.getElem?_toList] at hi
    cases h1 : z.cps[i]? with
    | none => rw [h1] at hi; cases hi
    | some c =>
      rw [h1] at hi
      cases hi
      refine ⟨(Array.getElem?_eq_some_iff.mp h1).1, fun x H' y => ?_⟩
      obtain ⟨e, c', y1, y2⟩ := y
      subst e
      rw [h1] at y1
      cases y1
      subst y2
      exact new_flat e2 rfl rfl
  stop := fun S H e1 e2 => by
    show z.cps.size ≤ _
    unfold signs
    rw [List.length_map, Array.length_toList]
    exact Nat.le_refl _
/-- the items of a value that a for walks -/
def itemsD : D → Option (List D)
  | .lst ds => some ds
  | .tup ds => some ds
  | .scr ns => some (ns.map .int)
  | .str z => some (signs z)
  | _ => none
def iStrR (tl : TE) : TI := fun σ H R => tl σ H fun x H1 => ∃ z, x = .str z ∧ R (Its z) H1
theorem PI_or {X : Cx} {tg iter : Expr} {w1 w2 : TI} (h1 : PI X tg iter w1) (h2 : PI X tg iter w2) : PI X tg iter (fun σ H R => w1 σ H R ∨ w2 σ H R) :=
  ⟨fun pins s σ H R I h => by
    rcases h with h | h
    · exact h1.run pins s σ H R I h
    · exact h2.run pins s σ H R I h⟩
def iAny (K : PySem.W.Frag) (tl : TE) : TI := fun σ H R => iList K tl σ H R ∨ (iTup K tl σ H R ∨ iStrR tl σ H R)
/-! while -/
end
end DL
set_option Elab.async false
set_option linter.all false
set_option maxRecDepth 100000
set_option autoImplicit false
/-! DLW: the rules as one writes them: an expression of the text and the function that reads it. -/
namespace DL
open PySem PySem.Spec PyProof.Rows L2
/-- what a rule asks of the context -/
structure Cxt (X : Cx) (g : Gb) (W : WX) (j : Nat) : Prop where
  K : X.K = g.K
  calm : X.calm = true
  nd : X.N.Nodup
  tk : Takes X W
  po : PassesOwn (model X.prog X.w) X.A X.env X.xe
  rm : Room j X.A
  gd : X.A.guards = some []
  sys : ∃ mm, X.base.Ns sysModules mm
theorem Cxt.hu {X : Cx} {g : Gb} {W : WX} {j : Nat} (c : Cxt X g W j) : X.A.units + 1 < cLine := hu_of c.rm
theorem cxt_def {P : Program} {w : World} {mg : Str → Option Value} {base : Heap} {g : Gb} {N : List Str} {qual : Str} {scope : Scope} {f : Addr} {cd : Value} {A : Around} {outer : List Env} {s : Shared} {H : Hp} {E : XK} {j : Nat} (hN : N.Nodup)
    (hr : Room j (A.deeper (envOfC qual scope s.heap.objs.size f cd))) (hg : A.guards = some []) (hs : ∃ mm, base.Ns sysModules mm) : Cxt (cxOf (L2.CX P w) P w g.K mg base N qual scope f cd A outer s H E) g (WF E) j :=
  ⟨rfl, rfl, hN, takes_of rfl rfl rfl rfl, passes_of rfl, hr, hg, hs⟩
section
variable {X : Cx} {g : Gb} {W : WX} {j : Nat}
/-! names, constants -/
theorem pd_var (i : Nat) {x : Str} {pos : Pos} (hN : X.N[i]? = some x := by rfl) (hv : Vis X.env.scope x := by first | exact Or.inl rfl | exact Or.inr (Or.inl rfl) | exact Or.inr (Or.inr rfl)) (hd : (x == ("__debug__" : Str)) = false := by decide)
    (hcd : (x == ("__classdict__" : Str)) = false := by decide) : PE X (.Name x pos) (LE g W (eVar i)) := PE_imp (pe_var hN hv hd hcd) fun _ _ _ q => le_var q
theorem pd_int {z : Int} {k pos} : PE X (.Constant (.int z) k pos) (LE g W (eC (.int z))) := PE_imp pe_int fun _ _ _ q => le_c (d := .int z) rfl q
theorem pd_bl {z : Bool} {k pos} : PE X (.Constant (.bool z) k pos) (LE g W (eC (.bl z))) := PE_imp pe_bl fun _ _ _ q => le_c (d := .bl z) rfl q
theorem pd_non {k pos} : PE X (.Constant .none k pos) (LE g W (eC .non)) := PE_imp pe_non fun _ _ _ q => le_c (d := .non) rfl q
theorem pd_str {z : Str} {k pos} : PE X (.Constant (.str z) k pos) (LE g W (eC (.str z))) := PE_imp pe_str fun _ _ _ q => le_c (d := .str z) rfl q
theorem pd_gint {x : Str} {z : Int} {u : Value} {pos : Pos} (hm : X.mg x = some u) (r : RelV (.int z) u) (hg : Gl X x := by rfl) (hd : (x == ("__debug__" : Str)) = false := by decide) : PE X (.Name x pos) (LE g W (eC (.int z))) := PE_imp (pe_glob hg hm r hd) fun _ _ _ q => le_c (d := .int z) rfl q
theorem pd_gstr {x : Str} {z : Str} {u : Value} {pos : Pos} (hm : X.mg x = some u) (r : RelV (.str z) u) (hg : Gl X x := by rfl) (hd : (x == ("__debug__" : Str)) = false := by decide) : PE X (.Name x pos) (LE g W (eC (.str z))) := PE_imp (pe_glob hg hm r hd) fun _ _ _ q => le_c (d := .str z) rfl q
theorem pd_gty {x : Str} {T : String} {pos : Pos} (hm : X.mg x = none) (hv : bootBuiltins x = some (.type T)) (hg : Gl X x := by rfl) (hn : x ≠ "__name__" := by decide) (hd : (x == ("__debug__" : Str)) = false := by decide) : PE X (.Name x pos) (LE g W (eC (.op (.ty T)))) :=
  PE_imp (pe_bltn (v := .ty T) hg hm hv rfl hn hd) fun _ _ _ q => le_c (d := .op (.ty T)) rfl q
variable {a b c : Expr} {ma mb mc : E} {pos : Pos}
/-! operators -/
theorem pd_add (ha : PE X a (LE g W ma)) (hb : PE X b (LE g W mb)) : PE X (.BinOp a .Add b pos) (LE g W (eBin dAdd ma mb)) := PE_imp (pe_op op_addA ha hb) fun _ _ _ q => le_bin os_add q
theorem pd_sub (ha : PE X a (LE g W ma)) (hb : PE X b (LE g W mb)) : PE X (.BinOp a .Sub b pos) (LE g W (eBin dSub ma mb)) := PE_imp (pe_op op_sub ha hb) fun _ _ _ q => le_bin os_sub q
theorem pd_mul (ha : PE X a (LE g W ma)) (hb : PE X b (LE g W mb)) : PE X (.BinOp a .Mult b pos) (LE g W (eBin dMul ma mb)) := PE_imp (pe_op op_mulA ha hb) fun _ _ _ q => le_bin os_mul q
theorem pd_fdv (ha : PE X a (LE g W ma)) (hb : PE X b (LE g W mb)) : PE X (.BinOp a .FloorDiv b pos) (LE g W (eBin dFdv ma mb)) := PE_imp (pe_op op_fdivW ha hb) fun _ _ _ q => le_bin os_fdv q
theorem pd_mod (ha : PE X a (LE g W ma)) (hb : PE X b (LE g W mb)) : PE X (.BinOp a .Mod b pos) (LE g W (eBin dMod ma mb)) := PE_imp (pe_op op_mod ha hb) fun _ _ _ q => le_bin os_mod q
theorem pd_pow (ha : PE X a (LE g W ma)) (hb : PE X b (LE g W mb)) : PE X (.BinOp a .Pow b pos) (LE g W (eBin dPow ma mb)) := PE_imp (pe_op op_pow ha hb) fun _ _ _ q => le_bin os_pow q
theorem pd_in (C : Cxt X g W j) (ha : PE X a (LE g W ma)) (hb : PE X b (LE g W mb)) (hm : behindInMarks .In b = false := by rfl) : PE X (.Compare a [.In] [b] pos) (LE g W (eBin dIn ma mb)) :=
  PE_imp (pe_cmpR (op_inA C.hu) ha hb hm) fun _ _ _ q => le_bin (by rw [C.K]; exact os_in) q
theorem pt_of {r : R2} {op : CmpOp} {f : D → D → Option O} (ho : OpR X (compareOp op) r) (hs : OpS g r f) (ha : PE X a (LE g W ma)) (hb : PE X b (LE g W mb)) (hm : behindInMarks op b = false) : PT X (.Compare a [op] [b] pos) (LT g W (eBin f ma mb)) :=
  PT_imp (pt_cmpR ho ha hb hm) fun _ _ _ q => le_bin hs q
theorem qd_lt (ha : PE X a (LE g W ma)) (hb : PE X b (LE g W mb)) : PT X (.Compare a [.Lt] [b] pos) (LT g W (eBin dLt ma mb)) := pt_of op_lt2 os_lt ha hb (nomark _)
theorem qd_gt (ha : PE X a (LE g W ma)) (hb : PE X b (LE g W mb)) : PT X (.Compare a [.Gt] [b] pos) (LT g W (eBin dGt ma mb)) := pt_of op_gt2 os_gt ha hb (nomark _)
theorem qd_isN (ha : PE X a (LE g W ma)) (hb : PE X b (LE g W mb)) : PT X (.Compare a [.Is] [b] pos) (LT g W (eBin dIsN ma mb)) := pt_of op_isN os_isN ha hb (nomark _)
theorem qd_notN (ha : PE X a (LE g W ma)) (hb : PE X b (LE g W mb)) : PT X (.Compare a [.IsNot] [b] pos) (LT g W (eBin dNotN ma mb)) := pt_of op_notN os_notN ha hb (nomark _)
theorem qd_in (C : Cxt X g W j) (ha : PE X a (LE g W ma)) (hb : PE X b (LE g W mb)) (hm : behindInMarks .In b = false := by rfl) : PT X (.Compare a [.In] [b] pos) (LT g W (eBin dIn ma mb)) := pt_of (op_inA C.hu) (by rw [C.K]; exact os_in) ha hb hm
/-! chains -/
def eChn (f f' : D → D → Option O) (a b c : E) : E := fun ρ => (a ρ).bind fun o1 ρ1 => (b ρ1).bind fun o2 ρ2 => match f o1.d.view o2.d.view with
  | some (.sh (.bl true)) => (c ρ2).bind fun o3 ρ3 => R.of (f' o2.d.view o3.d.view) ρ3
  | some (.sh (.bl false)) => .ok (.sh (.bl false)) ρ2
  | _ => .stuck
theorem le_chn {r r' : R2} {f f' : D → D → Option O} (hs : OpS g r f) (hs' : OpS g r' f') {σ : Sg} {H : Hp} {Q : VK} (q : LE g W (eChn f f' ma mb mc) σ H Q) : tChain r r' (LE g W ma) (LE g W mb) (LE g W mc) σ H Q := by
  obtain ⟨Z, S, τ, θ, ρ, st, post⟩ := q
  refine step0 st post fun o1 ρ1 v1 S1 H1 e1 st1 post1 => ?_
  refine stepN (n := 1) st1 rfl rfl post1 fun o2 ρ2 v2 S2 H2 e2 st2 post2 => ?_
  obtain ⟨S3, e3, st3, rep⟩ := st2.popN 2 [v1, v2] [o1, o2] rfl rfl
  obtain ⟨_, _, ee, r1, r2⟩ := reps2 rep
  cases ee
  have post2 := post2.mono e3
  split at post2
  · rename_i hf
    refine hs S3 H2 v1 v2 _ _ _ _ st3.sub r1.view r2.view hf fun v H' n => ?_
    obtain ⟨S4, e4, st4⟩ := st3.push n
    obtain ⟨S5, e5, st5, rv⟩ := st4.pop
    refine ⟨true, rv, iteT ?_⟩
    have e35 := e4.trans e5
    refine step0 st5 (post2.mono e35) fun o3 ρ3 v3 S6 H6 e6 st6 post6 => ?_
    obtain ⟨S7, e7, st7, r3⟩ := st6.pop
    obtain ⟨o, hf', post7⟩ := post6.of
    exact hs' S7 H6 v2 v3 _ _ o Q st7.sub (Rep.mono ((e35.trans e6).trans e7) _ _ r2).view r3.view hf' fun v H' n => post7.fin e7 st7 n
  · rename_i hf
    refine hs S3 H2 v1 v2 _ _ _ _ st3.sub r1.view r2.view hf fun v H' n => ?_
    obtain ⟨S4, e4, st4⟩ := st3.push n
    obtain ⟨S5, e5, st5, rv⟩ := st4.pop
    exact ⟨false, rv, iteF (post2.fin (e4.trans e5) st5 (New.flat (d := .bl false) st5.sub rfl))⟩
  · exact post2.elim
theorem pd_chnLL (ha : PE X a (LE g W ma)) (hb : PE X b (LE g W mb)) (hc : PE X c (LE g W mc)) (hm : lastMarks [.LtE, .LtE] [b, c] = false := by with_unfolding_all rfl) : PE X (.Compare a [.LtE, .LtE] [b, c] pos) (LE g W (eChn dLe dLe ma mb mc)) :=
  PE_imp (pe_chain op_le2 op_le2 ha hb hc hm) fun _ _ _ q => le_chn os_le os_le q
theorem qd_chnLL (ha : PE X a (LE g W ma)) (hb : PE X b (LE g W mb)) (hc : PE X c (LE g W mc)) (hm : lastMarks [.LtE, .LtE] [b, c] = false := by with_unfolding_all rfl) : PT X (.Compare a [.LtE, .LtE] [b, c] pos) (LT g W (eChn dLe dLe ma mb mc)) :=
  PT_imp (pt_chain op_le2 op_le2 ha hb hc hm) fun _ _ _ q => le_chn os_le os_le q
/-! and, or, not, if .. else -/
variable {rest : List Expr}
theorem pd_and (ha : PE X a (LE g W ma)) (hb : PE X (.BoolOp .And (b :: rest) pos) (LE g W mb)) : PE X (.BoolOp .And (a :: b :: rest) pos) (LE g W (eAnd ma mb)) := PE_imp (pe_and ha hb) fun _ _ _ q => le_and q
theorem pd_one {op} (ha : PE X a (LE g W ma)) : PE X (.BoolOp op [a] pos) (LE g W ma) := pe_one ha
theorem pd_not (ha : PE X a (LE g W ma)) : PE X (.UnaryOp .Not a pos) (LE g W (eNot ma)) := PE_imp (pe_not ha) fun _ _ _ q => le_not q
theorem pd_if (hc : PT X c (LT g W mc)) (ha : PE X a (LE g W ma)) (hb : PE X b (LE g W mb)) : PE X (.IfExp c a b pos) (LE g W (eIf mc ma mb)) := PE_imp (pe_ifExp hc ha hb) fun _ _ _ q => le_if q
theorem wd_and (ha : PT X a (LT g W ma)) (hb : PW X (.BoolOp .And (b :: rest) pos) (LT g W mb)) : PW X (.BoolOp .And (a :: b :: rest) pos) (LT g W (eAnd ma mb)) := PW_imp (pw_and ha hb) fun _ _ _ q => lt_and q
theorem wd_or (ha : PT X a (LT g W ma)) (hb : PW X (.BoolOp .Or (b :: rest) pos) (LT g W mb)) : PW X (.BoolOp .Or (a :: b :: rest) pos) (LT g W (eOr ma mb)) := PW_imp (pw_or ha hb) fun _ _ _ q => lt_or q
theorem wd_and1 (ha : PT X a (LT g W ma)) : PW X (.BoolOp .And [a] pos) (LT g W ma) := pw_and1 ha
theorem wd_or1 (ha : PT X a (LT g W ma)) : PW X (.BoolOp .Or [a] pos) (LT g W ma) := pw_or1 ha
theorem qd_w {e : Expr} {m : E} (h : PW X e (LT g W m)) : PT X e (LT g W m) := h.pt
theorem qd_not (ha : PT X a (LT g W ma)) : PT X (.UnaryOp .Not a pos) (LT g W (eNot ma)) := PT_imp (pt_not ha) fun _ _ _ q => lt_not q
/-- an expression that gives a bool, as a test -/
theorem qd_val {e : Expr} {m : E} (h : PE X e (LE g W m)) (he : ∀ whole, isTrue e X.env whole = (do let v ← whole; standAt e.pos; holding [v] (truthy v)) := by intro _; rfl) : PT X e (LT g W m) := pt_val h he
/-! displays, arguments -/
variable {es : List Expr} {ms : List E}
theorem ad_nil : PA X [] (LA g W []) := PA_imp pa_nil fun _ _ _ q => la_nil q
theorem ad_cons (ha : PE X a (LE g W ma)) (hr : PA X es (LA g W ms)) (hs : starEach (a :: es) X.env = (false, eval a X.env) :: starEach es X.env := by rfl) : PA X (a :: es) (LA g W (ma :: ms)) := PA_imp (pa_cons ha hr hs) fun _ _ _ q => la_cons q
theorem pd_lst (h : PA X es (LA g W ms)) : PE X (.List es pos) (LE g W (eLst ms)) := PE_imp (pe_lst h) fun _ _ _ q => le_lst q
theorem pd_tup {k} (h : PA X es (LA g W ms)) : PE X (.Tuple es k pos) (LE g W (eTup ms)) := PE_imp (pe_tup h) fun _ _ _ q => le_tup q
/-! items -/
theorem pd_ix (C : Cxt X g W j) (ha : PE X a (LE g W ma)) (hb : PE X b (LE g W mb)) (hs : PlainIx b := by exact fun _ _ => rfl) : PE X (.Subscript a b pos) (LE g W (eBin dIx ma mb)) := PE_imp (pe_ix (ix_any C.hu) ha hb hs) fun _ _ _ q => le_bin (by rw [C.K]; exact os_ix) q
theorem pd_pix (C : Cxt X g W j) (i : Nat) {x : Str} {px : Pos} (hb : PE X b (LE g W mb)) (hN : X.N[i]? = some x := by rfl) (hv : Vis X.env.scope x := by first | exact Or.inl rfl | exact Or.inr (Or.inl rfl) | exact Or.inr (Or.inr rfl)) (hs : PlainIx b := by exact fun _ _ => rfl) (hd : (x == ("__debug__" : Str)) = false := by decide)
    (hcd : (x == ("__classdict__" : Str)) = false := by decide) : PE X (.Subscript (.Name x px) b pos) (LE g W (ePix i mb)) := PE_imp (pe_ix (ix_any C.hu) (pe_var hN hv hd hcd) hb hs) fun _ _ _ q => by rw [C.K]; exact le_pix q
/-! builtins -/
theorem pd_len {p : Pos} (C : Cxt X g W j) (hm : X.mg "len" = none) (ha : PA X [a] (LA g W ms)) (hg : Gl X "len" := by rfl) (he : starEach [a] X.env = (false, eval a X.env) :: starEach [] X.env := by rfl) (hpl : (backTo pos (starEach [] X.env)).any (·.1) = false := by rfl) :
    PE X (.Call (.Name "len" p) [a] [] pos) (LE g W (eCB dLen ms)) := PE_imp (pe_callB call_lenA hg hm PySem.boot_len ha (he := he) (hpl := hpl)) fun _ _ _ q => le_callB (by rw [C.K]; exact cs_len) q
def dMax : List D → Option O
  | [.int i, .int k] => oI (if k > i then k else i)
  | _ => none
def dMin : List D → Option O
  | [.int i, .int k] => oI (if k < i then k else i)
  | _ => none
theorem cs_max2 : CallS g (fun xs H Q => ∃ i j, xs = [.int i, .int j] ∧ Q (.int (if j > i then j else i)) H) dMax := callS_of fun S H xs ds o Q e r hf k => by
  unfold dMax at hf
  split at hf
  · cases hf
    obtain ⟨v, v2, rfl, r1, r2⟩ := reps2 r
    rw [show v = .int _ from r1, show v2 = .int _ from r2]
    exact ⟨_, _, rfl, k _ H (new_flat e rfl rfl)⟩
  · cases hf
theorem cs_min2 : CallS g (fun xs H Q => ∃ i j, xs = [.int i, .int j] ∧ Q (.int (if j < i then j else i)) H) dMin := callS_of fun S H xs ds o Q e r hf k => by
  unfold dMin at hf
  split at hf
  · cases hf
    obtain ⟨v, v2, rfl, r1, r2⟩ := reps2 r
    rw [show v = .int _ from r1, show v2 = .int _ from r2]
    exact ⟨_, _, rfl, k _ H (new_flat e rfl rfl)⟩
  · cases hf
theorem boot_max2 : bootBuiltins "max" = some (.builtin "max") := by decide +kernel
theorem boot_min2 : bootBuiltins "min" = some (.builtin "min") := by decide +kernel
theorem pd_max {p : Pos} (C : Cxt X g W j) (hm : X.mg "max" = none) (ha : PA X [a, b] (LA g W ms)) (hg : Gl X "max" := by rfl) (he : starEach [a, b] X.env = (false, eval a X.env) :: starEach [b] X.env := by rfl) (hpl : (backTo pos (starEach [b] X.env)).any (·.1) = false := by rfl) :
    PE X (.Call (.Name "max" p) [a, b] [] pos) (LE g W (eCB dMax ms)) := PE_imp (pe_callB (call_max2 C.calm) hg hm boot_max2 ha (he := he) (hpl := hpl)) fun _ _ _ q => le_callB cs_max2 q
theorem pd_min {p : Pos} (C : Cxt X g W j) (hm : X.mg "min" = none) (ha : PA X [a, b] (LA g W ms)) (hg : Gl X "min" := by rfl) (he : starEach [a, b] X.env = (false, eval a X.env) :: starEach [b] X.env := by rfl) (hpl : (backTo pos (starEach [b] X.env)).any (·.1) = false := by rfl) :
    PE X (.Call (.Name "min" p) [a, b] [] pos) (LE g W (eCB dMin ms)) := PE_imp (pe_callB (call_min2 C.calm) hg hm boot_min2 ha (he := he) (hpl := hpl)) fun _ _ _ q => le_callB cs_min2 q
theorem run_fnW {X : Cx} {CX : CXT} {k : Nat} {f : Addr} {fd : FuncData} {ps : List Str} {sp : Sp} {dvs : List V} {ds : List Value} {E : L2.St → XK} {pins : List (Addr × Obj)} {σ : L2.St} {H : Hp} {s : Shared} {Q : VK} {us : List Value} {vs : List V} (F : FnW X.prog X.w X.K X.mg X.base CX k f fd ps sp) (hr : Room k X.A) (hgd : X.A.guards = some []) (hb : Binds X.K fd ps ds) (hd : Vals dvs ds) (hx : PassesAt CX X σ (E σ))
    (I : L2.Inv X pins σ H s) (r : Vals vs us) (h : sp (vs ++ dvs) H Q (E σ)) : wpAny (model X.prog X.w) X.A (call (.ref f) us) (EP X pins σ Q) X.xe s := by
  have r2 : Vals (vs ++ dvs) (us ++ ds) := r.append hd
  have hl : (us ++ ds).length = ps.length := by rw [← r2.length]; exact F.len _ _ _ _ h
  refine wpAny_call (codeAny_mono (F.run X.A X.stack s H ⟨us, []⟩ (us ++ ds) (vs ++ dvs) Q (E σ) hr hgd I.env0 (hb s us I.kIn hl) r2 h) fun r s' hq => ?_)
  cases r with
  | error e => exact hx pins H s e s' I hq
  | ok fl =>
    cases fl with
    | ret u => exact I.after hq
    | next => exact False.elim hq
    | brk => exact False.elim hq
    | cont => exact False.elim hq
theorem pe_callW {X : Cx} {CX : CXT} {k : Nat} {f : Addr} {fd : FuncData} {ps : List Str} {sp : Sp} {dvs : List V} {ds : List Value} {E : L2.St → XK} {x : Str} {p pos : Pos} {e : Expr} {es : List Expr} {t : TA} (F : FnW X.prog X.w X.K X.mg X.base CX k f fd ps sp) (hr : Room k X.A) (hgd : X.A.guards = some []) (hg : Gl X x) (hm : X.mg x = some (.ref f)) (hk : PySem.W.keepIn X.K (.ref f) = true) (hb : Binds X.K fd ps ds) (hd : Vals dvs ds) (hx : ∀ σ, PassesAt CX X σ (E σ))
    (ha : PA X (e :: es) t) (hdb : (x == ("__debug__" : Str)) = false := by decide) (he : starEach (e :: es) X.env = (false, eval e X.env) :: starEach es X.env := by rfl) (hpl : (backTo pos (starEach es X.env)).any (·.1) = false := by rfl) :
    PE X (.Call (.Name x p) (e :: es) [] pos) (tCallSD sp dvs E t) := by
  refine ⟨fun pins s σ H Q I h => ?_⟩
  refine wpAny_Call_Name_kw (ld_glob I hg hm ?_ hdb)
  refine PySem.W.callWith_K (h₀ := X.base) I.ok.mod.kin hk (thn (ha.run pos pins s σ H _ I h) fun us s1 ⟨vs, H1, I1, r, q⟩ => ⟨I1.kIn, ?_⟩) he hpl
  exact run_fnW F hr hgd hb hd (hx σ) I1 r q
/-! calls -/
/-- fd is what stands at f, and ps are its parameters -/
def parN (a : Arguments) : List Str := a.args.map (·.arg) ++ a.kwonlyargs.map (·.arg)
def FdAt (K : PySem.W.Frag) (f : Addr) (fd : FuncData) (ps : List Str) : Prop := (∃ (oc : Value) (od : Option Addr) (osl : Array (Option Value)), K.lookup f = some ⟨oc, od, .func fd, osl⟩) ∧ ps = parN fd.params
theorem FdAt.of {K : PySem.W.Frag} {x q : Str} {st : Stmt} {f : Addr} {fd : FuncData} {ps : List Str} (F : DefK K x q st f fd) (h : ps = parN (defArgs st)) : FdAt K f fd ps := by
  obtain ⟨oc, od, dV, kV, doc, pm, an, cdv, ct, osl, rfl, lk, _⟩ := F.ex
  exact ⟨⟨oc, od, osl, lk⟩, h⟩
/-- a def of the module that may be called by its name: level k, its function fn, its n parameters, the defaults dds that a call leaves out -/
def Cal (P : Program) (w : World) (mg : Str → Option Value) (base : Heap) (g : Gb) (k : Nat) (x : Str) (n : Nat) (dds : List D) (fn : List O → R) : Prop :=
  ∃ (f : Addr) (fd : FuncData) (ps : List Str) (ds : List Value) (dvs : List V), FnW P w g.K mg base (L2.CX P w) k f fd ps (spD g n fn) ∧ mg x = some (.ref f) ∧ PySem.W.keepIn g.K (.ref f) = true ∧ Binds g.K fd ps ds ∧ Vals dvs ds ∧ (∀ S, Reps g S dds dvs) ∧ FdAt g.K f fd ps
theorem pd_call {k n : Nat} {x : Str} {p : Pos} {dds : List D} {fn : List O → R} (C : Cxt X g W j) (F : Cal X.prog X.w X.mg X.base g k x n dds fn) (ha : PA X (a :: es) (LA g W ms)) (hk : k ≤ j := by decide) (hn : ms.length + dds.length = n := by rfl) (hg : Gl X x := by rfl) (hdb : (x == ("__debug__" : Str)) = false := by decide)
    (he : starEach (a :: es) X.env = (false, eval a X.env) :: starEach es X.env := by rfl) (hpl : (backTo pos (starEach es X.env)).any (·.1) = false := by rfl) : PE X (.Call (.Name x p) (a :: es) [] pos) (LE g W (eCall fn dds ms)) := by
  obtain ⟨f, fd, ps, ds, dvs, F, hm, kp, b, d, hd, _⟩ := F
  rw [← C.K] at F kp b
  exact PE_imp (pe_callW F (C.rm.mono hk) C.gd hg hm kp b d (passAt C.tk) ha hdb he hpl) fun _ _ _ q => le_call hd hn q
theorem pd_callB {k n : Nat} {x y : Str} {p py : Pos} {dds : List D} {fn : List O → R} (C : Cxt X g W j) (F : Cal X.prog X.w X.mg X.base g k x n dds fn) (i : Nat) (ha : PA X es (LA g W ms)) (hk : k ≤ j := by decide) (hn : ms.length + dds.length + 1 = n := by rfl) (hg : Gl X x := by rfl) (hdb : (x == ("__debug__" : Str)) = false := by decide)
    (hN : X.N[i]? = some y := by rfl) (hv : Vis X.env.scope y := by first | exact Or.inl rfl | exact Or.inr (Or.inl rfl) | exact Or.inr (Or.inr rfl)) (hd1 : (y == ("__debug__" : Str)) = false := by decide) (hcd : (y == ("__classdict__" : Str)) = false := by decide)
    (he : starEach (.Name y py :: es) X.env = (false, eval (.Name y py) X.env) :: starEach es X.env := by rfl) (hpl : (backTo pos (starEach es X.env)).any (·.1) = false := by rfl) : PE X (.Call (.Name x p) (.Name y py :: es) [] pos) (LE g W (eCallB i fn dds ms)) := by
  obtain ⟨f, fd, ps, ds, dvs, F, hm, kp, b, d, hd, _⟩ := F
  rw [← C.K] at F kp b
  exact PE_imp (pe_callW F (C.rm.mono hk) C.gd hg hm kp b d (passAt C.tk) (pa_cons (pe_var hN hv hd1 hcd) ha he) hdb he hpl) fun _ _ _ q => le_callB1 hd hn q
/-! methods that change a slot's list -/
theorem pd_app {x : Str} {px apos : Pos} (C : Cxt X g W j) (i : Nat) (hb : PE X a (LE g W ma)) (hN : X.N[i]? = some x := by rfl) (hv : Vis X.env.scope x := by first | exact Or.inl rfl | exact Or.inr (Or.inl rfl) | exact Or.inr (Or.inr rfl)) (hd : (x == ("__debug__" : Str)) = false := by decide) (hcd : (x == ("__classdict__" : Str)) = false := by decide)
    (hs : starEach [a] X.env = (false, eval a X.env) :: starEach [] X.env := by rfl) (hbase : attributeBase (.Name x px) "append" X.env (eval (.Name x px) X.env) = eval (.Name x px) X.env := by rfl)
    (hfew : ((backTo pos (starEach [a] X.env)).all (fun x => !x.1) && (backToKw pos (keywordEach [] X.env)).all (fun x => x.1.isSome) && decide ([a].length + ([] : List Keyword).length + (if ([] : List Keyword).isEmpty then 0 else 1) < 30)) = true := by rfl)
    (hline : (apos.endLine == pos.line) = true := by rfl) (hplain : (backTo pos (starEach [] X.env)).any (·.1) = false := by rfl) : PE X (.Call (.Attribute (.Name x px) "append" apos) [a] [] pos) (LE g W (eApp i ma)) :=
  PE_imp (pe_bm PySem.F.plainAttrs_list PySem.F.slot_list_append PySem.F.type_list_append mt_append (pe_var hN hv hd hcd) (ad_cons hb ad_nil hs) hbase hfew hline hs hplain) fun _ _ _ q => by rw [C.K]; exact le_app q
theorem pd_popAt {x : Str} {px apos : Pos} (C : Cxt X g W j) (i : Nat) (hb : PE X a (LE g W ma)) (hN : X.N[i]? = some x := by rfl) (hv : Vis X.env.scope x := by first | exact Or.inl rfl | exact Or.inr (Or.inl rfl) | exact Or.inr (Or.inr rfl)) (hd : (x == ("__debug__" : Str)) = false := by decide) (hcd : (x == ("__classdict__" : Str)) = false := by decide)
    (hs : starEach [a] X.env = (false, eval a X.env) :: starEach [] X.env := by rfl) (hbase : attributeBase (.Name x px) "pop" X.env (eval (.Name x px) X.env) = eval (.Name x px) X.env := by rfl)
    (hfew : ((backTo pos (starEach [a] X.env)).all (fun x => !x.1) && (backToKw pos (keywordEach [] X.env)).all (fun x => x.1.isSome) && decide ([a].length + ([] : List Keyword).length + (if ([] : List Keyword).isEmpty then 0 else 1) < 30)) = true := by rfl)
    (hline : (apos.endLine == pos.line) = true := by rfl) (hplain : (backTo pos (starEach [] X.env)).any (·.1) = false := by rfl) : PE X (.Call (.Attribute (.Name x px) "pop" apos) [a] [] pos) (LE g W (ePopAt i ma)) :=
  PE_imp (pe_bm PySem.F.plainAttrs_list PySem.F.slot_list_pop PySem.F.type_list_pop mt_popAt (pe_var hN hv hd hcd) (ad_cons hb ad_nil hs) hbase hfew hline hs hplain) fun _ _ _ q => by rw [C.K]; exact le_popAt q
/-! statements -/
variable {st : Stmt} {rs : List Stmt} {sa sb : Sm} {aa bb : List Stmt}
theorem sd_nil : PSs X [] (LS g W sNext) := PSs_imp pss_nil fun _ _ _ q => ls_nil q
theorem sd_one (h : PS X st (LS g W sa)) : PSs X [st] (LS g W sa) := pss_one h
theorem sd_cons (h : PS X st (LS g W sa)) (h2 : PSs X rs (LS g W sb)) : PSs X (st :: rs) (LS g W (sSeq sa sb)) := PSs_imp (pss_cons h h2) fun _ _ _ q => ls_seq q
theorem sd_set {x : Str} {px : Pos} (C : Cxt X g W j) (i : Nat) (h : PE X a (LE g W ma)) (hi : X.N[i]? = some x := by rfl) (hx : Loc X.env.scope x := by first | exact Or.inl rfl | exact Or.inr rfl) (hs : swapsWith a (some (.Name x px)) pos.line X.env = pure false := by rfl)
    (hf : X.fn x = true ∨ X.env.scope.names.lookup x = some .local := by first | exact .inl rfl | exact .inr rfl | assumption) : PS X (.Assign [.Name x px] a pos) (LS g W (sSet i ma)) := PS_imp (ps_set C.nd hi hx h hs hf) fun _ _ _ q => ls_set q
theorem sd_store {x : Str} {px ps : Pos} (C : Cxt X g W j) (i : Nat) (h : PE X a (LE g W ma)) (hb : PE X b (LE g W mb)) (hN : X.N[i]? = some x := by rfl) (hv : Vis X.env.scope x := by first | exact Or.inl rfl | exact Or.inr (Or.inl rfl) | exact Or.inr (Or.inr rfl)) (hd : (x == ("__debug__" : Str)) = false := by decide) (hcd : (x == ("__classdict__" : Str)) = false := by decide)
    (hs : swapsWithSole [.Subscript (.Name x px) b ps] a pos.line X.env = pure false := by rfl) (hw : swappedStores [.Subscript (.Name x px) b ps] a X.env = pure none := by rfl) (h1 : (assignEach [.Subscript (.Name x px) b ps] X.env).map (·.2) = [assign (.Subscript (.Name x px) b ps) X.env] := by rfl)
    (has : ∀ v, assign (.Subscript (.Name x px) b ps) X.env v = (do
      let ov ← holding [v] (eval (.Name x px) X.env)
      let iv ← holding [v, ov] (eval b X.env)
      standAt ps
      holding [v, ov, iv] (setItem ov iv v)
      release [v, ov, iv] []) := by intro _; rfl) : PS X (.Assign [.Subscript (.Name x px) b ps] a pos) (LS g W (sStore i mb ma)) := PS_imp (ps_asg h (pg_sub (pe_var hN hv hd hcd) hb (set_any C.hu) has) hs hw h1) fun _ _ _ q => ls_store q
theorem sd_expr (h : PE X a (LE g W ma)) (hs : swapsWith a none pos.line X.env = pure false := by rfl) : PS X (.Expr a pos) (LS g W (sDrop ma)) := PS_imp (ps_expr h hs) fun _ _ _ q => ls_drop q
theorem sd_ret (h : PE X a (LE g W ma)) : PS X (.Return (some a) pos) (LS g W (sRet ma)) := PS_imp (ps_ret h) fun _ _ _ q => ls_ret q
theorem sd_retV (i : Nat) {x : Str} {px : Pos} (hN : X.N[i]? = some x := by rfl) (hv : Vis X.env.scope x := by first | exact Or.inl rfl | exact Or.inr (Or.inl rfl) | exact Or.inr (Or.inr rfl)) (hd : (x == ("__debug__" : Str)) = false := by decide) (hcd : (x == ("__classdict__" : Str)) = false := by decide) :
    PS X (.Return (some (.Name x px)) pos) (LS g W (sRetV i)) := PS_imp (ps_ret (pe_var hN hv hd hcd)) fun _ _ _ q => ls_retV q
theorem sd_if (hc : PT X c (LT g W mc)) (ha : PSs X aa (LS g W sa)) (hb : PSs X bb (LS g W sb)) : PS X (.If c aa bb pos) (LS g W (sIf mc sa sb)) := PS_imp (ps_if hc ha hb) fun _ _ _ q => ls_if q
/-! loops -/
variable {tge : Expr} {gr : TG} {tg : Tg}
end
end DL
namespace DL
open PySem PySem.Spec PyProof.Rows L2
/-- a def of the module as it stands behind the top: ps its parameters, dds what is taken where a call leaves the last ones out -/
def DefT (g : Gb) (mg : Str → Option Value) (x : Str) (st : Stmt) (ps : List Str) (dds : List D) : Prop :=
  ∃ (f : Addr) (fd : FuncData) (ds : List Value) (dvs : List V), DefK g.K x x st f fd ∧ mg x = some (.ref f) ∧ PySem.W.keepIn g.K (.ref f) = true ∧ Binds g.K fd ps ds ∧ Vals dvs ds ∧ ∀ S, Reps g S dds dvs
theorem cal_ok {P : Program} {w : World} {mg : Str → Option Value} {base : Heap} {g : Gb} {x : Str} {st : Stmt} {N ps : List Str} {j n k : Nat} {bor : List Bool} {m : Sm} {dds : List D} (T : DefT g mg x st ps dds) (Sc : FnScope N ps (defScope st)) (hp : ps.length = n) (hN : N.length = n + k) (hps : ps = parN (defArgs st) := by rfl)
    (hbody : ∀ (f : Addr) (cdv : Value) (A : Around) (outer : List PySem.Env) (s : Shared) (H : Hp) (E : XK), Room j (A.deeper (envOfC x (defScope st) s.heap.objs.size f cdv)) → A.guards = some [] →
      PSs (cxOf (L2.CX P w) P w g.K mg base N x (defScope st) f cdv A outer s H E) (defBody st) (LS g (WF E) m)) : Cal P w mg base g (j + 1) x n dds (mkFn n k bor m) := by
  obtain ⟨f, fd, ds, dvs, F, hm, kp, b, d, hd⟩ := T
  exact ⟨f, fd, ps, ds, dvs, def_ok F Sc hp hN fun cdv A outer s H E _ => hbody f cdv A outer s H E, hm, kp, b, d, hd, .of F hps⟩
end DL
set_option Elab.async false
set_option linter.all false
set_option maxRecDepth 100000
set_option autoImplicit false
/-! DLG: all(.. for .. in ..), the test any expression. -/
namespace DL
open PySem PySem.Spec PyProof.Rows L2 GenW
/-- a generator expression's own scope: no captured names -/
structure GScp (scope : Scope) : Prop where
  kind : scope.kind = .function
  co : scope.isCoroutine = false
  cell : ∀ y ∈ scope.names, y.2 ≠ .cell
  free : ∀ y ∈ scope.names, y.2 ≠ .free
  dot : scope.names.lookup (".0" : Str) = some NameKind.local
/-- the context of its frame -/
def gxc (X : Cx) (s : Shared) (H : Hp) (N : List Str) (cenv : Env) (fp : List Addr) (pn : List (Addr × Obj)) : Cx :=
  { X with A := X.A.in1.in1.deeper cenv, N := N, s_0 := s, H_0 := H, env := cenv, outer := X.stack, stack := cenv :: X.stack, ex := fp, fn := fun _ => false, calm := true, pn := pn, xe := fun _ _ => False }
abbrev nones (n : Nat) : L2.St := List.replicate n none
theorem nones_get {n i : Nat} {v : V} (h : (nones n)[i]? = some (some v)) : False := by
  unfold nones at h
  rw [List.getElem?_replicate] at h
  split at h <;> cases h
theorem lookup_mem {x : Str} {k : NameKind} : ∀ {l : List (Str × NameKind)}, l.lookup x = some k → (x, k) ∈ l := fun h => PySem.mem_of_lookup h
theorem gx_start {X : Cx} {pins : List (Addr × Obj)} {σ : L2.St} {H : Hp} {s : Shared} {scope : Scope} {N : List Str} {fp : List Addr} {code : Value} {h5 : Heap} {tk a : Nat} {gs : GenState} {go : Obj} {m : Str → Option Value}
    (I : Inv X pins σ H s) (hcl : X.calm = true) (S : GScp scope) (hfp : ∀ b ∈ fp, FpOk X pins H b ∧ b < s.heap.objs.size) (hns : h5.Ns s.heap.objs.size m) (kp : ∀ b o, s.heap.get? b = some o → h5.get? b = some o) (ha : a = s.heap.objs.size + 1) (hgo : h5.get? a = some go) (hgc : ∀ v, go.data ≠ .cell v) (hgb : gs.bare = true) :
    Inv (gxc X s H N (genEnv scope [] s.heap.objs.size code builtinsNs X.env) fp [(a, go)]) [] (nones N.length) H { s with gens := s.gens.push gs, toks := tk, heap := h5 } := by
  have kn : ∀ x, ((genEnv scope [] s.heap.objs.size code builtinsNs X.env).kindOf x = some .cell ∨ (genEnv scope [] s.heap.objs.size code builtinsNs X.env).kindOf x = some .free) → False := fun x h => by
    rcases h with h | h
    · exact S.cell _ (lookup_mem (l := scope.names) h) rfl
    · exact S.free _ (lookup_mem (l := scope.names) h) rfl
  refine ⟨⟨I.ok.mod, S.kind, I.ok.glob, rfl, Nat.le_refl _, fun x y c h => ?_, fun x h => (kn x h).elim, fun x c h => ?_, fun _ => I.ok.hd hcl, ?_, .inr ⟨rfl, rfl⟩, fun b hb => ⟨?_, fun x c h => ?_⟩, I.bs, Nat.le_trans I.ok.bsz I.sz, fun b o e hb => ?_, fun b hb z => ?_, I.stack, I.stkFree⟩,
    rfl, I.bare.push hgb, Un.kept kp, ⟨m, hns, fun i x v _ h _ => (nones_get h).elim⟩, fun x c h => ?_, I.hok.fresh (Nat.le_refl _), fun x c h => ?_, fun p hp => ?_, I.hok.kept kp, by simp [nones, gxc]⟩
  · cases h
  · cases h
  · exact Around.frames_deeper (A := X.A.in1.in1) I.ok.frames
  · exact Nat.ne_of_lt (hfp b hb).2
  · cases h
  · rcases (hfp b hb).1.2.2.2.1 with z | z
    · exact I.ok.noex b o e z
    · exact absurd (Nat.lt_of_lt_of_le (Heap.lt_size e) (Nat.le_trans I.ok.bsz z)) (Nat.lt_irrefl _)
  · rcases List.mem_cons.mp (I.stkSub b z) with z | z
    · exact (hfp b hb).1.2.1 z
    · exact (hfp b hb).1.2.2.1 z
  · cases h
  · cases h
  · have hp : p = (a, go) := by
      rcases List.mem_append.mp hp with z | z
      · exact List.mem_singleton.mp z
      · cases z
    subst hp
    have hlt : s.heap.objs.size ≤ a := by omega
    refine ⟨hgo, I.hok.fresh hlt, ?_, fun z => ?_, hgc⟩
    · show a ≠ s.heap.objs.size
      omega
    · rcases List.mem_cons.mp (I.stkSub a z) with z | z
      · have := I.lt
        rw [← z] at this
        exact absurd (Nat.lt_of_lt_of_le this hlt) (Nat.lt_irrefl _)
      · exact I.nofs hlt z
/-! the protocol -/
def GFin (Y : Cx) (n : Nat) (Q : VK) (b : Bool) (s : Shared) : Prop := ∃ H', Inv Y [] (nones n) H' s ∧ Q (.bl b) H'
def gxR (Y : Cx) (n : Nat) (Q : VK) : GenEnd := fun _ _ r s1 => ((r = .ok (.ret .none) ∨ r = .ok .next) ∧ GFin Y n Q true s1) ∨ ∃ e, r = .error e ∧ False
def gxY (Y : Cx) (n : Nat) (Q : VK) : Protocol := fun _ _ v s1 kap => ∃ b H', v = .bool b ∧ Inv Y [] (nones n) H' s1 ∧ (b = false → Q (.bl false) H') ∧ (b = true → ∀ s', s'.heap = s1.heap → s'.os = s1.os → AllBare s'.gens → kap (.send .none) s')
def GTurn (n : Nat) (J : It) (gr : TG) (te : TE) (Q : VK) (W : Nat → Nat → Hp → Prop) : Prop := ∀ i m H, W i m H →
  (J.stop i H ∧ Q (.bl true) H) ∨ (J.go i H ∧ ∃ Nx : Hp → Prop, (∀ H', Nx H' → ∃ m', m' < m ∧ W (i + 1) m' H') ∧ ∀ x H', J.yld i H x H' → gr x (nones n) H' fun σ2 H2 => te σ2 H2 fun y H3 => ∃ b, y = .bl b ∧ (b = true → Nx H3) ∧ (b = false → Q (.bl false) H3))
def tAllG (P : Addr) (n : Nat) (wi : TI) (gr : TG) (te : TE) : TE := fun σ H Q => wi σ H fun J H1 => GxR.TabG H1 P ∧ ∀ H2, GxR.Tabbed P H1 H2 → ∃ W : Nat → Nat → Hp → Prop, (∃ m, W 0 m H2) ∧ GTurn n J gr te Q W
theorem Inv.same {Y : Cx} {pins : List (Addr × Obj)} {σ : L2.St} {H : Hp} {s s' : Shared} (I : Inv Y pins σ H s) (h : s'.heap = s.heap) (o : s'.os = s.os) (b : AllBare s'.gens) : Inv Y pins σ H s' :=
  I.call' (ch := []) o (by rw [h]; exact Un.refl) (by rw [h]; exact I.hok) b fun b z => by simp at z
theorem Inv.kepts {Y : Cx} {pins : List (Addr × Obj)} {σ : L2.St} {H : Hp} {s s' : Shared} (I : Inv Y pins σ H s) (k : ∀ b o, s.heap.get? b = some o → s'.heap.get? b = some o) (o : s'.os = s.os) (b : AllBare s'.gens) : Inv Y pins σ H s' :=
  I.call' (ch := []) o (Un.kept k) (I.hok.kept k) b fun b z => by simp at z
theorem seg_gx {Y : Cx} {A : Around} {n : Nat} {elt tg iter : Expr} {scope : Scope} {pos : Pos} {it : Addr} {fp : List Addr} {tn : Nat → Heap → Prop} {J : It} {gr : TG} {te : TE} {Q : VK} {W : Nat → Nat → Hp → Prop}
    (hA : A.deeper Y.env = Y.A) (hex : Y.ex = fp) (hc : Y.calm = true) (hN : Y.N.length = n) (hpn : ∀ p ∈ Y.pn, p.1 ∉ fp) (hxe : Y.xe = fun _ _ => False) (hco : Y.env.scope.isCoroutine = false) (T : Turn Y.prog Y.w Y.K tg J fp it tn) (pg : PG Y tg gr) (pe : PE Y elt te) (turn : GTurn n J gr te Q W) :
    ∀ (N m i : Nat) (H : Hp) (s₀ s : Shared), m < N → W i m H → Inv Y [] (nones n) H s → tn i s.heap → (∀ b ∈ fp, H b = none) →
      Seg (model Y.prog Y.w) A (gxR Y n Q) (gxY Y n Q) N s₀ (.compLoop (.GeneratorExp elt [⟨tg, iter, [], 0⟩] scope pos) 0 (.ref it) .none Y.env) ((model Y.prog Y.w).den (.compLoop (.GeneratorExp elt [⟨tg, iter, [], 0⟩] scope pos) 0 (.ref it) .none Y.env)) [] s := by
  have hov : A.over (.compLoop (.GeneratorExp elt [⟨tg, iter, [], 0⟩] scope pos) 0 (.ref it) .none Y.env) [] = Y.A := by
    rw [← hA]
    rfl
  intro N
  induction N with
  | zero => intro m i H s₀ s h; omega
  | succ N ih =>
    intro m i H s₀ s hm w I st nf
    have fk : ∀ {σ' : L2.St} {H' : Hp} {s' : Shared}, Inv Y [] σ' H' s' → (∀ b ∈ fp, H' b = none) → ∀ b ∈ fp, FpOk Y [] H' b := fun {σ' H' s'} I' hn b hb => by
      have he := I'.ok.exf b (by rw [hex]; exact hb)
      exact ⟨hn b hb, he.1, I'.ok.exfs b (by rw [hex]; exact hb), .inl (by rw [hex]; exact hb), he.2, fun p hp z => by
        rw [List.append_nil] at hp
        exact hpn p hp (z ▸ hb)⟩
    show Seg _ A _ _ _ s₀ _ ((compTurn (.GeneratorExp elt [⟨tg, iter, [], 0⟩] scope pos) 0 (.ref it) .none Y.env).onRaise (leaving Y.env)) [] s
    rw [compTurn_gen, Sem.onRaise_eq_wrap]
    refine seg_bind_wrap (wpAny_standAt ?_)
    refine seg_bind_wrap ?_
    rw [hov]
    rcases turn i m H w with ⟨stop, qq⟩ | ⟨go, Nx, hNx, step⟩
    · refine thnF (T.done Y rfl rfl rfl hc i [] s _ H (fun _ _ => False) I (fk I nf) st stop) fun r s6 ⟨hr, I6⟩ => ?_
      subst hr
      exact seg_end (.ok .next) (.inl ⟨.inr rfl, H, I6, qq⟩)
    · refine thnF (T.item Y rfl rfl rfl hc i [] s _ H (fun _ _ => False) I (fk I nf) st go) fun r s6 ⟨u, hr, h6⟩ => ?_
      subst hr
      refine seg_bind_wrap ?_
      rw [hov]
      refine thnF h6 fun _ s7 ⟨x, H7, I7, r7, y7, st7, n7⟩ => ?_
      have I7' := I7.pinned (fk I7 n7) (T.obj _ _ st7)
      refine seg_bind_wrap ?_
      rw [hov]
      refine wpAny_mono (pg.run _ s7 _ H7 x u _ I7' r7 (step x H7 y7)) (fun _ s8 ⟨σ8, H8, I8, q8⟩ => ?_) fun _ _ e => ?_
      · refine seg_bind_wrap ?_
        rw [hov]
        refine wpAny_tests_nil ?_
        simp only [if_true]
        have hy : ∀ v, yieldOut Y.env v = yieldValue v := fun v => by simp only [yieldOut, hco, Bool.false_eq_true, if_false]
        simp only [hy]
        rw [Sem.bind_eq_wrap', Sem.bind_eq_wrap', Sem.wrap_wrap, Sem.wrap_wrap]
        refine seg_wrap ?_
        rw [hov]
        refine wpAny_mono (pe.run _ s8 σ8 H8 _ I8 q8) (fun z s10 ⟨yv, H10, I10, r10, b, eb, qt, qf⟩ => ?_) fun _ _ e => ?_
        · subst eb
          have ez : z = .bool b := r10
          subst ez
          have l10 := I10.len
          have pin' : ∀ b ∈ fp, ∀ o, s7.heap.get? b = some o → s10.heap.get? b = some o ∧ H10 b = none := fun b hb o e =>
            let z := I10.pin (b, o) (List.mem_append_right _ (List.mem_append_right _ (mem_pinsAt hb e)))
            ⟨z.1, z.2.1⟩
          have I11 : Inv Y [] (nones n) H10 s10 := (I10.unpinned (pins := [])).weak (by rw [l10, hN]; simp) fun i v e => (nones_get e).elim
          refine seg_at (seg_yield rfl rfl rfl ⟨b, H10, rfl, I11, qf, fun hb s' e1 e2 e3 => ?_⟩)
          obtain ⟨m', hm', w'⟩ := hNx _ (qt hb)
          refine seg_again rfl (ih m' (i + 1) H10 s' s' (by omega) w' (Inv.same I11 e1 e2 e3) (T.keep _ _ _ st7 fun b hb o e => by rw [e1]; exact (pin' b hb o e).1) fun b hb => ?_)
          obtain ⟨o, e, _⟩ := T.obj _ _ st7 b hb
          exact (pin' b hb o e).2
        · rw [hxe] at e
          exact e.elim
      · rw [hxe] at e
        exact e.elim
/-- the consumer's loop -/
theorem all_loopG {Y : Cx} {A : Around} {n a g : Nat} {Q : VK} {R : Result → Shared → Prop} {go : Obj} (hh : A.handled = none) (hd : A.depth < recursionLimit) (hpn : Y.pn = [(a, go)]) (hgn : ∀ h : Heap, h.get? a = some go → h.IsGen a g)
    (hQ : ∀ b s', GFin Y n Q b s' → R (.ok (.ret (.bool b))) s') : ∀ (N : Nat) (s : Shared), s.heap.IsGen a g → s.heap.NoLimit →
      (∃ gs, s.gens[g]? = some gs ∧ gs.Goes (model Y.prog Y.w) A.in1.in1 (gxR Y n Q) (gxY Y n Q) N (.send .none) (s.setGen g .running)) →
      codeAny (model Y.prog Y.w) A (.builtin "all.loop" ⟨[.ref a], []⟩) R s := by
  have gen : ∀ {pins : List (Addr × Obj)} {σ : L2.St} {H : Hp} {s : Shared}, Inv Y pins σ H s → s.heap.IsGen a g := fun {pins σ H s} I => hgn _ (I.pin (a, go) (List.mem_append_left _ (by rw [hpn]; exact List.mem_singleton.mpr rfl))).1
  have goes : ∀ {gs : GenState} {B : Around} {N : Nat} {r : Resume} {s : Shared}, gs.Goes (model Y.prog Y.w) B (gxR Y n Q) (gxY Y n Q) N r s →
      gs.Goes (model Y.prog Y.w) B (fun _ _ r s1 => ((r = .ok (.ret .none) ∨ r = .ok .next) ∧ GFin Y n Q true s1) ∨ ∃ e, r = .error e ∧ False) (gxY Y n Q) N r s := fun h => h
  have fin : ∀ {s₁ : Shared} {h' : Heap}, GFin Y n Q true s₁ → (∀ b o, s₁.heap.get? b = some o → h'.get? b = some o) → GFin Y n Q true { s₁.setGen g .finished with heap := h' } := fun {s₁ h'} ⟨H', I, q⟩ k => ⟨H', Inv.kepts I k rfl (allBare_setGen I.bare rfl), q⟩
  intro N
  induction N with
  | zero =>
    intro s hg hl ⟨gs, hgs, hgo⟩
    refine codeAny_builtin F.entry_all_loop ?_
    rw [Around.under_plainId F.plain_all_loop _]
    show wpAny _ A.in1 (pyNext (.ref a) >>= _) _ _ s
    refine wpAny_bind (next_genG (A := A.in1) (Er := fun _ _ => False) hh hl hd hg hgs (goes hgo) (fun v s₁ gs' hbare hv => ?_) (fun s₁ hp h' hk => ?_) fun e s₁ he => he.elim)
    · obtain ⟨b, H', rfl, I, qf, k⟩ := hv
      cases b with
      | true => exact (k rfl s₁ rfl rfl I.bare).elim
      | false =>
        refine wpAny_bind (wpAny_holding (wpAny_truthy_bool ?_))
        refine wpAny_bind (wpAny_letGo ?_)
        simp only [Bool.false_eq_true, if_false]
        refine wpAny_bind (wpAny_rule (wpAny_pure ?_))
        exact hQ false _ ⟨H', Inv.same I rfl rfl (allBare_setGen I.bare hbare), qf rfl⟩
    · refine wpAny_bind (wpAny_rule (wpAny_pure ?_))
      exact hQ true _ (fin hp hk)
  | succ N ih =>
    intro s hg hl ⟨gs, hgs, hgo⟩
    have hgl : g < s.gens.size := (Array.getElem?_eq_some_iff.mp hgs).1
    refine codeAny_builtin F.entry_all_loop ?_
    rw [Around.under_plainId F.plain_all_loop _]
    show wpAny _ A.in1 (pyNext (.ref a) >>= _) _ _ s
    refine wpAny_bind (wpAny_gsz (n := g + 1) hgl (next_genG (A := A.in1) (Er := fun _ _ => False) hh hl hd hg hgs (goes hgo) (fun v s₁ gs' hbare hv => ?_) (fun s₁ hp h' hk => ?_) fun e s₁ he => he.elim))
    · intro hsz
      have hsz1 : g < s₁.gens.size := by
        have q : (s₁.setGen g gs').gens.size = s₁.gens.size := setGen_size _ _ _
        have hsz' : g + 1 ≤ (s₁.setGen g gs').gens.size := hsz
        omega
      obtain ⟨b, H', rfl, I, qf, k⟩ := hv
      refine wpAny_bind (wpAny_holding (wpAny_truthy_bool ?_))
      refine wpAny_bind (wpAny_letGo ?_)
      cases b with
      | true =>
        simp only [if_true]
        refine wpAny_pure ⟨plainId_quiet F.plain_all_loop _, ih _ (show s₁.heap.IsGen a g from gen I) (show s₁.heap.NoLimit from I.nolimit) ⟨gs', setGen_at hsz1, ?_⟩⟩
        exact k rfl _ rfl rfl (allBare_setGen (s := s₁.setGen g gs') (allBare_setGen I.bare hbare) rfl)
      | false =>
        simp only [Bool.false_eq_true, if_false]
        refine wpAny_bind (wpAny_rule (wpAny_pure ?_))
        exact hQ false _ ⟨H', Inv.same I rfl rfl (allBare_setGen I.bare hbare), qf rfl⟩
    · intro hsz
      refine wpAny_bind (wpAny_rule (wpAny_pure ?_))
      exact hQ true _ (fin hp hk)
section
variable {X : Cx}
theorem clo_nil {cells : List (Str × Addr)} {scope : Scope} (S : GScp scope) : cloFrom cells scope.names [] = [] := by
  have key : ∀ (l : List (Str × NameKind)) (acc : List (Str × Addr)), (∀ y ∈ l, y.2 ≠ .free) → cloFrom cells l acc = acc := by
    intro l
    induction l with
    | nil => intro acc _; rfl
    | cons y r ih =>
      intro acc hy
      obtain ⟨x, kd⟩ := y
      unfold cloFrom
      have h1 : kd ≠ .free := hy (x, kd) List.mem_cons_self
      have h2 : (kd == NameKind.free) = false := by cases kd <;> first | rfl | exact absurd rfl h1
      simp only [h2]
      exact ih acc fun y hy' => hy y (List.mem_cons_of_mem _ hy')
  exact key _ _ S.free
/-- the generator is made -/
theorem gx_make {c P : Addr} {elt iter tg : Expr} {gpos : Pos} {scope : Scope} {N : List Str} {k : Nat} {wi : TI} {pins : List (Addr × Obj)} {σ : L2.St} {H : Hp} {s : Shared} {Q' : Value → Shared → Prop} {R : It → Hp → Prop} (hr : Room (k + 1) X.A) (hcl : X.calm = true) (TB : GxR.TabB X.base X.mg c P) (hcode : X.env.code = .ref c) (S : GScp scope)
    (hi : PI X tg iter wi) (hs : ∀ v, genFold iter X.env v = pure v) (I : Inv X pins σ H s) (h : wi σ H fun J H1 => GxR.TabG H1 P ∧ R J H1)
    (hQ : ∀ (it : Addr) (fp : List Addr) (tn : Nat → Heap → Prop) (J : It) (H1 H2 : Hp) (s4 : Shared) (code : Value) (h5 : Heap) (tk g : Nat) (go : Obj) (cenv : Env), R J H1 → GxR.Tabbed P H1 H2 → Inv X pins σ H2 s4 → Turn X.prog X.w X.K tg J fp it tn → tn 0 h5 → (∀ b ∈ fp, FpOk X pins H2 b ∧ b < s4.heap.objs.size) → cenv = genEnv scope [] s4.heap.objs.size code builtinsNs X.env →
      g = s4.gens.size → (∀ h : Heap, h.get? (s4.heap.objs.size + 1) = some go → h.IsGen (s4.heap.objs.size + 1) g) → h5.get? (s4.heap.objs.size + 1) = some go →
      Inv (gxc X s4 H2 N cenv fp [(s4.heap.objs.size + 1, go)]) [] (nones N.length) H2 { s4 with gens := s4.gens.push (.fresh (.compStart (.GeneratorExp elt [⟨tg, iter, [], 0⟩] scope gpos) 0 (.ref it) .none cenv)), toks := tk, heap := h5 } →
      Q' (.ref (s4.heap.objs.size + 1)) { s4 with gens := s4.gens.push (.fresh (.compStart (.GeneratorExp elt [⟨tg, iter, [], 0⟩] scope gpos) 0 (.ref it) .none cenv)), toks := tk, heap := h5 }) :
    wpAny (model X.prog X.w) X.A (eval (.GeneratorExp elt [⟨tg, iter, [], 0⟩] scope gpos) X.env) Q' X.xe s := by
  have hclo : closureFor scope X.env = pure [] := by
    rw [← clo_nil (cells := X.env.cells) S]
    exact closure_ok fun y hy e => absurd e (S.free y hy)
  refine wpAny_GeneratorExp_make S.co hclo S.cell S.dot S.kind (by have := hr.dp; omega) ?_ hs
  refine thn (hi.run pins s σ H _ I h) fun xv s1 hx => thn hx fun itv s2 h2 => ?_
  obtain ⟨it, fp, tn, J, H2, e, I2, T, st2, f2, ⟨ps, hP, ht⟩, q⟩ := h2
  subst e
  refine ⟨I2.nolimit, ?_⟩
  have hPs : s2.heap.get? P = some { cls := .none, data := .fields ps } := I2.hok P _ hP
  have cd : PySem.W.CodeHd s2.heap c P := TB.code.keeps I2.bk
  have cont : ∀ (code : Value) (h3 : Heap) (tk : Nat) (ps' : Array Value), Heap.ExtBut P s2.heap h3 → s2.heap.objs.size ≤ h3.objs.size → h3.get? P = some { cls := .none, data := .fields ps' } → (∃ more, ps' = ps ++ more) → TriplesOk ps'.toList →
      wpAny (model X.prog X.w) X.A (builtinsFor X.env.globals X.env.builtins) (fun bi s₄ =>
        ∀ h', h'.Ns s₄.heap.objs.size (fun y => if y = ".0" then some (.ref it) else none) → Heap.SameBut s₄.heap.objs.size (s₄.heap.push { cls := .type "frame", data := .dict #[] }) h' →
          Q' (.ref h'.objs.size) { s₄ with
            gens := s₄.gens.push (.fresh (.compStart (.GeneratorExp elt [⟨tg, iter, [], 0⟩] scope gpos) 0 (.ref it) .none (genEnv scope [] s₄.heap.objs.size code bi X.env))),
            toks := s₄.toks + 1 + 1 + 1,
            heap := h'.push { cls := .type "generator", data := .fields #[.int s₄.gens.size 0, .str "<genexpr>" (s₄.toks + 1), .str (X.env.qual ++ "<genexpr>") (s₄.toks + 1 + 1)] } }) X.xe { s2 with heap := h3, toks := tk } := by
    intro code h3 tk ps' hx hsz hP3 hmore ht3
    obtain ⟨bm, ob, e1, e2, e3, e4, e5, e6, e7, e8⟩ := TB.bm
    have keep3 : ∀ b u, b ≠ P → s2.heap.get? b = some u → h3.get? b = some u := fun b u hb e => hx b u hb e
    refine wpAny_builtinsFor (m := X.mg) (by rw [I2.ok.glob]; exact (I2.mod.glob.keeps I2.bk).extBut hx TB.gP) e1 e2 (keep3 _ _ e4 (I2.bk _ _ e5)) e6 e7 e8 ?_
    obtain ⟨more, rfl⟩ := hmore
    have J4 := GxR.inv_tab (h' := h3) (g' := s2.gens) (d' := s2.drawn) (t' := tk) I2 hP (fun b o hb e => keep3 b o hb e) hP3 I2.bare
    have sz : ∀ b ∈ fp, b < s2.heap.objs.size := fun b hb => by
      obtain ⟨o, e, _⟩ := T.obj _ _ st2 b hb
      exact Heap.lt_size e
    have nP : ∀ b ∈ fp, b ≠ P := fun b hb z => by
      have := (f2 b hb).1
      rw [z, hP] at this
      cases this
    intro h' hn' hs'
    have hsz' : h'.objs.size = h3.objs.size + 1 := by rw [hs'.1, Heap.size_push]
    have keep' : ∀ b o, h3.get? b = some o → h'.get? b = some o := fun b o e => hs'.extBut b o (Nat.ne_of_lt (Heap.lt_size e)) (Heap.get?_push_of_some _ e)
    have kg : ∀ (go : Obj) b o, h3.get? b = some o → (h'.push go).get? b = some o := fun go b o e => Heap.get?_push_of_some _ (keep' b o e)
    have hgo : ∀ go : Obj, go.isFreed = false → (h'.push go).get? (h3.objs.size + 1) = some go := fun go hz => by
      have := Heap.get?_push_size h' (o := go) hz
      rw [hsz'] at this
      exact this
    rw [hsz']
    have f4 : ∀ b ∈ fp, FpOk X pins (upd H2 P (.tbl (ps ++ more))) b ∧ b < h3.objs.size := fun b hb =>
      ⟨⟨by rw [upd_ne (nP b hb)]; exact (f2 b hb).1, (f2 b hb).2⟩, Nat.lt_of_lt_of_le (sz b hb) hsz⟩
    refine hQ it fp tn J H2 (upd H2 P (.tbl (ps ++ more))) { s2 with heap := h3, toks := tk } code _ _ s2.gens.size { cls := .type "generator", data := .fields #[.int s2.gens.size 0, .str "<genexpr>" (tk + 1), .str (X.env.qual ++ "<genexpr>") (tk + 1 + 1)] } _ q ⟨⟨ps ++ more, upd_same, ht3⟩, fun b hb => upd_ne hb⟩ J4 T
      (T.keep _ _ _ st2 fun b hb o e => kg _ b o (keep3 b o (nP b hb) e)) f4 rfl rfl (fun h e => ⟨_, _, _, e, rfl, rfl, rfl⟩) (hgo _ rfl) ?_
    exact gx_start J4 hcl S f4 (hn'.push _) (kg _) rfl (hgo _ rfl) (fun v z => by cases z) rfl
  cases hf : codeAmong gpos ps.toList with
  | none =>
    refine wpAny_genexprCodeX hcode (cd.code hPs ht) (cd.tab hPs) hf fun c' h' tk hx hge hlt hco' _ htab' _ => ?_
    obtain ⟨o1, vs, f1, tf, fl, tg, inF, tx, tt, op, _, _, _, _, _, _, _, _, _, htr, _⟩ := hco'
    exact cont _ h' tk _ hx (Nat.le_trans hge (Nat.le_of_lt hlt)) htab'.2 ⟨_, rfl⟩ htr
  | some cv =>
    refine wpAny_genexprCode_hit hcode (cd.code hPs ht) hf ?_
    exact cont cv s2.heap s2.toks ps (Heap.ExtBut.refl _ _) (Nat.le_refl _) hPs ⟨#[], by simp⟩ ht
theorem pe_allG {c P : Addr} {elt iter tg : Expr} {p pos gpos : Pos} {scope : Scope} {N : List Str} {n k : Nat} {wi : TI} {gr : TG} {te : TE} (hr : Room (k + 1) X.A) (hcl : X.calm = true) (hm : X.mg "all" = none) (TB : GxR.TabB X.base X.mg c P) (hcode : X.env.code = .ref c) (S : GScp scope) (hN : N.length = n)
    (hi : PI X tg iter wi)
    (hgr : ∀ (s : Shared) (H : Hp) (C : Addr) (code : Value) (fp : List Addr) (pn : List (Addr × Obj)), PG (gxc X s H N (genEnv scope [] C code builtinsNs X.env) fp pn) tg gr)
    (he : ∀ (s : Shared) (H : Hp) (C : Addr) (code : Value) (fp : List Addr) (pn : List (Addr × Obj)), PE (gxc X s H N (genEnv scope [] C code builtinsNs X.env) fp pn) elt te)
    (hg : Gl X "all" := by rfl) (hs : ∀ v, genFold iter X.env v = pure v := by intro _; rfl)
    (hst : starEach [.GeneratorExp elt [⟨tg, iter, [], 0⟩] scope gpos] X.env = (false, eval (.GeneratorExp elt [⟨tg, iter, [], 0⟩] scope gpos) X.env) :: starEach [] X.env := by rfl) :
    PE X (.Call (.Name "all" p) [.GeneratorExp elt [⟨tg, iter, [], 0⟩] scope gpos] [] pos) (tAllG P n wi gr te) := by
  refine ⟨fun pins s σ H Q I h => ?_⟩
  refine wpAny_Call_Name_kw (ld_blt I hg hm (by rfl) ?_)
  refine PyProof.Rows.callWith_builtin1 ?_ hst (by rfl)
  rw [hst]
  show wpAny _ _ (spliced ((false, eval (.GeneratorExp elt [⟨tg, iter, [], 0⟩] scope gpos) X.env) :: backTo pos (starEach [] X.env))) _ _ s
  refine Calls.spliced_cons (gx_make (N := N) hr hcl TB hcode S hi hs I h fun it fp tn J H1 H2 s4 code h5 tk g go cenv q htab I4 T st f4 ecv eg hgen hgo I5 => ?_)
  refine Calls.spliced_nil ?_
  obtain ⟨W, ⟨m, w⟩, turn⟩ := q H2 htab
  subst hN
  have Iall := I5
  generalize hY : gxc X s4 H2 N cenv fp [(s4.heap.objs.size + 1, go)] = Y at I5
  generalize hs5 : ({ s4 with gens := s4.gens.push (.fresh (.compStart (.GeneratorExp elt [⟨tg, iter, [], 0⟩] scope gpos) 0 (.ref it) .none cenv)), toks := tk, heap := h5 } : Shared) = s5 at I5 ⊢
  have hpn : Y.pn = [(s4.heap.objs.size + 1, go)] := by rw [← hY]; rfl
  have hg5 : s5.heap.IsGen (s4.heap.objs.size + 1) g := by rw [← hs5]; exact hgen _ hgo
  refine call_function_tree F.kind_all F.plain_all F.entry_all (F.args_all1 _) ?_
  unfold Builtin.«all»
  refine wpAny_bind (m := oneArg "all" _) (wpAny_pure ?_)
  refine wpAny_bind (wpAny_pyIter_gen hg5 ?_)
  refine wpAny_pure ⟨plainId_quiet F.plain_all_loop _, ?_⟩
  have hgs : s5.gens[g]? = some (.fresh (.compStart (.GeneratorExp elt [⟨tg, iter, [], 0⟩] scope gpos) 0 (.ref it) .none cenv)) := by
    rw [← hs5, eg]
    exact Array.getElem?_push_size ..
  have hdep : X.A.depth < recursionLimit := by have := hr.dp; omega
  have hp : model X.prog X.w = model Y.prog Y.w := by rw [← hY]; rfl
  rw [hp]
  refine all_loopG (A := X.A) (Y := Y) (n := N.length) (Q := Q) (go := go) hr.hd hdep hpn (fun h e => hgen h e) (fun b s' hf => ?_) (m + 1) s5 hg5 I5.nolimit ⟨_, hgs, rfl, ?_⟩
  · subst hY
    obtain ⟨H', I6, qq⟩ := hf
    have ex4 : ∀ b ∈ fp, (b ∈ X.ex ∨ X.s_0.heap.objs.size ≤ b) ∧ b ≠ X.env.locals ∧ (∀ x c, X.env.cells.lookup x = some c → c ≠ b) ∧ ∀ p ∈ X.pn ++ pins, p.1 ≠ b := fun b hb => ⟨(f4 b hb).1.2.2.2.1, (f4 b hb).1.2.1, (f4 b hb).1.2.2.2.2.1, (f4 b hb).1.2.2.2.2.2⟩
    have I7 : Inv X pins σ H' s' := I4.call' (ch := fp) I6.os I6.base I6.hok I6.bare ex4
    exact ⟨.bl b, H', I7, rfl, qq⟩
  · have I6 : Inv Y [] (nones N.length) H2 (s5.setGen g .running) := Inv.same I5 rfl rfl (allBare_setGen I5.bare rfl)
    have st6 : tn 0 (s5.setGen g .running).heap := by
      show tn 0 s5.heap
      rw [← hs5]; exact st
    have ecve : Y.env = cenv := by rw [← hY]; rfl
    have nf : ∀ b ∈ fp, H2 b = none := fun b hb => (f4 b hb).1.1
    have loop : Seg (model Y.prog Y.w) X.A.in1.in1 (gxR Y N.length Q) (gxY Y N.length Q) (m + 1) (s5.setGen g .running) (.compLoop (.GeneratorExp elt [⟨tg, iter, [], 0⟩] scope gpos) 0 (.ref it) .none Y.env) ((model Y.prog Y.w).den (.compLoop (.GeneratorExp elt [⟨tg, iter, [], 0⟩] scope gpos) 0 (.ref it) .none Y.env)) [] (s5.setGen g .running) := by
      refine seg_gx (A := X.A.in1.in1) (fp := fp) (tn := tn) (J := J) (gr := gr) (te := te) (W := W) ?_ ?_ ?_ ?_ ?_ ?_ ?_ ?_ ?_ ?_ turn (m + 1) m 0 H2 _ _ (Nat.lt_succ_self _) w I6 st6 nf
      · subst hY; rfl
      · subst hY; rfl
      · subst hY; rfl
      · subst hY; rfl
      · intro p hp hb
        rw [hpn] at hp
        rw [List.mem_singleton.mp hp] at hb
        have := (f4 _ hb).2
        have h9 : s4.heap.objs.size + 1 < s4.heap.objs.size := this
        omega
      · subst hY; rfl
      · subst hY; subst ecv; exact S.co
      · subst hY; exact T
      · subst hY; subst ecv; exact hgr _ _ _ _ _ _
      · subst hY; subst ecv; exact he _ _ _ _ _ _
    have st0 : ∀ (A : Around) (s : Shared) (Q : Value → Shared → Prop) (E : Value → Shared → Prop), s.heap = s5.heap → Q (.ref it) s → wpAny (model Y.prog Y.w) A (pyIter (.ref it)) Q E s := fun A s Q E hs hq => by
      rw [← hp]
      refine T.self A 0 s Q E ?_ hq
      rw [hs, ← hs5]; exact st
    rw [ecve] at loop
    show Seg _ X.A.in1.in1 _ _ _ _ _ ((compStart (.GeneratorExp elt [⟨tg, iter, [], 0⟩] scope gpos) 0 (.ref it) .none cenv).onRaise (leaving cenv)) [] _
    unfold compStart
    rw [Sem.onRaise_eq_wrap]
    show Seg _ X.A.in1.in1 _ _ _ _ _ ((ask >>= _).wrap _ _ _ _) [] _
    refine seg_bind_wrap (wpAny_askSetting ?_)
    split
    · exact seg_again rfl loop
    · refine seg_bind_wrap (wpAny_rule (seg_bind_wrap (wpAny_standAt (seg_bind_wrap (st0 _ _ _ _ rfl (seg_again rfl loop))))))
end
end DL
set_option Elab.async false
set_option linter.all false
set_option maxRecDepth 100000
set_option autoImplicit false
/-! DL7: what is walked, as lists of data; for, comprehensions, all over them. -/
namespace DL
open PySem PySem.Spec PyProof.Rows L2
section
variable {g : Gb} {W : WX} {Z : Zn} {S S' H H' : Hp} {τ τ' : List V} {θ θ' : List O} {σ : Sg} {ρ : En} {Q Q' : VK} {m ma mb mc : E} {o oi : O} {v : V} {i : Nat}
/-! a shared dict is locked for good -/
theorem St.lock {a : Addr} {kvs : List (Key × V)} {od : Obj} (st : St g Z S H τ θ σ ρ) (hs : S a = some (.dK kvs)) : ∃ S', Ex S S' ∧ St g Z S' (upd H a (.frz od (.dK kvs))) τ θ σ ρ ∧ S' a = some (.frz od (.dK kvs)) := by
  obtain ⟨A, α, h⟩ := st
  have ha : H a = some (.dK kvs) := h.bs.sub _ _ hs
  have ex : Ex S (upd S a (.frz od (.dK kvs))) := fun b u q => by
    by_cases z : b = a
    · subst z; rw [hs] at q; cases q; exact .inr ⟨kvs, od, rfl, upd_same⟩
    · exact .inl (by rw [upd_ne z]; exact q)
  have na : ∀ b, (b ∈ A ∨ ∃ i, b ∈ α i) → b ≠ a := fun b m z => by
    have := (h.own b m).1
    rw [z, hs] at this; cases this
  have kp : ∀ b, (b ∈ A ∨ ∃ i, b ∈ α i) → upd H a (.frz od (.dK kvs)) b = H b := fun b m => upd_ne (na b m)
  refine ⟨_, ex, ⟨A, α, ⟨fun b u q => ?_, h.bs.mono.trans ex, fun b h1 h2 => ?_, fun b u h1 h2 h3 => ?_, fun b u h1 => ?_, fun p m => ?_, fun p m => ?_⟩, RelOs.mono ex θ τ A (fun b m => kp b (.inl m)) h.tmp, h.len,
    fun i o hi => let ⟨v, q, r⟩ := h.slot i o hi; ⟨v, q, RelO.mono ex o v (α i) (fun b m => kp b (.inr ⟨i, m⟩)) r⟩, h.ndA, h.nd, h.dis, h.disA, fun b m => ?_, h.pin⟩, upd_same⟩
  · by_cases z : b = a
    · subst z; rw [upd_same] at q ⊢; exact q
    · rw [upd_ne z] at q ⊢; exact h.bs.sub b u q
  · by_cases z : b = a
    · exact h.bs.new b (by rw [z, hs]; simp) h2
    · rw [upd_ne z] at h1; exact h.bs.new b h1 h2
  · by_cases z : b = a
    · subst z
      rcases h.bs.frm b u h1 h2 h3 with q | ⟨_, _, _, _, q⟩
      · rw [ha] at q; cases q
        refine .inr ⟨fun z0 => ?_, kvs, od, rfl, upd_same⟩
        rcases h.bs.new b (by rw [hs]; simp) z0 with z3 | z3
        · rw [h1] at z3; cases z3
        · exact h2 z3
      · rw [ha] at q; cases q
    · rw [upd_ne z]; exact h.bs.frm b u h1 h2 h3
  · by_cases z : b = a
    · subst z; exact ⟨_, upd_same⟩
    · rw [upd_ne z]; exact h.bs.dom b u h1
  · obtain ⟨ps, e, t⟩ := (h.bs.tbl p m).ex ex
    exact ⟨ps, by rw [upd_ne fun z => by rw [z, ha] at e; cases e]; exact e, t⟩
  · rw [upd_ne fun z => by have := h.bs.tbS p m; rw [z, hs] at this; cases this]; exact h.bs.tbS p m
  · obtain ⟨q1, ⟨u, q2⟩, q3⟩ := h.own b m
    exact ⟨by rw [upd_ne (na b m)]; exact q1, ⟨u, by rw [kp b m]; exact q2⟩, q3⟩
def tLkA (td : TE) : TE := fun σ H Q => td σ H fun x H1 => ∃ d kvs, x = .ref d ∧ ((∃ o, H1 d = some (.frz o (.dK kvs)) ∧ Q x H1) ∨ (H1 d = some (.dK kvs) ∧ ∀ o, Q x (upd H1 d (.frz o (.dK kvs)))))
theorem pe_lkA {X : Cx} {e : Expr} {td : TE} (h : PE X e td) : PE X e (tLkA td) := by
  refine ⟨fun pins s σ H Q I hw => ?_⟩
  refine thn (h.run pins s σ H _ I hw) fun u s1 ⟨x, H1, I1, rx, d, kvs, ex, q⟩ => ?_
  rcases q with ⟨o, h1, q⟩ | ⟨h1, q⟩
  · exact ⟨x, H1, I1, rx, q⟩
  · obtain ⟨od, I2⟩ := I1.lock h1 trivial
    exact ⟨x, _, I2, rx, q od⟩
/-! ### what is walked -/
def PostI (g : Gb) (W : WX) (Z : Zn) (S : Hp) (τ : List V) (θ : List O) (σ : Sg) (r : R) (items : D → Option (List D)) (R : It → Hp → Prop) : Prop := match r with
  | .ok o ρ => match items o.d.view with
    | some ds => ∀ J S' H', Ex S S' → St g Z S' H' τ θ σ ρ → WkS g J S' ds → R J H'
    | none => False
  | .exc x ρ => ∀ d S' H', Ex S S' → St g Z S' H' τ θ σ ρ → ExnAt g S' H' x d → W (.ref (g.cn x.c)) (some d) σ H'
  | .stuck => False
structure IterS (g : Gb) (W : WX) (m : E) (items : D → Option (List D)) (wi : TI) : Prop where
  run : ∀ (Z : Zn) (S H : Hp) (τ : List V) (θ : List O) (σ : Sg) (ρ : En) (R : It → Hp → Prop), St g Z S H τ θ σ ρ → PostI g W Z S τ θ σ (m ρ) items R → wi σ H R
theorem le_at {o0 : O} {ρ0 : En} (st : St g Z S H τ θ σ ρ) (h : m ρ = .ok o0 ρ0) (hk : ∀ v S1 H1, Ex S S1 → St g Z S1 H1 τ θ σ ρ0 → Rep g S1 o0.d v → Q' v H1) : LE g W m σ H Q' := by
  refine ⟨Z, S, τ, θ, ρ, st, ?_⟩
  rw [h]
  intro v S1 H1 e1 st1
  obtain ⟨S2, e2, st2, r⟩ := St.pop st1
  exact hk v S2 H1 (e1.trans e2) st2 r
theorem le_exc {x : Exn} {ρ0 : En} (st : St g Z S H τ θ σ ρ) (h : m ρ = .exc x ρ0) (post : ∀ d S' H', Ex S S' → St g Z S' H' τ θ σ ρ0 → ExnAt g S' H' x d → W (.ref (g.cn x.c)) (some d) σ H') : LE g W m σ H Q' := by
  refine ⟨Z, S, τ, θ, ρ, st, ?_⟩
  rw [h]
  exact post
/-- .. that is a dict, locked from here on -/
theorem le_lock {o0 : O} {ρ0 : En} {kds : List (Key × D)} (st : St g Z S H τ θ σ ρ) (h : m ρ = .ok o0 ρ0) (hv : o0.d.view = .dct kds)
    (hk : ∀ a od kvs S1 H1, Ex S S1 → St g Z S1 H1 τ θ σ ρ0 → S1 a = some (.frz od (.dK kvs)) → RepK g S1 kds kvs → Q' (.ref a) H1) : tLkA (LE g W m) σ H Q' := by
  refine le_at st h fun v S1 H1 e1 st1 r => ?_
  have r := r.view
  rw [hv] at r
  obtain ⟨a, kvs, rfl, ha, rk⟩ := r
  refine ⟨a, kvs, rfl, ?_⟩
  rcases ha with ha | ⟨od, ha⟩
  · refine .inr ⟨st1.sub _ _ ha, fun od => ?_⟩
    obtain ⟨S2, e2, st2, h2⟩ := st1.lock (od := od) ha
    exact hk a od kvs S2 _ (e1.trans e2) st2 h2 (RepK.mono e2 _ _ rk)
  · exact .inl ⟨od, st1.sub _ _ ha, hk a od kvs S1 H1 e1 st1 ha rk⟩
def keyDD : Key → D
  | .inl i => .int i
  | .inr x => .str x
theorem rep_key {k : Key} : Rep g S (keyDD k) (kV k) := by
  cases k <;> rfl
theorem RepK.get : ∀ {kds : List (Key × D)} {kvs : List (Key × V)} {i : Nat} {p : Key × D}, RepK g S kds kvs → kds[i]? = some p → ∃ v, kvs[i]? = some (p.1, v) ∧ Rep g S p.2 v
  | [], _, i, p, _, h => by simp at h
  | (k, d) :: kds, _, 0, p, ⟨v, r, e, a, b⟩, h => by
    simp at h
    subst h e
    exact ⟨v, rfl, a⟩
  | (k, d) :: kds, _, i + 1, p, ⟨v, r, e, a, b⟩, h => by
    subst e
    obtain ⟨v', h1, h2⟩ := RepK.get (i := i) b (by simpa using h)
    exact ⟨v', by simpa using h1, h2⟩
theorem wk_keys {a : Addr} {od : Obj} {kds : List (Key × D)} {kvs : List (Key × V)} {S1 : Hp} (h : S1 a = some (.frz od (.dK kvs))) (r : RepK g S1 kds kvs) : WkS g (Itk a od kvs) S1 (kds.map fun p => keyDD p.1) where
  go := fun i d S H e1 e2 hi => by
    have q : H a = some (.frz od (.dK kvs)) := e2 _ _ (e1.at h)
    rw [List.getElem?_map] at hi
    cases h1 : kds[i]? with
    | none => rw [h1] at hi; cases hi
    | some p =>
      rw [h1] at hi; cases hi
      obtain ⟨v, h2, _⟩ := r.get h1
      refine ⟨⟨q, (List.getElem?_eq_some_iff.mp h2).1⟩, fun x H' y => ?_⟩
      obtain ⟨e, k, v', y1, y2⟩ := y
      subst e
      rw [h2] at y1; cases y1; subst y2
      exact New.same e2 rep_key
  stop := fun S H e1 e2 => ⟨e2 _ _ (e1.at h), by rw [List.length_map, r.len]; exact Nat.le_refl _⟩
theorem wk_items {a : Addr} {od : Obj} {kds : List (Key × D)} {kvs : List (Key × V)} {S1 : Hp} (h : S1 a = some (.frz od (.dK kvs))) (r : RepK g S1 kds kvs) : WkS g (Iti a od kvs) S1 (kds.map fun p => .tup [keyDD p.1, p.2]) where
  go := fun i d S H e1 e2 hi => by
    have q : H a = some (.frz od (.dK kvs)) := e2 _ _ (e1.at h)
    rw [List.getElem?_map] at hi
    cases h1 : kds[i]? with
    | none => rw [h1] at hi; cases hi
    | some p =>
      rw [h1] at hi; cases hi
      obtain ⟨v, h2, r2⟩ := r.get h1
      refine ⟨⟨q, (List.getElem?_eq_some_iff.mp h2).1⟩, fun x H' y => ?_⟩
      obtain ⟨T, k, v', y1, y2, y3, y4⟩ := y
      rw [h2] at y1; cases y1; subst y2 y4
      exact New.tup e2 ⟨_, _, rfl, rep_key, _, _, rfl, Rep.mono e1 _ _ r2, rfl⟩ y3
  stop := fun S H e1 e2 => ⟨e2 _ _ (e1.at h), by rw [List.length_map, r.len]; exact Nat.le_refl _⟩
/-! the readings -/
def iLks (K : PySem.W.Frag) (tl : TE) : TI := fun σ H R => iAny K tl σ H R ∨ iKeys (tLkA tl) σ H R
/-- what a value that is walked hands out -/
def itV : D → Option (List D)
  | .dct kds => some (kds.map fun p => keyDD p.1)
  | d => itemsD d
def itVals : D → Option (List D)
  | .dct kds => some (kds.map (·.2))
  | _ => none
def itItems : D → Option (List D)
  | .dct kds => some (kds.map fun p => .tup [keyDD p.1, p.2])
  | _ => none
theorem postI_split {r : R} {items : D → Option (List D)} {R : It → Hp → Prop} (post : PostI g W Z S τ θ σ r items R) :
    (∃ o ρ1 ds, r = .ok o ρ1 ∧ items o.d.view = some ds ∧ ∀ J S' H', Ex S S' → St g Z S' H' τ θ σ ρ1 → WkS g J S' ds → R J H') ∨
    ∃ x ρ1, r = .exc x ρ1 ∧ ∀ d S' H', Ex S S' → St g Z S' H' τ θ σ ρ1 → ExnAt g S' H' x d → W (.ref (g.cn x.c)) (some d) σ H' := by
  cases r with
  | ok o ρ1 =>
    cases h : items o.d.view with
    | none => simp only [PostI, h] at post
    | some ds => simp only [PostI, h] at post; exact .inl ⟨o, ρ1, ds, rfl, h, post⟩
  | exc x ρ1 => exact .inr ⟨x, ρ1, rfl, post⟩
  | stuck => exact post.elim
theorem it_val : IterS g W m itV (iLks g.K (LE g W m)) := by
  refine ⟨fun Z S H τ θ σ ρ R st post => ?_⟩
  rcases postI_split post with ⟨o, ρ1, ds, h, hv, k⟩ | ⟨x, ρ1, h, k⟩
  · cases hd : o.d.view with
    | lst xs =>
      rw [hd] at hv; cases hv
      refine .inl (.inl (le_at st h fun v S1 H1 e1 st1 r => ?_))
      have r := r.view
      rw [hd] at r
      obtain ⟨a, vs, rfl, ha, ra⟩ := r
      exact ⟨a, rfl, ⟨vs, .inl (.inl (st1.sub.lst ha))⟩, k _ S1 H1 e1 st1 (wk_list ha ra)⟩
    | tup xs =>
      rw [hd] at hv; cases hv
      refine .inl (.inr (.inl (le_at st h fun v S1 H1 e1 st1 r => ?_)))
      have r := r.view
      rw [hd] at r
      obtain ⟨a, vs, rfl, ha, ra⟩ := r
      exact ⟨a, rfl, ⟨vs, st1.sub.sqT ha⟩, k _ S1 H1 e1 st1 (wk_tup ha ra)⟩
    | scr ns =>
      rw [hd] at hv; cases hv
      refine .inl (.inl (le_at st h fun v S1 H1 e1 st1 r => ?_))
      have r := r.view
      rw [hd] at r
      obtain ⟨a, rfl, ha⟩ := r
      exact ⟨a, rfl, ⟨_, st1.sub.sqL ha⟩, k _ S1 H1 e1 st1 (wk_scr ha)⟩
    | str z =>
      rw [hd] at hv; cases hv
      refine .inl (.inr (.inr (le_at st h fun v S1 H1 e1 st1 r => ?_)))
      have r := r.view
      rw [hd] at r
      exact ⟨z, r, k _ S1 H1 e1 st1 wk_str⟩
    | dct kds =>
      rw [hd] at hv; cases hv
      exact .inr (le_lock st h hd fun a od kvs S1 H1 e1 st1 ha rk => ⟨a, od, rfl, .inl ⟨kvs, st1.sub _ _ ha, k _ S1 H1 e1 st1 (wk_keys ha rk)⟩⟩)
    | _ => rw [hd] at hv; cases hv
  · exact .inl (.inl (le_exc st h k))
theorem it_items : IterS g W m itItems (iItems (tLkA (LE g W m))) := by
  refine ⟨fun Z S H τ θ σ ρ R st post => ?_⟩
  rcases postI_split post with ⟨o, ρ1, ds, h, hv, k⟩ | ⟨x, ρ1, h, k⟩
  · cases hd : o.d.view with
    | dct kds =>
      rw [hd] at hv; cases hv
      exact le_lock st h hd fun a od kvs S1 H1 e1 st1 ha rk => ⟨a, od, kvs, rfl, st1.sub _ _ ha, k _ S1 H1 e1 st1 (wk_items ha rk)⟩
    | _ => rw [hd] at hv; cases hv
  · exact le_exc st h k
theorem la_one {Qa : List V → Hp → Prop} (h : LE g W m σ H fun v H1 => Qa [v] H1) : LA g W [m] σ H Qa := le_one h
def itRng : D → Option (List D)
  | .int j => if -(2 ^ 60) < j ∧ j < 2 ^ 60 then some (rangeD 0 j) else none
  | _ => none
theorem it_rng1 : IterS g W m itRng (iRng1 (LA g W [m])) := by
  refine ⟨fun Z S H τ θ σ ρ R st post => ?_⟩
  rcases postI_split post with ⟨o, ρ1, ds, h, hv, k⟩ | ⟨x, ρ1, h, k⟩
  · cases hd : o.d.view with
    | int j =>
      rw [hd] at hv
      unfold itRng at hv
      dsimp only at hv
      split at hv
      · rename_i hb
        cases hv
        refine la_one (le_at st h fun v S1 H1 e1 st1 r => ?_)
        have r := r.view
        rw [hd] at r
        refine ⟨j, by rw [show v = .int j from r], by omega, by omega, ?_⟩
        have e0 : rangeD 0 j = (List.range j.toNat).map fun (i : Nat) => D.int (0 + (i : Int)) := by
          show (List.range (j - 0).toNat).map _ = _
          rw [Int.sub_zero]
        rw [e0] at k
        exact k _ S1 H1 e1 st1 wk_range
      · cases hv
    | _ => rw [hd] at hv; cases hv
  · exact la_one (le_exc st h k)
/-! ### for -/
def sForI (items : D → Option (List D)) (m : E) (tg : Tg) (body : Sm) : Sm := fun ρ => (m ρ).toO fun o ρ1 => match items o.d.view with
  | some ds => forL tg body ds ρ1
  | none => .stuck
theorem ls_forI {gr : TG} {tg : Tg} {body : Sm} {En : Ends} {items : D → Option (List D)} {wi : TI} (it : IterS g W m items wi) (ht : TgS g gr tg) (q : LS g W (sForI items m tg body) En σ H) : tFor wi gr (LS g W body) En σ H := by
  obtain ⟨Z, S, ρ, st, post⟩ := q
  refine it.run Z S H [] [] σ ρ _ st ?_
  unfold sForI at post
  cases h : m ρ with
  | stuck => rw [h] at post; exact post.elim
  | exc x ρ1 => rw [h] at post; exact fun d S1 H1 e1 st1 xa => post d σ S1 H1 e1 st1 xa
  | ok o ρ1 =>
    rw [h] at post
    simp only [R.toO] at post
    unfold PostI
    dsimp only
    cases hi : items o.d.view with
    | none => rw [hi] at post; exact post.elim
    | some ds => rw [hi] at post; exact fun J S' H' e st' wk => for_walk wk ht st' (PostO.mono e post)
end
end DL
set_option Elab.async false
set_option linter.all false
set_option maxRecDepth 100000
set_option autoImplicit false
/-! DL8: comprehensions; all over a generator expression. -/
namespace DL
open PySem PySem.Spec PyProof.Rows L2
section
variable {g : Gb} {W : WX} {Z : Zn} {S S' H H' : Hp} {τ τ' : List V} {θ θ' : List O} {σ σ' : Sg} {ρ : En} {Q Q' : VK} {m ma mb mc : E} {o oi : O} {v : V} {i : Nat}
def wipeE (ρ : En) : List Nat → En
  | [] => ρ
  | v :: vs => (wipeE ρ vs).set v .no
theorem wipeE_len (ρ : En) : ∀ vs : List Nat, (wipeE ρ vs).length = ρ.length
  | [] => rfl
  | v :: vs => by unfold wipeE; rw [List.length_set, wipeE_len ρ vs]
theorem wipeE_get {s : Sl} (hs : s ≠ .no) : ∀ {vs : List Nat} {i : Nat}, (wipeE ρ vs)[i]? = some s → ρ[i]? = some s ∧ i ∉ vs
  | [], i, h => ⟨h, List.not_mem_nil⟩
  | v :: vs, i, h => by
    unfold wipeE at h
    by_cases hi : v = i
    · subst hi
      by_cases hv : v < (wipeE ρ vs).length
      · rw [List.getElem?_set_self hv] at h; cases h; exact absurd rfl hs
      · rw [List.getElem?_eq_none (by simpa using hv)] at h; cases h
    · rw [List.getElem?_set_ne hi] at h
      obtain ⟨h1, h2⟩ := wipeE_get hs h
      exact ⟨h1, fun m => by rcases List.mem_cons.mp m with z | z; exact hi z.symm; exact h2 z⟩
theorem wipe_get {σ : Sg} : ∀ {vs : List Nat} {i : Nat}, i ∉ vs → (wipe σ vs)[i]? = σ[i]?
  | [], i, _ => rfl
  | v :: vs, i, h => by
    unfold wipe
    rw [List.getElem?_set_ne (fun z => h (by rw [z]; exact List.mem_cons_self)), wipe_get fun m => h (List.mem_cons_of_mem _ m)]
/-- the slots vs are let go of -/
theorem St.wipe {vs : List Nat} (st : St g Z S H τ θ σ ρ) (hl : σ'.length = σ.length) (hk : ∀ i, i ∉ vs → σ'[i]? = σ[i]?) : St g Z S H τ θ σ' (wipeE ρ vs) := by
  obtain ⟨A, α, h⟩ := st
  refine ⟨A, α, h.bs, h.tmp, by rw [wipeE_len, hl]; exact h.len, fun i o hi => ?_, h.ndA, h.nd, h.dis, h.disA, h.own, fun i o hi => ?_⟩
  · rcases hi with hi | hi
    · obtain ⟨h1, h2⟩ := wipeE_get (by simp) hi
      rw [hk i h2]; exact h.slot i o (.inl h1)
    · obtain ⟨h1, h2⟩ := wipeE_get (by simp) hi
      rw [hk i h2]; exact h.slot i o (.inr h1)
  · obtain ⟨h1, h2⟩ := wipeE_get (by simp) hi
    rw [hk i h2]; exact h.pin i o h1
/-- the object at l, held by the last temps, changes; what they held may go into it -/
theorem Hold.mutT {A A1 A2 An : List Addr} {α : Nat → List Addr} {τn : List V} {θn : List O} {l : Addr} {u : HO} (h : Hold g Z S H (τ ++ τ') (θ ++ θ') σ ρ A α) (eA : A = A1 ++ A2) (r1 : RelOs g S H θ τ A1) (hl : l ∈ A2) (rn : RelOs g S (upd H l u) θn τn An) (nd : An.Nodup) (hA : ∀ a ∈ An, a ∈ A2) :
    St g Z S (upd H l u) (τ ++ τn) (θ ++ θn) σ ρ := by
  subst eA
  obtain ⟨n1, n2, n3⟩ := List.nodup_append.mp h.ndA
  have hlo := h.own l (.inl (List.mem_append_right _ hl))
  have k : ∀ a, a ≠ l → upd H l u a = H a := fun a z => upd_ne z
  have h1l : ∀ a ∈ A1, a ≠ l := fun a m z => n3 a m l hl z
  have hil : ∀ j, ∀ a ∈ α j, a ≠ l := fun j a m z => h.disA j a m (by rw [z]; exact List.mem_append_right _ hl)
  refine ⟨A1 ++ An, α, ⟨fun a u' q => ?_, h.bs.mono, h.bs.new, fun a u' h1 h2 h3 => ?_, fun a u' h1 => ?_, fun p m => ?_, h.bs.tbS⟩,
    (RelOs.mono (Ex.refl _) θ τ A1 (fun a m => k a (h1l a m)) r1).append rn, h.len, fun j o hj => ?_, List.nodup_append.mpr ⟨n1, nd, fun a m b m2 z => n3 a m b (hA b m2) z⟩, h.nd, h.dis, fun j a m m2 => ?_, fun a m => ?_, h.pin⟩
  · rw [k a fun z => by rw [z, hlo.1] at q; cases q]
    exact h.bs.sub a u' q
  · rw [k a fun z => by
      subst z
      rcases hlo.2.2.1 with q | q
      · exact h2 q
      · rw [h1] at q; cases q]
    exact h.bs.frm a u' h1 h2 h3
  · by_cases z : a = l
    · subst z; exact ⟨_, upd_same⟩
    · obtain ⟨u2, q⟩ := h.bs.dom a u' h1; exact ⟨u2, by rw [k a z]; exact q⟩
  · obtain ⟨ps, q1, q2⟩ := h.bs.tbl p m
    exact ⟨ps, by rw [k p fun z => hlo.2.2.2 (z ▸ m)]; exact q1, q2⟩
  · obtain ⟨v', q, r'⟩ := h.slot j o hj
    exact ⟨v', q, RelO.mono (Ex.refl _) o v' (α j) (fun a m => k a (hil j a m)) r'⟩
  · rcases List.mem_append.mp m2 with z | z
    · exact h.disA j a m (List.mem_append_left _ z)
    · exact h.disA j a m (List.mem_append_right _ (hA a z))
  · have m' : (a ∈ A1 ++ A2 ∨ ∃ j, a ∈ α j) := by
      rcases m with m | m
      · rcases List.mem_append.mp m with m | m
        · exact .inl (List.mem_append_left _ m)
        · exact .inl (List.mem_append_right _ (hA a m))
      · exact .inr m
    obtain ⟨q1, ⟨u2, q2⟩, q3⟩ := h.own a m'
    refine ⟨q1, ?_, q3⟩
    by_cases z : a = l
    · subst z; exact ⟨_, upd_same⟩
    · exact ⟨u2, by rw [k a z]; exact q2⟩
theorem rel1 {L : Addr} {os : List O} {A : List Addr} (r : RelO g S H (.lst os) (.ref L) A) : ∃ acc A', H L = some (.lst acc) ∧ A = L :: A' ∧ RelOs g S H os acc A' := by
  obtain ⟨l, vs, A', e, q, eA, r'⟩ := r
  cases e
  exact ⟨vs, A', q, eA, r'⟩
/-- the last temp goes into the list ahead of it -/
theorem St.appT {L : Addr} {os : List O} {oy : O} {y : V} (st : St g Z S H ((τ ++ [.ref L]) ++ [y]) ((θ ++ [.lst os]) ++ [oy]) σ ρ) : ∃ acc, H L = some (.lst acc) ∧ acc.length = os.length ∧ St g Z S (upd H L (.lst (acc ++ [y]))) (τ ++ [.ref L]) (θ ++ [.lst (os ++ [oy])]) σ ρ := by
  have tl := st.tlen
  obtain ⟨A, α, h⟩ := st
  have h : Hold g Z S H (τ ++ ([.ref L] ++ [y])) (θ ++ ([.lst os] ++ [oy])) σ ρ A α := by rw [← List.append_assoc, ← List.append_assoc]; exact h
  obtain ⟨A1, A2, eA, r1, r2⟩ := h.tmp.split (by simp at tl; omega)
  obtain ⟨A3, A4, eA2, r3, r4⟩ := RelOs.split (by rfl) r2
  have r3 := r3.oneInv
  have r4 := r4.oneInv
  obtain ⟨acc, A', hL, e3, r5⟩ := rel1 r3
  have nd2 : A2.Nodup := by have := h.ndA; rw [eA] at this; exact (List.nodup_append.mp this).2.1
  rw [eA2, e3] at nd2
  have nd2' : (L :: (A' ++ A4)).Nodup := by simpa using nd2
  obtain ⟨nL, nd3⟩ := List.nodup_cons.mp nd2'
  have kk : ∀ a, a ∈ A' ∨ a ∈ A4 → upd H L (.lst (acc ++ [y])) a = H a := fun a m => upd_ne fun z => nL (by rw [← z]; exact List.mem_append.mpr m)
  refine ⟨acc, hL, r5.len, ?_⟩
  refine h.mutT (An := L :: (A' ++ A4)) eA r1 (by rw [eA2, e3]; simp) ?_ nd2' (fun a m => by rw [eA2, e3]; simpa using m)
  refine RelOs.one ⟨L, _, _, rfl, upd_same, rfl, ?_⟩
  exact (RelOs.mono (Ex.refl _) os acc A' (fun a m => kk a (.inl m)) r5).append (RelOs.one (RelO.mono (Ex.refl _) oy y A4 (fun a m => kk a (.inr m)) r4))
/-! list comprehensions -/
abbrev W0x : WX := fun _ _ _ _ => False
def lcL (vs : List Nat) (tg : Tg) (mt : Option E) (me : E) : List D → List O → En → Option (List O × En)
  | [], acc, ρ => some (acc, ρ)
  | d :: ds, acc, ρ => match tg d ρ with
    | none => none
    | some ρ1 => match mt with
      | none => match me ρ1 with
        | .ok o ρ2 => lcL vs tg mt me ds (acc ++ [o]) (wipeE ρ2 vs)
        | _ => none
      | some t => match t ρ1 with
        | .ok (.sh (.bl true)) ρ2 => match me ρ2 with
          | .ok o ρ3 => lcL vs tg mt me ds (acc ++ [o]) (wipeE ρ3 vs)
          | _ => none
        | .ok (.sh (.bl false)) ρ2 => lcL vs tg mt me ds acc (wipeE ρ2 vs)
        | _ => none
def eLc (vs : List Nat) (items : D → Option (List D)) (m : E) (tg : Tg) (mt : Option E) (me : E) : E := fun ρ => (m ρ).bind fun o ρ1 => match items o.d.view with
  | some ds => if ds.length ≤ 1000000 then match lcL vs tg mt me ds [] (wipeE ρ1 vs) with
    | some (os, ρ2) => .ok (.lst os) ρ2
    | none => .stuck else .stuck
  | none => .stuck
/-- a target that sets no other slots than vs -/
structure TgV (g : Gb) (gr : TG) (tg : Tg) (vs : List Nat) : Prop where
  run : ∀ Z S H τ θ σ ρ (d : D) v ρ1 (Q : L2.St → Hp → Prop), St g Z S H τ θ σ ρ → Rep g S d v → tg d ρ = some ρ1 → (∀ σ', (wipe σ' vs = wipe σ vs) → St g Z S H τ θ σ' ρ1 → Q σ' H) → gr v σ H Q
def ttO (g : Gb) : Option E → TT
  | none => tYes
  | some t => LT g W0x t
/-- the turns of a list comprehension -/
def LcP (g : Gb) (Z : Zn) (S1 : Hp) (τ : List V) (θ : List O) (σ : Sg) (vs : List Nat) (tg : Tg) (mt : Option E) (me : E) (ds : List D) (L : Addr) (Q : VK) (i : Nat) : Hp → Prop := fun H => ∃ S ρ acc os ρ', Ex S1 S ∧ St g Z S H (τ ++ [.ref L]) (θ ++ [.lst acc]) (L2.wipe σ vs) (wipeE ρ vs) ∧
  acc.length ≤ i ∧ lcL vs tg mt me (ds.drop i) acc (wipeE ρ vs) = some (os, ρ') ∧ ∀ S' H', Ex S S' → St g Z S' H' (τ ++ [.ref L]) (θ ++ [.lst os]) σ ρ' → Q (.ref L) H'
theorem wipe_unwipe {vs : List Nat} (st : St g Z S H τ θ (wipe σ vs) (wipeE ρ vs)) : St g Z S H τ θ σ (wipeE ρ vs) := by
  obtain ⟨A, α, h⟩ := st
  have hl := h.len
  rw [wipe_length] at hl
  refine ⟨A, α, h.bs, h.tmp, hl, fun i o hi => ?_, h.ndA, h.nd, h.dis, h.disA, h.own, fun i o hi => ?_⟩
  · have hn : i ∉ vs := by rcases hi with hi | hi <;> exact (wipeE_get (by simp) hi).2
    rw [← wipe_get (σ := σ) hn]; exact h.slot i o hi
  · have hn : i ∉ vs := (wipeE_get (by simp) hi).2
    rw [← wipe_get (σ := σ) hn]; exact h.pin i o hi
theorem wipe_idem {σ : Sg} : ∀ {vs : List Nat} {i : Nat}, i ∈ vs → i < σ.length → (wipe σ vs)[i]? = some none
  | [], i, h, _ => by cases h
  | v :: vs, i, h, hl => by
    unfold wipe
    by_cases z : v = i
    · subst z; rw [List.getElem?_set_self (by rw [wipe_length]; exact hl)]
    · rw [List.getElem?_set_ne z]
      rcases List.mem_cons.mp h with q | q
      · exact absurd q.symm z
      · exact wipe_idem q hl
theorem wipe_wipe {σ : Sg} {vs : List Nat} : wipe (wipe σ vs) vs = wipe σ vs := by
  refine List.ext_getElem? fun i => ?_
  by_cases h : i ∈ vs
  · by_cases hl : i < σ.length
    · rw [wipe_idem h (by rw [wipe_length]; exact hl), wipe_idem h hl]
    · rw [List.getElem?_eq_none (by rw [wipe_length, wipe_length]; omega), List.getElem?_eq_none (by rw [wipe_length]; omega)]
  · rw [wipe_get h]
theorem le_lc {vs : List Nat} {items : D → Option (List D)} {wi : TI} {gr : TG} {tg : Tg} {mt : Option E} {me : E} (it : IterS g W m items wi) (ht : TgV g gr tg vs) (q : LE g W (eLc vs items m tg mt me) σ H Q) : tLc wi gr (ttO g mt) (LE g W0x me) vs σ H Q := by
  obtain ⟨Z, S0, τ, θ, ρ0, st0, post⟩ := q
  refine it.run Z S0 H τ θ σ ρ0 _ st0 ?_
  unfold eLc at post
  cases h : m ρ0 with
  | stuck => rw [h] at post; exact post.elim
  | exc x ρ1 => rw [h] at post; exact post
  | ok o ρ1 =>
    rw [h] at post
    simp only [R.bind] at post
    unfold PostI
    dsimp only
    cases hi : items o.d.view with
    | none => rw [hi] at post; exact post.elim
    | some ds =>
      rw [hi] at post
      dsimp only at post ⊢
      split at post
      · rename_i hlen
        cases hlc : lcL vs tg mt me ds [] (wipeE ρ1 vs) with
        | none => rw [hlc] at post; exact post.elim
        | some p =>
          obtain ⟨os, ρ'⟩ := p
          rw [hlc] at post
          intro J S1 H1 e01 st1 wk L hL
          obtain ⟨S2, e12, st2⟩ := st1.push (New.lst (ds := []) (vs := []) st1.sub rfl hL)
          have st2 : St g Z S2 (upd H1 L (.lst [])) (τ ++ [.ref L]) (θ ++ [.lst []]) σ ρ1 := st2
          refine ⟨fun i m H => m = ds.length - i ∧ i ≤ ds.length ∧ LcP g Z S2 τ θ σ vs tg mt me ds L Q i H, ⟨ds.length, by simp, Nat.zero_le _, S2, ρ1, [], os, ρ', Ex.refl _, ?_, Nat.le_refl _, by rw [List.drop_zero]; exact hlc, fun S' H' e st' => post _ S' H' ((e01.trans e12).trans e) st'⟩, ?_⟩
          · exact St.wipe st2 (wipe_length _ _) fun i hi => wipe_get hi
          rintro i m H ⟨rfl, hile, S, ρ, acc, os, ρ', e, st, hacc, hl, k⟩
          by_cases hlt : i < ds.length
          · have hd : ds[i]? = some ds[i] := List.getElem?_eq_getElem hlt
            obtain ⟨g1, g2⟩ := wk.go i ds[i] S H (e12.trans e) st.sub hd
            refine .inr ⟨g1, LcP g Z S2 τ θ σ vs tg mt me ds L Q (i + 1), fun H' p' => ⟨ds.length - (i + 1), by omega, rfl, hlt, p'⟩, fun x H' y => ?_⟩
            obtain ⟨S3, e3, st3⟩ := st.push (g2 x H' y)
            obtain ⟨S4, e4, st4, r4⟩ := St.pop st3
            have e34 := e3.trans e4
            rw [List.drop_eq_getElem_cons hlt] at hl
            unfold lcL at hl
            cases htg : tg ds[i] (wipeE ρ vs) with
            | none => rw [htg] at hl; cases hl
            | some ρ5 =>
              rw [htg] at hl
              dsimp only at hl
              refine ht.run Z S4 H' _ _ _ _ ds[i] x ρ5 _ st4 r4 htg fun σ5 w5 st5 => ?_
              rw [wipe_wipe] at w5
              have l5 : σ5.length = σ.length := by
                have := congrArg List.length w5
                rw [wipe_length, wipe_length] at this; exact this
              have w5' : ∀ j, j ∉ vs → σ5[j]? = σ[j]? := fun j hj => by
                have q : (wipe σ5 vs)[j]? = (wipe σ vs)[j]? := by rw [w5]
                rw [wipe_get hj, wipe_get hj] at q
                exact q
              refine ⟨w5, ?_⟩
              -- the turn's end
              have back : ∀ {S6 : Hp} {H6 : Hp} {ρ6 : En} {acc6 : List O}, Ex S4 S6 → St g Z S6 H6 (τ ++ [.ref L]) (θ ++ [.lst acc6]) σ5 ρ6 → acc6.length ≤ i + 1 → lcL vs tg mt me (ds.drop (i + 1)) acc6 (wipeE ρ6 vs) = some (os, ρ') → LcP g Z S2 τ θ σ vs tg mt me ds L Q (i + 1) H6 := fun {S6 H6 ρ6 acc6} e6 st6 ha h6 =>
                ⟨S6, ρ6, acc6, os, ρ', (e.trans e34).trans e6, St.wipe st6 (by rw [wipe_length, l5]) fun j hj => by rw [wipe_get hj, w5' j hj], ha, h6, fun S' H' e' st' => k S' H' ((e34.trans e6).trans e') st'⟩
              have elt : ∀ {S6 : Hp} {H6 : Hp} {ρ6 : En} {o7 : O} {ρ7 : En}, Ex S4 S6 → St g Z S6 H6 (τ ++ [.ref L]) (θ ++ [.lst acc]) σ5 ρ6 → me ρ6 = .ok o7 ρ7 → lcL vs tg mt me (ds.drop (i + 1)) (acc ++ [o7]) (wipeE ρ7 vs) = some (os, ρ') →
                  LE g W0x me σ5 H6 fun y H4 => ∃ acc, H4 L = some (.lst acc) ∧ acc.length < sizeLine ∧ LcP g Z S2 τ θ σ vs tg mt me ds L Q (i + 1) (upd H4 L (.lst (acc ++ [y]))) := fun {S6 H6 ρ6 o7 ρ7} e6 st6 hme h7 => by
                refine ⟨Z, S6, _, _, ρ6, st6, ?_⟩
                rw [hme]
                intro v7 S7 H7 e7 st7
                obtain ⟨accv, hL7, hlen7, st8⟩ := st7.appT
                refine ⟨accv, hL7, Nat.lt_of_lt_of_le (by omega : accv.length < 1000000) (show 1000000 ≤ sizeLine by decide), back (e6.trans e7) st8 (by simp; omega) h7⟩
              cases mt with
              | none =>
                dsimp only at hl
                dsimp only [ttO, tYes]
                rw [if_pos rfl]
                split at hl
                · rename_i o7 ρ7 hme
                  exact elt (Ex.refl _) st5 hme hl
                · cases hl
              | some t =>
                dsimp only at hl
                refine ⟨Z, S4, _, _, ρ5, st5, ?_⟩
                split at hl
                · rename_i ρ6 ht6
                  rw [ht6]
                  intro v6 S6 H6 e6 st6
                  obtain ⟨S7, e7, st7, r7⟩ := St.pop st6
                  refine ⟨true, r7, iteT ?_⟩
                  split at hl
                  · rename_i o7 ρ7 hme
                    exact elt (e6.trans e7) st7 hme hl
                  · cases hl
                · rename_i ρ6 ht6
                  rw [ht6]
                  intro v6 S6 H6 e6 st6
                  obtain ⟨S7, e7, st7, r7⟩ := St.pop st6
                  exact ⟨false, r7, iteF (back (e6.trans e7) st7 (by omega) hl)⟩
                · cases hl
          · have e0 : i = ds.length := by omega
            subst e0
            rw [List.drop_of_length_le (Nat.le_refl _)] at hl
            cases hl
            exact .inl ⟨wk.stop S H (e12.trans e) st.sub, k S H (Ex.refl _) (wipe_unwipe st)⟩
      · exact post.elim
/-! targets -/
theorem wipe_set {σ : Sg} {x : Option V} {vs : List Nat} {i : Nat} (h : i ∈ vs) : wipe (σ.set i x) vs = wipe σ vs := by
  refine List.ext_getElem? fun j => ?_
  by_cases hj : j ∈ vs
  · by_cases hl : j < σ.length
    · rw [wipe_idem hj (by rw [List.length_set]; exact hl), wipe_idem hj hl]
    · rw [List.getElem?_eq_none (by rw [wipe_length, List.length_set]; omega), List.getElem?_eq_none (by rw [wipe_length]; omega)]
  · rw [wipe_get hj, wipe_get hj, List.getElem?_set_ne (fun z => hj (by rw [← z]; exact h))]
theorem St.hold {d : D} (st : St g Z S H τ θ σ ρ) (r : Rep g S d v) : St g Z S H (τ ++ [v]) (θ ++ [.sh d]) σ ρ := by
  obtain ⟨A, α, h⟩ := st
  exact ⟨A, α, h.bs, by have := h.tmp.append (RelOs.one (g := g) (S := S) (H := H) (o := .sh d) (v := v) (A := []) ⟨rfl, r⟩); rwa [List.append_nil] at this, h.len, h.slot, h.ndA, h.nd, h.dis, h.disA, h.own, h.pin⟩
theorem tgv_name {vs : List Nat} (hi : i ∈ vs) : TgV g (gName i) (tgN i) vs := by
  refine ⟨fun Z S H τ θ σ ρ d v ρ1 Q st r h k => ?_⟩
  unfold tgN En.set1 at h
  refine k _ (wipe_set hi) ?_
  have st2 := st.hold r
  cases q : ρ[i]? with
  | none => rw [q] at h; cases h
  | some s =>
    rw [q] at h
    have il := (List.getElem?_eq_some_iff.mp q).1
    cases s with
    | b o => cases h
    | no => cases h; exact St.store st2 il fun o' z => by rw [q] at z; cases z
    | v o => cases h; exact St.store st2 il fun o' z => by rw [q] at z; cases z
abbrev Tgs := List D → En → Option En
def tgNil : Tgs := fun ds ρ => match ds with
  | [] => some ρ
  | _ => none
def tgCons (t : Tg) (ts : Tgs) : Tgs := fun ds ρ => match ds with
  | d :: ds => (t d ρ).bind fun ρ1 => ts ds ρ1
  | [] => none
def tgTup (n : Nat) (ts : Tgs) : Tg := fun d ρ => match d.view with
  | .tup ds => if ds.length = n then ts ds ρ else none
  | .lst ds => if ds.length = n then ts ds ρ else none
  | _ => none
structure TgsV (g : Gb) (gr : TGs) (ts : Tgs) (vs : List Nat) : Prop where
  run : ∀ Z S H τ θ σ ρ (ds : List D) xs ρ1 (Q : L2.St → Hp → Prop), St g Z S H τ θ σ ρ → Reps g S ds xs → ts ds ρ = some ρ1 → (∀ σ', (wipe σ' vs = wipe σ vs) → St g Z S H τ θ σ' ρ1 → Q σ' H) → gr xs σ H Q
theorem tgv_nil {vs : List Nat} : TgsV g gNil tgNil vs := by
  refine ⟨fun Z S H τ θ σ ρ ds xs ρ1 Q st r h k => ?_⟩
  cases ds with
  | nil => cases h; exact ⟨r, k σ rfl st⟩
  | cons d ds => cases h
theorem tgv_cons {gr : TG} {grs : TGs} {t : Tg} {ts : Tgs} {vs : List Nat} (h1 : TgV g gr t vs) (h2 : TgsV g grs ts vs) : TgsV g (gCons gr grs) (tgCons t ts) vs := by
  refine ⟨fun Z S H τ θ σ ρ ds xs ρ1 Q st r h k => ?_⟩
  cases ds with
  | nil => cases h
  | cons d ds =>
    obtain ⟨v, rr, e, a, b⟩ := r
    subst e
    unfold tgCons at h
    dsimp only at h
    cases q : t d ρ with
    | none => rw [q] at h; cases h
    | some ρ2 =>
      rw [q] at h
      refine ⟨v, rr, rfl, h1.run Z S H τ θ σ ρ d v ρ2 _ st a q fun σ1 w1 st1 => ?_⟩
      exact h2.run Z S H τ θ σ1 ρ2 ds rr ρ1 _ st1 b h fun σ2 w2 st2 => k σ2 (w2.trans w1) st2
def gSeq (K : PySem.W.Frag) (n : Nat) (t : TGs) : TG := fun v σ H Q => gTup K n t v σ H Q ∨ gUnl K n t v σ H Q
theorem pg_seq {X : Cx} {es : List Expr} {k : Nat} {t : TGs} {n : Nat} {pos : Pos} (hc : X.calm = true) (h : PGs X es t) (hn : (assignEach es X.env).length = n) (hst : (assignEach es X.env).findIdx? (·.1) = none) : PG X (.Tuple es k pos) (gSeq X.K n t) :=
  ⟨fun pins s σ H v u Q I r hw => hw.elim ((pg_tup hc h hn hst).run pins s σ H v u Q I r) ((pg_unl hc h hn hst).run pins s σ H v u Q I r)⟩
theorem tgv_tup {grs : TGs} {ts : Tgs} {n : Nat} {vs : List Nat} (h2 : TgsV g grs ts vs) : TgV g (gSeq g.K n grs) (tgTup n ts) vs := by
  refine ⟨fun Z S H τ θ σ ρ d v ρ1 Q st r h k => ?_⟩
  have r := r.view
  unfold tgTup at h
  cases hd : d.view with
  | tup ds =>
    rw [hd] at h r
    obtain ⟨a, xs, rfl, ha, ra⟩ := r
    dsimp only at h
    split at h
    · rename_i hl
      exact .inl ⟨a, xs, rfl, st.sub.sqT ha, by rw [ra.len]; exact hl, h2.run Z S H τ θ σ ρ ds xs ρ1 _ st ra h k⟩
    · cases h
  | lst ds =>
    rw [hd] at h r
    obtain ⟨a, xs, rfl, ha, ra⟩ := r
    dsimp only at h
    split at h
    · rename_i hl
      exact .inr ⟨a, xs, rfl, .inl (.inl (st.sub.lst ha)), by rw [ra.len]; exact hl, h2.run Z S H τ θ σ ρ ds xs ρ1 _ st ra h k⟩
    · cases h
  | _ => rw [hd] at h; cases h
theorem TgV.s {gr : TG} {tg : Tg} {vs : List Nat} (h : TgV g gr tg vs) : TgS g gr tg := fun Z S H σ ρ d v ρ1 Q st r e k => h.run Z S H [] [] σ ρ d v ρ1 Q st r e fun σ' _ st' => k σ' st'
/-! dict comprehensions -/
def putD {α : Type} (kvs : List (Key × α)) (k : Key) (v : α) : List (Key × α) :=
  if (kvs.any fun kv => decide (kv.1 = k)) = true then kvs.map (fun kv => if kv.1 = k then (kv.1, v) else kv) else kvs ++ [(k, v)]
def dcL (vs : List Nat) (tg : Tg) (mt : Option E) (mk me : E) : List D → List (Key × D) → En → Option (List (Key × D) × En)
  | [], acc, ρ => some (acc, ρ)
  | d :: ds, acc, ρ => match tg d ρ with
    | none => none
    | some ρ1 => match (match mt with
        | none => some (true, ρ1)
        | some t => match t ρ1 with
          | .ok (.sh (.bl b)) ρ2 => some (b, ρ2)
          | _ => none) with
      | none => none
      | some (false, ρ2) => dcL vs tg mt mk me ds acc (wipeE ρ2 vs)
      | some (true, ρ2) => match mk ρ2 with
        | .ok ok ρ3 => match keyD ok.d.view, me ρ3 with
          | some k, .ok o ρ4 => dcL vs tg mt mk me ds (putD acc k o.d) (wipeE ρ4 vs)
          | _, _ => none
        | _ => none
def eDc (vs : List Nat) (items : D → Option (List D)) (m : E) (tg : Tg) (mt : Option E) (mk me : E) : E := fun ρ => (m ρ).bind fun o ρ1 => match items o.d.view with
  | some ds => if ds.length ≤ 1000000 then match dcL vs tg mt mk me ds [] (wipeE ρ1 vs) with
    | some (kds, ρ2) => .ok (.dct (kds.map fun p => (p.1, .sh p.2))) ρ2
    | none => .stuck else .stuck
  | none => .stuck
theorem RepK.put : ∀ {kds : List (Key × D)} {kvs : List (Key × V)} {k : Key} {d : D} {v : V}, RepK g S kds kvs → Rep g S d v → RepK g S (putD kds k d) (putK kvs k v) := by
  have hany : ∀ {kds : List (Key × D)} {kvs : List (Key × V)} (k : Key), RepK g S kds kvs → (kds.any fun kv => decide (kv.1 = k)) = (kvs.any fun kv => decide (kv.1 = k)) := by
    intro kds
    induction kds with
    | nil => intro kvs k r; rw [show kvs = [] from r]; rfl
    | cons p kds ih =>
      intro kvs k r
      obtain ⟨k0, d0⟩ := p
      obtain ⟨v0, rr, e, a, b⟩ := r
      subst e
      simp only [List.any_cons]
      rw [ih k b]
  have hmap : ∀ {kds : List (Key × D)} {kvs : List (Key × V)} {k : Key} {d : D} {v : V}, RepK g S kds kvs → Rep g S d v → RepK g S (kds.map fun kv => if kv.1 = k then (kv.1, d) else kv) (kvs.map fun kv => if kv.1 = k then (kv.1, v) else kv) := by
    intro kds
    induction kds with
    | nil => intro kvs k d v r rd; rw [show kvs = [] from r]; exact rfl
    | cons p kds ih =>
      intro kvs k d v r rd
      obtain ⟨k0, d0⟩ := p
      obtain ⟨v0, rr, e, a, b⟩ := r
      subst e
      simp only [List.map_cons]
      by_cases z : k0 = k
      · simp only [z, if_true]
        exact ⟨v, _, rfl, rd, ih b rd⟩
      · simp only [z, if_false]
        exact ⟨v0, _, rfl, a, ih b rd⟩
  have happ : ∀ {kds : List (Key × D)} {kvs : List (Key × V)} {k : Key} {d : D} {v : V}, RepK g S kds kvs → Rep g S d v → RepK g S (kds ++ [(k, d)]) (kvs ++ [(k, v)]) := by
    intro kds
    induction kds with
    | nil => intro kvs k d v r rd; rw [show kvs = [] from r]; exact ⟨v, [], rfl, rd, rfl⟩
    | cons p kds ih =>
      intro kvs k d v r rd
      obtain ⟨k0, d0⟩ := p
      obtain ⟨v0, rr, e, a, b⟩ := r
      subst e
      exact ⟨v0, _, rfl, a, ih b rd⟩
  intro kds kvs k d v r rd
  unfold putD putK
  rw [hany k r]
  split
  · exact hmap r rd
  · exact happ r rd
theorem putD_len {α : Type} {kvs : List (Key × α)} {k : Key} {v : α} : (putD kvs k v).length ≤ kvs.length + 1 := by
  unfold putD
  split
  · rw [List.length_map]; omega
  · rw [List.length_append]; exact Nat.le_refl _
theorem dk_sh {kds : List (Key × D)} {L : Addr} {A : List Addr} (r : RelO g S H (.dct (kds.map fun p => (p.1, .sh p.2))) (.ref L) A) : ∃ kvs, H L = some (.dK kvs) ∧ A = [L] ∧ RepK g S kds kvs := by
  obtain ⟨l, kvs, A', e, q, eA, r'⟩ := r
  cases e
  have key : ∀ {kds : List (Key × D)} {kvs : List (Key × V)} {A : List Addr}, RelOK g S H (kds.map fun p => (p.1, .sh p.2)) kvs A → A = [] ∧ RepK g S kds kvs := by
    intro kds
    induction kds with
    | nil => intro kvs A r; exact ⟨r.2, r.1⟩
    | cons p kds ih =>
      intro kvs A r
      obtain ⟨v, rr, A1, A2, e, eA, ⟨e1, a⟩, b⟩ := r
      obtain ⟨e2, b'⟩ := ih b
      subst e eA e1 e2
      exact ⟨rfl, v, rr, rfl, a, b'⟩
  obtain ⟨e2, r2⟩ := key r'
  subst e2
  exact ⟨kvs, q, eA, r2⟩
theorem New.dct {kds : List (Key × D)} {kvs : List (Key × V)} {p : Addr} (e : Sub S H) (r : RepK g S kds kvs) (hp : H p = none) : New g S H (.dct (kds.map fun p => (p.1, .sh p.2))) (.ref p) (upd H p (.dK kvs)) :=
  ⟨S, [p], Ex.refl _, fun _ h1 h2 => absurd h2 h1, e.trans (Gr.new hp), ⟨p, kvs, [], rfl, upd_same, rfl, RelOK.sh r⟩, by simp, fun a m => by
    have z : a = p := by simpa using m
    subst z
    exact ⟨hp, e.none hp⟩, Gr.new hp⟩
/-- a pair goes into the dict that is the last temp -/
theorem St.putT {L : Addr} {kds : List (Key × D)} {k : Key} {d : D} {y : V} (st : St g Z S H (τ ++ [.ref L]) (θ ++ [.dct (kds.map fun p => (p.1, .sh p.2))]) σ ρ) (ry : Rep g S d y) :
    ∃ kvs, H L = some (.dK kvs) ∧ kvs.length = kds.length ∧ St g Z S (upd H L (.dK (putK kvs k y))) (τ ++ [.ref L]) (θ ++ [.dct ((putD kds k d).map fun p => (p.1, .sh p.2))]) σ ρ := by
  have tl := st.tlen
  obtain ⟨A, α, h⟩ := st
  obtain ⟨A1, A2, eA, r1, r2⟩ := h.tmp.split (by simp at tl; omega)
  obtain ⟨kvs, hL, e2, rk⟩ := dk_sh r2.oneInv
  refine ⟨kvs, hL, rk.len, ?_⟩
  refine h.mutT (An := [L]) eA r1 (by rw [e2]; simp) ?_ (by simp) (fun a m => by rw [e2]; exact m)
  exact RelOs.one ⟨L, _, [], rfl, upd_same, rfl, RelOK.sh (rk.put ry)⟩
def DcP (g : Gb) (Z : Zn) (S1 : Hp) (τ : List V) (θ : List O) (σ : Sg) (vs : List Nat) (tg : Tg) (mt : Option E) (mk me : E) (ds : List D) (L : Addr) (Q : VK) (i : Nat) : Hp → Prop := fun H => ∃ S ρ acc os ρ', Ex S1 S ∧ St g Z S H (τ ++ [.ref L]) (θ ++ [.dct (acc.map fun p => (p.1, .sh p.2))]) (L2.wipe σ vs) (wipeE ρ vs) ∧
  acc.length ≤ i ∧ dcL vs tg mt mk me (ds.drop i) acc (wipeE ρ vs) = some (os, ρ') ∧ ∀ S' H', Ex S S' → St g Z S' H' (τ ++ [.ref L]) (θ ++ [.dct (os.map fun p => (p.1, .sh p.2))]) σ ρ' → Q (.ref L) H'
theorem le_dc {vs : List Nat} {items : D → Option (List D)} {wi : TI} {gr : TG} {tg : Tg} {mt : Option E} {mk me : E} (it : IterS g W m items wi) (ht : TgV g gr tg vs) (q : LE g W (eDc vs items m tg mt mk me) σ H Q) : tDc wi gr (ttO g mt) (LE g W0x mk) (LE g W0x me) vs σ H Q := by
  obtain ⟨Z, S0, τ, θ, ρ0, st0, post⟩ := q
  refine it.run Z S0 H τ θ σ ρ0 _ st0 ?_
  unfold eDc at post
  cases h : m ρ0 with
  | stuck => rw [h] at post; exact post.elim
  | exc x ρ1 => rw [h] at post; exact post
  | ok o ρ1 =>
    rw [h] at post
    simp only [R.bind] at post
    unfold PostI
    dsimp only
    cases hi : items o.d.view with
    | none => rw [hi] at post; exact post.elim
    | some ds =>
      rw [hi] at post
      dsimp only at post ⊢
      split at post
      · rename_i hlen
        cases hlc : dcL vs tg mt mk me ds [] (wipeE ρ1 vs) with
        | none => rw [hlc] at post; exact post.elim
        | some p =>
          obtain ⟨os, ρ'⟩ := p
          rw [hlc] at post
          intro J S1 H1 e01 st1 wk L hL
          obtain ⟨S2, e12, st2⟩ := st1.push (New.dct (kds := []) (kvs := []) st1.sub rfl hL)
          have st2 : St g Z S2 (upd H1 L (.dK [])) (τ ++ [.ref L]) (θ ++ [.dct []]) σ ρ1 := st2
          refine ⟨fun i m H => m = ds.length - i ∧ i ≤ ds.length ∧ DcP g Z S2 τ θ σ vs tg mt mk me ds L Q i H, ⟨ds.length, by simp, Nat.zero_le _, S2, ρ1, [], os, ρ', Ex.refl _, ?_, Nat.le_refl _, by rw [List.drop_zero]; exact hlc, fun S' H' e st' => post _ S' H' ((e01.trans e12).trans e) st'⟩, ?_⟩
          · exact St.wipe st2 (wipe_length _ _) fun i hi => wipe_get hi
          rintro i m H ⟨rfl, hile, S, ρ, acc, os, ρ', e, st, hacc, hl, k⟩
          by_cases hlt : i < ds.length
          · have hd : ds[i]? = some ds[i] := List.getElem?_eq_getElem hlt
            obtain ⟨g1, g2⟩ := wk.go i ds[i] S H (e12.trans e) st.sub hd
            refine .inr ⟨g1, DcP g Z S2 τ θ σ vs tg mt mk me ds L Q (i + 1), fun H' p' => ⟨ds.length - (i + 1), by omega, rfl, hlt, p'⟩, fun x H' y => ?_⟩
            obtain ⟨S3, e3, st3⟩ := st.push (g2 x H' y)
            obtain ⟨S4, e4, st4, r4⟩ := St.pop st3
            have e34 := e3.trans e4
            rw [List.drop_eq_getElem_cons hlt] at hl
            unfold dcL at hl
            cases htg : tg ds[i] (wipeE ρ vs) with
            | none => rw [htg] at hl; cases hl
            | some ρ5 =>
              rw [htg] at hl
              dsimp only at hl
              refine ht.run Z S4 H' _ _ _ _ ds[i] x ρ5 _ st4 r4 htg fun σ5 w5 st5 => ?_
              rw [wipe_wipe] at w5
              have l5 : σ5.length = σ.length := by
                have := congrArg List.length w5
                rw [wipe_length, wipe_length] at this; exact this
              have w5' : ∀ j, j ∉ vs → σ5[j]? = σ[j]? := fun j hj => by
                have q : (L2.wipe σ5 vs)[j]? = (L2.wipe σ vs)[j]? := by rw [w5]
                rw [wipe_get hj, wipe_get hj] at q
                exact q
              refine ⟨w5, ?_⟩
              have back : ∀ {S6 : Hp} {H6 : Hp} {ρ6 : En} {acc6 : List (Key × D)}, Ex S4 S6 → St g Z S6 H6 (τ ++ [.ref L]) (θ ++ [.dct (acc6.map fun p => (p.1, .sh p.2))]) σ5 ρ6 → acc6.length ≤ i + 1 → dcL vs tg mt mk me (ds.drop (i + 1)) acc6 (wipeE ρ6 vs) = some (os, ρ') → DcP g Z S2 τ θ σ vs tg mt mk me ds L Q (i + 1) H6 := fun {S6 H6 ρ6 acc6} e6 st6 ha h6 =>
                ⟨S6, ρ6, acc6, os, ρ', (e.trans e34).trans e6, St.wipe st6 (by rw [wipe_length, l5]) fun j hj => by rw [wipe_get hj, w5' j hj], ha, h6, fun S' H' e' st' => k S' H' ((e34.trans e6).trans e') st'⟩
              have elt : ∀ {S6 : Hp} {H6 : Hp} {ρ6 : En}, Ex S4 S6 → St g Z S6 H6 (τ ++ [.ref L]) (θ ++ [.dct (acc.map fun p => (p.1, .sh p.2))]) σ5 ρ6 → (match mk ρ6 with
                    | .ok ok ρ3 => match keyD ok.d.view, me ρ3 with
                      | some k, .ok o ρ4 => dcL vs tg mt mk me (ds.drop (i + 1)) (putD acc k o.d) (wipeE ρ4 vs)
                      | _, _ => none
                    | _ => none) = some (os, ρ') →
                  LE g W0x mk σ5 H6 fun y H4 => LE g W0x me σ5 H4 fun z H5 => ∃ kvs k, y = kV k ∧ H5 L = some (.dK kvs) ∧ kvs.length < sizeLine ∧ DcP g Z S2 τ θ σ vs tg mt mk me ds L Q (i + 1) (upd H5 L (.dK (putK kvs k z))) := fun {S6 H6 ρ6} e6 st6 h7 => by
                cases hmk : mk ρ6 with
                | exc x ρ3 => rw [hmk] at h7; cases h7
                | stuck => rw [hmk] at h7; cases h7
                | ok ok ρ3 =>
                  rw [hmk] at h7
                  dsimp only at h7
                  cases hk : keyD ok.d.view with
                  | none => simp only [hk] at h7; cases h7
                  | some kk =>
                    cases hme : me ρ3 with
                    | exc x ρ4 => simp only [hk, hme] at h7; cases h7
                    | stuck => simp only [hk, hme] at h7; cases h7
                    | ok o7 ρ4 =>
                      simp only [hk, hme] at h7
                      refine le_at st6 hmk fun v7 S7 H7 e7 st7 r7 => ?_
                      refine le_at st7 hme fun v8 S8 H8 e8 st8 r8 => ?_
                      obtain ⟨kvs, hL8, hlen8, st9⟩ := st8.putT (k := kk) r8
                      refine ⟨kvs, kk, keyD_rep hk r7.view, hL8, Nat.lt_of_lt_of_le (by omega : kvs.length < 1000000) (show 1000000 ≤ sizeLine by decide), back ((e6.trans e7).trans e8) st9 ?_ h7⟩
                      have := putD_len (kvs := acc) (k := kk) (v := o7.d)
                      omega
              cases mt with
              | none =>
                dsimp only at hl
                dsimp only [ttO, tYes]
                rw [if_pos rfl]
                exact elt (Ex.refl _) st5 hl
              | some t =>
                dsimp only at hl
                refine ⟨Z, S4, _, _, ρ5, st5, ?_⟩
                cases ht6 : t ρ5 with
                | exc x ρ6 => rw [ht6] at hl; cases hl
                | stuck => rw [ht6] at hl; cases hl
                | ok o6 ρ6 =>
                  rw [ht6] at hl
                  intro v6 S6 H6 e6 st6
                  by_cases hb : ∃ b, o6 = .sh (.bl b)
                  · obtain ⟨b, rfl⟩ := hb
                    obtain ⟨S7, e7, st7, r7⟩ := St.pop st6
                    refine ⟨b, r7, ?_⟩
                    cases b with
                    | true => exact iteT (elt (e6.trans e7) st7 hl)
                    | false => exact iteF (back (e6.trans e7) st7 (by omega) hl)
                  · exfalso
                    split at hl
                    · cases hl
                    · rename_i heq
                      split at heq
                      · rename_i hq; cases hq; exact hb ⟨_, rfl⟩
                      · cases heq
                    · rename_i heq
                      split at heq
                      · rename_i hq; cases hq; exact hb ⟨_, rfl⟩
                      · cases heq
          · have e0 : i = ds.length := by omega
            subst e0
            rw [List.drop_of_length_le (Nat.le_refl _)] at hl
            cases hl
            exact .inl ⟨wk.stop S H (e12.trans e) st.sub, k S H (Ex.refl _) (wipe_unwipe st)⟩
      · exact post.elim
end
end DL
set_option Elab.async false
set_option linter.all false
set_option maxRecDepth 100000
set_option autoImplicit false
/-! DL9: all over a generator expression; blocks' contexts. -/
namespace DL
open PySem PySem.Spec PyProof.Rows L2
section
variable {g : Gb} {W : WX} {Z : Zn} {S S' H H' : Hp} {τ τ' : List V} {θ θ' : List O} {σ σ' : Sg} {ρ : En} {Q Q' : VK} {m ma mb mc : E} {o oi : O} {v : V} {i : Nat}
theorem St.tab {P : Addr} (st : St g Z S H τ θ σ ρ) (hP : P ∈ g.tb) (hN : g.nm P = none) (t : GxR.Tabbed P H H') : St g Z S H' τ θ σ ρ := by
  obtain ⟨A, α, h⟩ := st
  obtain ⟨⟨ps, e, ok⟩, k⟩ := t
  have na : ∀ b, (b ∈ A ∨ ∃ i, b ∈ α i) → H' b = H b := fun b m => k b fun z => (h.own b m).2.2.2 (z ▸ hP)
  refine ⟨A, α, ⟨fun b u q => ?_, h.bs.mono, h.bs.new, fun b u h1 h2 h3 => ?_, fun b u h1 => ?_, fun p m => ?_, h.bs.tbS⟩, RelOs.mono (Ex.refl _) θ τ A (fun b m => na b (.inl m)) h.tmp, h.len,
    fun i o hi => let ⟨v, q, r⟩ := h.slot i o hi; ⟨v, q, RelO.mono (Ex.refl _) o v (α i) (fun b m => na b (.inr ⟨i, m⟩)) r⟩, h.ndA, h.nd, h.dis, h.disA, fun b m => ?_, h.pin⟩
  · rw [k b fun z => by have := h.bs.tbS P hP; rw [← z, q] at this; cases this]; exact h.bs.sub b u q
  · rw [k b fun z => h3 (z ▸ hP)]; exact h.bs.frm b u h1 h2 h3
  · by_cases z : b = P
    · subst z; exact ⟨_, e⟩
    · rw [k b z]; exact h.bs.dom b u h1
  · by_cases z : p = P
    · subst z; exact ⟨ps, e, ok, fun q hq => by rw [hN] at hq; cases hq⟩
    · obtain ⟨qs, q1, q2⟩ := h.bs.tbl p m; exact ⟨qs, by rw [k p z]; exact q1, q2⟩
  · obtain ⟨q1, ⟨u, q2⟩, q3⟩ := h.own b m
    exact ⟨q1, ⟨u, by rw [na b m]; exact q2⟩, q3⟩
theorem St.tabs {P : Addr} (st : St g Z S H τ θ σ ρ) (hP : P ∈ g.tb) : GxR.TabG H P := by
  obtain ⟨A, α, h⟩ := st
  exact (h.bs.tbl P hP).g
theorem St.reset {n : Nat} (st : St g Z S H τ θ σ ρ) (hn : n ≤ σ'.length) : St g Z S H τ θ σ' (List.replicate n .no) := by
  obtain ⟨A, α, h⟩ := st
  have no : ∀ (i : Nat) (s : Sl), (List.replicate n Sl.no)[i]? = some s → s = .no := fun i s q => by
    rw [List.getElem?_replicate] at q
    split at q <;> cases q; rfl
  refine ⟨A, α, h.bs, h.tmp, by rw [List.length_replicate]; exact hn, fun i o hi => ?_, h.ndA, h.nd, h.dis, h.disA, h.own, fun i o hi => by cases no i _ hi⟩
  rcases hi with hi | hi <;> cases no i _ hi
/-- inside a generator's own frame -/
theorem St.inner {n : Nat} (st : St g Z S H τ θ σ ρ) : St g ⟨S, H, [], []⟩ S H [] [] (nones n) (List.replicate n .no) := by
  obtain ⟨A, α, h⟩ := st
  have := st_start (g := g) (n := 0) (k := n) (N := List.replicate n "") (bor := []) (os := []) (vs := []) (A := []) rfl (by simp) ⟨rfl, rfl⟩ List.nodup_nil (fun _ m => (nomatch m)) h.bs.sub (fun p m => ⟨h.bs.tbl p m, h.bs.tbS p m⟩)
  simpa [L2.start, ini, nones] using this
def allL (n : Nat) (tg : Tg) (mb : E) : List D → Option Bool
  | [] => some true
  | d :: ds => match tg d (List.replicate n .no) with
    | none => none
    | some ρ1 => match mb ρ1 with
      | .ok (.sh (.bl true)) _ => allL n tg mb ds
      | .ok (.sh (.bl false)) _ => some false
      | _ => none
def eAllI (n : Nat) (items : D → Option (List D)) (m : E) (tg : Tg) (mb : E) : E := fun ρ => (m ρ).bind fun o ρ1 => match items o.d.view with
  | some ds => match allL n tg mb ds with
    | some b => .ok (.sh (.bl b)) ρ1
    | none => .stuck
  | none => .stuck
theorem le_allI {n : Nat} {P : Addr} {vs : List Nat} {items : D → Option (List D)} {wi : TI} {gr : TG} {tg : Tg} (hP : P ∈ g.tb) (hN : g.nm P = none) (it : IterS g W m items wi) (ht : TgV g gr tg vs) (q : LE g W (eAllI n items m tg mb) σ H Q) : tAllG P n wi gr (LE g W0x mb) σ H Q := by
  obtain ⟨Z, S0, τ, θ, ρ0, st0, post⟩ := q
  refine it.run Z S0 H τ θ σ ρ0 _ st0 ?_
  unfold eAllI at post
  cases h : m ρ0 with
  | stuck => rw [h] at post; exact post.elim
  | exc x ρ1 => rw [h] at post; exact post
  | ok o ρ1 =>
    rw [h] at post
    simp only [R.bind] at post
    unfold PostI
    dsimp only
    cases hi : items o.d.view with
    | none => rw [hi] at post; exact post.elim
    | some ds =>
      rw [hi] at post
      dsimp only at post ⊢
      cases hall : allL n tg mb ds with
      | none => rw [hall] at post; exact post.elim
      | some b0 =>
        rw [hall] at post
        intro J S1 H1 e01 st1 wk
        refine ⟨st1.tabs hP, fun H2 htab => ?_⟩
        have st2 := st1.tab hP hN htab
        have fin : ∀ {S' H'}, St g ⟨S1, H2, [], []⟩ S' H' [] [] (nones n) (List.replicate n .no) → Q (.bl b0) H' := fun {S' H'} c => by
          have c2 : St g ⟨S1, H2, [], []⟩ S' H' [] [] [] [] := St.reset (n := 0) (σ' := []) c (Nat.le_refl _)
          obtain ⟨ex, st3⟩ := st2.after c2
          rw [List.append_nil, List.append_nil] at st3
          exact PostR.fin post (e01.trans ex) st3 (New.flat (d := .bl b0) st3.sub rfl)
        refine ⟨fun i m H => m = ds.length - i ∧ i ≤ ds.length ∧ ∃ S, Ex S1 S ∧ St g ⟨S1, H2, [], []⟩ S H [] [] (nones n) (List.replicate n .no) ∧ allL n tg mb (ds.drop i) = some b0, ⟨ds.length, by simp, Nat.zero_le _, S1, Ex.refl _, st2.inner, by rw [List.drop_zero]; exact hall⟩, ?_⟩
        rintro i m H ⟨rfl, hile, S, e, st, hl⟩
        by_cases hlt : i < ds.length
        · have hd : ds[i]? = some ds[i] := List.getElem?_eq_getElem hlt
          obtain ⟨g1, g2⟩ := wk.go i ds[i] S H e st.sub hd
          refine .inr ⟨g1, fun H' => ∃ S', Ex S1 S' ∧ St g ⟨S1, H2, [], []⟩ S' H' [] [] (nones n) (List.replicate n .no) ∧ allL n tg mb (ds.drop (i + 1)) = some b0, fun H' p' => ⟨ds.length - (i + 1), by omega, rfl, hlt, p'⟩, fun x H' y => ?_⟩
          obtain ⟨S3, e3, st3⟩ := st.push (g2 x H' y)
          obtain ⟨S4, e4, st4, r4⟩ := St.pop (τ := []) (θ := []) st3
          have e34 := e3.trans e4
          rw [List.drop_eq_getElem_cons hlt] at hl
          unfold allL at hl
          cases htg : tg ds[i] (List.replicate n .no) with
          | none => rw [htg] at hl; cases hl
          | some ρ5 =>
            rw [htg] at hl
            dsimp only at hl
            refine ht.run _ S4 H' _ _ _ _ ds[i] x ρ5 _ st4 r4 htg fun σ5 w5 st5 => ?_
            have l5 : σ5.length = n := by
              have := congrArg List.length w5
              rw [wipe_length, wipe_length] at this
              rw [this]; simp [nones]
            refine ⟨_, S4, _, _, ρ5, st5, ?_⟩
            split at hl
            · rename_i ρ6 h6
              rw [h6]
              intro v6 S6 H6 e6 st6
              obtain ⟨S7, e7, st7, r7⟩ := St.pop (τ := []) (θ := []) st6
              exact ⟨true, r7, fun _ => ⟨S7, (e.trans e34).trans (e6.trans e7), St.reset st7 (by simp [nones]), hl⟩, fun z => by cases z⟩
            · rename_i ρ6 h6
              rw [h6]
              cases hl
              intro v6 S6 H6 e6 st6
              obtain ⟨S7, e7, st7, r7⟩ := St.pop (τ := []) (θ := []) st6
              exact ⟨false, r7, fun z => (by cases z), fun _ => fin (St.reset st7 (by simp [nones]))⟩
            · cases hl
        · have e0 : i = ds.length := by omega
          subst e0
          rw [List.drop_of_length_le (Nat.le_refl _)] at hl
          cases hl
          exact .inl ⟨wk.stop S H e st.sub, fin st⟩
end
/-! blocks' contexts -/
theorem takes_none {X : Cx} (h : X.xe = fun _ _ => False) : Takes X W0x := fun u s' x => by
  obtain ⟨_, _, _, _, _, _, _, _, _, _, _, _, _, _, _, _, w⟩ := x
  exact w.elim
theorem po_none {X : Cx} (h : X.xe = fun _ _ => False) : PassesOwn (model X.prog X.w) X.A X.env X.xe := by
  rw [h]
  exact PassesOwn.never
theorem cxt_blk {X : Cx} {g : Gb} {W : WX} {j : Nat} (C : Cxt X g W j) (s : Shared) (H : Hp) (scope : Scope) (cenv : Env) (fp : List Addr) : Cxt (X.blk s H scope cenv fp) g W0x j :=
  ⟨C.K, C.calm, C.nd, takes_none rfl, po_none rfl, C.rm, C.gd, C.sys⟩
theorem cxt_gx {X : Cx} {g : Gb} {W : WX} {j : Nat} (C : Cxt X g W (j + 1)) (s : Shared) (H : Hp) (N : List Str) (hN : N.Nodup) (cenv : Env) (fp : List Addr) (pn : List (Addr × Obj)) : Cxt (gxc X s H N cenv fp pn) g W0x j :=
  ⟨C.K, rfl, hN, takes_none rfl, po_none rfl, by
    have r := C.rm
    refine ⟨r.hd, ?_, ?_⟩
    · have := r.dp
      show X.A.depth + 1 + 3 * j + 5 < _
      omega
    · have := r.un
      show X.A.units + 1 + 1 + 3 + 16 * j + 200 < _
      omega, C.gd, C.sys⟩
/-! targets -/
inductive TD where
  | nm (i : Nat) | tp (ts : List TD)
mutual
def TD.gr (K : PySem.W.Frag) : TD → TG
  | .nm i => gName i
  | .tp ts => gSeq K ts.length (TD.grs K ts)
def TD.grs (K : PySem.W.Frag) : List TD → TGs
  | [] => gNil
  | t :: ts => gCons (t.gr K) (TD.grs K ts)
end
mutual
def TD.tg : TD → Tg
  | .nm i => tgN i
  | .tp ts => tgTup ts.length (TD.tgs ts)
def TD.tgs : List TD → Tgs
  | [] => tgNil
  | t :: ts => tgCons t.tg (TD.tgs ts)
end
mutual
def TD.ok (vs : List Nat) : TD → Bool
  | .nm i => decide (i ∈ vs)
  | .tp ts => TD.oks vs ts
def TD.oks (vs : List Nat) : List TD → Bool
  | [] => true
  | t :: ts => t.ok vs && TD.oks vs ts
end
mutual
theorem TD.v {g : Gb} {vs : List Nat} : ∀ (t : TD), t.ok vs = true → TgV g (t.gr g.K) t.tg vs
  | .nm i, h => by unfold TD.gr TD.tg; exact tgv_name (by simpa [TD.ok] using h)
  | .tp ts, h => by unfold TD.gr TD.tg; exact tgv_tup (TD.vs' ts (by simpa [TD.ok] using h))
theorem TD.vs' {g : Gb} {vs : List Nat} : ∀ (ts : List TD), TD.oks vs ts = true → TgsV g (TD.grs g.K ts) (TD.tgs ts) vs
  | [], h => by unfold TD.grs TD.tgs; exact tgv_nil
  | t :: ts, h => by
    unfold TD.oks at h
    rw [Bool.and_eq_true] at h
    unfold TD.grs TD.tgs
    exact tgv_cons (TD.v t h.1) (TD.vs' ts h.2)
end
mutual
def TD.ix : TD → List Nat
  | .nm i => [i]
  | .tp ts => TD.ixs ts
def TD.ixs : List TD → List Nat
  | [] => []
  | t :: ts => t.ix ++ TD.ixs ts
end
mutual
theorem TD.ok_mono {vs us : List Nat} (h : ∀ i ∈ vs, i ∈ us) : ∀ t : TD, t.ok vs = true → t.ok us = true
  | .nm i, e => by simp [TD.ok] at e ⊢; exact h i e
  | .tp ts, e => by simp [TD.ok] at e ⊢; exact TD.oks_mono h ts e
theorem TD.oks_mono {vs us : List Nat} (h : ∀ i ∈ vs, i ∈ us) : ∀ ts : List TD, TD.oks vs ts = true → TD.oks us ts = true
  | [], e => rfl
  | t :: ts, e => by
    unfold TD.oks at e ⊢
    rw [Bool.and_eq_true] at e ⊢
    exact ⟨TD.ok_mono h t e.1, TD.oks_mono h ts e.2⟩
end
mutual
theorem TD.okI : ∀ t : TD, t.ok t.ix = true
  | .nm i => by simp [TD.ok, TD.ix]
  | .tp ts => by simp only [TD.ok, TD.ix]; exact TD.oksI ts
theorem TD.oksI : ∀ ts : List TD, TD.oks (TD.ixs ts) ts = true
  | [] => rfl
  | t :: ts => by
    unfold TD.oks TD.ixs
    rw [Bool.and_eq_true]
    exact ⟨TD.ok_mono (fun i m => List.mem_append_left _ m) t (TD.okI t), TD.oks_mono (fun i m => List.mem_append_right _ m) ts (TD.oksI ts)⟩
end
section
variable {X : Cx} {g : Gb} {W : WX} {j : Nat} {pos : Pos}
theorem gd_nm {x : Str} {px : Pos} (C : Cxt X g W j) (i : Nat) (hi : X.N[i]? = some x := by rfl) (hx : Loc X.env.scope x := by first | exact Or.inl rfl | exact Or.inr rfl) (hf : X.fn x = true ∨ X.env.scope.names.lookup x = some .local := by first | exact .inl rfl | exact .inr rfl | assumption) :
    PG X (.Name x px) ((TD.nm i).gr g.K) := by unfold TD.gr; exact pg_name C.nd hi hx hf
theorem gd_tp {es : List Expr} {k : Nat} {ts : List TD} (C : Cxt X g W j) (h : PGs X es (TD.grs g.K ts)) (hn : (assignEach es X.env).length = ts.length := by rfl) (hst : (assignEach es X.env).findIdx? (·.1) = none := by rfl) : PG X (.Tuple es k pos) ((TD.tp ts).gr g.K) := by
  unfold TD.gr
  rw [← C.K] at h ⊢
  exact pg_seq C.calm h hn hst
theorem gd_nil : PGs X [] (TD.grs g.K []) := by unfold TD.grs; exact pgs_nil
theorem gd_cons {e : Expr} {es : List Expr} {t : TD} {ts : List TD} (h1 : PG X e (t.gr g.K)) (h2 : PGs X es (TD.grs g.K ts)) (hs : (assignEach (e :: es) X.env).map (·.2) = assign e X.env :: (assignEach es X.env).map (·.2) := by rfl) : PGs X (e :: es) (TD.grs g.K (t :: ts)) := by
  unfold TD.grs
  exact pgs_cons h1 h2 hs
/-! what is walked -/
def PIt (X : Cx) (g : Gb) (W : WX) (tge e : Expr) (items : D → Option (List D)) (m : E) : Prop := ∃ wi, PI X tge e wi ∧ IterS g W m items wi
variable {a b tge : Expr} {ma mb m : E}
theorem id_val (C : Cxt X g W j) (h : PE X a (LE g W ma)) : PIt X g W tge a itV ma := by
  refine ⟨_, ?_, it_val⟩
  rw [← C.K]
  exact PI_or (PI_or (pi_list h) (PI_or (pi_tup h) (pi_str h))) (pi_keys (pe_lkA h))
theorem id_items {apos cpos tpos : Pos} {elts : List Expr} {kk : Nat} (h : PE X a (LE g W ma)) (hbase : attributeBase a "items" X.env (eval a X.env) = eval a X.env := by rfl) (hline : (apos.endLine == cpos.line) = true := by rfl) : PIt X g W (.Tuple elts kk tpos) (.Call (.Attribute a "items" apos) [] [] cpos) itItems ma :=
  ⟨_, pi_items (pe_lkA h) hbase hline, it_items⟩
theorem id_rng1 {p : Pos} (hm : X.mg "range" = none) (h : PE X a (LE g W ma)) (hg : Gl X "range" := by rfl) (hs : starEach [a] X.env = [(false, eval a X.env)] := by rfl) : PIt X g W tge (.Call (.Name "range" p) [a] [] pos) itRng ma :=
  ⟨_, pi_range1 hg hm (ad_cons h ad_nil hs) hs, it_rng1⟩
/-! for, comprehensions, all -/
variable {iter elt kx : Expr} {items : D → Option (List D)} {t : TD} {mt me mk : E} {scope : Scope} {own : List (Str × Nat)} {ct : Expr}
theorem sd_for {aa : List Stmt} {sa : Sm} (C : Cxt X g W j) (hi : PIt X g W tge iter items m) (hg : PG X tge (t.gr g.K)) (hb : PSs X aa (LS g W sa)) (hf : ∀ x, foldedSetIterable iter X.env x = pure x := by intro _; rfl) : PS X (.For tge iter aa [] pos) (LS g W (sForI items m t.tg sa)) := by
  obtain ⟨wi, h1, h2⟩ := hi
  exact PS_imp (ps_for C.po C.calm h1 hg hb hf) fun _ _ _ q => ls_forI h2 (TD.v t (TD.okI t)).s q
abbrev BlkPG (X : Cx) (g : Gb) (j : Nat) (scope : Scope) (tge : Expr) (t : TD) : Prop := ∀ (s : Shared) (H : Hp) (C : Addr) (cl : List (Str × Addr)) (fp : List Addr), Cxt (X.blk s H scope (compEnvC scope cl C X.env) fp) g W0x j → PG (X.blk s H scope (compEnvC scope cl C X.env) fp) tge (t.gr g.K)
abbrev BlkPE (X : Cx) (g : Gb) (j : Nat) (scope : Scope) (e : Expr) (m : E) : Prop := ∀ (s : Shared) (H : Hp) (C : Addr) (cl : List (Str × Addr)) (fp : List Addr), Cxt (X.blk s H scope (compEnvC scope cl C X.env) fp) g W0x j → PE (X.blk s H scope (compEnvC scope cl C X.env) fp) e (LE g W0x m)
abbrev BlkPT (X : Cx) (g : Gb) (j : Nat) (scope : Scope) (e : Expr) (m : E) : Prop := ∀ (s : Shared) (H : Hp) (C : Addr) (cl : List (Str × Addr)) (fp : List Addr), Cxt (X.blk s H scope (compEnvC scope cl C X.env) fp) g W0x j → PT (X.blk s H scope (compEnvC scope cl C X.env) fp) e (LT g W0x m)
theorem pd_lc (own : List (Str × Nat)) (C : Cxt X g W j) (hi : PIt X g W tge iter items m) (hg : BlkPG X g j scope tge t) (he : BlkPE X g j scope elt me) (ok : blkC X.N X.env.scope scope own = true := by rfl) (hv : t.ok (own.map (·.2)) = true := by rfl) (hs : ∀ x, foldedSetIterable iter X.env x = pure x := by intro _; rfl) :
    PE X (.ListComp elt [⟨tge, iter, [], 0⟩] scope pos) (LE g W (eLc (own.map (·.2)) items m t.tg none me)) := by
  obtain ⟨wi, h1, h2⟩ := hi
  exact PE_imp (pe_lc C.calm C.nd h1 (blkOk_by ok) (fun s H c cl fp => hg s H c cl fp (cxt_blk C s H scope _ fp)) (fun _ _ _ _ _ => pts_nil) (fun s H c cl fp => he s H c cl fp (cxt_blk C s H scope _ fp)) hs) fun _ _ _ q => le_lc h2 (TD.v t hv) q
theorem pd_lcT (own : List (Str × Nat)) (C : Cxt X g W j) (hi : PIt X g W tge iter items m) (hg : BlkPG X g j scope tge t) (ht : BlkPT X g j scope ct mt) (he : BlkPE X g j scope elt me) (ok : blkC X.N X.env.scope scope own = true := by rfl) (hv : t.ok (own.map (·.2)) = true := by rfl) (hs : ∀ x, foldedSetIterable iter X.env x = pure x := by intro _; rfl) :
    PE X (.ListComp elt [⟨tge, iter, [ct], 0⟩] scope pos) (LE g W (eLc (own.map (·.2)) items m t.tg (some mt) me)) := by
  obtain ⟨wi, h1, h2⟩ := hi
  exact PE_imp (pe_lc C.calm C.nd h1 (blkOk_by ok) (fun s H c cl fp => hg s H c cl fp (cxt_blk C s H scope _ fp)) (fun s H c cl fp => pts_one (ht s H c cl fp (cxt_blk C s H scope _ fp))) (fun s H c cl fp => he s H c cl fp (cxt_blk C s H scope _ fp)) hs) fun _ _ _ q => le_lc h2 (TD.v t hv) q
theorem sd_setLc {y : Str} {py ps : Pos} (i : Nat) (own : List (Str × Nat)) (C : Cxt X g W j) (hi : PIt X g W tge iter items m) (hg : BlkPG X g j scope tge t) (he : BlkPE X g j scope elt me) (hy : X.N[i]? = some y := by rfl) (hyl : X.env.scope.names.lookup y = some .local := by rfl)
    (hsw : swapsWith (.ListComp elt [⟨tge, iter, [], 0⟩] scope pos) (some (.Name y py)) ps.line X.env = pure true := by rfl) (ok : blkC X.N X.env.scope scope own = true := by rfl) (hv : t.ok (own.map (·.2)) = true := by rfl) (hs : ∀ x, foldedSetIterable iter X.env x = pure x := by intro _; rfl) :
    PS X (.Assign [.Name y py] (.ListComp elt [⟨tge, iter, [], 0⟩] scope pos) ps) (LS g W (sSet i (eLc (own.map (·.2)) items m t.tg none me))) := by
  obtain ⟨wi, h1, h2⟩ := hi
  exact PS_imp (ps_setLc C.calm C.nd hy hyl hsw h1 (blkOk_by ok) (fun s H c cl fp => hg s H c cl fp (cxt_blk C s H scope _ fp)) (fun _ _ _ _ _ => pts_nil) (fun s H c cl fp => he s H c cl fp (cxt_blk C s H scope _ fp)) hs) fun _ _ _ q => le_lc h2 (TD.v t hv) (ls_set q)
theorem pd_dc (own : List (Str × Nat)) (C : Cxt X g W j) (hi : PIt X g W tge iter items m) (hg : BlkPG X g j scope tge t) (hk : BlkPE X g j scope kx mk) (he : BlkPE X g j scope elt me) (ok : blkC X.N X.env.scope scope own = true := by rfl) (hv : t.ok (own.map (·.2)) = true := by rfl) (hs : ∀ x, foldedSetIterable iter X.env x = pure x := by intro _; rfl) :
    PE X (.DictComp kx elt [⟨tge, iter, [], 0⟩] scope pos) (LE g W (eDc (own.map (·.2)) items m t.tg none mk me)) := by
  obtain ⟨wi, h1, h2⟩ := hi
  exact PE_imp (L2.pe_dc C.calm C.nd h1 (blkOk_by ok) (fun s H c cl fp => hg s H c cl fp (cxt_blk C s H scope _ fp)) (fun _ _ _ _ _ => pts_nil) (fun s H c cl fp => hk s H c cl fp (cxt_blk C s H scope _ fp)) (fun s H c cl fp => he s H c cl fp (cxt_blk C s H scope _ fp)) hs) fun _ _ _ q => le_dc h2 (TD.v t hv) q
/-- the def's own code object and its table -/
def CodeN (X : Cx) (g : Gb) (q : Option Str) : Prop := ∃ c P, GxR.TabB X.base X.mg c P ∧ X.env.code = .ref c ∧ P ∈ g.tb ∧ g.nm P = q
abbrev CodeAt (X : Cx) (g : Gb) : Prop := CodeN X g none
def gsc (scope : Scope) : Bool := (match scope.kind with | .function => true | _ => false) && (!scope.isCoroutine) && (scope.names.all fun y => match y.2 with | .cell => false | .free => false | _ => true) && (match scope.names.lookup (".0" : Str) with | some .local => true | _ => false)
theorem gscp_by {scope : Scope} (h : gsc scope = true) : GScp scope := by
  unfold gsc at h
  simp only [Bool.and_eq_true, List.all_eq_true] at h
  obtain ⟨⟨⟨h1, h2⟩, h3⟩, h4⟩ := h
  refine ⟨?_, by simpa using h2, fun y hy e => ?_, fun y hy e => ?_, ?_⟩
  · split at h1
    · assumption
    · cases h1
  · have := h3 y hy; rw [e] at this; cases this
  · have := h3 y hy; rw [e] at this; cases this
  · split at h4
    · assumption
    · cases h4
theorem pd_all {p gpos : Pos} (N : List Str) (C : Cxt X g W (j + 1)) (K : CodeAt X g) (hm : X.mg "all" = none) (hi : PIt X g W tge iter items m)
    (hgr : ∀ (s : Shared) (H : Hp) (C : Addr) (code : Value) (fp : List Addr) (pn : List (Addr × Obj)), Cxt (gxc X s H N (genEnv scope [] C code builtinsNs X.env) fp pn) g W0x j → PG (gxc X s H N (genEnv scope [] C code builtinsNs X.env) fp pn) tge (t.gr g.K))
    (he : ∀ (s : Shared) (H : Hp) (C : Addr) (code : Value) (fp : List Addr) (pn : List (Addr × Obj)), Cxt (gxc X s H N (genEnv scope [] C code builtinsNs X.env) fp pn) g W0x j → PE (gxc X s H N (genEnv scope [] C code builtinsNs X.env) fp pn) elt (LE g W0x me))
    (nd : N.Nodup := by decide +kernel) (S : gsc scope = true := by rfl) (hg : Gl X "all" := by rfl) (hs : ∀ v, genFold iter X.env v = pure v := by intro _; rfl)
    (hst : starEach [.GeneratorExp elt [⟨tge, iter, [], 0⟩] scope gpos] X.env = (false, eval (.GeneratorExp elt [⟨tge, iter, [], 0⟩] scope gpos) X.env) :: starEach [] X.env := by rfl) :
    PE X (.Call (.Name "all" p) [.GeneratorExp elt [⟨tge, iter, [], 0⟩] scope gpos] [] pos) (LE g W (eAllI N.length items m t.tg me)) := by
  obtain ⟨c, P, TB, hc, hP, hN⟩ := K
  obtain ⟨wi, h1, h2⟩ := hi
  exact PE_imp (pe_allG C.rm C.calm hm TB hc (gscp_by S) rfl h1 (fun s H c cd fp pn => hgr s H c cd fp pn (cxt_gx C s H N nd _ fp pn)) (fun s H c cd fp pn => he s H c cd fp pn (cxt_gx C s H N nd _ fp pn)) hg hs hst) fun _ _ _ q => le_allI hP hN h2 (TD.v t (TD.okI t)) q
end
end DL
set_option Elab.async false
set_option linter.all false
set_option maxRecDepth 100000
/-! DLE: == and != of data. -/
namespace DL.Ne
open PySem PySem.SeqAt
open AutoSeq1 (wpAny_loadPart')
open MeetsSeq MeetsSeq2 MeetsSeq3 SeqRoads2
section
variable {prog : Program} {w : World}
theorem ne_loopI (l b : Addr) (items items2 : Array Value) (n n2 : Nat) (dd dd2 : Option Addr) (sl sl2 : Array (Option Value)) (hsz : items.size = items2.size) (e : Nat → Bool) (k : Nat) :
    ∀ i : Nat, items.size - i = k → MeetsIn prog w (Builtin.«list.__eq__.loop» ⟨[.ref l, .ref b, rawInt i, rawInt 3], []⟩)
      (fun A R s => s.heap.get? l = some { cls := .type "list", dict := dd, data := .seq items n, slots := sl } ∧ s.heap.get? b = some { cls := .type "list", dict := dd2, data := .seq items2 n2, slots := sl2 } ∧
        (∀ j (h1 : j < items.size) (h2 : j < items2.size), EqIn prog w A.in1 s items[j] items2[j] (e j)) ∧
        R (.ok (.ret (.bool (!((List.range items.size).drop i).all e)))) s) := by
  induction k with
  | zero =>
    intro i hk A R s h
    obtain ⟨hp, g, d, tk, os⟩ := s; obtain ⟨hl, hb, he, h⟩ := h
    wp_walk using wpAny_loadPart' hl, wpAny_loadPart' hb
    have hi1 : items[((i : Nat) : Int).toNat]? = none := by simp; omega
    have hi2 : items2[((i : Nat) : Int).toNat]? = none := by simp; omega
    have hd : (List.range items.size).drop i = [] := by simp; omega
    rw [hd] at h
    rw [hi1, hi2]
    wp_walk using wpAny_loadPart' hl, wpAny_loadPart' hb
    show R (.ok (.ret (.bool (items.size != items2.size)))) _
    rw [hsz]
    simpa using h
  | succ k ih =>
    intro i hk A R s h
    obtain ⟨hp, g, d, tk, os⟩ := s; obtain ⟨hl, hb, he, h⟩ := h
    wp_walk using wpAny_loadPart' hl, wpAny_loadPart' hb
    have hlt : i < items.size := by omega
    have hlt2 : i < items2.size := by omega
    have hi1 : items[((i : Nat) : Int).toNat]? = some items[i] := by simp [hlt]
    have hi2 : items2[((i : Nat) : Int).toNat]? = some items2[i] := by simp [hlt2]
    have hd : (List.range items.size).drop i = i :: (List.range items.size).drop (i + 1) := by simp [List.drop_eq_getElem_cons, hlt]
    have hc : ((i : Int) + 1) = ((i + 1 : Nat) : Int) := by push_cast; rfl
    rw [hd, List.all_cons] at h
    rw [hi1, hi2]
    refine wpAny_bind (he i hlt hlt2 _ _ ?_)
    cases hb' : e i with
    | true =>
      rw [hb'] at h
      wp_walk
      rw [hc]
      exact ⟨plainId_quiet plain_eq_loop _, codeAny_builtin entry_eq_loop (by
        rw [Around.under_plainId plain_eq_loop _]
        exact ih (i + 1) (by omega) A R _ ⟨hl, hb, he, by simpa using h⟩)⟩
    | false =>
      rw [hb'] at h
      wp_walk using wpAny_loadPart' hl, wpAny_loadPart' hb
      rw [hi1, hi2]
      wp_walk
      simpa using h
theorem list_neI (l b : Addr) (items items2 : Array Value) (n n2 : Nat) (dd dd2 : Option Addr) (sl sl2 : Array (Option Value)) (hsz : items.size = items2.size) (e : Nat → Bool) :
    MeetsIn prog w (Builtin.«list.__ne__» ⟨[.ref l, .ref b], []⟩)
      (fun A R s => s.heap.get? l = some { cls := .type "list", dict := dd, data := .seq items n, slots := sl } ∧ s.heap.get? b = some { cls := .type "list", dict := dd2, data := .seq items2 n2, slots := sl2 } ∧
        (∀ j (h1 : j < items.size) (h2 : j < items2.size), EqIn prog w A.in1 s items[j] items2[j] (e j)) ∧
        R (.ok (.ret (.bool (!(List.range items.size).all e)))) s) := by
  intro A R s h
  obtain ⟨hp, g, d, tk, os⟩ := s; obtain ⟨hl, hb, he, h⟩ := h
  have f3 := AutoSeq1.sub_list_list
  have hne : ¬ (items.size != items2.size) = true := by simp [hsz]
  wp_walk using wpAny_loadPart' hl, wpAny_loadPart' hb
  exact ⟨plainId_quiet plain_eq_loop _, codeAny_builtin entry_eq_loop (by
    rw [Around.under_plainId plain_eq_loop _]
    exact ne_loopI l b items items2 n n2 dd dd2 sl sl2 hsz e _ 0 rfl A R _ ⟨hl, hb, he, by simpa using h⟩)⟩
theorem tuple_neI (l b : Addr) (items items2 : Array Value) (n n2 : Nat) (dd dd2 : Option Addr) (sl sl2 : Array (Option Value)) (e : Nat → Bool) :
    MeetsIn prog w (Builtin.«tuple.__ne__» ⟨[.ref l, .ref b], []⟩)
      (fun A R s => s.heap.get? l = some { cls := .type "tuple", dict := dd, data := .seq items n, slots := sl } ∧ s.heap.get? b = some { cls := .type "tuple", dict := dd2, data := .seq items2 n2, slots := sl2 } ∧
        (∀ j (h1 : j < items.size) (h2 : j < items2.size), EqIn prog w A.in1 s items[j] items2[j] (e j)) ∧
        R (.ok (.ret (.bool (!((List.range (min items.size items2.size)).all e && items.size == items2.size))))) s) :=
  .of_wp fun A R s h => by
    obtain ⟨hp, g, d, tk, os⟩ := s; obtain ⟨hl, hb, he, h⟩ := h
    have f2 := AutoSeq1.sub_tuple_tuple
    have hZ : (items.toList.zip items2.toList).length = min items.size items2.size := by simp
    wp_walk using wpAny_loadPart' hl, wpAny_loadPart' hb, wpAny_forIn_list _ (fun rest b s' => b.1 = none ∧ s' = ⟨hp, g, d, tk, os⟩ ∧ ∃ i, rest = (items.toList.zip items2.toList).drop i ∧
      R (.ok (.ret (.bool (!(((List.range (min items.size items2.size)).drop i).all e && items.size == items2.size))))) ⟨hp, g, d, tk, os⟩) _
    case turn =>
      rintro ⟨y, x⟩ rest b s' ⟨hb', rfl, i, hz, hR⟩
      have hlt : i < (items.toList.zip items2.toList).length := by
        rcases Nat.lt_or_ge i (items.toList.zip items2.toList).length with h' | h'
        · exact h'
        · rw [List.drop_of_length_le h'] at hz; cases hz
      have hm : i < min items.size items2.size := hZ ▸ hlt
      have h1 : i < items.size := Nat.lt_of_lt_of_le hm (Nat.min_le_left _ _)
      have h2 : i < items2.size := Nat.lt_of_lt_of_le hm (Nat.min_le_right _ _)
      rw [List.drop_eq_getElem_cons hlt] at hz
      injection hz with hyx hrest
      have hy : y = items[i] := by have := congrArg Prod.fst hyx; simpa using this
      have hx : x = items2[i] := by have := congrArg Prod.snd hyx; simpa using this
      subst hy hx
      have hd : (List.range (min items.size items2.size)).drop i = i :: (List.range (min items.size items2.size)).drop (i + 1) := by simp [List.drop_eq_getElem_cons, hm]
      rw [hd, List.all_cons] at hR
      refine wpAny_bind (he i h1 h2 _ _ ?_)
      cases hy : e i with
      | true =>
        rw [hy] at hR
        wp_walk
        exact ⟨rfl, rfl, i + 1, hrest, by simpa using hR⟩
      | false =>
        rw [hy] at hR
        wp_walk
        exact ⟨_, rfl, by simpa using hR⟩
    case fin =>
      rintro ⟨b1, b2⟩ s' ⟨hb', rfl, i, hz, hR⟩
      simp only at hb'
      subst hb'
      have hge : min items.size items2.size ≤ i := by
        rcases Nat.lt_or_ge i (items.toList.zip items2.toList).length with h' | h'
        · rw [List.drop_eq_getElem_cons h'] at hz; cases hz
        · exact hZ ▸ h'
      rw [List.drop_of_length_le (by simpa using hge)] at hR
      wp_walk
      exact ⟨_, rfl, by simpa [Builtin.Tuple.tupleCompareSizes, bne] using hR⟩
    case h =>
      exact ⟨rfl, rfl, 0, rfl, by simpa using h⟩
variable {A : Around} {s : Shared}
theorem ne_lists {E : Value → Shared → Prop} {l b : Addr} {items items2 : Array Value} {e : Nat → Bool} {Q : Value → Shared → Prop} (hl : s.heap.IsList l items) (hb : s.heap.IsList b items2) (hsz : items.size = items2.size) (hu : A.units < cLine)
    (he : ∀ j (h1 : j < items.size) (h2 : j < items2.size), EqIn prog w A.in1 s items[j] items2[j] (e j)) (h : Q (.bool (!(List.range items.size).all e)) s) : wpAny (model prog w) A (richCompare .NotEq (.ref l) (.ref b)) Q E s := by
  obtain ⟨⟨cls, dd, data, sl⟩, ho, hc, n, hd⟩ := id hl
  obtain ⟨⟨cls2, dd2, data2, sl2⟩, ho2, hc2, n2, hd2⟩ := id hb
  simp only at hc hd hc2 hd2
  subst hc hd hc2 hd2
  exact wpAny_richCompare_same_room (T := "list") (op := .NotEq) ⟨_, ho, rfl⟩ ⟨_, ho2, rfl⟩ F.slot_list_ne (call_meetsIn F.slot_list_ne ⟨_, ho, rfl⟩ F.entry_list_ne (F.args_list_ne_2 _ _) (list_neI l b items items2 n n2 dd dd2 sl sl2 hsz e)
    ⟨ho, ho2, he, show Value.bool (!(List.range items.size).all e) ≠ Value.notImplemented ∧ Q (.bool (!(List.range items.size).all e)) s from ⟨(fun x => nomatch x), h⟩⟩) hu
theorem ne_tuples {E : Value → Shared → Prop} {l b : Addr} {items items2 : Array Value} {e : Nat → Bool} {Q : Value → Shared → Prop} (hl : s.heap.IsTuple l items) (hb : s.heap.IsTuple b items2) (hu : A.units < cLine)
    (he : ∀ j (h1 : j < items.size) (h2 : j < items2.size), EqIn prog w A.in1 s items[j] items2[j] (e j)) (h : Q (.bool (!((List.range (min items.size items2.size)).all e && items.size == items2.size))) s) :
    wpAny (model prog w) A (richCompare .NotEq (.ref l) (.ref b)) Q E s := by
  obtain ⟨⟨cls, dd, data, sl⟩, ho, hc, n, hd⟩ := id hl
  obtain ⟨⟨cls2, dd2, data2, sl2⟩, ho2, hc2, n2, hd2⟩ := id hb
  simp only at hc hd hc2 hd2
  subst hc hd hc2 hd2
  exact wpAny_richCompare_same_room (T := "tuple") (op := .NotEq) ⟨_, ho, rfl⟩ ⟨_, ho2, rfl⟩ F.slot_tuple_ne (call_meetsIn F.slot_tuple_ne ⟨_, ho, rfl⟩ F.entry_tuple_ne (F.args_tuple_ne_2 _ _) (tuple_neI l b items items2 n n2 dd dd2 sl sl2 e)
    ⟨ho, ho2, he, show Value.bool (!((List.range (min items.size items2.size)).all e && items.size == items2.size)) ≠ Value.notImplemented ∧ Q (.bool (!((List.range (min items.size items2.size)).all e && items.size == items2.size))) s from ⟨(fun x => nomatch x), h⟩⟩) hu
end
section
open PySem.W
variable {prog : Program} {w : World} {K : Type} [DecidableEq K] {knd : KeyKind prog w K} {A : Around} {E : Value → Shared → Prop} {s : Shared}
theorem ne_dicts {a b : Addr} {ka kb : List (K × Value)} {r : Bool} {Q : Value → Shared → Prop} (ha : (a == sysModules) = false) (hb : (b == sysModules) = false)
    (da : s.heap.DictOf knd a ka) (db : s.heap.DictOf knd b kb) (hu : A.units < cLine) (hits : ka.length = kb.length → KeqHitsIn prog w A.in1 s kb ka r) (h : Q (.bool (!(ka.length == kb.length && r))) s) :
    wpAny (model prog w) A (compareOp .NotEq (.ref a) (.ref b)) Q E s := by
  refine wpAny_richCompare_same_room (op := .NotEq) da.typeIs db.typeIs PySem.F.slot_dict_ne (wpAny_call_entry PySem.F.slot_dict_ne da.typeIs PySem.F.entry_dict_ne ?_ (PySem.F.args_dict_ne_2 _ _)) hu
  show wpAny _ _ (Builtin.Dict.dictSlotArgs "__ne__" ⟨[.ref a, .ref b], []⟩ >>= _) _ _ s
  refine wpAny_bind ?_
  unfold Builtin.Dict.dictSlotArgs
  refine wpAny_bind (wpAny_notOrdered_dict da.typeIs ?_)
  show wpAny _ _ (pure (Value.ref a, Value.ref b)) _ _ s
  refine wpAny_pure ?_
  refine wpAny_bind (wpAny_isInstance (T := "dict") db.typeIs PySem.F.sub_dict_dict ?_)
  simp only [Bool.not_true, Bool.false_eq_true, if_false]
  refine wpAny_bind (wpAny_pure (wpAny_bind (wpAny_pure ?_)))
  refine wpAny_bind (keq_samePairsIn ha hb da db hits ?_)
  refine wpAny_pure ⟨_, rfl, ?_, ?_⟩
  · exact fun x => nomatch x
  · simpa using h
end
end DL.Ne
set_option Elab.async false
set_option linter.all false
set_option maxRecDepth 100000
set_option autoImplicit false
/-! DLE: == and != of data, as a function. -/
namespace DL
open PySem PySem.Spec PyProof.Rows L2
/-- flat against flat, flat against a list or a tuple, a list against a tuple -/
def eqF : D → D → Option Bool
  | .non, .non => some true
  | .bl a, .bl b => some (a == b)
  | .int a, .int b => some (a == b)
  | .str a, .str b => some (a == b)
  | .bl a, .int b => some ((if a then 1 else 0) == b)
  | .int a, .bl b => some (a == (if b then 1 else 0))
  | .non, .bl _ => some false
  | .non, .int _ => some false
  | .non, .str _ => some false
  | .bl _, .non => some false
  | .bl _, .str _ => some false
  | .int _, .non => some false
  | .int _, .str _ => some false
  | .str _, .non => some false
  | .str _, .bl _ => some false
  | .str _, .int _ => some false
  | .non, .lst _ => some false
  | .lst _, .non => some false
  | .non, .tup _ => some false
  | .tup _, .non => some false
  | .bl _, .lst _ => some false
  | .lst _, .bl _ => some false
  | .bl _, .tup _ => some false
  | .tup _, .bl _ => some false
  | .int _, .lst _ => some false
  | .lst _, .int _ => some false
  | .int _, .tup _ => some false
  | .tup _, .int _ => some false
  | .str _, .lst _ => some false
  | .lst _, .str _ => some false
  | .str _, .tup _ => some false
  | .tup _, .str _ => some false
  | .lst _, .tup _ => some false
  | .tup _, .lst _ => some false
  | _, _ => none
def eqAll (f : D → D → Option Bool) : List D → List D → Option Bool
  | x :: xs, y :: ys => (f x y).bind fun a => (eqAll f xs ys).map fun b => a && b
  | _, _ => some true
def eqKs (f : D → D → Option Bool) (ls : List (Key × D)) : List (Key × D) → Option Bool
  | (k, x) :: ks => match lookK k ls with
    | none => some false
    | some y => (f x y).bind fun a => (eqKs f ls ks).map fun b => a && b
  | [] => some true
def eqN : Nat → D → D → Option Bool
  | 0, _, _ => none
  | n + 1, x, y => match x.view, y.view with
    | .lst xs, .lst ys => if xs.length = ys.length then eqAll (eqN n) xs ys else some false
    | .tup xs, .tup ys => (eqAll (eqN n) xs ys).map fun b => b && xs.length == ys.length
    | .dct ks, .dct ls => if ks.length = ls.length then eqKs (eqN n) ls ks else some false
    | a, b => eqF a b
section
variable {X : Cx} {g : Gb} {S H : Hp} {s : Shared} {pins : List (Addr × Obj)} {σ : L2.St}
open SeqAt (EqIn EqAt RcAt RcNeAt)
theorem RepK.lookV {k : Key} : ∀ {kds : List (Key × D)} {kvs : List (Key × V)}, RepK g S kds kvs → (lookK k kds = none ∧ valV kvs k = none) ∨ ∃ d v, lookK k kds = some d ∧ valV kvs k = some v ∧ Rep g S d v
  | [], kvs, r => by rw [show kvs = [] from r]; exact .inl ⟨rfl, rfl⟩
  | (k0, d0) :: kds, kvs, ⟨v0, rr, e, a, b⟩ => by
    subst e
    by_cases z : k0 = k
    · refine .inr ⟨d0, v0, ?_, valV_pos z, a⟩
      simp [lookK, List.find?_cons, z]
    · have e1 : lookK k ((k0, d0) :: kds) = lookK k kds := by simp [lookK, List.find?_cons, z]
      have e2 : valV ((k0, v0) :: rr) k = valV rr k := valV_neg z
      rw [e1, e2]
      exact RepK.lookV b
theorem eqAll_get {f : D → D → Option Bool} : ∀ {xs ys : List D} {b : Bool}, eqAll f xs ys = some b → ∃ e : Nat → Bool, (∀ (i : Nat) x y, xs[i]? = some x → ys[i]? = some y → f x y = some (e i)) ∧ b = (List.range (min xs.length ys.length)).all e
  | [], ys, b, h => by cases h; exact ⟨fun _ => true, fun i x y h => by simp at h, by simp⟩
  | x :: xs, [], b, h => by cases h; exact ⟨fun _ => true, fun i x y _ h => by simp at h, by simp⟩
  | x :: xs, y :: ys, b, h => by
    unfold eqAll at h
    cases h1 : f x y with
    | none => rw [h1] at h; cases h
    | some a =>
      rw [h1] at h
      dsimp only [Option.bind] at h
      cases h2 : eqAll f xs ys with
      | none => rw [h2] at h; cases h
      | some c =>
        rw [h2] at h
        cases h
        obtain ⟨e, q1, q2⟩ := eqAll_get h2
        refine ⟨fun i => match i with | 0 => a | i + 1 => e i, fun i x' y' hx hy => ?_, ?_⟩
        · cases i with
          | zero => simp at hx hy; subst hx hy; exact h1
          | succ i => exact q1 i x' y' (by simpa using hx) (by simpa using hy)
        · simp only [List.length_cons, Nat.succ_min_succ, List.range_succ_eq_map, List.all_cons, List.all_map]
          rw [q2]
          rfl
/-- flat and mixed kinds -/
theorem eqF_at {A : Around} {x y : D} {vx vy : V} {v u : Value} {b : Bool} (I : L2.Inv X pins σ H s) (hK : X.K = g.K) (sb : Sub S H) (hu : A.units < cLine) (h : eqF x y = some b) (rx : Rep g S x vx) (ry : Rep g S y vy) (rv : RelV vx v) (ru : RelV vy u) :
    EqAt A s v u b ∧ RcAt A s v u b ∧ RcNeAt A s v u (!b) := by
  have ls : ∀ {a : Addr} {vs : List V}, S a = some (.lst vs) → ∃ its, s.heap.IsList a its := fun {a vs} e => by
    obtain ⟨us, _, p, _⟩ := I.list (.inl (.inl (sb.lst e)))
    exact ⟨_, p.isList⟩
  have ts : ∀ {a : Addr} {vs : List V}, SqT g.K S a vs → ∃ its, s.heap.IsTuple a its := fun {a vs} e => by
    rw [← hK] at e
    obtain ⟨us, _, p, _⟩ := I.tuple (sb.sqT e)
    exact ⟨_, p⟩
  unfold eqF at h
  split at h
  · cases h
    cases rx; cases rv
    cases ry; cases ru
    exact ⟨SeqAt.EqAt.same _, SeqAt.RcAt.none_none, by first | exact SeqAt.RcNeAt.none_none | simpa using SeqAt.RcNeAt.none_none (A := A) (s := s)⟩
  · cases h
    cases rx; cases rv
    cases ry; cases ru
    exact ⟨SeqAt.EqAt.bool_bool _ _, SeqAt.RcAt.bool_bool _ _, by first | exact SeqAt.RcNeAt.bool_bool _ _ | simpa using SeqAt.RcNeAt.bool_bool _ _ (A := A) (s := s)⟩
  · cases h
    cases rx; obtain ⟨t0, rfl⟩ := rv
    cases ry; obtain ⟨t1, rfl⟩ := ru
    exact ⟨SeqAt.EqAt.int_int _ _ _ _, SeqAt.RcAt.int_int _ _ _ _, by first | exact SeqAt.RcNeAt.int_int _ _ _ _ | simpa using SeqAt.RcNeAt.int_int _ _ _ _ (A := A) (s := s)⟩
  · cases h
    cases rx; obtain ⟨t0, rfl⟩ := rv
    cases ry; obtain ⟨t1, rfl⟩ := ru
    exact ⟨SeqAt.EqAt.str_str _ _ _ _, SeqAt.RcAt.str_str _ _ _ _, by first | exact SeqAt.RcNeAt.str_str _ _ _ _ | simpa using SeqAt.RcNeAt.str_str _ _ _ _ (A := A) (s := s)⟩
  · cases h
    cases rx; cases rv
    cases ry; obtain ⟨t1, rfl⟩ := ru
    exact ⟨SeqAt.EqAt.bool_int _ _ _, SeqAt.RcAt.bool_int _ _ _, by first | exact SeqAt.RcNeAt.bool_int _ _ _ | simpa using SeqAt.RcNeAt.bool_int _ _ _ (A := A) (s := s)⟩
  · cases h
    cases rx; obtain ⟨t0, rfl⟩ := rv
    cases ry; cases ru
    exact ⟨SeqAt.EqAt.int_bool _ _ _, SeqAt.RcAt.int_bool _ _ _, by first | exact SeqAt.RcNeAt.int_bool _ _ _ | simpa using SeqAt.RcNeAt.int_bool _ _ _ (A := A) (s := s)⟩
  · cases h
    cases rx; cases rv
    cases ry; cases ru
    exact ⟨SeqAt.EqAt.none_bool _, SeqAt.RcAt.none_bool _, by first | exact SeqAt.RcNeAt.none_bool _ | simpa using SeqAt.RcNeAt.none_bool _ (A := A) (s := s)⟩
  · cases h
    cases rx; cases rv
    cases ry; obtain ⟨t1, rfl⟩ := ru
    exact ⟨SeqAt.EqAt.none_int _ _, SeqAt.RcAt.none_int _ _, by first | exact SeqAt.RcNeAt.none_int _ _ | simpa using SeqAt.RcNeAt.none_int _ _ (A := A) (s := s)⟩
  · cases h
    cases rx; cases rv
    cases ry; obtain ⟨t1, rfl⟩ := ru
    exact ⟨SeqAt.EqAt.none_str _ _, SeqAt.RcAt.none_str _ _, by first | exact SeqAt.RcNeAt.none_str _ _ | simpa using SeqAt.RcNeAt.none_str _ _ (A := A) (s := s)⟩
  · cases h
    cases rx; cases rv
    cases ry; cases ru
    exact ⟨SeqAt.EqAt.bool_none _, SeqAt.RcAt.bool_none _, by first | exact SeqAt.RcNeAt.bool_none _ | simpa using SeqAt.RcNeAt.bool_none _ (A := A) (s := s)⟩
  · cases h
    cases rx; cases rv
    cases ry; obtain ⟨t1, rfl⟩ := ru
    exact ⟨SeqAt.EqAt.bool_str _ _ _, SeqAt.RcAt.bool_str _ _ _, by first | exact SeqAt.RcNeAt.bool_str _ _ _ | simpa using SeqAt.RcNeAt.bool_str _ _ _ (A := A) (s := s)⟩
  · cases h
    cases rx; obtain ⟨t0, rfl⟩ := rv
    cases ry; cases ru
    exact ⟨SeqAt.EqAt.int_none _ _, SeqAt.RcAt.int_none _ _, by first | exact SeqAt.RcNeAt.int_none _ _ | simpa using SeqAt.RcNeAt.int_none _ _ (A := A) (s := s)⟩
  · cases h
    cases rx; obtain ⟨t0, rfl⟩ := rv
    cases ry; obtain ⟨t1, rfl⟩ := ru
    exact ⟨SeqAt.EqAt.int_str _ _ _ _, SeqAt.RcAt.int_str _ _ _ _, by first | exact SeqAt.RcNeAt.int_str _ _ _ _ | simpa using SeqAt.RcNeAt.int_str _ _ _ _ (A := A) (s := s)⟩
  · cases h
    cases rx; obtain ⟨t0, rfl⟩ := rv
    cases ry; cases ru
    exact ⟨SeqAt.EqAt.str_none _ _, SeqAt.RcAt.str_none _ _, by first | exact SeqAt.RcNeAt.str_none _ _ | simpa using SeqAt.RcNeAt.str_none _ _ (A := A) (s := s)⟩
  · cases h
    cases rx; obtain ⟨t0, rfl⟩ := rv
    cases ry; cases ru
    exact ⟨SeqAt.EqAt.str_bool _ _ _, SeqAt.RcAt.str_bool _ _ _, by first | exact SeqAt.RcNeAt.str_bool _ _ _ | simpa using SeqAt.RcNeAt.str_bool _ _ _ (A := A) (s := s)⟩
  · cases h
    cases rx; obtain ⟨t0, rfl⟩ := rv
    cases ry; obtain ⟨t1, rfl⟩ := ru
    exact ⟨SeqAt.EqAt.str_int _ _ _ _, SeqAt.RcAt.str_int _ _ _ _, by first | exact SeqAt.RcNeAt.str_int _ _ _ _ | simpa using SeqAt.RcNeAt.str_int _ _ _ _ (A := A) (s := s)⟩
  · cases h
    cases rx; cases rv
    obtain ⟨a1, vs1, rfl, h1, _⟩ := ry; cases ru; obtain ⟨its1, p1⟩ := ls h1
    exact ⟨SeqAt.EqAt.none_list p1 hu, SeqAt.RcAt.none_list p1 hu, by first | exact SeqAt.RcNeAt.none_list p1 hu | simpa using SeqAt.RcNeAt.none_list p1 hu (A := A) (s := s)⟩
  · cases h
    obtain ⟨a0, vs0, rfl, h0, _⟩ := rx; cases rv; obtain ⟨its0, p0⟩ := ls h0
    cases ry; cases ru
    exact ⟨SeqAt.EqAt.list_none p0 hu, SeqAt.RcAt.list_none p0 hu, by first | exact SeqAt.RcNeAt.list_none p0 hu | simpa using SeqAt.RcNeAt.list_none p0 hu (A := A) (s := s)⟩
  · cases h
    cases rx; cases rv
    obtain ⟨a1, vs1, rfl, h1, _⟩ := ry; cases ru; obtain ⟨its1, p1⟩ := ts h1
    exact ⟨SeqAt.EqAt.none_tuple p1 hu, SeqAt.RcAt.none_tuple p1 hu, by first | exact SeqAt.RcNeAt.none_tuple p1 hu | simpa using SeqAt.RcNeAt.none_tuple p1 hu (A := A) (s := s)⟩
  · cases h
    obtain ⟨a0, vs0, rfl, h0, _⟩ := rx; cases rv; obtain ⟨its0, p0⟩ := ts h0
    cases ry; cases ru
    exact ⟨SeqAt.EqAt.tuple_none p0 hu, SeqAt.RcAt.tuple_none p0 hu, by first | exact SeqAt.RcNeAt.tuple_none p0 hu | simpa using SeqAt.RcNeAt.tuple_none p0 hu (A := A) (s := s)⟩
  · cases h
    cases rx; cases rv
    obtain ⟨a1, vs1, rfl, h1, _⟩ := ry; cases ru; obtain ⟨its1, p1⟩ := ls h1
    exact ⟨SeqAt.EqAt.bool_list _ p1 hu, SeqAt.RcAt.bool_list _ p1 hu, by first | exact SeqAt.RcNeAt.bool_list _ p1 hu | simpa using SeqAt.RcNeAt.bool_list _ p1 hu (A := A) (s := s)⟩
  · cases h
    obtain ⟨a0, vs0, rfl, h0, _⟩ := rx; cases rv; obtain ⟨its0, p0⟩ := ls h0
    cases ry; cases ru
    exact ⟨SeqAt.EqAt.list_bool _ p0 hu, SeqAt.RcAt.list_bool _ p0 hu, by first | exact SeqAt.RcNeAt.list_bool _ p0 hu | simpa using SeqAt.RcNeAt.list_bool _ p0 hu (A := A) (s := s)⟩
  · cases h
    cases rx; cases rv
    obtain ⟨a1, vs1, rfl, h1, _⟩ := ry; cases ru; obtain ⟨its1, p1⟩ := ts h1
    exact ⟨SeqAt.EqAt.bool_tuple _ p1 hu, SeqAt.RcAt.bool_tuple _ p1 hu, by first | exact SeqAt.RcNeAt.bool_tuple _ p1 hu | simpa using SeqAt.RcNeAt.bool_tuple _ p1 hu (A := A) (s := s)⟩
  · cases h
    obtain ⟨a0, vs0, rfl, h0, _⟩ := rx; cases rv; obtain ⟨its0, p0⟩ := ts h0
    cases ry; cases ru
    exact ⟨SeqAt.EqAt.tuple_bool _ p0 hu, SeqAt.RcAt.tuple_bool _ p0 hu, by first | exact SeqAt.RcNeAt.tuple_bool _ p0 hu | simpa using SeqAt.RcNeAt.tuple_bool _ p0 hu (A := A) (s := s)⟩
  · cases h
    cases rx; obtain ⟨t0, rfl⟩ := rv
    obtain ⟨a1, vs1, rfl, h1, _⟩ := ry; cases ru; obtain ⟨its1, p1⟩ := ls h1
    exact ⟨SeqAt.EqAt.int_list _ _ p1 hu, SeqAt.RcAt.int_list _ _ p1 hu, by first | exact SeqAt.RcNeAt.int_list _ _ p1 hu | simpa using SeqAt.RcNeAt.int_list _ _ p1 hu (A := A) (s := s)⟩
  · cases h
    obtain ⟨a0, vs0, rfl, h0, _⟩ := rx; cases rv; obtain ⟨its0, p0⟩ := ls h0
    cases ry; obtain ⟨t1, rfl⟩ := ru
    exact ⟨SeqAt.EqAt.list_int _ _ p0 hu, SeqAt.RcAt.list_int _ _ p0 hu, by first | exact SeqAt.RcNeAt.list_int _ _ p0 hu | simpa using SeqAt.RcNeAt.list_int _ _ p0 hu (A := A) (s := s)⟩
  · cases h
    cases rx; obtain ⟨t0, rfl⟩ := rv
    obtain ⟨a1, vs1, rfl, h1, _⟩ := ry; cases ru; obtain ⟨its1, p1⟩ := ts h1
    exact ⟨SeqAt.EqAt.int_tuple _ _ p1 hu, SeqAt.RcAt.int_tuple _ _ p1 hu, by first | exact SeqAt.RcNeAt.int_tuple _ _ p1 hu | simpa using SeqAt.RcNeAt.int_tuple _ _ p1 hu (A := A) (s := s)⟩
  · cases h
    obtain ⟨a0, vs0, rfl, h0, _⟩ := rx; cases rv; obtain ⟨its0, p0⟩ := ts h0
    cases ry; obtain ⟨t1, rfl⟩ := ru
    exact ⟨SeqAt.EqAt.tuple_int _ _ p0 hu, SeqAt.RcAt.tuple_int _ _ p0 hu, by first | exact SeqAt.RcNeAt.tuple_int _ _ p0 hu | simpa using SeqAt.RcNeAt.tuple_int _ _ p0 hu (A := A) (s := s)⟩
  · cases h
    cases rx; obtain ⟨t0, rfl⟩ := rv
    obtain ⟨a1, vs1, rfl, h1, _⟩ := ry; cases ru; obtain ⟨its1, p1⟩ := ls h1
    exact ⟨SeqAt.EqAt.str_list _ _ p1 hu, SeqAt.RcAt.str_list _ _ p1 hu, by first | exact SeqAt.RcNeAt.str_list _ _ p1 hu | simpa using SeqAt.RcNeAt.str_list _ _ p1 hu (A := A) (s := s)⟩
  · cases h
    obtain ⟨a0, vs0, rfl, h0, _⟩ := rx; cases rv; obtain ⟨its0, p0⟩ := ls h0
    cases ry; obtain ⟨t1, rfl⟩ := ru
    exact ⟨SeqAt.EqAt.list_str _ _ p0 hu, SeqAt.RcAt.list_str _ _ p0 hu, by first | exact SeqAt.RcNeAt.list_str _ _ p0 hu | simpa using SeqAt.RcNeAt.list_str _ _ p0 hu (A := A) (s := s)⟩
  · cases h
    cases rx; obtain ⟨t0, rfl⟩ := rv
    obtain ⟨a1, vs1, rfl, h1, _⟩ := ry; cases ru; obtain ⟨its1, p1⟩ := ts h1
    exact ⟨SeqAt.EqAt.str_tuple _ _ p1 hu, SeqAt.RcAt.str_tuple _ _ p1 hu, by first | exact SeqAt.RcNeAt.str_tuple _ _ p1 hu | simpa using SeqAt.RcNeAt.str_tuple _ _ p1 hu (A := A) (s := s)⟩
  · cases h
    obtain ⟨a0, vs0, rfl, h0, _⟩ := rx; cases rv; obtain ⟨its0, p0⟩ := ts h0
    cases ry; obtain ⟨t1, rfl⟩ := ru
    exact ⟨SeqAt.EqAt.tuple_str _ _ p0 hu, SeqAt.RcAt.tuple_str _ _ p0 hu, by first | exact SeqAt.RcNeAt.tuple_str _ _ p0 hu | simpa using SeqAt.RcNeAt.tuple_str _ _ p0 hu (A := A) (s := s)⟩
  · cases h
    obtain ⟨a0, vs0, rfl, h0, _⟩ := rx; cases rv; obtain ⟨its0, p0⟩ := ls h0
    obtain ⟨a1, vs1, rfl, h1, _⟩ := ry; cases ru; obtain ⟨its1, p1⟩ := ts h1
    exact ⟨SeqAt.EqAt.list_tuple p0 p1 hu, SeqAt.RcAt.list_tuple p0 p1 hu, by first | exact SeqAt.RcNeAt.list_tuple p0 p1 hu | simpa using SeqAt.RcNeAt.list_tuple p0 p1 hu (A := A) (s := s)⟩
  · cases h
    obtain ⟨a0, vs0, rfl, h0, _⟩ := rx; cases rv; obtain ⟨its0, p0⟩ := ts h0
    obtain ⟨a1, vs1, rfl, h1, _⟩ := ry; cases ru; obtain ⟨its1, p1⟩ := ls h1
    exact ⟨SeqAt.EqAt.tuple_list p0 p1 hu, SeqAt.RcAt.tuple_list p0 p1 hu, by first | exact SeqAt.RcNeAt.tuple_list p0 p1 hu | simpa using SeqAt.RcNeAt.tuple_list p0 p1 hu (A := A) (s := s)⟩
  · cases h
theorem relV_inj : ∀ {x y : V} {u : Value}, RelV x u → RelV y u → x = y := by
  intro x y u h1 h2
  cases x <;> cases y <;> first
    | (cases h1; cases h2; exact Eq.refl _)
    | (obtain ⟨t, rfl⟩ := h1; obtain ⟨t', e⟩ := h2; cases e; rfl)
    | (obtain ⟨t, rfl⟩ := h1; obtain ⟨t', e⟩ := h2; cases e)
    | (obtain ⟨t, rfl⟩ := h1; cases h2)
    | (obtain ⟨t, rfl⟩ := h2; cases h1)
    | (cases h1; cases h2)
theorem vals_inj : ∀ {xs ys : List V} {us : List Value}, Vals xs us → Vals ys us → xs = ys
  | _, _, _, .nil, .nil => rfl
  | _, _, _, .cons a b, .cons c d => by rw [relV_inj a c, vals_inj b d]
theorem sqT_inj {a : Addr} {xs ys : List V} (I : L2.Inv X pins σ H s) (h1 : SqT X.K H a xs) (h2 : SqT X.K H a ys) : xs = ys := by
  obtain ⟨its, r1, p1, _⟩ := I.tuple h1
  obtain ⟨its2, r2, p2, _⟩ := I.tuple h2
  obtain ⟨o, e, _, n, d⟩ := p1
  obtain ⟨o2, e2, _, n2, d2⟩ := p2
  rw [e] at e2; cases e2
  rw [d] at d2
  have : its = its2 := by
    have := Data.seq.inj d2
    exact congrArg Array.toList this.1
  subst this
  exact vals_inj r1 r2
theorem dk_nodup {a : Addr} {kvs : List (Key × V)} (I : L2.Inv X pins σ H s) (h : Rd H a (.dK kvs)) : (kvs.map (·.1)).Nodup := by
  obtain ⟨_, _, vs, kv, o, es, ep, _, _, _, _, _, nd⟩ := h.ok I.hok
  have key : ∀ {ks : List (Key × V)} {us : List (Key × Value)}, KV ks us → ks.map (·.1) = us.map (·.1) := by
    intro ks us h
    unfold KV at h
    induction h with
    | nil => rfl
    | cons a b ih => simp [a.1, ih]
  rw [key kv]; exact nd
theorem valV_mem {k : Key} {v : V} : ∀ {kvs : List (Key × V)}, (kvs.map (·.1)).Nodup → (k, v) ∈ kvs → valV kvs k = some v
  | [], _, h => by cases h
  | (k0, v0) :: kvs, nd, h => by
    obtain ⟨n1, n2⟩ := List.nodup_cons.mp nd
    rcases List.mem_cons.mp h with z | z
    · cases z; exact valV_pos rfl
    · rw [valV_neg fun e => n1 (by rw [show k0 = k from e]; exact List.mem_map.mpr ⟨(k, v), z, rfl⟩)]
      exact valV_mem n2 z
theorem eqKs_same {f : D → D → Option Bool} {kvs : List (Key × V)} {ls : List (Key × D)} (nd : (kvs.map (·.1)).Nodup) (rl : RepK g S ls kvs) (hf : ∀ x y v c, Rep g S x v → Rep g S y v → f x y = some c → c = true) :
    ∀ {ks : List (Key × D)} {us : List (Key × V)} {b : Bool}, RepK g S ks us → (∀ p ∈ us, p ∈ kvs) → eqKs f ls ks = some b → b = true
  | [], us, b, _, _, h => by cases h; rfl
  | (k, x) :: ks, us, b, ⟨v, rr, e, a, r⟩, hm, h => by
    subst e
    unfold eqKs at h
    have hv := valV_mem nd (hm (k, v) List.mem_cons_self)
    rcases RepK.lookV (k := k) rl with ⟨_, z⟩ | ⟨d, v2, h1, h2, h3⟩
    · rw [hv] at z; cases z
    · rw [hv] at h2; cases h2
      rw [h1] at h
      dsimp only at h
      cases h4 : f x d with
      | none => rw [h4] at h; cases h
      | some c =>
        rw [h4] at h
        dsimp only [Option.bind] at h
        cases h5 : eqKs f ls ks with
        | none => rw [h5] at h; cases h
        | some c2 =>
          rw [h5] at h
          cases h
          rw [hf _ _ _ _ a h3 h4, eqKs_same nd rl hf r (fun p m => hm p (List.mem_cons_of_mem _ m)) h5]
          rfl
theorem eqN_same (I : L2.Inv X pins σ H s) (hK : X.K = g.K) (sb : Sub S H) : ∀ (n : Nat) (x y : D) (v : V) (b : Bool), Rep g S x v → Rep g S y v → eqN n x y = some b → b = true
  | 0, _, _, _, _, _, _, h => by cases h
  | n + 1, x, y, v, b, rx, ry, h => by
    have rx := rx.view
    have ry := ry.view
    unfold eqN at h
    have fl : ∀ {a c : D} {b : Bool}, Rep g S a v → Rep g S c v → eqF a c = some b → b = true := fun {a c b} ra rc h => by
      unfold eqF at h
      split at h <;> first
        | (cases h; done)
        | (cases h; have := ra.symm.trans rc; cases this; simp; done)
        | (cases h; rfl)
        | (exfalso; obtain ⟨_, _, e, _⟩ := ra; have := e.symm.trans rc; cases this)
        | (exfalso; obtain ⟨_, _, e, _⟩ := rc; have := e.symm.trans ra; cases this)
        | (exfalso; have := ra.symm.trans rc; cases this; done)
        | skip
      · exfalso
        obtain ⟨a1, vs1, e1, h1, _⟩ := ra
        obtain ⟨a2, vs2, e2, h2, _⟩ := rc
        rw [e1] at e2; cases e2
        obtain ⟨_, _, p1, _⟩ := I.list (.inl (.inl (sb.lst h1)))
        rw [← hK] at h2
        obtain ⟨_, _, p2, _⟩ := I.tuple (sb.sqT h2)
        exact SeqAt.ne_of_list_tuple p1.isList p2 rfl
      · exfalso
        obtain ⟨a1, vs1, e1, h1, _⟩ := ra
        obtain ⟨a2, vs2, e2, h2, _⟩ := rc
        rw [e1] at e2; cases e2
        obtain ⟨_, _, p1, _⟩ := I.list (.inl (.inl (sb.lst h2)))
        rw [← hK] at h1
        obtain ⟨_, _, p2, _⟩ := I.tuple (sb.sqT h1)
        exact SeqAt.ne_of_list_tuple p1.isList p2 rfl
    have al : ∀ {xs ys : List D} {vs : List V} {b : Bool}, Reps g S xs vs → Reps g S ys vs → eqAll (eqN n) xs ys = some b → b = true := fun {xs ys vs b} r1 r2 h => by
      obtain ⟨e, q1, q2⟩ := eqAll_get h
      rw [q2, List.all_eq_true]
      intro i hi
      have hi := List.mem_range.mp hi
      have h1 : i < xs.length := by omega
      have h2 : i < ys.length := by omega
      obtain ⟨v1, w1, u1⟩ := r1.get (List.getElem?_eq_getElem h1)
      obtain ⟨v2, w2, u2⟩ := r2.get (List.getElem?_eq_getElem h2)
      rw [w1] at w2; cases w2
      exact eqN_same I hK sb n _ _ _ _ u1 u2 (q1 i _ _ (List.getElem?_eq_getElem h1) (List.getElem?_eq_getElem h2))
    split at h
    · rename_i xs ys ex ey
      rw [ex] at rx; rw [ey] at ry
      obtain ⟨a, vs, e1, h1, r1⟩ := rx
      obtain ⟨a2, vs2, e2, h2, r2⟩ := ry
      rw [e1] at e2; cases e2
      rw [h1] at h2; cases h2
      split at h
      · exact al r1 r2 h
      · rename_i hl
        exact absurd (r1.len.symm.trans r2.len) hl
    · rename_i xs ys ex ey
      rw [ex] at rx; rw [ey] at ry
      obtain ⟨a, vs, e1, h1, r1⟩ := rx
      obtain ⟨a2, vs2, e2, h2, r2⟩ := ry
      rw [e1] at e2; cases e2
      rw [← hK] at h1 h2
      have := sqT_inj I (sb.sqT h1) (sb.sqT h2)
      subst this
      cases h3 : eqAll (eqN n) xs ys with
      | none => rw [h3] at h; cases h
      | some c =>
        rw [h3] at h
        cases h
        rw [al r1 r2 h3, r1.len.symm.trans r2.len]
        simp
    · rename_i ks ls ex ey
      rw [ex] at rx; rw [ey] at ry
      obtain ⟨a, vs, e1, h1, r1⟩ := rx
      obtain ⟨a2, vs2, e2, h2, r2⟩ := ry
      rw [e1] at e2; cases e2
      have : vs = vs2 := by
        rcases h1 with h1 | ⟨o, h1⟩
        · rcases h2 with h2 | ⟨o2, h2⟩
          · rw [h1] at h2; cases h2; rfl
          · rw [h1] at h2; cases h2
        · rcases h2 with h2 | ⟨o2, h2⟩
          · rw [h1] at h2; cases h2
          · rw [h1] at h2; cases h2; rfl
      subst this
      split at h
      · exact eqKs_same (dk_nodup I (sb.rd h1)) r2 (fun x y v c r1 r2 h => eqN_same I hK sb n x y v c r1 r2 h) r1 (fun p m => m) h
      · rename_i hl
        exact absurd (r1.len.symm.trans r2.len) hl
    · exact fl rx ry h
/-- the items of two sequences -/
theorem items_eq {P : Program} {w : World} {A : Around} {f : D → D → Option Bool} {xs ys : List D} {vs us : List V} {its its2 : List Value} {e : Nat → Bool}
    (hf : ∀ x y v u vv uu c, Rep g S x v → Rep g S y u → RelV v vv → RelV u uu → f x y = some c → EqIn P w A s vv uu c)
    (q : ∀ (i : Nat) x y, xs[i]? = some x → ys[i]? = some y → f x y = some (e i)) (r1 : Reps g S xs vs) (r2 : Reps g S ys us) (v1 : Vals vs its) (v2 : Vals us its2) :
    ∀ j (h1 : j < its.toArray.size) (h2 : j < its2.toArray.size), EqIn P w A s its.toArray[j] its2.toArray[j] (e j) := by
  intro j h1 h2
  have l1 : j < vs.length := by rw [v1.length]; simpa using h1
  have l2 : j < us.length := by rw [v2.length]; simpa using h2
  obtain ⟨d1, a1, b1⟩ := r1.getV (List.getElem?_eq_getElem l1)
  obtain ⟨d2, a2, b2⟩ := r2.getV (List.getElem?_eq_getElem l2)
  obtain ⟨w1, c1, e1⟩ := v1.get (List.getElem?_eq_getElem l1)
  obtain ⟨w2, c2, e2⟩ := v2.get (List.getElem?_eq_getElem l2)
  have f1 : its.toArray[j] = w1 := by
    have : its[j]? = some w1 := c1
    rw [List.getElem?_eq_getElem (by simpa using h1)] at this
    simpa using this
  have f2 : its2.toArray[j] = w2 := by
    have : its2[j]? = some w2 := c2
    rw [List.getElem?_eq_getElem (by simpa using h2)] at this
    simpa using this
  rw [f1, f2]
  exact hf _ _ _ _ _ _ _ b1 b2 e1 e2 (q j _ _ a1 a2)
theorem hits_eq {P : Program} {w : World} {A : Around} {f : D → D → Option Bool} {ls : List (Key × D)} {lvs : List (Key × V)} {kb : List (Key × Value)} (rl : RepK g S ls lvs) (rb : KV lvs kb)
    (hf : ∀ x y v u vv uu c, Rep g S x v → Rep g S y u → RelV v vv → RelV u uu → f x y = some c → EqIn P w A s vv uu c) :
    ∀ {ks : List (Key × D)} {kvs : List (Key × V)} {ka : List (Key × Value)} {b : Bool}, RepK g S ks kvs → KV kvs ka → eqKs f ls ks = some b → PySem.W.KeqHitsIn P w A s kb ka b
  | [], kvs, ka, b, r, kv, h => by
    rw [show kvs = [] from r] at kv
    cases kv
    cases h
    exact .nil
  | (k, x) :: ks, kvs, ka, b, ⟨v, rr, e, a, r⟩, kv, h => by
    subst e
    unfold KV at kv
    cases kv with
    | @cons p q ps qs h0 t =>
      obtain ⟨key, vv⟩ := q
      obtain ⟨h1, h2⟩ := h0
      have h1 : k = key := h1
      subst h1
      unfold eqKs at h
      rcases RepK.lookV (k := k) rl with ⟨z1, z2⟩ | ⟨d, v2, z1, z2, z3⟩
      · rw [z1] at h
        cases h
        have rr : L2.RelO (valV lvs k) (valueAt kb k) := rb.val k
        rw [z2] at rr
        refine .miss ?_
        cases hq : valueAt kb k with
        | none => rfl
        | some y => rw [hq] at rr; exact rr.elim
      · rw [z1] at h
        dsimp only at h
        have rr : L2.RelO (valV lvs k) (valueAt kb k) := rb.val k
        rw [z2] at rr
        obtain ⟨y, hy, ry⟩ := rr.some_of
        cases h4 : f x d with
        | none => rw [h4] at h; cases h
        | some c =>
          rw [h4] at h
          dsimp only [Option.bind] at h
          cases h5 : eqKs f ls ks with
          | none => rw [h5] at h; cases h
          | some c2 =>
            rw [h5] at h
            cases h
            exact .hit hy (hf _ _ _ _ _ _ _ a z3 h2 ry h4) (hits_eq rl rb hf r t h5)
/-- the comparison of two structures -/
theorem eqR_at (I : L2.Inv X pins σ H s) (hK : X.K = g.K) (sb : Sub S H) {A : Around} {n : Nat} (hu : A.units < cLine)
    (hf : ∀ x y v u vv uu c, Rep g S x v → Rep g S y u → RelV v vv → RelV u uu → eqN n x y = some c → EqIn X.prog X.w A.in1 s vv uu c) {x y : D} {vx vy : V} {v u : Value} {b : Bool} (h : eqN (n + 1) x y = some b) (rx : Rep g S x vx) (ry : Rep g S y vy) (rv : RelV vx v) (ru : RelV vy u) (E Q : Value → Shared → Prop) :
    (Q (.bool b) s → wpAny (model X.prog X.w) A (compareOp .Eq v u) Q E s) ∧ (Q (.bool (!b)) s → wpAny (model X.prog X.w) A (compareOp .NotEq v u) Q E s) := by
  have rx := rx.view
  have ry := ry.view
  unfold eqN at h
  split at h
  · rename_i xs ys ex ey
    rw [ex] at rx; rw [ey] at ry
    obtain ⟨a, vs, rfl, h1, r1⟩ := rx
    obtain ⟨a2, vs2, rfl, h2, r2⟩ := ry
    cases rv; cases ru
    obtain ⟨its, w1, p1, _⟩ := I.list (.inl (.inl (sb.lst h1)))
    obtain ⟨its2, w2, p2, _⟩ := I.list (.inl (.inl (sb.lst h2)))
    have l1 : its.toArray.size = xs.length := by rw [List.size_toArray, ← w1.length, r1.len]
    have l2 : its2.toArray.size = ys.length := by rw [List.size_toArray, ← w2.length, r2.len]
    split at h
    · rename_i hl
      obtain ⟨e, q1, q2⟩ := eqAll_get h
      have q2 : b = (List.range its.toArray.size).all e := by rw [q2, l1, ← hl, Nat.min_self]
      have it := items_eq hf q1 r1 r2 w1 w2
      exact ⟨fun q => SeqAt.rcIn_lists p1.isList p2.isList (by rw [l1, l2, hl]) hu it (by rw [← q2]; exact q), fun q => Ne.ne_lists p1.isList p2.isList (by rw [l1, l2, hl]) hu it (by rw [← q2]; exact q)⟩
    · rename_i hl
      cases h
      have hne : (its.toArray.size != its2.toArray.size) = true := by rw [l1, l2]; simpa using hl
      exact ⟨fun q => SeqAt.RcAt.lists_lengths p1.isList p2.isList hne hu _ _ _ _ q, fun q => SeqAt.RcNeAt.lists_lengths p1.isList p2.isList hne hu _ _ _ _ q⟩
  · rename_i xs ys ex ey
    rw [ex] at rx; rw [ey] at ry
    obtain ⟨a, vs, rfl, h1, r1⟩ := rx
    obtain ⟨a2, vs2, rfl, h2, r2⟩ := ry
    cases rv; cases ru
    rw [← hK] at h1 h2
    obtain ⟨its, w1, p1, _⟩ := I.tuple (sb.sqT h1)
    obtain ⟨its2, w2, p2, _⟩ := I.tuple (sb.sqT h2)
    have l1 : its.toArray.size = xs.length := by rw [List.size_toArray, ← w1.length, r1.len]
    have l2 : its2.toArray.size = ys.length := by rw [List.size_toArray, ← w2.length, r2.len]
    cases h3 : eqAll (eqN n) xs ys with
    | none => rw [h3] at h; cases h
    | some c =>
      rw [h3] at h
      cases h
      obtain ⟨e, q1, q2⟩ := eqAll_get h3
      have it := items_eq hf q1 r1 r2 w1 w2
      have q3 : (c && xs.length == ys.length) = ((List.range (min its.toArray.size its2.toArray.size)).all e && its.toArray.size == its2.toArray.size) := by rw [q2, l1, l2]
      exact ⟨fun q => SeqAt.rcIn_tuples p1 p2 hu it (by rw [← q3]; exact q), fun q => Ne.ne_tuples p1 p2 hu it (by rw [← q3]; exact q)⟩
  · rename_i ks ls ex ey
    rw [ex] at rx; rw [ey] at ry
    obtain ⟨a, vs, rfl, h1, r1⟩ := rx
    obtain ⟨a2, vs2, rfl, h2, r2⟩ := ry
    cases rv; cases ru
    obtain ⟨_, ya, va, ka, da⟩ := (sb.rd h1).ok I.hok
    obtain ⟨_, yb, vb, kb, db⟩ := (sb.rd h2).ok I.hok
    have l1 : va.length = ks.length := by rw [← ka.length, r1.len]
    have l2 : vb.length = ls.length := by rw [← kb.length, r2.len]
    split at h
    · rename_i hl
      have e : (va.length == vb.length && b) = b := by rw [l1, l2, hl]; simp
      exact ⟨fun q => PySem.W.keq_eqIn (knd := mixKind X.prog X.w) (r := b) ya yb da db hu (fun _ => hits_eq r2 kb hf r1 ka h) (by rw [e]; exact q), fun q => Ne.ne_dicts (knd := mixKind X.prog X.w) (r := b) ya yb da db hu (fun _ => hits_eq r2 kb hf r1 ka h) (by rw [e]; exact q)⟩
    · rename_i hl
      cases h
      have e : (va.length == vb.length && true) = false := by rw [l1, l2]; simpa using hl
      exact ⟨fun q => PySem.W.keq_eqIn (knd := mixKind X.prog X.w) (r := true) ya yb da db hu (fun z => absurd (l1.symm.trans (z.trans l2)) hl) (by rw [e]; exact q), fun q => Ne.ne_dicts (knd := mixKind X.prog X.w) (r := true) ya yb da db hu (fun z => absurd (l1.symm.trans (z.trans l2)) hl) (by rw [e]; exact q)⟩
  · obtain ⟨_, q1, q2⟩ := eqF_at (A := A) I hK sb hu h rx ry rv ru
    exact ⟨fun q => q1 _ _ _ _ q, fun q => q2 _ _ _ _ q⟩
theorem eqN_at (I : L2.Inv X pins σ H s) (hK : X.K = g.K) (sb : Sub S H) : ∀ (n : Nat) (A : Around), A.units + n < cLine → ∀ (x y : D) (vx vy : V) (v u : Value) (b : Bool), Rep g S x vx → Rep g S y vy → RelV vx v → RelV vy u → eqN n x y = some b → EqIn X.prog X.w A s v u b
  | 0, _, _, _, _, _, _, _, _, _, _, _, _, _, h => by cases h
  | n + 1, A, hu, x, y, vx, vy, v, u, b, rx, ry, rv, ru, h => by
    have step := fun E Q => (eqR_at I hK sb (A := A) (n := n) (by omega) (fun x y vx vy v u c r1 r2 r3 r4 hc => eqN_at I hK sb n A.in1 (by show A.units + 1 + n < cLine; omega) x y vx vy v u c r1 r2 r3 r4 hc) h rx ry rv ru E Q).1
    by_cases hr : ∃ a c, v = .ref a ∧ u = .ref c
    · obtain ⟨a, c, rfl, rfl⟩ := hr
      by_cases e : a = c
      · subst e
        have := relV_inj rv ru
        subst this
        rw [eqN_same I hK sb (n + 1) x y vx b rx ry h]
        exact (SeqAt.EqAt.same _).inModel _ _
      · exact SeqAt.EqIn.of_refs e step
    · have rx' := rx.view
      have ry' := ry.view
      unfold eqN at h
      split at h
      · rename_i ex ey
        rw [ex] at rx'; rw [ey] at ry'
        obtain ⟨a, _, rfl, _⟩ := rx'
        obtain ⟨c, _, rfl, _⟩ := ry'
        exact absurd ⟨a, c, rv, ru⟩ hr
      · rename_i ex ey
        rw [ex] at rx'; rw [ey] at ry'
        obtain ⟨a, _, rfl, _⟩ := rx'
        obtain ⟨c, _, rfl, _⟩ := ry'
        exact absurd ⟨a, c, rv, ru⟩ hr
      · rename_i ex ey
        rw [ex] at rx'; rw [ey] at ry'
        obtain ⟨a, _, rfl, _⟩ := rx'
        obtain ⟨c, _, rfl, _⟩ := ry'
        exact absurd ⟨a, c, rv, ru⟩ hr
      · exact (eqF_at (A := A) I hK sb (by omega) h rx' ry' rv ru).1.inModel _ _
/-! the operators -/
def rEqN (g : Gb) : R2 := fun x y H Q => ∃ S dx dy b, Sub S H ∧ Rep g S dx x ∧ Rep g S dy y ∧ eqN 60 dx dy = some b ∧ Q (.bl b) H
def rNeN (g : Gb) : R2 := fun x y H Q => ∃ S dx dy b, Sub S H ∧ Rep g S dx x ∧ Rep g S dy y ∧ eqN 60 dx dy = some b ∧ Q (.bl (!b)) H
theorem op_eqN (hK : X.K = g.K) (hu : X.A.units + 64 < cLine) : OpR X (compareOp .Eq) (rEqN g) := by
  intro pins s σ H x y v u Q I rv ru h
  obtain ⟨S, dx, dy, b, sb, rx, ry, e, q⟩ := h
  exact (eqR_at I hK sb (A := X.A) (n := 59) (by omega) (fun x y vx vy v u c r1 r2 r3 r4 hc => eqN_at I hK sb 59 X.A.in1 (by show X.A.units + 1 + 59 < cLine; omega) x y vx vy v u c r1 r2 r3 r4 hc) e rx ry rv ru _ _).1 ⟨.bl b, H, I, rfl, q⟩
theorem op_neN (hK : X.K = g.K) (hu : X.A.units + 64 < cLine) : OpR X (compareOp .NotEq) (rNeN g) := by
  intro pins s σ H x y v u Q I rv ru h
  obtain ⟨S, dx, dy, b, sb, rx, ry, e, q⟩ := h
  exact (eqR_at I hK sb (A := X.A) (n := 59) (by omega) (fun x y vx vy v u c r1 r2 r3 r4 hc => eqN_at I hK sb 59 X.A.in1 (by show X.A.units + 1 + 59 < cLine; omega) x y vx vy v u c r1 r2 r3 r4 hc) e rx ry rv ru _ _).2 ⟨.bl (!b), H, I, rfl, q⟩
def dEq : D → D → Option O := fun x y => (eqN 60 x y).map fun b => .sh (.bl b)
def dNe : D → D → Option O := fun x y => (eqN 60 x y).map fun b => .sh (.bl (!b))
theorem os_eqN : OpS g (rEqN g) dEq := fun S H x y dx dy o Q e rx ry hf k => by
  unfold dEq at hf
  cases h : eqN 60 dx dy with
  | none => rw [h] at hf; cases hf
  | some b => rw [h] at hf; cases hf; exact ⟨S, dx, dy, b, e, rx, ry, h, k _ H (New.flat (d := .bl b) e rfl)⟩
theorem os_neN : OpS g (rNeN g) dNe := fun S H x y dx dy o Q e rx ry hf k => by
  unfold dNe at hf
  cases h : eqN 60 dx dy with
  | none => rw [h] at hf; cases hf
  | some b => rw [h] at hf; cases hf; exact ⟨S, dx, dy, b, e, rx, ry, h, k _ H (New.flat (d := .bl (!b)) e rfl)⟩
theorem Cxt.hu64 {X : Cx} {g : Gb} {W : WX} {j : Nat} (c : Cxt X g W j) : X.A.units + 64 < cLine := by have := c.rm.un; omega
section
variable {W : WX} {j : Nat} {a b : Expr} {ma mb : E} {pos : Pos}
theorem pd_eq (C : Cxt X g W j) (ha : PE X a (LE g W ma)) (hb : PE X b (LE g W mb)) : PE X (.Compare a [.Eq] [b] pos) (LE g W (eBin dEq ma mb)) := PE_imp (pe_cmpR (op_eqN C.K C.hu64) ha hb (nomark _)) fun _ _ _ q => le_bin os_eqN q
theorem qd_eq (C : Cxt X g W j) (ha : PE X a (LE g W ma)) (hb : PE X b (LE g W mb)) : PT X (.Compare a [.Eq] [b] pos) (LT g W (eBin dEq ma mb)) := pt_of (op_eqN C.K C.hu64) os_eqN ha hb (nomark _)
theorem qd_ne (C : Cxt X g W j) (ha : PE X a (LE g W ma)) (hb : PE X b (LE g W mb)) : PT X (.Compare a [.NotEq] [b] pos) (LT g W (eBin dNe ma mb)) := pt_of (op_neN C.K C.hu64) os_neN ha hb (nomark _)
end
end
end DL
set_option Elab.async false
set_option linter.all false
set_option maxRecDepth 100000
set_option autoImplicit false
/-! DLA: built-in methods and functions, slices, displays. -/
namespace DL
open PySem PySem.Spec PyProof.Rows L2
section
variable {X : Cx} {g : Gb} {W : WX} {Z : Zn} {S S' H H' : Hp} {τ τ' : List V} {θ θ' : List O} {σ σ' : Sg} {ρ : En} {Q Q' : VK} {m mo ma mb mc : E} {ms : List E} {o oi : O} {v : V} {i j : Nat}
/-! ### methods of texts -/
def MetS (g : Gb) (r : V → List V → Hp → VK → Prop) (f : D → List D → Option O) : Prop := ∀ S H x xs dx ds o (Q : VK), Sub S H → Rep g S dx x → Reps g S ds xs → f dx.view (ds.map D.view) = some o → (∀ v H', New g S H o v H' → Q v H') → r x xs H Q
def eBm (f : D → List D → Option O) (mo : E) (ms : List E) : E := fun ρ => (mo ρ).bind fun o ρ1 => (evs ms ρ1).bind fun os ρ2 => R.of (f o.d.view ((O.ds os).map D.view)) ρ2
/-- the receiver's kind -/
def isT (T : String) : D → Bool
  | .str _ => T == "str"
  | .lst _ => T == "list"
  | .scr _ => T == "list"
  | _ => false
def eTy (T : String) (mo : E) : E := fun ρ => (mo ρ).bind fun o ρ1 => if isT T o.d.view then .ok o ρ1 else .stuck
theorem ty_rel {T : String} {A : List Addr} (sb : Sub S H) : ∀ {o : O} {v : V}, isT T o.d.view = true → RelO g S H o v A → tyV g.K T v H
  | .sh d, v, h, r => by
    have r := r.2.view
    have h : isT T d.view = true := h
    cases hd : d.view with
    | str z => rw [hd] at r h; rw [show v = .str z from r]; exact (by simpa [isT] using h : T = "str")
    | lst xs =>
      rw [hd] at r h
      obtain ⟨a, vs, rfl, ha, _⟩ := r
      exact .inl ⟨by simpa [isT] using h, vs, .inl (.inl (sb.lst ha))⟩
    | scr ns =>
      rw [hd] at r h
      obtain ⟨a, rfl, ha⟩ := r
      exact .inl ⟨by simpa [isT] using h, _, sb.sqL ha⟩
    | _ => rw [hd] at h; cases h
  | .lst os, v, h, r => by
    obtain ⟨l, vs, _, rfl, hl, _⟩ := r
    exact .inl ⟨by simpa [isT, O.d, D.view] using h, vs, .inl (.inl hl)⟩
  | .dct kos, _, h, _ => by cases h
  | .ins c fs, _, h, _ => by cases h
  | .tag n o, v, h, r => ty_rel sb (o := o) h r.2
theorem le_bm {T : String} {r : V → List V → Hp → VK → Prop} {f : D → List D → Option O} (hs : MetS g r f) (q : LE g W (eBm f (eTy T mo) ms) σ H Q) : tBM g.K T r (LE g W mo) (LA g W ms) σ H Q := by
  obtain ⟨Z, S, τ, θ, ρ, st, post⟩ := q
  refine ⟨Z, S, τ, θ, ρ, st, ?_⟩
  unfold eBm eTy at post
  cases h : mo ρ with
  | stuck => rw [h] at post; exact post.elim
  | exc x ρ1 => rw [h] at post; exact post
  | ok o ρ1 =>
    rw [h] at post
    intro v S1 H1 e1 st1
    by_cases hT : isT T o.d.view = true
    · simp only [DL.R.bind, if_pos hT] at post
      refine ⟨?_, ?_⟩
      · obtain ⟨A, α, hd⟩ := id st1
        obtain ⟨A1, A2, _, _, r2⟩ := hd.tmp.split st.tlen
        exact ty_rel hd.bs.sub hT r2.oneInv
      · have post := PostR.mono e1 post
        refine ⟨Z, S1, _, _, ρ1, st1, ?_⟩
        cases h2 : evs ms ρ1 with
        | stuck => rw [h2] at post; exact post.elim
        | exc x ρ2 =>
          rw [h2] at post
          intro d S2 H2 e2 st2 xa
          obtain ⟨S3, e3, st3, _⟩ := St.pop st2
          exact post d S3 H2 (e2.trans e3) st3 (xa.mono e3)
        | ok os ρ2 =>
          rw [h2] at post
          simp only [RA.bind] at post
          intro vs S2 H2 e2 st2
          obtain ⟨o', hf, post2⟩ := post.of
          have l2 := st2.tlen
          have l0 := st.tlen
          have st2 : St g Z S2 H2 (τ ++ ([v] ++ vs)) (θ ++ ([o] ++ os)) σ ρ2 := by rw [← List.append_assoc, ← List.append_assoc]; exact st2
          have lv : vs.length = os.length := by simp at l2; omega
          obtain ⟨S3, e3, st3, rep⟩ := St.popN (os.length + 1) ([v] ++ vs) ([o] ++ os) (by simp; omega) (by simp) st2
          obtain ⟨v0, rr, ee, r1, r2⟩ := rep
          cases ee
          exact hs S3 H2 v vs _ _ o' Q st3.sub r1 r2 hf fun v' H' n => PostR.fin (PostR.mono (e2.trans e3) post2) (Ex.refl _) st3 n
    · simp only [DL.R.bind, if_neg hT] at post
      exact post.elim
/-- a method that answers a flat value -/
theorem mets_flat {r : V → List V → Hp → VK → Prop} {f : D → List D → Option O} (h : ∀ H x xs dx ds o (Q : VK) S, Rep g S dx x → Reps g S ds xs → f dx ds = some o → ∃ d : D, o = .sh d ∧ d.flat = true ∧ (Q d.val H → r x xs H Q)) : MetS g r f := fun S H x xs dx ds o Q e rx rs hf k => by
  have rs' : Reps g S (ds.map D.view) xs := by
    clear hf
    induction ds generalizing xs with
    | nil => exact rs
    | cons d ds ih => obtain ⟨v, rr, e, a, b⟩ := rs; subst e; exact ⟨v, rr, rfl, a.view, ih _ b⟩
  obtain ⟨d, rfl, hd, hq⟩ := h H x xs _ _ o Q S rx.view rs' hf
  exact hq (k _ H (New.flat e hd))
def mJoin : D → List D → Option O
  | .str a, [.lst ds] => (allStr ds).bind fun ys => if (ys.map (·.length)).sum + ys.length * a.length ≤ 16777216 then oS (Txt.join a ys) else none
  | .str a, [.tup ds] => (allStr ds).bind fun ys => if (ys.map (·.length)).sum + ys.length * a.length ≤ 16777216 then oS (Txt.join a ys) else none
  | _, _ => none
where allStr : List D → Option (List Str)
  | [] => some []
  | d :: ds => match d.view with
    | .str x => (allStr ds).map fun r => x :: r
    | _ => none
theorem allStr_rep : ∀ {ds : List D} {vs : List V} {ys : List Str}, mJoin.allStr ds = some ys → Reps g S ds vs → vs = ys.map V.str
  | [], vs, ys, h, r => by cases h; exact r
  | d :: ds, vs, ys, h, ⟨v, rr, e, a, b⟩ => by
    subst e
    unfold mJoin.allStr at h
    have a := a.view
    cases hd : d.view with
    | str x =>
      rw [hd] at h a
      cases h2 : mJoin.allStr ds with
      | none => rw [h2] at h; cases h
      | some r =>
        rw [h2] at h
        cases h
        rw [show v = .str x from a, allStr_rep h2 b]
        rfl
    | _ => rw [hd] at h; cases h
theorem reps_one {d : D} {xs : List V} (r : Reps g S [d] xs) : ∃ v, xs = [v] ∧ Rep g S d v := by
  obtain ⟨v, rr, e, a, b⟩ := r
  rw [show rr = [] from b] at e
  exact ⟨v, e, a⟩
theorem ms_join : MetS g (fun x xs H Q => ∃ a p, ∃ ys : List Str, x = .str a ∧ xs = [.ref p] ∧ (SqL g.K H p (ys.map V.str) ∨ SqT g.K H p (ys.map V.str)) ∧ (ys.map (·.length)).sum + ys.length * a.length ≤ 16777216 ∧ Q (.str (Txt.join a ys)) H) mJoin := fun S H x xs dx ds o Q e rx rs hf k => by
  unfold mJoin at hf
  split at hf
  · rename_i a es h1 h2
    obtain ⟨d, rfl⟩ : ∃ d, ds = [d] := by
      cases ds with
      | nil => cases h2
      | cons d r => cases r with
        | nil => exact ⟨d, rfl⟩
        | cons _ _ => simp at h2
    obtain ⟨v, rfl, rv⟩ := reps_one rs
    have rv := rv.view
    have h2 : d.view = .lst es := by simpa using h2
    rw [h2] at rv
    obtain ⟨p, vs, rfl, hp, rp⟩ := rv
    cases h3 : mJoin.allStr es with
    | none => rw [h3] at hf; cases hf
    | some ys =>
      rw [h3] at hf
      dsimp only [Option.bind] at hf
      split at hf
      · rename_i hz
        cases hf
        have rx := rx.view
        rw [h1] at rx
        exact ⟨a, p, ys, rx, rfl, .inl (.inl (.inl (by rw [← allStr_rep h3 rp]; exact e.lst hp))), hz, k _ H (New.flat (d := .str _) e rfl)⟩
      · cases hf
  · rename_i a es h1 h2
    obtain ⟨d, rfl⟩ : ∃ d, ds = [d] := by
      cases ds with
      | nil => cases h2
      | cons d r => cases r with
        | nil => exact ⟨d, rfl⟩
        | cons _ _ => simp at h2
    obtain ⟨v, rfl, rv⟩ := reps_one rs
    have rv := rv.view
    have h2 : d.view = .tup es := by simpa using h2
    rw [h2] at rv
    obtain ⟨p, vs, rfl, hp, rp⟩ := rv
    cases h3 : mJoin.allStr es with
    | none => rw [h3] at hf; cases hf
    | some ys =>
      rw [h3] at hf
      dsimp only [Option.bind] at hf
      split at hf
      · rename_i hz
        cases hf
        have rx := rx.view
        rw [h1] at rx
        exact ⟨a, p, ys, rx, rfl, .inr (by rw [← allStr_rep h3 rp]; exact e.sqT hp), hz, k _ H (New.flat (d := .str _) e rfl)⟩
      · cases hf
  · cases hf
theorem reps_strs : ∀ (ys : List Str), Reps g S (ys.map D.str) (ys.map V.str)
  | [] => rfl
  | y :: ys => ⟨_, _, rfl, rfl, reps_strs ys⟩
def strsO (ys : List Str) : O := .lst ((ys.map D.str).map .sh)
def mSplit : D → List D → Option O
  | .str a, [.str b] => if b.length ≠ 0 ∧ a.length ≤ 1000000 then some (strsO (Txt.split a b)) else none
  | _, _ => none
theorem ms_split : MetS g (fun x xs H Q => ∃ a b, x = .str a ∧ xs = [.str b] ∧ (b.length == 0) = false ∧ a.length + 2 ≤ sizeLine ∧ rNewStrs (Txt.split a b) H Q) mSplit := fun S H x xs dx ds o Q e rx rs hf k => by
  unfold mSplit at hf
  split at hf
  · rename_i a b h1 h2
    obtain ⟨d, rfl⟩ : ∃ d, ds = [d] := by
      cases ds with
      | nil => cases h2
      | cons d r => cases r with
        | nil => exact ⟨d, rfl⟩
        | cons _ _ => simp at h2
    obtain ⟨v, rfl, rv⟩ := reps_one rs
    have rv := rv.view
    have h2 : d.view = .str b := by simpa using h2
    rw [h2] at rv
    have rx := rx.view
    rw [h1] at rx
    split at hf
    · rename_i hz
      cases hf
      exact ⟨a, b, rx, by rw [show v = .str b from rv], by simpa using hz.1, Nat.le_trans (Nat.add_le_add_right hz.2 2) (show 1000002 ≤ sizeLine by decide), fun p hp => k _ _ (New.lst e (reps_strs _) hp)⟩
    · cases hf
  · cases hf
variable {a b : Expr} {es : List Expr} {pos apos : Pos} {lv : Nat}
theorem pd_join (ho : PE X a (LE g W mo)) (C : Cxt X g W lv) (hb : PE X b (LE g W mb)) (hbase : attributeBase a "join" X.env (eval a X.env) = eval a X.env := by rfl)
    (hfew : ((backTo pos (starEach [b] X.env)).all (fun x => !x.1) && (backToKw pos (keywordEach [] X.env)).all (fun x => x.1.isSome) && decide ([b].length + ([] : List Keyword).length + (if ([] : List Keyword).isEmpty then 0 else 1) < 30)) = true := by rfl)
    (hline : (apos.endLine == pos.line) = true := by rfl) (hs : starEach [b] X.env = (false, eval b X.env) :: starEach [] X.env := by rfl) (hplain : (backTo pos (starEach [] X.env)).any (·.1) = false := by rfl) :
    PE X (.Call (.Attribute a "join" apos) [b] [] pos) (LE g W (eBm mJoin (eTy "str" mo) [mb])) :=
  PE_imp (pe_bm PySem.F.plainAttrs_str PySem.F.slot_str_join (by first | exact PySem.F.type_str_join | kernel_rfl) mt_join ho (ad_cons hb ad_nil hs) hbase hfew hline hs hplain) fun _ _ _ q => by rw [C.K]; exact le_bm ms_join q
theorem pd_split1 (ho : PE X a (LE g W mo)) (C : Cxt X g W lv) (hb : PE X b (LE g W mb)) (hbase : attributeBase a "split" X.env (eval a X.env) = eval a X.env := by rfl)
    (hfew : ((backTo pos (starEach [b] X.env)).all (fun x => !x.1) && (backToKw pos (keywordEach [] X.env)).all (fun x => x.1.isSome) && decide ([b].length + ([] : List Keyword).length + (if ([] : List Keyword).isEmpty then 0 else 1) < 30)) = true := by rfl)
    (hline : (apos.endLine == pos.line) = true := by rfl) (hs : starEach [b] X.env = (false, eval b X.env) :: starEach [] X.env := by rfl) (hplain : (backTo pos (starEach [] X.env)).any (·.1) = false := by rfl) :
    PE X (.Call (.Attribute a "split" apos) [b] [] pos) (LE g W (eBm mSplit (eTy "str" mo) [mb])) :=
  PE_imp (pe_bm PySem.F.plainAttrs_str PySem.F.slot_str_split (by first | exact PySem.F.type_str_split | kernel_rfl) mt_split ho (ad_cons hb ad_nil hs) hbase hfew hline hs hplain) fun _ _ _ q => by rw [C.K]; exact le_bm ms_split q
/-! ### slices -/
def prt (lo : Option E) (ρ : En) (k : Option Int → En → R) : R := match lo with
  | none => k none ρ
  | some e => (e ρ).bind fun o ρ1 => match o.d.view with
    | .int i => k (some i) ρ1
    | _ => .stuck
def eSl (f : D → Option Int → Option Int → Option O) (m : E) (lo hi : Option E) : E := fun ρ => (m ρ).bind fun o ρ1 => prt lo ρ1 fun l ρ2 => prt hi ρ2 fun h ρ3 => R.of (f o.d.view l h) ρ3
def LO (g : Gb) (W : WX) : Option E → TO
  | none => tNoPart
  | some e => tPart (LE g W e)
def SlS (g : Gb) (r : V → Option Int → Option Int → Hp → VK → Prop) (f : D → Option Int → Option Int → Option O) : Prop := ∀ S H x dx lo hi o (Q : VK), Sub S H → Rep g S dx x → f dx.view lo hi = some o → (∀ v H', New g S H o v H' → Q v H') → r x lo hi H Q
theorem le_sl {r : V → Option Int → Option Int → Hp → VK → Prop} {f : D → Option Int → Option Int → Option O} {lo hi : Option E} (hs : SlS g r f) (q : LE g W (eSl f m lo hi) σ H Q) : tSl r (LE g W m) (LO g W lo) (LO g W hi) σ H Q := by
  obtain ⟨Z, S, τ, θ, ρ, st, post⟩ := q
  refine step0 st post fun o1 ρ1 v1 S1 H1 e1 st1 post1 => ?_
  -- the parts keep the value held
  have key : ∀ {lo : Option E} {k : Option Int → En → R} {S1 H1 : Hp} {ρ1 : En} {Qo : Option Int → Hp → Prop}, St g Z S1 H1 (τ ++ [v1]) (θ ++ [o1]) σ ρ1 → PostR g W Z S1 τ θ σ (prt lo ρ1 k) Q →
      (∀ l ρ2 S2 H2, Ex S1 S2 → St g Z S2 H2 (τ ++ [v1]) (θ ++ [o1]) σ ρ2 → PostR g W Z S2 τ θ σ (k l ρ2) Q → Qo l H2) → LO g W lo σ H1 Qo := fun {lo k S1 H1 ρ1 Qo} st1 post1 hk => by
    cases lo with
    | none => exact hk none ρ1 S1 H1 (Ex.refl _) st1 post1
    | some e =>
      refine stepN (n := 1) st1 rfl rfl post1 fun o2 ρ2 v2 S2 H2 e2 st2 post2 => ?_
      have st2 : St g Z S2 H2 ((τ ++ [v1]) ++ [v2]) ((θ ++ [o1]) ++ [o2]) σ ρ2 := by rw [List.append_assoc, List.append_assoc]; exact st2
      obtain ⟨S3, e3, st3, r3⟩ := St.pop st2
      cases hv : o2.d.view with
      | int i =>
        rw [hv] at post2
        have r3 := r3.view
        rw [hv] at r3
        exact ⟨i, r3, hk (some i) ρ2 S3 H2 (e2.trans e3) st3 (PostR.mono e3 post2)⟩
      | _ => rw [hv] at post2; exact post2.elim
  refine key st1 post1 fun l ρ2 S2 H2 e2 st2 post2 => key st2 post2 fun h ρ3 S3 H3 e3 st3 post3 => ?_
  obtain ⟨S4, e4, st4, r4⟩ := St.pop st3
  obtain ⟨o', hf, post4⟩ := post3.of
  exact hs S4 H3 v1 o1.d l h o' Q st4.sub r4 hf fun v' H' n => PostR.fin (PostR.mono e4 post4) (Ex.refl _) st4 n
def cutG {α : Type} (xs : List α) (lo hi : Option Int) : List α := (xs.drop (HT.sIx xs.length 0 lo)).take (HT.sIx xs.length xs.length hi - HT.sIx xs.length 0 lo)
theorem cut_rep {ds : List D} {vs : List V} {lo hi : Option Int} (r : Reps g S ds vs) : Reps g S (cutG ds lo hi) (cutV vs lo hi) := by
  unfold cutG cutV
  rw [r.len]
  exact Reps.take _ (Reps.drop _ r)
def dSl : D → Option Int → Option Int → Option O
  | .str z, lo, hi => if z.length ≤ 1000000 then oS (Txt.slice z lo hi) else none
  | .lst ds, lo, hi => some (.lst ((cutG ds lo hi).map .sh))
  | .tup ds, lo, hi => if HT.sIx ds.length 0 lo = 0 ∧ HT.sIx ds.length ds.length hi = ds.length then none else some (.sh (.tup (cutG ds lo hi)))
  | _, _, _ => none
def rSlAny (K : PySem.W.Frag) : V → Option Int → Option Int → Hp → VK → Prop := fun x lo hi H Q => C8.rSlX x lo hi H Q ∨ (rSlL K x lo hi H Q ∨ rSlT K x lo hi H Q)
theorem ss_sl : SlS g (rSlAny g.K) dSl := fun S H x dx lo hi o Q e rx hf k => by
  have rx := rx.view
  unfold dSl at hf
  split at hf
  · rename_i z h1
    rw [h1] at rx
    split at hf
    · rename_i hz
      cases hf
      exact .inl ⟨z, rx, Nat.le_trans hz (show 1000000 ≤ sizeLine by decide), k _ H (New.flat (d := .str _) e rfl)⟩
    · cases hf
  · rename_i ds h1
    rw [h1] at rx
    cases hf
    obtain ⟨a, vs, rfl, ha, ra⟩ := rx
    exact .inr (.inl ⟨a, vs, rfl, .inl (.inl (e.lst ha)), fun p hp => k _ _ (New.lst e (cut_rep ra) hp)⟩)
  · rename_i ds h1
    rw [h1] at rx
    split at hf
    · cases hf
    · rename_i hn
      cases hf
      obtain ⟨a, vs, rfl, ha, ra⟩ := rx
      exact .inr (.inr ⟨a, vs, rfl, e.sqT ha, by rw [ra.len]; exact hn, fun p hp => k _ _ (New.tup e (cut_rep ra) hp)⟩)
  · cases hf
theorem od_none : PO X none (LO g W none) := L2.po_none
theorem od_some {e : Expr} {m : E} (h : PE X e (LE g W m)) : PO X (some e) (LO g W (some m)) := L2.po_some h
theorem pd_sl {lo hi : Option Expr} {ml mh : Option E} {p2 : Pos} (C : Cxt X g W lv) (ha : PE X a (LE g W ma)) (hl : PO X lo (LO g W ml)) (hu : PO X hi (LO g W mh)) : PE X (.Subscript a (.Slice lo hi none p2) pos) (LE g W (eSl dSl ma ml mh)) :=
  PE_imp (pe_slice (SlR.or C8.sl_txt (SlR.or sl_list sl_tup)) ha hl hu) fun _ _ _ q => by
    have := le_sl ss_sl q
    rw [← C.K] at this
    exact this
end
end DL
set_option Elab.async false
set_option linter.all false
set_option maxRecDepth 100000
set_option autoImplicit false
/-! DLB: sorting, conversions, dicts' methods, isinstance. -/
namespace DL
open PySem PySem.Spec PyProof.Rows L2
/-! sorted -/
theorem sorted_unique {α : Type} {le : α → α → Prop} (anti : ∀ a b, le a b → le b a → a = b) : ∀ {xs ys : List α}, xs.Perm ys → xs.Pairwise le → ys.Pairwise le → xs = ys
  | [], ys, p, _, _ => p.nil_eq
  | x :: xs, [], p, _, _ => p.symm.nil_eq.symm
  | x :: xs, y :: ys, p, h1, h2 => by
    obtain ⟨a1, b1⟩ := List.pairwise_cons.mp h1
    obtain ⟨a2, b2⟩ := List.pairwise_cons.mp h2
    have e : x = y := by
      by_cases z : x = y
      · exact z
      · have m1 : x ∈ ys := by
          rcases List.mem_cons.mp (p.subset List.mem_cons_self) with q | q
          · exact absurd q z
          · exact q
        have m2 : y ∈ xs := by
          rcases List.mem_cons.mp (p.symm.subset List.mem_cons_self) with q | q
          · exact absurd q.symm z
          · exact q
        exact anti _ _ (a1 _ m2) (a2 _ m1)
    subst e
    rw [sorted_unique anti (List.perm_cons _ |>.mp p) b1 b2]
def leS (a b : Str) : Bool := !ltCps b.cps.toList a.cps.toList
theorem leS_iff {a b : Str} : leS a b = true ↔ ¬ b.cps.toList < a.cps.toList := by
  unfold leS
  rw [ltCps_eq]
  simp
theorem leS_total (a b : Str) : (leS a b || leS b a) = true := by
  rw [Bool.or_eq_true, leS_iff, leS_iff]
  by_cases h : b.cps.toList < a.cps.toList
  · exact .inr (List.lt_asymm h)
  · exact .inl h
theorem leS_trans (a b c : Str) (h1 : leS a b = true) (h2 : leS b c = true) : leS a c = true := by
  rw [leS_iff] at *
  exact List.le_trans (α := Nat) (l₁ := a.cps.toList) (l₂ := b.cps.toList) (l₃ := c.cps.toList) h1 h2
theorem leS_anti (a b : Str) (h1 : leS a b = true) (h2 : leS b a = true) : a = b := by
  rw [leS_iff] at *
  have : a.cps.toList = b.cps.toList := List.le_antisymm (α := Nat) h1 h2
  obtain ⟨x⟩ := a
  obtain ⟨y⟩ := b
  congr 1
  exact Array.toList_inj.mp this
def srtS (xs : List Str) : List Str := xs.mergeSort leS
theorem srtS_perm (xs : List Str) : (srtS xs).Perm xs := List.mergeSort_perm xs leS
theorem srtS_sorted (xs : List Str) : (srtS xs).Pairwise fun a b => leS a b = true := List.pairwise_mergeSort leS_trans leS_total xs
theorem sortedS_pw : ∀ {xs : List Str}, sortedS xs = true → xs.Pairwise fun a b => leS a b = true
  | [], _ => .nil
  | x :: xs, h => by
    have key : ∀ (xs : List Str) (p : Str), risingS p xs = true → (p :: xs).Pairwise fun a b => leS a b = true := by
      intro xs
      induction xs with
      | nil => intro p _; simp
      | cons x xs ih =>
        intro p h
        unfold risingS at h
        rw [Bool.and_eq_true] at h
        have h2 := ih x h.2
        have h1 : leS p x = true := h.1
        refine List.pairwise_cons.mpr ⟨fun y hy => ?_, h2⟩
        rcases List.mem_cons.mp hy with z | z
        · rw [z]; exact h1
        · exact leS_trans _ _ _ h1 ((List.pairwise_cons.mp h2).1 y z)
    exact key xs x h
theorem sortedS_eq {xs ys : List Str} (p : ys.Perm xs) (h : sortedS ys = true) : ys = srtS xs :=
  sorted_unique (le := fun a b => leS a b = true) leS_anti (p.trans (srtS_perm xs).symm) (sortedS_pw h) (srtS_sorted xs)
def srtI (xs : List Int) : List Int := xs.mergeSort fun a b => decide (a ≤ b)
theorem srtI_perm (xs : List Int) : (srtI xs).Perm xs := List.mergeSort_perm xs _
theorem srtI_sorted (xs : List Int) : (srtI xs).Pairwise (· ≤ ·) := by
  have := List.pairwise_mergeSort (le := fun (a b : Int) => decide (a ≤ b)) (fun a b c h1 h2 => by simp at *; omega) (fun a b => by simp; omega) xs
  unfold srtI
  simpa using this
theorem srtI_eq {xs ys : List Int} (p : ys.Perm xs) (h : ys.Pairwise (· ≤ ·)) : ys = srtI xs := sorted_unique (fun a b h1 h2 => Int.le_antisymm h1 h2) (p.trans (srtI_perm xs).symm) h (srtI_sorted xs)
section
variable {X : Cx} {g : Gb} {W : WX} {Z : Zn} {S S' H H' : Hp} {τ τ' : List V} {θ θ' : List O} {σ σ' : Sg} {ρ : En} {Q Q' : VK} {m mo ma mb mc : E} {ms : List E} {o oi : O} {v : V} {i j : Nat}
def intsOf : List D → Option (List Int)
  | [] => some []
  | d :: ds => match d.view with
    | .int x => (intsOf ds).map fun r => x :: r
    | _ => none
theorem intsOf_rep : ∀ {ds : List D} {vs : List V} {ys : List Int}, intsOf ds = some ys → Reps g S ds vs → vs = ys.map V.int
  | [], vs, ys, h, r => by cases h; exact r
  | d :: ds, vs, ys, h, ⟨v, rr, e, a, b⟩ => by
    subst e
    unfold intsOf at h
    have a := a.view
    cases hd : d.view with
    | int x =>
      rw [hd] at h a
      cases h2 : intsOf ds with
      | none => rw [h2] at h; cases h
      | some r =>
        rw [h2] at h
        cases h
        rw [show v = .int x from a, intsOf_rep h2 b]
        rfl
    | _ => rw [hd] at h; cases h
theorem reps_ints : ∀ (ys : List Int), Reps g S (ys.map D.int) (ys.map V.int)
  | [] => rfl
  | y :: ys => ⟨_, _, rfl, rfl, reps_ints ys⟩
def intsO (ys : List Int) : O := .lst ((ys.map D.int).map .sh)
def strKeys : List (Key × D) → Option (List Str)
  | [] => some []
  | (.inr x, _) :: r => (strKeys r).map fun l => x :: l
  | _ :: _ => none
theorem strKeys_rep : ∀ {kds : List (Key × D)} {kvs : List (Key × V)} {ys : List Str}, strKeys kds = some ys → RepK g S kds kvs → kvs.map (·.1) = ys.map Sum.inr
  | [], kvs, ys, h, r => by cases h; rw [show kvs = [] from r]; rfl
  | (.inr x, d) :: kds, kvs, ys, h, ⟨v, rr, e, a, b⟩ => by
    subst e
    unfold strKeys at h
    cases h2 : strKeys kds with
    | none => rw [h2] at h; cases h
    | some r => rw [h2] at h; cases h; simp [strKeys_rep h2 b]
  | (.inl x, d) :: kds, kvs, ys, h, _ => by cases h
def dSorted : List D → Option O
  | [.lst ds] => match mJoin.allStr ds with
    | some ys => if ys.length < 64 then some (strsO (srtS ys)) else none
    | none => match intsOf ds with
      | some ns => if ns.length < 64 then some (intsO (srtI ns)) else none
      | none => none
  | [.dct kds] => match strKeys kds with
    | some ys => if ys.length < 64 then some (strsO (srtS ys)) else none
    | none => none
  | _ => none
def rSortAny (K : PySem.W.Frag) : List V → Hp → VK → Prop := fun xs H Q => rSorted K xs H Q ∨ (rSortedS K xs H Q ∨
  ∃ (a : Addr) (kvs : List (Key × V)) (ks : List Str), xs = [.ref a] ∧ Rd H a (.dK kvs) ∧ kvs.map (·.1) = ks.map Sum.inr ∧ ks.length < 64 ∧ ∀ ys p, ys.Perm ks → sortedS ys = true → H p = none → Q (.ref p) (upd H p (.lst (ys.map V.str))))
theorem CallR_or {f : Value} {r r' : List V → Hp → VK → Prop} (h : CallR X f r) (h' : CallR X f r') : CallR X f (fun xs H Q => r xs H Q ∨ r' xs H Q) := fun pins s σ H xs us Q I rv q => q.elim (h pins s σ H xs us Q I rv) (h' pins s σ H xs us Q I rv)
theorem call_sortAny (hc : X.calm = true) : CallR X (.builtin "sorted") (rSortAny X.K) := CallR_or cr_sorted (CallR_or cr_sortedS (call_sortedD hc))
theorem cs_sorted : CallS g (rSortAny g.K) dSorted := callS_of fun S H xs ds o Q e r hf k => by
  unfold dSorted at hf
  split at hf
  · rename_i es
    obtain ⟨v, rfl, rv⟩ := reps_one r
    obtain ⟨p, vs, rfl, hp, rp⟩ := rv
    split at hf
    · rename_i ys hy
      split at hf
      · rename_i hl
        cases hf
        exact .inr (.inl ⟨p, ys, rfl, .inl (.inl (by rw [← allStr_rep hy rp]; exact e.lst hp)), hl, fun zs q hperm hs hq => by
          rw [sortedS_eq hperm hs]
          exact k _ _ (New.lst e (reps_strs _) hq)⟩)
      · cases hf
    · split at hf
      · rename_i ns hy
        split at hf
        · rename_i hl
          cases hf
          exact .inl ⟨p, ns, rfl, .inl (.inl (by rw [← intsOf_rep hy rp]; exact e.lst hp)), hl, fun zs q hperm hs hq => by
            rw [srtI_eq hperm hs]
            exact k _ _ (New.lst e (reps_ints _) hq)⟩
        · cases hf
      · cases hf
  · rename_i kds
    obtain ⟨v, rfl, rv⟩ := reps_one r
    obtain ⟨p, kvs, rfl, hp, rp⟩ := rv
    split at hf
    · rename_i ys hy
      split at hf
      · rename_i hl
        cases hf
        exact .inr (.inr ⟨p, kvs, ys, rfl, e.rd hp, strKeys_rep hy rp, hl, fun zs q hperm hs hq => by
          rw [sortedS_eq hperm hs]
          exact k _ _ (New.lst e (reps_strs _) hq)⟩)
      · cases hf
    · cases hf
  · cases hf
/-! list, dict, tuple of a value -/
def dList : List D → Option O
  | [.lst ds] => some (.lst (ds.map .sh))
  | [.tup ds] => some (.lst (ds.map .sh))
  | [.dct kds] => some (.lst ((kds.map fun p => keyDD p.1).map .sh))
  | _ => none
def rListAny (K : PySem.W.Frag) : List V → Hp → VK → Prop := fun xs H Q => (∃ p ys, xs = [.ref p] ∧ (SqL K H p ys ∨ SqT K H p ys) ∧ ∀ l, H l = none → Q (.ref l) (upd H l (.lst ys))) ∨
  ∃ (a : Addr) (kvs : List (Key × V)), xs = [.ref a] ∧ Rd H a (.dK kvs) ∧ ∀ p, H p = none → Q (.ref p) (upd H p (.lst (kvs.map fun kv => kV kv.1)))
theorem call_listAny (hc : X.calm = true) : CallR X (.type "list") (rListAny X.K) := CallR_or call_list_of (call_listD hc)
theorem repK_keys : ∀ {kds : List (Key × D)} {kvs : List (Key × V)}, RepK g S kds kvs → Reps g S (kds.map fun p => keyDD p.1) (kvs.map fun kv => kV kv.1)
  | [], kvs, r => by rw [show kvs = [] from r]; rfl
  | (k, d) :: kds, kvs, ⟨v, rr, e, a, b⟩ => by subst e; exact ⟨_, _, rfl, rep_key, repK_keys b⟩
theorem cs_list : CallS g (rListAny g.K) dList := callS_of fun S H xs ds o Q e r hf k => by
  unfold dList at hf
  split at hf
  · cases hf
    obtain ⟨v, rfl, p, vs, rfl, hp, rp⟩ := reps_one r
    exact .inl ⟨p, vs, rfl, .inl (.inl (.inl (e.lst hp))), fun l hl => k _ _ (New.lst e rp hl)⟩
  · cases hf
    obtain ⟨v, rfl, p, vs, rfl, hp, rp⟩ := reps_one r
    exact .inl ⟨p, vs, rfl, .inr (e.sqT hp), fun l hl => k _ _ (New.lst e rp hl)⟩
  · cases hf
    obtain ⟨v, rfl, p, kvs, rfl, hp, rp⟩ := reps_one r
    exact .inr ⟨p, kvs, rfl, e.rd hp, fun l hl => k _ _ (New.lst e (repK_keys rp) hl)⟩
  · cases hf
def dTuple : List D → Option O
  | [.lst ds] => some (.sh (.tup ds))
  | [.tup ds] => some (.sh (.tup ds))
  | _ => none
theorem cs_tuple : CallS g (fun xs H Q => ∃ p ys, xs = [.ref p] ∧ ((SqL g.K H p ys ∧ ∀ l, H l = none → Q (.ref l) (upd H l (.tup ys))) ∨ (SqT g.K H p ys ∧ Q (.ref p) H))) dTuple := callS_of fun S H xs ds o Q e r hf k => by
  unfold dTuple at hf
  split at hf
  · cases hf
    obtain ⟨v, rfl, p, vs, rfl, hp, rp⟩ := reps_one r
    exact ⟨p, vs, rfl, .inl ⟨.inl (.inl (e.lst hp)), fun l hl => k _ _ (New.tup e rp hl)⟩⟩
  · cases hf
    obtain ⟨v, rfl, p, vs, rfl, hp, rp⟩ := reps_one r
    exact ⟨p, vs, rfl, .inr ⟨e.sqT hp, k _ H (New.same e ⟨p, vs, rfl, hp, rp⟩)⟩⟩
  · cases hf
/-- pairs, as a dict takes them -/
def pairsOf : List D → Option (List (Key × D))
  | [] => some []
  | d :: ds => match d.view with
    | .tup [a, b] => match keyD a.view with
      | some k => (pairsOf ds).map fun r => (k, b) :: r
      | none => none
    | _ => none
def mergeD (kds more : List (Key × D)) : List (Key × D) := more.foldl (fun acc kv => putD acc kv.1 kv.2) kds
theorem RepK.merge : ∀ {more : List (Key × D)} {mv : List (Key × V)} {kds : List (Key × D)} {kvs : List (Key × V)}, RepK g S more mv → RepK g S kds kvs → RepK g S (mergeD kds more) (mergeK kvs mv)
  | [], mv, kds, kvs, r, q => by rw [show mv = [] from r]; exact q
  | (k, d) :: more, mv, kds, kvs, ⟨v, rr, e, a, b⟩, q => by
    subst e
    have := RepK.merge (more := more) b (q.put (k := k) a)
    exact this
def dDict : List D → Option O
  | [.dct kds] => some (.dct (kds.map fun p => (p.1, .sh p.2)))
  | [.lst ds] => (pairsOf ds).map fun kds => .dct ((mergeD [] kds).map fun p => (p.1, .sh p.2))
  | _ => none
theorem pairsOf_rep : ∀ {ds : List D} {vs : List V} {kds : List (Key × D)}, pairsOf ds = some kds → Reps g S ds vs → ∃ (ps : List Addr) (kvs : List (Key × V)), vs = ps.map V.ref ∧ RepK g S kds kvs ∧ Paired (fun p kv => SqT g.K S p [kV kv.1, kv.2]) ps kvs
  | [], vs, kds, h, r => by cases h; exact ⟨[], [], r, rfl, .nil⟩
  | d :: ds, vs, kds, h, ⟨v, rr, e, a, b⟩ => by
    subst e
    unfold pairsOf at h
    have a := a.view
    split at h
    · rename_i x y hd
      rw [hd] at a
      obtain ⟨p, us, rfl, hp, ra⟩ := a
      split at h
      · rename_i k hk
        cases h2 : pairsOf ds with
        | none => rw [h2] at h; cases h
        | some r2 =>
          rw [h2] at h
          cases h
          obtain ⟨v1, v2, rfl, r1, r3⟩ := reps2 ra
          obtain ⟨ps, kvs, e1, e2, e3⟩ := pairsOf_rep h2 b
          rw [keyD_rep hk r1.view] at hp
          exact ⟨p :: ps, (k, v2) :: kvs, by rw [e1]; rfl, ⟨v2, kvs, rfl, r3, e2⟩, .cons hp e3⟩
      · cases h
    · cases h
theorem paired_mono {K : PySem.W.Frag} (e : Sub S H) : ∀ {ps : List Addr} {kvs : List (Key × V)}, Paired (fun p kv => SqT K S p [kV kv.1, kv.2]) ps kvs → Paired (fun p kv => SqT K H p [kV kv.1, kv.2]) ps kvs
  | _, _, .nil => .nil
  | _, _, .cons a b => .cons (e.sqT a) (paired_mono e b)
end
end DL
set_option Elab.async false
set_option linter.all false
set_option maxRecDepth 100000
set_option autoImplicit false
/-! DLC: dict(..), displays, get, isinstance, reads of what one owns, pairs of names. -/
namespace DL
open PySem PySem.Spec PyProof.Rows L2
def tyN : D → Option String
  | .non => some "NoneType"
  | .bl _ => some "bool"
  | .int _ => some "int"
  | .str _ => some "str"
  | .lst _ => some "list"
  | .tup _ => some "tuple"
  | .dct _ => some "dict"
  | _ => none
theorem kit_NoneType_bool (K : PySem.W.Frag) : PySem.W.kitOne K (.type "NoneType") (.type "bool") = some false := by kernel_rfl
theorem kit_NoneType_int (K : PySem.W.Frag) : PySem.W.kitOne K (.type "NoneType") (.type "int") = some false := by kernel_rfl
theorem kit_NoneType_str (K : PySem.W.Frag) : PySem.W.kitOne K (.type "NoneType") (.type "str") = some false := by kernel_rfl
theorem kit_NoneType_list (K : PySem.W.Frag) : PySem.W.kitOne K (.type "NoneType") (.type "list") = some false := by kernel_rfl
theorem kit_NoneType_tuple (K : PySem.W.Frag) : PySem.W.kitOne K (.type "NoneType") (.type "tuple") = some false := by kernel_rfl
theorem kit_NoneType_dict (K : PySem.W.Frag) : PySem.W.kitOne K (.type "NoneType") (.type "dict") = some false := by kernel_rfl
theorem kit_bool_bool (K : PySem.W.Frag) : PySem.W.kitOne K (.type "bool") (.type "bool") = some true := by kernel_rfl
theorem kit_bool_int (K : PySem.W.Frag) : PySem.W.kitOne K (.type "bool") (.type "int") = some true := by kernel_rfl
theorem kit_bool_str (K : PySem.W.Frag) : PySem.W.kitOne K (.type "bool") (.type "str") = some false := by kernel_rfl
theorem kit_bool_list (K : PySem.W.Frag) : PySem.W.kitOne K (.type "bool") (.type "list") = some false := by kernel_rfl
theorem kit_bool_tuple (K : PySem.W.Frag) : PySem.W.kitOne K (.type "bool") (.type "tuple") = some false := by kernel_rfl
theorem kit_bool_dict (K : PySem.W.Frag) : PySem.W.kitOne K (.type "bool") (.type "dict") = some false := by kernel_rfl
theorem kit_int_bool (K : PySem.W.Frag) : PySem.W.kitOne K (.type "int") (.type "bool") = some false := by kernel_rfl
theorem kit_int_int (K : PySem.W.Frag) : PySem.W.kitOne K (.type "int") (.type "int") = some true := by kernel_rfl
theorem kit_int_str (K : PySem.W.Frag) : PySem.W.kitOne K (.type "int") (.type "str") = some false := by kernel_rfl
theorem kit_int_list (K : PySem.W.Frag) : PySem.W.kitOne K (.type "int") (.type "list") = some false := by kernel_rfl
theorem kit_int_tuple (K : PySem.W.Frag) : PySem.W.kitOne K (.type "int") (.type "tuple") = some false := by kernel_rfl
theorem kit_int_dict (K : PySem.W.Frag) : PySem.W.kitOne K (.type "int") (.type "dict") = some false := by kernel_rfl
theorem kit_str_bool (K : PySem.W.Frag) : PySem.W.kitOne K (.type "str") (.type "bool") = some false := by kernel_rfl
theorem kit_str_int (K : PySem.W.Frag) : PySem.W.kitOne K (.type "str") (.type "int") = some false := by kernel_rfl
theorem kit_str_str (K : PySem.W.Frag) : PySem.W.kitOne K (.type "str") (.type "str") = some true := by kernel_rfl
theorem kit_str_list (K : PySem.W.Frag) : PySem.W.kitOne K (.type "str") (.type "list") = some false := by kernel_rfl
theorem kit_str_tuple (K : PySem.W.Frag) : PySem.W.kitOne K (.type "str") (.type "tuple") = some false := by kernel_rfl
theorem kit_str_dict (K : PySem.W.Frag) : PySem.W.kitOne K (.type "str") (.type "dict") = some false := by kernel_rfl
theorem kit_list_bool (K : PySem.W.Frag) : PySem.W.kitOne K (.type "list") (.type "bool") = some false := by kernel_rfl
theorem kit_list_int (K : PySem.W.Frag) : PySem.W.kitOne K (.type "list") (.type "int") = some false := by kernel_rfl
theorem kit_list_str (K : PySem.W.Frag) : PySem.W.kitOne K (.type "list") (.type "str") = some false := by kernel_rfl
theorem kit_list_list (K : PySem.W.Frag) : PySem.W.kitOne K (.type "list") (.type "list") = some true := by kernel_rfl
theorem kit_list_tuple (K : PySem.W.Frag) : PySem.W.kitOne K (.type "list") (.type "tuple") = some false := by kernel_rfl
theorem kit_list_dict (K : PySem.W.Frag) : PySem.W.kitOne K (.type "list") (.type "dict") = some false := by kernel_rfl
theorem kit_tuple_bool (K : PySem.W.Frag) : PySem.W.kitOne K (.type "tuple") (.type "bool") = some false := by kernel_rfl
theorem kit_tuple_int (K : PySem.W.Frag) : PySem.W.kitOne K (.type "tuple") (.type "int") = some false := by kernel_rfl
theorem kit_tuple_str (K : PySem.W.Frag) : PySem.W.kitOne K (.type "tuple") (.type "str") = some false := by kernel_rfl
theorem kit_tuple_list (K : PySem.W.Frag) : PySem.W.kitOne K (.type "tuple") (.type "list") = some false := by kernel_rfl
theorem kit_tuple_tuple (K : PySem.W.Frag) : PySem.W.kitOne K (.type "tuple") (.type "tuple") = some true := by kernel_rfl
theorem kit_tuple_dict (K : PySem.W.Frag) : PySem.W.kitOne K (.type "tuple") (.type "dict") = some false := by kernel_rfl
theorem kit_dict_bool (K : PySem.W.Frag) : PySem.W.kitOne K (.type "dict") (.type "bool") = some false := by kernel_rfl
theorem kit_dict_int (K : PySem.W.Frag) : PySem.W.kitOne K (.type "dict") (.type "int") = some false := by kernel_rfl
theorem kit_dict_str (K : PySem.W.Frag) : PySem.W.kitOne K (.type "dict") (.type "str") = some false := by kernel_rfl
theorem kit_dict_list (K : PySem.W.Frag) : PySem.W.kitOne K (.type "dict") (.type "list") = some false := by kernel_rfl
theorem kit_dict_tuple (K : PySem.W.Frag) : PySem.W.kitOne K (.type "dict") (.type "tuple") = some false := by kernel_rfl
theorem kit_dict_dict (K : PySem.W.Frag) : PySem.W.kitOne K (.type "dict") (.type "dict") = some true := by kernel_rfl
def isaB (t T : String) : Option Bool := if T ∈ ["bool", "int", "str", "list", "tuple", "dict"] then some (t == T || (t == "bool" && T == "int")) else none
theorem kit_isa {K : PySem.W.Frag} {t T : String} {b : Bool} (ht : t ∈ ["NoneType", "bool", "int", "str", "list", "tuple", "dict"]) (h : isaB t T = some b) : PySem.W.kitOne K (.type t) (.type T) = some b := by
  unfold isaB at h
  split at h
  · rename_i hT
    cases h
    simp only [List.mem_cons, List.not_mem_nil, or_false] at ht hT
    rcases ht with rfl | rfl | rfl | rfl | rfl | rfl | rfl <;> rcases hT with rfl | rfl | rfl | rfl | rfl | rfl
    · exact kit_NoneType_bool K
    · exact kit_NoneType_int K
    · exact kit_NoneType_str K
    · exact kit_NoneType_list K
    · exact kit_NoneType_tuple K
    · exact kit_NoneType_dict K
    · exact kit_bool_bool K
    · exact kit_bool_int K
    · exact kit_bool_str K
    · exact kit_bool_list K
    · exact kit_bool_tuple K
    · exact kit_bool_dict K
    · exact kit_int_bool K
    · exact kit_int_int K
    · exact kit_int_str K
    · exact kit_int_list K
    · exact kit_int_tuple K
    · exact kit_int_dict K
    · exact kit_str_bool K
    · exact kit_str_int K
    · exact kit_str_str K
    · exact kit_str_list K
    · exact kit_str_tuple K
    · exact kit_str_dict K
    · exact kit_list_bool K
    · exact kit_list_int K
    · exact kit_list_str K
    · exact kit_list_list K
    · exact kit_list_tuple K
    · exact kit_list_dict K
    · exact kit_tuple_bool K
    · exact kit_tuple_int K
    · exact kit_tuple_str K
    · exact kit_tuple_list K
    · exact kit_tuple_tuple K
    · exact kit_tuple_dict K
    · exact kit_dict_bool K
    · exact kit_dict_int K
    · exact kit_dict_str K
    · exact kit_dict_list K
    · exact kit_dict_tuple K
    · exact kit_dict_dict K
  · cases h
section
variable {X : Cx} {g : Gb} {W : WX} {Z : Zn} {S S' H H' : Hp} {τ τ' : List V} {θ θ' : List O} {σ σ' : Sg} {ρ : En} {Q Q' : VK} {m mo ma mb mc : E} {ms : List E} {o oi : O} {v : V} {i j : Nat}
theorem tyx_of {d : D} {t : String} (sb : Sub S H) (h : tyN d = some t) (r : Rep g S d v) : TyX g.K H v (.type t) := by
  unfold tyN at h
  split at h <;> first | (cases h; done) | cases h
  · rw [show v = .non from r]; exact .base .non
  · rw [show v = .bl _ from r]; exact .base (.bl _)
  · rw [show v = .int _ from r]; exact .base (.int _)
  · rw [show v = .str _ from r]; exact .base (.str _)
  · obtain ⟨a, vs, rfl, ha, _⟩ := r; exact .base (.lst (sb.lst ha))
  · obtain ⟨a, vs, rfl, ha, _⟩ := r
    rcases sb.sqT ha with q | ⟨o, its, n, q1, q2, _⟩
    · rcases q with q | ⟨o, q⟩
      · exact .base (.tup q)
      · exact .fTuple q
    · exact .kTuple q1 q2
  · obtain ⟨a, kvs, rfl, ha, _⟩ := r
    rcases sb.rd ha with q | ⟨o, q⟩
    · exact .base (.dK q)
    · exact .fDict q
theorem tyN_mem {d : D} {t : String} (h : tyN d = some t) : t ∈ ["NoneType", "bool", "int", "str", "list", "tuple", "dict"] := by
  unfold tyN at h
  split at h <;> cases h <;> simp
def tysOf : List D → Option (List String)
  | [] => some []
  | .op (.ty T) :: r => (tysOf r).map fun l => T :: l
  | _ :: _ => none
def isaAny (t : String) : List String → Option Bool
  | [] => some false
  | T :: r => match isaB t T with
    | some true => some true
    | some false => isaAny t r
    | none => none
def dIsi : List D → Option O
  | [d, .op (.ty T)] => (tyN d).bind fun t => (isaB t T).bind fun b => oB b
  | [d, .tup ds] => (tyN d).bind fun t => (tysOf ds).bind fun l => (isaAny t l).bind fun b => oB b
  | _ => none
theorem tysOf_rep : ∀ {ds : List D} {vs : List V} {l : List String}, tysOf ds = some l → Reps g S ds vs → Paired ClsV vs (l.map Value.type)
  | [], vs, l, h, r => by cases h; rw [show vs = [] from r]; exact .nil
  | d :: ds, vs, l, h, ⟨v, rr, e, a, r⟩ => by
    subst e
    unfold tysOf at h
    split at h <;> rename_i heq
    · cases heq
    · cases heq
      cases h2 : tysOf ds with
      | none => rw [h2] at h; cases h
      | some l2 =>
        rw [h2] at h
        cases h
        rw [show v = .ty _ from a]
        exact .cons (.ty _) (tysOf_rep h2 r)
    · cases h
theorem isaAny_kit {K : PySem.W.Frag} {t : String} (ht : t ∈ ["NoneType", "bool", "int", "str", "list", "tuple", "dict"]) : ∀ {l : List String} {b : Bool}, isaAny t l = some b → PySem.W.kitAny K (.type t) (l.map Value.type) = some b
  | [], b, h => by cases h; rfl
  | T :: l, b, h => by
    unfold isaAny at h
    rw [List.map_cons]
    unfold PySem.W.kitAny
    cases hb : isaB t T with
    | none => rw [hb] at h; cases h
    | some c =>
      rw [hb] at h
      rw [kit_isa ht hb]
      cases c with
      | true => cases h; rfl
      | false => exact isaAny_kit ht h
def rIsiS (K : PySem.W.Frag) : List V → Hp → VK → Prop := fun xs H Q => ∃ (x : V) (tp : Addr) (cs : List V) (t : Value) (us : List Value) (b : Bool), xs = [x, .ref tp] ∧ SqT K H tp cs ∧ Paired ClsV cs us ∧ TyX K H x t ∧ PySem.W.kitAny K t us = some b ∧ Q (.bl b) H
theorem call_isiS : CallR X (.builtin "isinstance") (rIsiS X.K) := by
  intro pins s σ H xs us Q I r h
  obtain ⟨x, tp, cs, t, ws, b, rfl, hT, k, ty, e, q⟩ := h
  obtain ⟨u1, u2, rfl, r1, r2⟩ := vals2 r
  cases (show u2 = Value.ref tp from r2)
  obtain ⟨P, Z, p, hx⟩ := kit_of I r1 ty
  obtain ⟨its, rv, ⟨o, h1, h2, n, h3⟩, _⟩ := I.tuple hT
  have e3 := ClsV.all k rv
  subst e3
  obtain ⟨oc, od, dt, sl⟩ := o
  simp only at h2 h3
  subst h2 h3
  exact PySem.W.kia_tup Z I.kIn p h1 e hx fun tk => ⟨.bl b, H, I.tok tk, rfl, q⟩
def rIsAny (K : PySem.W.Frag) : List V → Hp → VK → Prop := fun xs H Q => rIsi K xs H Q ∨ rIsiS K xs H Q
theorem call_isAny : CallR X (.builtin "isinstance") (rIsAny X.K) := CallR_or call_isi call_isiS
theorem cs_isi : CallS g (rIsAny g.K) dIsi := callS_of fun S H xs ds o Q e r hf k => by
  unfold dIsi at hf
  split at hf
  · rename_i d T
    cases ht : tyN d with
    | none => rw [ht] at hf; cases hf
    | some t =>
      rw [ht] at hf
      dsimp only [Option.bind] at hf
      cases hb : isaB t T with
      | none => rw [hb] at hf; cases hf
      | some b =>
        rw [hb] at hf
        cases hf
        obtain ⟨v, v2, rfl, r1, r2⟩ := reps2 r
        exact .inl ⟨v, .ty T, .type t, .type T, b, by rw [show v2 = .ty T from r2], .ty T, tyx_of e ht r1, kit_isa (tyN_mem ht) hb, k _ H (New.flat (d := .bl b) e rfl)⟩
  · rename_i d ts
    cases ht : tyN d with
    | none => rw [ht] at hf; cases hf
    | some t =>
      rw [ht] at hf
      dsimp only [Option.bind] at hf
      cases hl : tysOf ts with
      | none => rw [hl] at hf; cases hf
      | some l =>
        rw [hl] at hf
        dsimp only [Option.bind] at hf
        cases hb : isaAny t l with
        | none => rw [hb] at hf; cases hf
        | some b =>
          rw [hb] at hf
          cases hf
          obtain ⟨v, v2, rfl, r1, r2⟩ := reps2 r
          obtain ⟨a, vs, rfl, ha, ra⟩ := r2
          exact .inr ⟨v, a, vs, .type t, _, b, rfl, e.sqT ha, tysOf_rep hl ra, tyx_of e ht r1, isaAny_kit (tyN_mem ht) hb, k _ H (New.flat (d := .bl b) e rfl)⟩
  · cases hf
/-! dict(x) -/
def rDictAny (K : PySem.W.Frag) : List V → Hp → VK → Prop := fun xs H Q => (∃ (a : Addr) (kvs : List (Key × V)), xs = [.ref a] ∧ Rd H a (.dK kvs) ∧ ∀ p, H p = none → Q (.ref p) (upd H p (.dK kvs))) ∨
  ∃ (a : Addr) (ps : List Addr) (kvs : List (Key × V)), xs = [.ref a] ∧ SqL K H a (ps.map V.ref) ∧ Paired (fun p kv => SqT K H p [kV kv.1, kv.2]) ps kvs ∧ ∀ p, H p = none → Q (.ref p) (upd H p (.dK (mergeK [] kvs)))
theorem call_dictAny (hc : X.calm = true) : CallR X (.type "dict") (rDictAny X.K) := CallR_or call_dictD (call_dictP hc)
theorem cs_dict : CallS g (rDictAny g.K) dDict := callS_of fun S H xs ds o Q e r hf k => by
  unfold dDict at hf
  split at hf
  · cases hf
    obtain ⟨v, rfl, a, kvs, rfl, ha, ra⟩ := reps_one r
    exact .inl ⟨a, kvs, rfl, e.rd ha, fun p hp => k _ _ (New.dct e ra hp)⟩
  · rename_i es
    obtain ⟨v, rfl, a, vs, rfl, ha, ra⟩ := reps_one r
    cases h : pairsOf es with
    | none => rw [h] at hf; cases hf
    | some kds =>
      rw [h] at hf
      cases hf
      obtain ⟨ps, kvs, e1, e2, e3⟩ := pairsOf_rep h ra
      exact .inr ⟨a, ps, kvs, rfl, .inl (.inl (by rw [← e1]; exact e.lst ha)), paired_mono e e3, fun p hp => k _ _ (New.dct e (RepK.merge e2 rfl) hp)⟩
  · cases hf
/-! numbers -/
/-! d.get(k), d.get(k, c) -/
def eGet2 (mo mk mc : E) : E := fun ρ => (mo ρ).bind fun o ρ1 => match o.d.view with
  | .dct kds => (mk ρ1).bind fun k ρ2 => (mc ρ2).bind fun c ρ3 => match keyD k.d.view with
    | some kk => .ok (.sh ((lookK kk kds).getD c.d)) ρ3
    | none => .stuck
  | _ => .stuck
/-! displays -/
def eDct0 : E := fun ρ => .ok (.dct []) ρ
theorem le_dct0 (q : LE g W eDct0 σ H Q) : tDNewK σ H Q := by
  obtain ⟨Z, S, τ, θ, ρ, st, post⟩ := q
  exact fun p hp => PostR.fin post (Ex.refl _) st (New.dct (kds := []) (kvs := []) st.sub rfl hp)
def flatV : List (V × V) → List V
  | [] => []
  | (k, v) :: r => k :: v :: flatV r
theorem LE.mono {Q Q' : VK} (h : LE g W m σ H Q) (k : ∀ v H1, Q v H1 → Q' v H1) : LE g W m σ H Q' := by
  obtain ⟨Z, S, τ, θ, ρ, st, post⟩ := h
  refine ⟨Z, S, τ, θ, ρ, st, ?_⟩
  cases h : m ρ with
  | ok o ρ1 => rw [h] at post; exact fun v S' H' e st' => k _ _ (post v S' H' e st')
  | exc x ρ1 => rw [h] at post; exact post
  | stuck => rw [h] at post; exact post
theorem LA.mono {Q Q' : List V → Hp → Prop} (h : LA g W ms σ H Q) (k : ∀ v H1, Q v H1 → Q' v H1) : LA g W ms σ H Q' := by
  obtain ⟨Z, S, τ, θ, ρ, st, post⟩ := h
  refine ⟨Z, S, τ, θ, ρ, st, ?_⟩
  cases h : evs ms ρ with
  | ok o ρ1 => rw [h] at post; exact fun v S' H' e st' => k _ _ (post v S' H' e st')
  | exc x ρ1 => rw [h] at post; exact post
  | stuck => rw [h] at post; exact post
/-! x, y = a, b with plain names -/
def sPar (i j : Nat) (ma mb : E) : Sm := fun ρ => match evs [ma, mb] ρ with
  | .ok [o1, o2] ρ1 => match ρ1[i]?, ρ1[j]? with
    | some (.b _), _ => .stuck
    | _, some (.b _) => .stuck
    | some _, some _ => .next ((ρ1.set j (.v o2)).set i (.v o1))
    | _, _ => .stuck
  | .ok _ _ => .stuck
  | .exc x ρ1 => .exc x ρ1
  | .stuck => .stuck
theorem ls_par {D : Ends} (hij : i ≠ j) (q : LS g W (sPar i j ma mb) D σ H) : tPar i j (LA g W [ma, mb]) D σ H := by
  obtain ⟨Z, S, ρ, st, post⟩ := q
  refine ⟨Z, S, [], [], ρ, st, ?_⟩
  unfold sPar at post
  cases h : evs [ma, mb] ρ with
  | stuck => rw [h] at post; exact post.elim
  | exc x ρ1 => rw [h] at post; exact fun d S1 H1 e1 st1 xa => post d σ S1 H1 e1 st1 xa
  | ok os ρ1 =>
    rw [h] at post
    have lo := evs_len h
    intro vs S1 H1 e1 st1
    have l1 := st1.tlen
    obtain ⟨o1, o2, rfl⟩ : ∃ o1 o2, os = [o1, o2] := by
      match os, lo with
      | [a, b], _ => exact ⟨a, b, rfl⟩
    obtain ⟨v1, v2, rfl⟩ : ∃ v1 v2, vs = [v1, v2] := by
      have : vs.length = 2 := by simpa using l1
      match vs, this with
      | [a, b], _ => exact ⟨a, b, rfl⟩
    refine ⟨v1, v2, rfl, ?_⟩
    dsimp only at post
    have st1 : St g Z S1 H1 ([v1] ++ [v2]) ([o1] ++ [o2]) σ ρ1 := st1
    split at post
    · exact post.elim
    · exact post.elim
    · rename_i s1 s2 h1 h2 n1 n2
      have il := (List.getElem?_eq_some_iff.mp n1).1
      have jl := (List.getElem?_eq_some_iff.mp n2).1
      have st2 := St.store (i := j) (τ := [v1]) (θ := [o1]) st1 jl fun o' z => by
        rw [n2] at z
        cases z
        exact h2 o' rfl
      have st3 := St.store (i := i) (τ := []) (θ := []) st2 (by rw [List.length_set]; exact il) fun o' z => by
        rw [List.getElem?_set_ne (Ne.symm hij)] at z
        rw [n1] at z
        cases z
        exact h1 o' rfl
      rw [List.set_comm _ _ hij]
      exact post _ S1 H1 e1 st3
    · exact post.elim
end
end DL
set_option Elab.async false
set_option linter.all false
set_option maxRecDepth 100000
set_option autoImplicit false
/-! DLD: reads of what one owns (nothing is shared by them), wrappers. -/
namespace DL
open PySem PySem.Spec PyProof.Rows L2
section
variable {X : Cx} {g : Gb} {W : WX} {Z : Zn} {S S' S3 H H' : Hp} {τ τ' : List V} {θ θ' : List O} {σ σ' : Sg} {ρ : En} {Q Q' : VK} {m mo ma mb mc : E} {ms : List E} {o oi : O} {v : V} {i j : Nat}
theorem PE_or {e : Expr} {t1 t2 : TE} (h1 : PE X e t1) (h2 : PE X e t2) : PE X e (fun σ H Q => t1 σ H Q ∨ t2 σ H Q) := ⟨fun pins s σ H Q I h => h.elim (h1.run pins s σ H Q I) (h2.run pins s σ H Q I)⟩
/-- nothing of it stands elsewhere -/
def flatO : O → Bool
  | .sh d => d.flat
  | .lst os => os.all fun o => match o with | .sh d => d.flat | _ => false
  | .dct kos => kos.all fun p => match p.2 with | .sh d => d.flat | _ => false
  | _ => false
def peekD (i : Nat) (ρ : En) : Option D := (slO (ρ.getD i .no)).map O.d
/-- the result if it is flat -/
def R.fl (oo : Option O) : E := fun ρ => match oo with
  | some o => if flatO o then .ok o ρ else .stuck
  | none => .stuck
/-- f(x), x a slot's -/
def eCBP (f : List D → Option O) (i : Nat) : E := fun ρ => match peekD i ρ with
  | some d => R.fl (f [d.view]) ρ
  | none => .stuck
/-- e op x -/
def eBinPR (f : D → D → Option O) (ma : E) (i : Nat) : E := fun ρ => (ma ρ).bind fun o1 ρ2 => match peekD i ρ2 with
  | some d => R.fl (f o1.d.view d.view) ρ2
  | none => .stuck
/-- x.get(k, c) -/
def eGetP2 (i : Nat) (mk mc : E) : E := fun ρ => match peekD i ρ with
  | some (.dct _) => (mk ρ).bind fun k ρ2 => (mc ρ2).bind fun c ρ3 => match peekD i ρ3 with
    | some (.dct kds) => match keyD k.d.view with
      | some kk => R.fl (some (.sh ((lookK kk kds).getD c.d))) ρ3
      | none => .stuck
    | _ => .stuck
  | _ => .stuck
/-! x.pop(k), x a dict -/
def popK (k : Key) (kos : List (Key × O)) : List (Key × O) := kos.filter fun p => decide (p.1 ≠ k)
theorem RelOK.drop {k : Key} : ∀ {kos : List (Key × O)} {kvs : List (Key × V)} {A : List Addr}, RelOK g S H kos kvs A → A.Nodup → ∃ A', RelOK g S H (popK k kos) (dropK kvs k) A' ∧ A'.Nodup ∧ ∀ a ∈ A', a ∈ A
  | [], _, _, ⟨e1, e2⟩, _ => by subst e1 e2; exact ⟨[], ⟨rfl, rfl⟩, List.nodup_nil, fun _ m => m⟩
  | (k0, o) :: kos, _, _, ⟨v, r, A1, A2, e, eA, x, y⟩, nd => by
    subst e eA
    obtain ⟨n1, n2, n3⟩ := List.nodup_append.mp nd
    obtain ⟨A', y', nd', sub⟩ := RelOK.drop (k := k) y n2
    by_cases z : k0 = k
    · refine ⟨A', ?_, nd', fun a m => List.mem_append_right _ (sub a m)⟩
      have e1 : popK k ((k0, o) :: kos) = popK k kos := by simp [popK, z]
      have e2 : dropK ((k0, v) :: r) k = dropK r k := by simp [dropK, z]
      rw [e1, e2]; exact y'
    · refine ⟨A1 ++ A', ?_, List.nodup_append.mpr ⟨n1, nd', fun a m b m2 => n3 a m b (sub b m2)⟩, fun a m => ?_⟩
      · have e1 : popK k ((k0, o) :: kos) = (k0, o) :: popK k kos := by simp [popK, z]
        have e2 : dropK ((k0, v) :: r) k = (k0, v) :: dropK r k := by simp [dropK, z]
        rw [e1, e2]; exact ⟨v, _, A1, A', rfl, rfl, x, y'⟩
      · rcases List.mem_append.mp m with m | m
        · exact List.mem_append_left _ m
        · exact List.mem_append_right _ (sub a m)
def eDPop (i : Nat) (mk : E) : E := fun ρ => match slO (ρ.getD i .no) with
  | some (.dct _) => (mk ρ).bind fun k ρ2 => match slO (ρ2.getD i .no) with
    | some (.dct kos) => match keyD k.d.view with
      | some kk => match lkO kk kos with
        | some (.sh d) => .ok (.sh d) (ρ2.set i ((ρ2.getD i .no).re (.dct (popK kk kos))))
        | _ => .stuck
      | none => .stuck
    | _ => .stuck
  | _ => .stuck
theorem le_dpop (q : LE g W (eDPop i ma) σ H Q) : tDPop1 (tVar i) (LE g W ma) σ H Q := by
  obtain ⟨Z, S, τ, θ, ρ, st, post⟩ := q
  unfold eDPop at post
  split at post
  · rename_i kos0 ho0
    obtain ⟨v0, A0, hv0, l0, kvs0, _, rfl, hl0, _⟩ := st.peek ho0
    refine ⟨_, hv0, l0, rfl, .inl ⟨kvs0, .inl hl0⟩, step0 st post fun o2 ρ2 v2 S2 H2 e2 st2 post2 => ?_⟩
    obtain ⟨S4, e4, st4, r4⟩ := St.pop st2
    have post2 := post2.mono e4
    split at post2
    · rename_i kos ho
      split at post2
      · rename_i kk hk
        split at post2
        · rename_i d hd
          obtain ⟨A, α, hh⟩ := id st4
          obtain ⟨l, kvs, A', e, hl, eA', r'⟩ := hh.at ho hv0
          cases e
          have ev := keyD_rep hk r4.view
          rcases RelOK.val kk r' with ⟨z1, _⟩ | ⟨o, v, Ao, z1, z2, z3, _⟩
          · rw [hd] at z1; cases z1
          · rw [hd] at z1; cases z1
            refine ⟨kvs, kk, v, hl, ev, z2, ?_⟩
            have ndi := hh.nd i
            rw [eA'] at ndi
            obtain ⟨nl, ndA'⟩ := List.nodup_cons.mp ndi
            obtain ⟨A2, r2, nd2, sub⟩ := RelOK.drop (k := kk) r' ndA'
            have kk' : ∀ a ∈ A2, upd H2 l0 (.dK (dropK kvs kk)) a = H2 a := fun a m => upd_ne fun z => nl (z ▸ sub a m)
            have h0 : Hold g Z S4 H2 (τ ++ []) (θ ++ []) σ ρ2 A α := by rw [List.append_nil, List.append_nil]; exact hh
            have st5 := h0.mutG (A1 := A) (A2 := []) (A' := l0 :: A2) (An := []) (τn := [v]) (θn := [.sh d]) (u := .dK (dropK kvs kk)) (o' := .dct (popK kk kos)) (by simp) hh.tmp ho hv0 (by rw [eA']; exact List.mem_cons_self)
              ⟨l0, _, _, rfl, upd_same, rfl, RelOK.mono (Ex.refl _) _ _ _ kk' r2⟩ (RelOs.one ⟨rfl, z3.2⟩) (by rw [List.append_nil]; exact List.nodup_cons.mpr ⟨fun m => nl (sub _ m), nd2⟩)
              (fun a m => .inl (by
                rw [List.append_nil] at m
                rw [eA']
                rcases List.mem_cons.mp m with z | z
                · exact z ▸ List.mem_cons_self
                · exact List.mem_cons_of_mem _ (sub a z)))
            exact post2 v S4 _ (Ex.refl _) st5
        · exact post2.elim
      · exact post2.elim
    · exact post2.elim
  · exact post.elim
/-- x.pop(e), a list or a dict -/
def ePopX (i : Nat) (m : E) : E := fun ρ => match slO (ρ.getD i .no) with
  | some (.dct _) => eDPop i m ρ
  | _ => ePopAt i m ρ
theorem le_popX (q : LE g W (ePopX i m) σ H Q) : LE g W (eDPop i m) σ H Q ∨ LE g W (ePopAt i m) σ H Q := by
  obtain ⟨Z, S, τ, θ, ρ, st, post⟩ := q
  unfold ePopX at post
  split at post
  · exact .inl ⟨Z, S, τ, θ, ρ, st, post⟩
  · exact .inr ⟨Z, S, τ, θ, ρ, st, post⟩
end
end DL
set_option Elab.async false
set_option linter.all false
set_option maxRecDepth 100000
set_option autoImplicit false
/-! DLX: wrappers. -/
namespace DL
open PySem PySem.Spec PyProof.Rows L2
section
variable {X : Cx} {g : Gb} {W : WX} {lv : Nat} {a b c : Expr} {ma mb mc mo : E} {ms : List E} {es : List Expr} {pos apos : Pos} {i j : Nat}
theorem bootX_sorted : bootBuiltins "sorted" = some (.builtin "sorted") := by decide +kernel
theorem bootX_list : bootBuiltins "list" = some (.type "list") := by decide +kernel
theorem bootX_dict : bootBuiltins "dict" = some (.type "dict") := by decide +kernel
theorem bootX_tuple : bootBuiltins "tuple" = some (.type "tuple") := by decide +kernel
theorem bootX_isinstance : bootBuiltins "isinstance" = some (.builtin "isinstance") := by decide +kernel
theorem pd_sorted {p : Pos} (C : Cxt X g W lv) (hm : X.mg "sorted" = none) (ha : PA X (a :: es) (LA g W ms)) (hg : Gl X "sorted" := by rfl) (he : starEach (a :: es) X.env = (false, eval a X.env) :: starEach es X.env := by rfl) (hpl : (backTo pos (starEach es X.env)).any (·.1) = false := by rfl) :
    PE X (.Call (.Name "sorted" p) (a :: es) [] pos) (LE g W (eCB dSorted ms)) := PE_imp (pe_callB (call_sortAny C.calm) hg hm bootX_sorted ha (he := he) (hpl := hpl)) fun _ _ _ q => by first | exact le_callB cs_sorted q | (rw [C.K]; exact le_callB cs_sorted q)
theorem pd_list {p : Pos} (C : Cxt X g W lv) (hm : X.mg "list" = none) (ha : PA X (a :: es) (LA g W ms)) (hg : Gl X "list" := by rfl) (he : starEach (a :: es) X.env = (false, eval a X.env) :: starEach es X.env := by rfl) (hpl : (backTo pos (starEach es X.env)).any (·.1) = false := by rfl) :
    PE X (.Call (.Name "list" p) (a :: es) [] pos) (LE g W (eCB dList ms)) := PE_imp (pe_callTy (call_listAny C.calm) hg hm bootX_list ha (he := he) (hpl := hpl)) fun _ _ _ q => by first | exact le_callB cs_list q | (rw [C.K]; exact le_callB cs_list q)
theorem pd_dict {p : Pos} (C : Cxt X g W lv) (hm : X.mg "dict" = none) (ha : PA X (a :: es) (LA g W ms)) (hg : Gl X "dict" := by rfl) (he : starEach (a :: es) X.env = (false, eval a X.env) :: starEach es X.env := by rfl) (hpl : (backTo pos (starEach es X.env)).any (·.1) = false := by rfl) :
    PE X (.Call (.Name "dict" p) (a :: es) [] pos) (LE g W (eCB dDict ms)) := PE_imp (pe_callTy (call_dictAny C.calm) hg hm bootX_dict ha (he := he) (hpl := hpl)) fun _ _ _ q => by first | exact le_callB cs_dict q | (rw [C.K]; exact le_callB cs_dict q)
theorem pd_tuple {p : Pos} (C : Cxt X g W lv) (hm : X.mg "tuple" = none) (ha : PA X (a :: es) (LA g W ms)) (hg : Gl X "tuple" := by rfl) (he : starEach (a :: es) X.env = (false, eval a X.env) :: starEach es X.env := by rfl) (hpl : (backTo pos (starEach es X.env)).any (·.1) = false := by rfl) :
    PE X (.Call (.Name "tuple" p) (a :: es) [] pos) (LE g W (eCB dTuple ms)) := PE_imp (pe_callTy call_tuple_of hg hm bootX_tuple ha (he := he) (hpl := hpl)) fun _ _ _ q => by first | exact le_callB cs_tuple q | (rw [C.K]; exact le_callB cs_tuple q)
theorem pd_isinstance {p : Pos} (C : Cxt X g W lv) (hm : X.mg "isinstance" = none) (ha : PA X (a :: es) (LA g W ms)) (hg : Gl X "isinstance" := by rfl) (he : starEach (a :: es) X.env = (false, eval a X.env) :: starEach es X.env := by rfl) (hpl : (backTo pos (starEach es X.env)).any (·.1) = false := by rfl) :
    PE X (.Call (.Name "isinstance" p) (a :: es) [] pos) (LE g W (eCB dIsi ms)) := PE_imp (pe_callB call_isAny hg hm bootX_isinstance ha (he := he) (hpl := hpl)) fun _ _ _ q => by first | exact le_callB cs_isi q | (rw [C.K]; exact le_callB cs_isi q)
theorem pd_popX {y : Str} {py : Pos} (C : Cxt X g W lv) (i : Nat) (hb : PE X b (LE g W mb)) (m : M1 X (.Name y py) "pop" apos b pos := by exact ⟨rfl, rfl, rfl, rfl⟩)
    (hs : starEach [b] X.env = (false, eval b X.env) :: starEach [] X.env := by rfl) (hbase : attributeBase (.Name y py) "pop" X.env (eval (.Name y py) X.env) = eval (.Name y py) X.env := by rfl)
    (hfew : ((backTo pos (starEach [b] X.env)).all (fun x => !x.1) && (backToKw pos (keywordEach [] X.env)).all (fun x => x.1.isSome) && decide ([b].length + ([] : List Keyword).length + (if ([] : List Keyword).isEmpty then 0 else 1) < 30)) = true := by rfl)
    (hline : (apos.endLine == pos.line) = true := by rfl) (hplain : (backTo pos (starEach [] X.env)).any (·.1) = false := by rfl) (hN : X.N[i]? = some y := by rfl) (hv : Vis X.env.scope y := by first | exact Or.inl rfl | exact Or.inr (Or.inl rfl) | exact Or.inr (Or.inr rfl)) (hd1 : (y == ("__debug__" : Str)) = false := by decide) (hcd : (y == ("__classdict__" : Str)) = false := by decide) : PE X (.Call (.Attribute (.Name y py) "pop" apos) [b] [] pos) (LE g W (ePopX i mb)) :=
  PE_imp (PE_or (pe_dpop1 (pe_var hN hv hd1 hcd) hb m) (pd_popAt C i hb hN hv hd1 hcd hs hbase hfew hline hplain)) fun _ _ _ q => (le_popX q).elim (fun q => .inl (le_dpop q)) .inr
/-! displays -/
theorem pd_dct0 : PE X (.Dict [] [] pos) (LE g W eDct0) := PE_imp pe_dnewK fun _ _ _ q => le_dct0 q
/-! pairs of names -/
theorem sd_par {x y : Str} {px py pt : Pos} {kt k2 : Nat} {pt2 : Pos} (C : Cxt X g W lv) (i j : Nat) (ha : PA X [a, b] (LA g W [ma, mb])) (hi : X.N[i]? = some x := by rfl) (hj : X.N[j]? = some y := by rfl) (hij : i ≠ j := by decide) (hx : X.env.scope.names.lookup x = some .local := by rfl) (hy : X.env.scope.names.lookup y = some .local := by rfl)
    (hw : swappedStores [.Tuple [.Name x px, .Name y py] kt pt] (.Tuple [a, b] k2 pt2) X.env = pure (some [x, y]) := by rfl) (hs : swapsWithSole [.Tuple [.Name x px, .Name y py] kt pt] (.Tuple [a, b] k2 pt2) pos.line X.env = pure false := by rfl) :
    PS X (.Assign [.Tuple [.Name x px, .Name y py] kt pt] (.Tuple [a, b] k2 pt2) pos) (LS g W (sPar i j ma mb)) := PS_imp (ps_par C.calm C.nd hi hj hij hx hy ha hw hs) fun _ _ _ q => ls_par hij q
end
end DL
set_option Elab.async false
set_option linter.all false
set_option maxRecDepth 100000
set_option autoImplicit false
/-! DLY: more statements; defs with a generator expression. -/
namespace DL
open PySem PySem.Spec PyProof.Rows L2
theorem bootT_int : bootBuiltins "int" = some (.type "int") := by decide +kernel
theorem bootT_str : bootBuiltins "str" = some (.type "str") := by decide +kernel
theorem bootT_bool : bootBuiltins "bool" = some (.type "bool") := by decide +kernel
theorem bootT_dict : bootBuiltins "dict" = some (.type "dict") := by decide +kernel
section
variable {X : Cx} {g : Gb} {W : WX} {Z : Zn} {S S' S3 H H' : Hp} {τ τ' : List V} {θ θ' : List O} {σ σ' : Sg} {ρ : En} {Q Q' : VK} {m mo ma mb mc : E} {ms : List E} {o oi : O} {v : V} {i j l lv : Nat} {a b c : Expr} {pos : Pos}
/-! what is never reached -/
/-! (..) = e -/
def sAsg (m : E) (tg : Tg) : Sm := fun ρ => (m ρ).toO fun o ρ1 => match tg o.d ρ1 with
  | some ρ2 => .next ρ2
  | none => .stuck
theorem ls_asg {D : Ends} {gr : TG} {tg : Tg} (ht : TgS g gr tg) (q : LS g W (sAsg m tg) D σ H) : tAsg (LE g W m) gr D σ H := by
  obtain ⟨Z, S, ρ, st, post⟩ := q
  refine sstep st post fun o1 ρ1 v1 S1 H1 e1 st1 post1 => ?_
  obtain ⟨S2, e2, st2, r⟩ := St.pop (τ := []) (θ := []) st1
  split at post1
  · rename_i ρ2 h
    exact ht Z S2 H1 σ ρ1 o1.d v1 ρ2 _ st2 r h fun σ' st' => post1 σ' S2 H1 e2 st'
  · exact post1.elim
theorem sd_asg {tge : Expr} {t : TD} (C : Cxt X g W lv) (ha : PE X a (LE g W ma)) (hg : PG X tge (t.gr g.K)) (hs : swapsWithSole [tge] a pos.line X.env = pure false := by rfl) (hw : swappedStores [tge] a X.env = pure none := by rfl)
    (h1 : (assignEach [tge] X.env).map (·.2) = [assign tge X.env] := by rfl) : PS X (.Assign [tge] a pos) (LS g W (sAsg ma t.tg)) := PS_imp (ps_asg ha hg hs hw h1) fun _ _ _ q => ls_asg (TD.v t (TD.okI t)).s q
/-! x, y, z = a, b, c -/
end
/-! name = {k: v for ..} on one line -/
/-! defs that hold a generator expression -/
def DefG (g : Gb) (mg : Str → Option Value) (base : Heap) (x : Str) (st : Stmt) (ps : List Str) (dds : List D) (nq : Option Str) : Prop :=
  ∃ (f : Addr) (fd : FuncData) (ds : List Value) (dvs : List V), DefK g.K x x st f fd ∧ mg x = some (.ref f) ∧ PySem.W.keepIn g.K (.ref f) = true ∧ Binds g.K fd ps ds ∧ Vals dvs ds ∧ (∀ S, Reps g S dds dvs) ∧ ∃ c P, GxR.TabB base mg c P ∧ fd.code = .ref c ∧ P ∈ g.tb ∧ g.nm P = nq
theorem cal_okG {P : Program} {w : World} {mg : Str → Option Value} {base : Heap} {g : Gb} {x : Str} {st : Stmt} {N ps : List Str} {j n k : Nat} {bor : List Bool} {m : Sm} {dds : List D} {nq : Option Str} (T : DefG g mg base x st ps dds nq) (Sc : FnScope N ps (defScope st)) (hp : ps.length = n) (hN : N.length = n + k) (hps : ps = parN (defArgs st) := by rfl)
    (hbody : ∀ (f : Addr) (cdv : Value) (A : Around) (outer : List PySem.Env) (s : Shared) (H : Hp) (E : XK), CodeN (cxOf (L2.CX P w) P w g.K mg base N x (defScope st) f cdv A outer s H E) g nq → Room j (A.deeper (envOfC x (defScope st) s.heap.objs.size f cdv)) → A.guards = some [] →
      PSs (cxOf (L2.CX P w) P w g.K mg base N x (defScope st) f cdv A outer s H E) (defBody st) (LS g (WF E) m)) : Cal P w mg base g (j + 1) x n dds (mkFn n k bor m) := by
  obtain ⟨f, fd, ds, dvs, F, hm, kp, b, d, hd, c, P, tb, hc, hP, hQ⟩ := T
  exact ⟨f, fd, ps, ds, dvs, def_ok F Sc hp hN fun cdv A outer s H E e hr => hbody f cdv A outer s H E ⟨c, P, tb, e ▸ hc, hP, hQ⟩ hr, hm, kp, b, d, hd, .of F hps⟩
end DL
set_option Elab.async false
set_option linter.all false
set_option maxRecDepth 100000
set_option autoImplicit false
/-! DLR: repr. -/
namespace DL
open PySem PySem.Spec PyProof.Rows L2
def keyPy : Key → PyData
  | .inl i => .int i
  | .inr x => .str x
mutual
def D.py : D → Option PyData
  | .non => some .none
  | .bl b => some (.bool b)
  | .int i => some (.int i)
  | .str x => some (.str x)
  | .lst ds => (D.pys ds).map .list
  | .tup ds => (D.pys ds).map .tuple
  | .dct kds => (D.pyk kds).map .dict
  | .scr ns => some (.list (ns.map .int))
  | .lab _ d => d.py
  | _ => none
def D.pys : List D → Option (List PyData)
  | [] => some []
  | d :: ds => d.py.bind fun p => (D.pys ds).map fun r => p :: r
def D.pyk : List (Key × D) → Option (List (PyData × PyData))
  | [] => some []
  | (k, d) :: ds => d.py.bind fun p => (D.pyk ds).map fun r => (keyPy k, p) :: r
end
section
variable {X : Cx} {g : Gb} {S H : Hp} {s : Shared} {pins : List (Addr × Obj)} {σ : L2.St}
theorem sys_ne_lst {a : Addr} {xs : List V} (I : L2.Inv X pins σ H s) (hs : ∃ mm, X.base.Ns sysModules mm) (h : SqL X.K H a xs) : a ≠ sysModules := fun z => by
  subst z
  obtain ⟨mm, o, es, ep, e, d, _⟩ := hs
  obtain ⟨its, _, ⟨o2, n, e2, _, _, d2⟩, _⟩ := I.list h
  rw [I.bk _ _ e] at e2
  cases e2
  rw [d] at d2
  cases d2
theorem key_reads {h : Heap} {k : Key} {u : Value} (hk : keyIs k u = true) : Reads h u (keyPy k) [] := by
  rcases keyIs_shape hk with ⟨i, t, rfl, rfl⟩ | ⟨x, t, rfl, rfl⟩
  · exact Reads.int i t
  · exact Reads.str x t
theorem ints_reads {h : Heap} : ∀ {ns : List Int} {us : List Value}, Vals (ns.map V.int) us → ReadsAll h us (ns.map PyData.int) []
  | [], us, r => by cases r; exact ReadsAll.nil
  | n :: ns, us, r => by
    rw [List.map_cons] at r
    cases r with
    | cons a b =>
      obtain ⟨t, rfl⟩ := a
      exact ReadsAll.cons (as := []) (bs := []) (Reads.int n t) (ints_reads b)
mutual
theorem py_reads (I : L2.Inv X pins σ H s) (hK : X.K = g.K) (sb : Sub S H) (hs : ∃ mm, X.base.Ns sysModules mm) : ∀ (d : D) (p : PyData) (v : V) (u : Value), d.py = some p → Rep g S d v → RelV v u → ∃ as, Reads s.heap u p as ∧ sysModules ∉ as
  | .non, p, v, u, h, r, ru => by cases h; cases r; cases ru; exact ⟨_, Reads.none, by simp⟩
  | .bl b, p, v, u, h, r, ru => by cases h; cases r; cases ru; exact ⟨_, Reads.bool b, by simp⟩
  | .int i, p, v, u, h, r, ru => by cases h; cases r; obtain ⟨t, rfl⟩ := ru; exact ⟨_, Reads.int i t, by simp⟩
  | .str x, p, v, u, h, r, ru => by cases h; cases r; obtain ⟨t, rfl⟩ := ru; exact ⟨_, Reads.str x t, by simp⟩
  | .lst ds, p, v, u, h, ⟨a, vs, e, q, rr⟩, ru => by
    subst e
    cases ru
    unfold D.py at h
    cases h2 : D.pys ds with
    | none => rw [h2] at h; cases h
    | some ps =>
      rw [h2] at h
      cases h
      have hq : SqL X.K H a vs := .inl (.inl (sb.lst q))
      obtain ⟨its, rv, ⟨o, n, ho, hc, _, hd⟩, _⟩ := I.list hq
      obtain ⟨as, hr, hn⟩ := py_readsAll I hK sb hs ds ps vs its h2 rr rv
      refine ⟨_, Reads.list ho hc hd hr, fun m => ?_⟩
      rcases List.mem_cons.mp m with z | z
      · exact sys_ne_lst I hs hq z.symm
      · exact hn z
  | .tup ds, p, v, u, h, ⟨a, vs, e, q, rr⟩, ru => by
    subst e
    cases ru
    unfold D.py at h
    cases h2 : D.pys ds with
    | none => rw [h2] at h; cases h
    | some ps =>
      rw [h2] at h
      cases h
      have hq : SqT X.K H a vs := by rw [hK]; exact sb.sqT q
      obtain ⟨its, rv, ⟨o, ho, hc, n, hd⟩, _⟩ := I.tuple hq
      obtain ⟨as, hr, hn⟩ := py_readsAll I hK sb hs ds ps vs its h2 rr rv
      exact ⟨_, Reads.tuple ho hc hd hr, hn⟩
  | .dct kds, p, v, u, h, ⟨a, kvs, e, q, rr⟩, ru => by
    subst e
    cases ru
    unfold D.py at h
    cases h2 : D.pyk kds with
    | none => rw [h2] at h; cases h
    | some ps =>
      rw [h2] at h
      cases h
      obtain ⟨_, ya, vs, kv, o, es, ep, h1, hx, hdt, _, pr, _⟩ := (sb.rd q).ok I.hok
      obtain ⟨as, bs, r1, r2, n1, n2⟩ := py_readsKv I hK sb hs kds ps kvs vs es.toList h2 rr kv pr
      refine ⟨_, Reads.dict h1 hx.1 hdt r1 r2, fun m => ?_⟩
      rcases List.mem_append.mp m with m | m
      · rcases List.mem_cons.mp m with z | z
        · rw [← z] at ya; simp at ya
        · exact n1 z
      · exact n2 m
  | .scr ns, p, v, u, h, ⟨a, e, q⟩, ru => by
    subst e
    cases ru
    cases h
    have hq : SqL X.K H a (ns.map V.int) := by rw [hK]; exact sb.sqL q
    obtain ⟨its, rv, ⟨o, n, ho, hc, _, hd⟩, _⟩ := I.list hq
    refine ⟨_, Reads.list ho hc hd (ints_reads (us := its) rv), fun m => ?_⟩
    have z : sysModules = a := by simpa using m
    exact sys_ne_lst I hs hq z.symm
  | .lab _ d, p, v, u, h, r, ru => py_reads I hK sb hs d p v u (by unfold D.py at h; exact h) r.2 ru
  | .ins _ _, p, v, u, h, r, ru => by cases h
  | .exn _ _, p, v, u, h, r, ru => by cases h
  | .op _, p, v, u, h, r, ru => by cases h
theorem py_readsAll (I : L2.Inv X pins σ H s) (hK : X.K = g.K) (sb : Sub S H) (hs : ∃ mm, X.base.Ns sysModules mm) : ∀ (ds : List D) (ps : List PyData) (vs : List V) (us : List Value), D.pys ds = some ps → Reps g S ds vs → Vals vs us → ∃ as, ReadsAll s.heap us ps as ∧ sysModules ∉ as
  | [], ps, vs, us, h, r, ru => by cases h; rw [show vs = [] from r] at ru; cases ru; exact ⟨_, ReadsAll.nil, by simp⟩
  | d :: ds, ps, vs, us, h, ⟨v, rr, e, a, b⟩, ru => by
    subst e
    cases ru with
    | cons r1 r2 =>
      unfold D.pys at h
      cases h1 : d.py with
      | none => rw [h1] at h; cases h
      | some p =>
        rw [h1] at h
        dsimp only [Option.bind] at h
        cases h2 : D.pys ds with
        | none => rw [h2] at h; cases h
        | some q =>
          rw [h2] at h
          cases h
          obtain ⟨as, q1, n1⟩ := py_reads I hK sb hs d p v _ h1 a r1
          obtain ⟨bs, q2, n2⟩ := py_readsAll I hK sb hs ds q rr _ h2 b r2
          exact ⟨_, ReadsAll.cons q1 q2, fun m => (List.mem_append.mp m).elim n1 n2⟩
theorem py_readsKv (I : L2.Inv X pins σ H s) (hK : X.K = g.K) (sb : Sub S H) (hs : ∃ mm, X.base.Ns sysModules mm) : ∀ (kds : List (Key × D)) (ps : List (PyData × PyData)) (kvs : List (Key × V)) (vs : List (Key × Value)) (es : List DictEntry), D.pyk kds = some ps → RepK g S kds kvs → KV kvs vs → PySem.Pairs (mixKind X.prog X.w) es vs →
    ∃ as bs, ReadsAll s.heap (es.map (·.key)) (ps.map (·.1)) as ∧ ReadsAll s.heap (es.map (·.val)) (ps.map (·.2)) bs ∧ sysModules ∉ as ∧ sysModules ∉ bs
  | [], ps, kvs, vs, es, h, r, kv, pr => by
    cases h
    rw [show kvs = [] from r] at kv
    cases kv
    cases pr
    exact ⟨_, _, ReadsAll.nil, ReadsAll.nil, by simp, by simp⟩
  | (k, d) :: kds, ps, kvs, vs, es, h, ⟨v, rr, e, a, b⟩, kv, pr => by
    subst e
    unfold KV at kv
    cases kv with
    | @cons p0 q0 ps0 qs0 h0 t =>
      obtain ⟨key, vv⟩ := q0
      obtain ⟨e1, e2⟩ := h0
      have e1 : k = key := e1
      subst e1
      unfold D.pyk at h
      cases h1 : d.py with
      | none => rw [h1] at h; cases h
      | some p =>
        rw [h1] at h
        dsimp only [Option.bind] at h
        cases h2 : D.pyk kds with
        | none => rw [h2] at h; cases h
        | some q =>
          rw [h2] at h
          cases h
          cases pr with
          | @cons e0 kv0 es0 kvs0 c1 c2 c3 =>
            obtain ⟨as, q1, n1⟩ := py_reads I hK sb hs d p v vv h1 a e2
            obtain ⟨as2, bs2, q2, q3, n2, n3⟩ := py_readsKv I hK sb hs kds q rr qs0 es0 h2 b t c3
            refine ⟨[] ++ as2, as ++ bs2, ReadsAll.cons (key_reads c1) q2, ReadsAll.cons (show Reads s.heap e0.val p as from by rw [c2]; exact q1) q3, by simpa using n2, fun m => (List.mem_append.mp m).elim n1 n3⟩
end
end
def dRepr : List D → Option O
  | [d] => d.py.bind fun p => if p.showable = true ∧ p.depth ≤ 60 ∧ p.shown.length ≤ 1000000 then oS p.shown else none
  | _ => none
def rReprD (g : Gb) : List V → Hp → VK → Prop := fun xs H Q => ∃ S d p v, xs = [v] ∧ Sub S H ∧ Rep g S d v ∧ d.py = some p ∧ p.showable = true ∧ p.depth ≤ 60 ∧ p.shown.length ≤ 1000000 ∧ Q (.str p.shown) H
section
variable {X : Cx} {g : Gb}
theorem call_reprD (hK : X.K = g.K) (hgd : X.A.guards = some []) (hs : ∃ mm, X.base.Ns sysModules mm) (hu : X.A.units + 64 < cLine) : CallR X (.builtin "repr") (rReprD g) := by
  intro pins s σ H xs us Q I r h
  obtain ⟨S, d, p, v, rfl, sb, rd, hp, h1, h2, h3, q⟩ := h
  obtain ⟨u, rfl, rv⟩ := Vals.one r
  obtain ⟨as, hr, hn⟩ := py_reads I hK sb hs d p v u hp rd rv
  have hz : p.shown.length ≤ sizeLine := Nat.le_trans h3 (show 1000000 ≤ sizeLine by decide)
  have fin : ∀ (h' : Heap) (w : Tok) (tk : Nat), (∀ b o, s.heap.get? b = some o → h'.get? b = some o) → EP X pins σ Q (.str p.shown w) { s with heap := h', toks := tk } := fun h' w tk k => ⟨.str p.shown, H, I.kept (t' := tk) k, ⟨w, rfl⟩, q⟩
  cases hr with
  | none => exact P.repr_of_none (fin s.heap _ _ fun _ _ e => e)
  | bool b => exact P.repr_of_bool (by simpa [PyData.shown] using fin s.heap s.toks (s.toks + 1) fun _ _ e => e)
  | int i t => exact P.repr_of_int (by simpa [PyData.showable] using h1) (fin s.heap _ _ fun _ _ e => e)
  | str x t => exact P.repr_of_str (fin s.heap _ _ fun _ _ e => e) hz
  | list a1 a2 a3 a4 => exact repr_of_reads' (.list a1 a2 a3 a4) h1 (fun _ => hn) hgd (by omega) (fun _ _ e => e) fin hz
  | tuple a1 a2 a3 a4 => exact repr_of_reads' (.tuple a1 a2 a3 a4) h1 (fun _ => hn) hgd (by omega) (fun _ _ e => e) fin hz
  | dict a1 a2 a3 a4 a5 => exact repr_of_reads' (.dict a1 a2 a3 a4 a5) h1 (fun _ => hn) hgd (by omega) (fun _ _ e => e) fin hz
theorem cs_repr : CallS g (rReprD g) dRepr := callS_of fun S H xs ds o Q e r hf k => by
  unfold dRepr at hf
  split at hf
  · rename_i d
    obtain ⟨v, rfl, rv⟩ := reps_one r
    cases h : d.py with
    | none => rw [h] at hf; cases hf
    | some p =>
      rw [h] at hf
      dsimp only [Option.bind] at hf
      split at hf
      · rename_i hz
        cases hf
        exact ⟨S, d, p, v, rfl, e, rv, h, hz.1, hz.2.1, hz.2.2, k _ H (New.flat (d := .str _) e rfl)⟩
      · cases hf
  · cases hf
theorem bootX_repr : bootBuiltins "repr" = some (.builtin "repr") := by decide +kernel
variable {W : WX} {lv : Nat} {a : Expr} {ms : List E} {es : List Expr} {pos : Pos} {i : Nat}
theorem pd_repr {p : Pos} (C : Cxt X g W lv) (hm : X.mg "repr" = none) (ha : PA X (a :: es) (LA g W ms)) (hg : Gl X "repr" := by rfl) (he : starEach (a :: es) X.env = (false, eval a X.env) :: starEach es X.env := by rfl) (hpl : (backTo pos (starEach es X.env)).any (·.1) = false := by rfl) :
    PE X (.Call (.Name "repr" p) (a :: es) [] pos) (LE g W (eCB dRepr ms)) := PE_imp (pe_callB (call_reprD C.K C.gd C.sys C.hu64) hg hm bootX_repr ha (he := he) (hpl := hpl)) fun _ _ _ q => le_callB cs_repr q
end
end DL
set_option Elab.async false
set_option linter.all false
set_option maxRecDepth 100000
set_option autoImplicit false
/-! DLK: calls with keywords. -/
namespace DL
open PySem PySem.Spec PyProof.Rows L2
theorem vals_getD {vs : List V} {us : List Value} (r : Vals vs us) (i : Nat) : RelV (vs.getD i .non) (us.getD i .none) := by
  rw [List.getD_eq_getElem?_getD, List.getD_eq_getElem?_getD]
  by_cases h : i < vs.length
  · obtain ⟨u, h1, h2⟩ := r.get (List.getElem?_eq_getElem h)
    rw [List.getElem?_eq_getElem h, h1]
    exact h2
  · rw [List.getElem?_eq_none (by omega), List.getElem?_eq_none (by rw [← r.length]; omega)]
    exact rfl
theorem vals_perm {vs : List V} {us : List Value} (r : Vals vs us) : ∀ pm : List Nat, Vals (pm.map fun i => vs.getD i .non) (pm.map fun i => us.getD i .none)
  | [] => .nil
  | i :: pm => .cons (vals_getD r i) (vals_perm r pm)
section
variable {X : Cx} {g : Gb} {W : WX} {Z : Zn} {S S' H H' : Hp} {τ τ' : List V} {θ θ' : List O} {σ σ' : Sg} {ρ : En} {Q Q' : VK} {ms ms1 ms2 : List E} {v : V} {j : Nat}
theorem evs_app : ∀ {ms1 ms2 : List E} {ρ : En}, evs (ms1 ++ ms2) ρ = match evs ms1 ρ with
    | .ok os1 ρ1 => (match evs ms2 ρ1 with | .ok os2 ρ2 => .ok (os1 ++ os2) ρ2 | .exc x ρ2 => .exc x ρ2 | .stuck => .stuck)
    | .exc x ρ1 => .exc x ρ1
    | .stuck => .stuck
  | [], ms2, ρ => by
    show evs ms2 ρ = match evs ms2 ρ with | .ok os2 ρ2 => .ok ([] ++ os2) ρ2 | .exc x ρ2 => .exc x ρ2 | .stuck => .stuck
    cases evs ms2 ρ <;> rfl
  | m :: ms1, ms2, ρ => by
    rw [List.cons_append]
    simp only [evs]
    cases m ρ with
    | stuck => rfl
    | exc x ρ1 => rfl
    | ok o ρ1 =>
      dsimp only
      rw [evs_app]
      cases evs ms1 ρ1 with
      | stuck => rfl
      | exc x ρ2 => rfl
      | ok os ρ2 =>
        dsimp only
        cases evs ms2 ρ2 <;> rfl
theorem la_app {Q : List V → Hp → Prop} (h : LA g W (ms1 ++ ms2) σ H Q) : LA g W ms1 σ H fun vs H1 => vs.length = ms1.length ∧ LA g W ms2 σ H1 fun zs H2 => Q (vs ++ zs) H2 := by
  obtain ⟨Z, S, τ, θ, ρ, st, post⟩ := h
  refine ⟨Z, S, τ, θ, ρ, st, ?_⟩
  rw [evs_app] at post
  cases h1 : evs ms1 ρ with
  | stuck => rw [h1] at post; exact post
  | exc x ρ1 => rw [h1] at post; exact post
  | ok os1 ρ1 =>
    rw [h1] at post
    dsimp only at post
    intro vs S1 H1 e1 st1
    have l1 := st1.tlen
    have l0 := st.tlen
    have lv : vs.length = os1.length := by simp at l1; omega
    refine ⟨lv.trans (evs_len h1), Z, S1, τ ++ vs, θ ++ os1, ρ1, st1, ?_⟩
    cases h2 : evs ms2 ρ1 with
    | stuck => rw [h2] at post; exact post
    | exc x ρ2 =>
      rw [h2] at post
      intro d S2 H2 e2 st2 xa
      obtain ⟨S3, e3, st3, _⟩ := St.popN os1.length vs os1 lv rfl st2
      exact post d S3 H2 ((e1.trans e2).trans e3) st3 (xa.mono e3)
    | ok os2 ρ2 =>
      rw [h2] at post
      intro zs S2 H2 e2 st2
      rw [List.append_assoc, List.append_assoc] at st2
      exact post (vs ++ zs) S2 H2 (e1.trans e2) st2
/-- f(.., k = e, ..): pm the places of the parameters' values -/
def eCallK (fn : List O → R) (pm : List Nat) (ms : List E) : E := fun ρ => (evs ms ρ).bind fun os ρ1 => after (fn ((pm.map fun i => (O.ds os).getD i .non).map .sh)) ρ1
theorem reps_perm {ds : List D} {vs : List V} (r : Reps g S ds vs) : ∀ pm : List Nat, Reps g S (pm.map fun i => ds.getD i .non) (pm.map fun i => vs.getD i .non)
  | [] => rfl
  | i :: pm => by
    refine ⟨_, _, rfl, ?_, reps_perm r pm⟩
    show Rep g S (ds.getD i D.non) (vs.getD i V.non)
    rw [List.getD_eq_getElem?_getD, List.getD_eq_getElem?_getD]
    by_cases h : i < ds.length
    · obtain ⟨v, h1, h2⟩ := r.get (List.getElem?_eq_getElem h)
      rw [List.getElem?_eq_getElem h, h1]
      exact h2
    · rw [List.getElem?_eq_none (by omega), List.getElem?_eq_none (by rw [r.len]; omega)]
      exact rfl
variable {kws : List Keyword} {kpos : Pos} {nm : Option Str} {x : Str} {p pos : Pos} {a e : Expr} {es : List Expr} {ma m : E}
theorem kd_nil : PK X [] (LA g W []) := ⟨fun pos pins s σ H Q I h => pk_nil.run pos pins s σ H Q I (la_nil h)⟩
theorem kd_cons (ha : PE X e (LE g W m)) (hr : PK X kws (LA g W ms)) : PK X (⟨nm, e, kpos⟩ :: kws) (LA g W (m :: ms)) := ⟨fun pos pins s σ H Q I h => (pk_cons ha hr).run pos pins s σ H Q I (la_cons h)⟩
end
end DL
set_option Elab.async false
set_option linter.all false
set_option maxRecDepth 100000
set_option autoImplicit false
/-! DLZ: the end of a law. -/
namespace DL
open PySem PySem.Spec PyProof.Rows L2
/-- the abstract heap at the top: the tables, and the script where it is no object of the module -/
def topH (w : Bool) (a : Addr) (o : Obj) (xs : List V) (tb : List Addr) : Hp := fun b => if b ∈ tb then some (.tbl #[]) else if w = true ∧ b = a then some (.frz o (.lst xs)) else none
theorem topH_tb {w : Bool} {a : Addr} {o : Obj} {xs : List V} {tb : List Addr} {b : Addr} (h : b ∈ tb) : topH w a o xs tb b = some (.tbl #[]) := if_pos h
theorem topH_a {a : Addr} {o : Obj} {xs : List V} {tb : List Addr} (h : a ∉ tb) : topH true a o xs tb a = some (.frz o (.lst xs)) := (if_neg h).trans (if_pos ⟨rfl, rfl⟩)
theorem topH_cases {w : Bool} {a : Addr} {o : Obj} {xs : List V} {tb : List Addr} {b : Addr} {u : HO} (h : topH w a o xs tb b = some u) : (b ∈ tb ∧ u = .tbl #[]) ∨ (b ∉ tb ∧ w = true ∧ b = a ∧ u = .frz o (.lst xs)) := by
  unfold topH at h
  split at h
  · rename_i m
    cases h
    exact .inl ⟨m, rfl⟩
  · rename_i m
    split at h
    · rename_i e
      cases h
      exact .inr ⟨m, e.1, e.2, rfl⟩
    · cases h
theorem law_callD {P : Program} {w : World} {g : Gb} {mg mb : Str → Option Value} {k : Nat} {fa a : Addr} {cs : List (Addr × Addr)} {fn : List O → R} {s₁ : Shared} {vs : List Value} {ns : List Int}
    (KX : g.K.In s₁.heap) (hns : s₁.heap.Ns mainGlobals mg) (hb : s₁.heap.Ns builtinsNs mb) (hbb : ∀ x : Str, x ≠ "__name__" → mb x = bootBuiltins x) (hlim : s₁.heap.NoLimit) (hsy : ∃ mm, s₁.heap.Ns sysModules mm) (hg : s₁.gens = #[])
    (htb : g.tb = cs.map (·.2)) (hT : ∀ p ∈ cs, s₁.heap.get? p.2 = some { cls := .none, data := .fields #[] }) (nT : ∀ p ∈ cs, g.K.lookup p.2 = none) (C : ∀ p ∈ cs, PySem.W.CodeHd s₁.heap p.1 p.2)
    (hbm : ∃ (bm : Addr) (ob : Obj), mg "__builtins__" = some (.ref bm) ∧ bm ≠ builtinsNs ∧ s₁.heap.get? bm = some ob ∧ ob.cls = .type "module" ∧ ob.dict = some builtinsNs ∧ ob.data = .plain)
    (ha : s₁.heap.get? a = some { cls := .type "list", data := .seq vs.toArray }) (hi : IntsAre vs ns) (hl : ns.length ≤ sizeLine) (hr : Room k callerA) (hfa : mg "law" = some (.ref fa))
    (F : ∀ base : Heap, g.K.In base → base.Ns mainGlobals mg → (∃ mm, base.Ns sysModules mm) → (∀ p ∈ cs, GxR.TabB base mg p.1 p.2) → Cal P w mg base g k "law" 1 [] fn)
    (hfn : ∃ ρ, fn [.sh (.scr ns)] = .ok (.sh (.bl true)) ρ) :
    codeAny (model P w) callerA (.call (.ref fa) ⟨[.ref a], []⟩) (fun r s' => r = .ok (.ret (.bool true)) ∧ OldK s₁.heap s'.heap ∧ s'.os = s₁.os ∧ AllBare s'.gens) s₁ := by
  have rv := vals_ints hi
  have lenV := hi.length
  have tbl : ∀ b ∈ g.tb, ∃ p ∈ cs, p.2 = b := fun b m => by
    rw [htb] at m
    exact List.mem_map.mp m
  have isT : ∀ b ∈ g.tb, s₁.heap.get? b = some { cls := .none, data := .fields #[] } := fun b m => by
    obtain ⟨p, hp, e⟩ := tbl b m
    rw [← e]
    exact hT p hp
  have nK : ∀ b ∈ g.tb, g.K.lookup b = none := fun b m => by
    obtain ⟨p, hp, e⟩ := tbl b m
    rw [← e]
    exact nT p hp
  have mT : ∀ p ∈ cs, p.2 ∈ g.tb := fun p hp => by
    rw [htb]
    exact List.mem_map.mpr ⟨p, hp, rfl⟩
  have aT : a ∉ g.tb := fun m => by
    have e := (isT a m).symm.trans ha
    have e2 : Data.fields #[] = Data.seq vs.toArray _ := congrArg Obj.data (Option.some.inj e)
    cases e2
  -- the script: shown to the law, or one of the module's own objects
  obtain ⟨sw, hw, SL⟩ : ∃ sw : Bool, (sw = true → g.K.lookup a = none) ∧ ∀ H : Hp, (sw = true → H a = some (.frz { cls := .type "list", data := .seq vs.toArray } (.lst (ns.map V.int)))) → SqL g.K H a (ns.map V.int) := by
    cases hk : g.K.lookup a with
    | some o =>
      have e := (KX a o hk).symm.trans ha
      cases e
      exact ⟨false, fun z => (nomatch z), fun H _ => .inr ⟨_, vs.toArray, _, hk, rfl, rfl, rfl, by rw [List.size_toArray, lenV]; exact hl, by simpa using rv⟩⟩
    | none => exact ⟨true, fun _ => rfl, fun H z => .inl (.inr ⟨_, z rfl⟩)⟩
  obtain ⟨H, hH⟩ : ∃ H, H = topH sw a { cls := .type "list", data := .seq vs.toArray } (ns.map V.int) g.tb := ⟨_, rfl⟩
  have hTb : ∀ b ∈ g.tb, H b = some (.tbl #[]) := fun b m => by rw [hH]; exact topH_tb m
  have obj : ∀ b u, H b = some u → (b ∈ g.tb ∧ u = .tbl #[]) ∨ (sw = true ∧ b = a ∧ u = .frz { cls := .type "list", data := .seq vs.toArray } (.lst (ns.map V.int))) := fun b u e => by
    rw [hH] at e
    rcases topH_cases e with z | ⟨_, z1, z2, z3⟩
    · exact .inl z
    · exact .inr ⟨z1, z2, z3⟩
  have hok : HOk P w H s₁.heap := fun b u e => by
    rcases obj b u e with ⟨m, rfl⟩ | ⟨_, rfl, rfl⟩
    · exact isT b m
    · exact ⟨ha, by rw [List.length_map]; exact hl, vs, _, rv, ha⟩
  -- what is neither a list nor an empty table is in the base
  have out : ∀ b o, s₁.heap.get? b = some o → (∀ xs n, o.data ≠ .seq xs n) → o.data ≠ .fields #[] → (hidT s₁.heap H).get? b = some o := fun b o e h1 h2 => by
    refine hidT_get e ?_
    cases q : H b with
    | none => rfl
    | some u =>
      rcases obj b u q with ⟨m, _⟩ | ⟨_, z, _⟩
      · rw [isT b m] at e
        cases e
        exact absurd rfl h2
      · rw [z, ha] at e
        cases e
        exact absurd rfl (h1 _ _)
  have nsB : ∀ {b : Addr} {m : Str → Option Value}, s₁.heap.Ns b m → (hidT s₁.heap H).Ns b m := fun {b m} ⟨o, es, ep, e, d, r⟩ =>
    ⟨o, es, ep, out b o e (fun xs n z => by rw [d] at z; cases z) (fun z => by rw [d] at z; cases z), d, r⟩
  have KB : g.K.In (hidT s₁.heap H) := fun b o e => hidT_get (KX b o e) (by
    cases q : H b with
    | none => rfl
    | some u =>
      rcases obj b u q with ⟨m, _⟩ | ⟨z1, z, _⟩
      · rw [nK b m] at e
        cases e
      · rw [z, hw z1] at e
        cases e)
  have hM : L2.Mod g.K mg (hidT s₁.heap H) := ⟨KB, nsB hns, ⟨mb, nsB hb, hbb⟩, let ⟨mc, h1, h2⟩ := hlim; ⟨mc, nsB h1, h2⟩⟩
  have TB : ∀ p ∈ cs, GxR.TabB (hidT s₁.heap H) mg p.1 p.2 := fun p hp => by
    refine ⟨?_, ?_, fun z => ?_⟩
    · obtain ⟨o, us, file, tf, flags, tg, inF, text, tt, e1, r1, r2, r3, rest⟩ := C p hp
      refine ⟨o, us, file, tf, flags, tg, inF, text, tt, out p.1 o e1 (fun xs n z => ?_) (fun z => ?_), r1, r2, r3, rest⟩
      · rw [r2] at z
        cases z
      · rw [r2] at z
        cases z
        simp at r3
    · obtain ⟨bm, ob, b1, b2, b3, b4, b5, b6⟩ := hbm
      refine ⟨bm, ob, b1, b2, fun q => ?_, fun q => ?_, out bm ob b3 (fun xs n z => ?_) (fun z => ?_), b4, b5, b6⟩
      · obtain ⟨o, es, ep, e, hd, _⟩ := hns
        rw [q, e] at b3
        cases b3
        rw [hd] at b6
        cases b6
      · rw [q, hT p hp] at b3
        cases b3
        cases b6
      · rw [b6] at z
        cases z
      · rw [b6] at z
        cases z
    · obtain ⟨o, es, ep, e, hd, _⟩ := hns
      rw [z, hT p hp] at e
      cases e
      cases hd
  obtain ⟨mm, hmm⟩ := hsy
  obtain ⟨f, fd, ps, ds, dvs, FF, hm, kp, bi, vd, rd, _⟩ := F _ KB (nsB hns) ⟨mm, nsB hmm⟩ TB
  obtain rfl : fa = f := by
    have e := hfa.symm.trans hm
    cases e
    rfl
  have hds : ds = [] := by
    have h0 := rd (fun _ => none)
    have h1 : dvs.length = 0 := h0.len
    have h2 := vd.length
    rw [h1] at h2
    exact List.eq_nil_of_length_eq_zero h2.symm
  subst hds
  obtain ⟨ρ, hρ⟩ := hfn
  have hsp : spD g 1 fn [.ref a] H (fun v _ => v = .bl true) fun _ _ _ => False := by
    refine ⟨rfl, fun b => if b ∈ g.tb then none else H b, [.sh (.scr ns)], [], ?_, List.nodup_nil, fun _ m => (nomatch m), fun b u e => ?_, fun p m => ⟨⟨#[], hTb p m, trivial, fun q _ pos cv hc => by simp [codeAmong] at hc⟩, if_pos m⟩, ?_⟩
    · refine ⟨.ref a, [], [], [], rfl, rfl, ⟨rfl, a, rfl, SL _ fun z => ?_⟩, ⟨rfl, rfl⟩⟩
      show (if a ∈ g.tb then none else H a) = _
      rw [if_neg aT, hH, z]
      exact topH_a aT
    · dsimp only at e
      split at e
      · cases e
      · exact e
    · rw [hρ]
      intro v S' H' ⟨A, α, h⟩
      obtain ⟨v', vs', A1, A2, e1, e2, r1, r2⟩ := h.tmp
      cases e1
      exact r1.2
  have hps : ps.length = 1 := (FF.len _ _ _ _ hsp).symm
  have e0 : Env0 P w g.K mg (hidT s₁.heap H) callerA [] s₁ H := ⟨rfl, hM, fun b o e => of_hidT e, Nat.le_of_eq (hidT_size _ _), trivial, fun b hb => absurd (show b ∈ ([] : List Addr) from hb) (by simp), hok, .of_eq hg⟩
  refine codeAny_mono (FF.run callerA [] s₁ H ⟨[.ref a], []⟩ [.ref a] [.ref a] _ _ hr rfl e0 (bi s₁ [.ref a] KX (by rw [hps]; rfl)) (.cons rfl .nil) hsp) fun r s' h => ?_
  match r, h with
  | .error e, ⟨_, _, _, _, _, _, _, _, _, _, _, _, z⟩ => exact z.elim
  | .ok .next, h => exact False.elim h
  | .ok .brk, h => exact False.elim h
  | .ok .cont, h => exact False.elim h
  | .ok (.ret u), ⟨v, H', os, bare, un, hok', r', q⟩ =>
    have q' : v = .bl true := q
    subst q'
    obtain rfl : u = Value.bool true := r'
    have key : ∀ b o, b ∉ g.tb → s₁.heap.get? b = some o → s'.heap.get? b = some o := fun b o nb e => by
      cases q : H b with
      | none => exact un.keep b o e q (by intro z; exact absurd (show b ∈ ([] : List Addr) from z) (by simp)) (by simp)
      | some u =>
        rcases obj b u q with ⟨m, _⟩ | ⟨_, _, rfl⟩
        · exact absurd m nb
        · obtain ⟨e1, _⟩ := hok b _ q
          obtain ⟨e2, _⟩ := hok' b _ (un.frzs b _ _ q)
          rw [e] at e1
          cases e1
          exact e2
    have grown : ∀ b ∈ g.tb, ∃ more : Array Value, s'.heap.get? b = some { cls := .none, data := .fields more } := fun b m => by
      obtain ⟨more, z⟩ := un.tbls b #[] (hTb b m)
      exact ⟨_, hok' b _ z⟩
    refine ⟨rfl, ⟨fun b o e => ?_, fun b o e => ?_⟩, os, bare⟩
    · by_cases m : b ∈ g.tb
      · obtain ⟨p, hp, rfl⟩ := tbl b m
        obtain ⟨more, hm⟩ := grown p.2 m
        rw [hT p hp] at e
        cases e
        exact .inr (.inl ⟨((C p hp).tab (hT p hp)).isCodeTable, rfl, #[], more, rfl, by rw [Array.empty_append]; exact hm⟩)
      · exact .inl (key b o m e)
    · by_cases m : b ∈ g.tb
      · obtain ⟨more, hm⟩ := grown b m
        exact ⟨_, hm⟩
      · exact ⟨o, key b o m e⟩
/-- what the law's row has to bring at the head's heap h -/
def LawD (l : PySem.W.OpenLaw) (w : World) (K : PySem.W.Frag) (k n : Nat) (mg : Str → Option Value) (h : Heap) : Prop :=
  ∃ (g : Gb) (cs : List (Addr × Addr)) (fn : List O → R), g.K = K ∧ g.tb = cs.map (·.2) ∧ (∀ p ∈ cs, h.get? p.2 = some { cls := .none, data := .fields #[] }) ∧ (∀ p ∈ cs, K.lookup p.2 = none) ∧ (∀ p ∈ cs, PySem.W.CodeHd h p.1 p.2) ∧
    (∀ base : Heap, K.In base → base.Ns mainGlobals mg → (∃ mm, base.Ns sysModules mm) → (∀ p ∈ cs, GxR.TabB base mg p.1 p.2) → Cal l.prog w mg base g k "law" 1 [] fn) ∧
    ∀ ns : List Int, ns.length ≤ n → (∀ z ∈ ns, Builtin.Int.intBits z ≤ 1048576) → ∃ ρ, fn [.sh (.scr ns)] = .ok (.sh (.bl true)) ρ
/-- the tables of code objects, as the top left them -/
def TabsD (q : Program) (K : PySem.W.Frag) (h : Heap) : Prop := ∀ (x : Str) (c P : Addr), ((recsOf q).find? (fun e => e.name == x)).isSome = true → PySem.W.tabIn K x = some (c, P) → PySem.W.CodeHd h c P ∧ h.get? P = some { cls := .none, data := .fields #[] }
theorem walk_D {l : PySem.W.OpenLaw} {n k : Nat} {q : Program} {loose : List Str} {XP : (Str → Option Value) → Heap → Prop} {YP : World → Heap → Prop} {d : DefRec} {K : Params → PySem.W.Frag}
    (hn : l.most = some n) (hn2 : n ≤ sizeLine) (hdf : d.params.defaults = []) (hnm : d.name = "law") (himp : importsNone q = true) (hr : Room k callerA) (hY : ∀ (w : World) (h : Heap), YP w h → (K w.params).In h)
    (F : ∀ (w : World) (mg : Str → Option Value) (h : Heap), YP w h → (K w.params).In h → h.Ns mainGlobals mg → TabsD q (K w.params) h → LawD l w (K w.params) k n mg h) :
    PySem.W.WalkO q loose XP YP l.row.toRowW d [] (fun f vs => PySem.call f vs) := by
  refine Att.attach_callB hn hdf fun w s₀ s₁ mg mb fa o pm cd doc a vs ns G Y ho hd hcd hmg hobj hints hlen hbits hg => ?_
  have KX := hY w _ Y
  have TT : TabsD q (K w.params) s₁.heap := fun x c P h1 h2 => by
    obtain ⟨d2, h3⟩ := Option.isSome_iff_exists.mp h1
    exact PySem.W.tab_of G.T KX h3 h2
  obtain ⟨g, cs, fn, hK, htb, hT, nT, C, hF, hfn⟩ := F w mg _ Y KX G.T.g TT
  obtain ⟨mm, hmm, _⟩ := (G.T.seer himp).mods
  rw [← hK] at KX nT hF
  exact law_callD KX G.T.g G.T.b G.T.builtins G.T.nolimit ⟨mm, hmm⟩ hg htb hT nT C G.T.bmain hobj hints (Nat.le_trans hlen hn2) hr (hnm ▸ hmg) hF (hfn ns hlen hbits)
/-! the facts of the text, from the written part -/
section
variable {g : Gb} {h base : Heap} {mg : Str → Option Value} {f : Addr} {x : Str} {st : Stmt} {ps : List Str} {oc kV dc pm cd ct : Value} {od an : Option Addr} {sl : Array (Option Value)}
theorem defT_of (X : g.K.In h) (G : h.Ns mainGlobals mg) (a : PySem.W.nsIn g.K mainGlobals x = some (some (.ref f)))
    (l : g.K.lookup f = some ⟨oc, od, .func (PySem.W.fnOf x x (defArgs st) (defBody st) (defScope st) .none kV dc pm an cd ct), sl⟩) (c : PySem.W.codeIn g.K cd x = true) (k : PySem.W.keepIn g.K (.ref f) = true)
    (hb : ∀ us : List Value, us.length = ps.length → bindArgs (PySem.W.fnOf x x (defArgs st) (defBody st) (defScope st) .none kV dc pm an cd ct) ⟨us, []⟩ = pure (ps.zip us)) : DefT g mg x st ps [] :=
  ⟨f, _, [], [], ⟨_, _, _, _, _, _, _, _, _, _, rfl, l, c⟩, PySem.W.mg_of X G a, k, .all hb, .nil, fun _ => rfl⟩
theorem defG_of {cc P : Addr} (X : g.K.In h) (G : h.Ns mainGlobals mg) (a : PySem.W.nsIn g.K mainGlobals x = some (some (.ref f)))
    (l : g.K.lookup f = some ⟨oc, od, .func (PySem.W.fnOf x x (defArgs st) (defBody st) (defScope st) .none kV dc pm an cd ct), sl⟩) (c : PySem.W.codeIn g.K cd x = true) (k : PySem.W.keepIn g.K (.ref f) = true)
    (hb : ∀ us : List Value, us.length = ps.length → bindArgs (PySem.W.fnOf x x (defArgs st) (defBody st) (defScope st) .none kV dc pm an cd ct) ⟨us, []⟩ = pure (ps.zip us))
    {nq : Option Str} (hc : cd = .ref cc) (hP : P ∈ g.tb) (hQ : g.nm P = nq) (T : GxR.TabB base mg cc P) : DefG g mg base x st ps [] nq :=
  ⟨f, _, [], [], ⟨_, _, _, _, _, _, _, _, _, _, rfl, l, c⟩, PySem.W.mg_of X G a, k, .all hb, .nil, fun _ => rfl, cc, P, T, hc, hP, hQ⟩
theorem tabIn_of {K : PySem.W.Frag} {tc : Value} {td : Option Addr} {tsl : Array (Option Value)} {tv : Array Value} {cc P : Addr} (a : PySem.W.nsIn K mainGlobals x = some (some (.ref f)))
    (l : K.lookup f = some ⟨oc, od, .func (PySem.W.fnOf x x (defArgs st) (defBody st) (defScope st) .none kV dc pm an cd ct), sl⟩) (hc : cd = .ref cc) (lc : K.lookup cc = some ⟨tc, td, .fields tv, tsl⟩) (hv : (tv[11]? : Option Value) = some (.ref P)) : PySem.W.tabIn K x = some (cc, P) := by
  subst hc
  unfold PySem.W.tabIn
  simp only [a, l, lc, hv, PySem.W.fnOf]
theorem con_of {d : V} {v : Value} (X : g.K.In h) (G : h.Ns mainGlobals mg) (a : PySem.W.nsIn g.K mainGlobals x = some (some v)) (r : RelV d v) : ∃ u, mg x = some u ∧ RelV d u := ⟨v, PySem.W.mg_of X G a, r⟩
end
end DL
set_option Elab.async false
set_option linter.all false
set_option maxRecDepth 100000
set_option autoImplicit false
/-! DLV: d.clear(). -/
namespace DL
open PySem PySem.Spec PyProof.Rows L2
section
variable {X : Cx} {g : Gb} {W : WX} {Z : Zn} {S S' H H' : Hp} {τ τ' : List V} {θ θ' : List O} {σ σ' : Sg} {ρ : En} {Q Q' : VK} {ms : List E} {v : V} {j i : Nat} {y : Str} {py apos pos : Pos}
/-- x.clear(), a dict -/
def eClr (i : Nat) : E := fun ρ => match slO (ρ.getD i .no) with
  | some (.dct _) => .ok (.sh .non) (ρ.set i ((ρ.getD i .no).re (.dct [])))
  | _ => .stuck
end
end DL
set_option Elab.async false
set_option linter.all false
set_option maxRecDepth 100000
set_option autoImplicit false
/-! DLU: an expression that only looks: all that the frame owns is lent while it runs, and is owned again behind it. -/
namespace DL
open PySem PySem.Spec PyProof.Rows L2
/-- never changed, by any one: flat values, and tuples of such -/
def D.imm : D → Bool
  | .tup ds => imms ds
  | .any => true
  | .lab _ .any => true
  | d => d.flat
where imms : List D → Bool
  | [] => true
  | d :: ds => d.imm && imms ds
mutual
def ownO : O → Bool
  | .sh d => d.imm
  | .lst os => ownOs os
  | .dct kos => ownOk kos
  | .ins _ fs => ownOf fs
  | .tag _ o => ownO o
def ownOs : List O → Bool
  | [] => true
  | o :: os => ownO o && ownOs os
def ownOk : List (Key × O) → Bool
  | [] => true
  | (_, o) :: os => ownO o && ownOk os
def ownOf : List (Str × O) → Bool
  | [] => true
  | (_, o) :: os => ownO o && ownOf os
end
/-- what stands at an owned address -/
def Knd (u : HO) : Prop := (∃ xs, u = .lst xs) ∨ (∃ kvs, u = .dK kvs) ∨ (∃ c d fs, u = .ins c d fs) ∨ ∃ x, u = .own x
mutual
theorem RelO.knd {g : Gb} {S H : Hp} : ∀ (o : O) v A, RelO g S H o v A → ∀ a ∈ A, ∃ u, H a = some u ∧ Knd u
  | .sh d, v, A, ⟨e, _⟩, a, m => by subst e; cases m
  | .lst os, v, A, ⟨l, vs, A', e, q, eA, r⟩, a, m => by
    subst eA
    rcases List.mem_cons.mp m with z | m
    · rw [z]; exact ⟨_, q, .inl ⟨_, rfl⟩⟩
    · exact RelOs.knd os vs A' r a m
  | .dct os, v, A, ⟨l, vs, A', e, q, eA, r⟩, a, m => by
    subst eA
    rcases List.mem_cons.mp m with z | m
    · rw [z]; exact ⟨_, q, .inr (.inl ⟨_, rfl⟩)⟩
    · exact RelOK.knd os vs A' r a m
  | .ins c os, v, A, ⟨x, dx, vs, A', e, q, q2, eA, r⟩, a, m => by
    subst eA
    rcases List.mem_cons.mp m with z | m
    · rw [z]; exact ⟨_, q, .inr (.inr (.inl ⟨_, _, _, rfl⟩))⟩
    rcases List.mem_cons.mp m with z | m
    · rw [z]; exact ⟨_, q2, .inr (.inr (.inr ⟨_, rfl⟩))⟩
    · exact RelOF.knd os vs A' r a m
  | .tag n o, v, A, ⟨e, r⟩, a, m => RelO.knd o v A r a m
theorem RelOs.knd {g : Gb} {S H : Hp} : ∀ (os : List O) vs A, RelOs g S H os vs A → ∀ a ∈ A, ∃ u, H a = some u ∧ Knd u
  | [], _, _, ⟨_, e⟩, a, m => by subst e; cases m
  | o :: os, _, _, ⟨v, r, A1, A2, e, eA, x, y⟩, a, m => by
    subst eA
    rcases List.mem_append.mp m with m | m
    · exact RelO.knd o v A1 x a m
    · exact RelOs.knd os r A2 y a m
theorem RelOK.knd {g : Gb} {S H : Hp} : ∀ (os : List (Key × O)) vs A, RelOK g S H os vs A → ∀ a ∈ A, ∃ u, H a = some u ∧ Knd u
  | [], _, _, ⟨_, e⟩, a, m => by subst e; cases m
  | (_, o) :: os, _, _, ⟨v, r, A1, A2, e, eA, x, y⟩, a, m => by
    subst eA
    rcases List.mem_append.mp m with m | m
    · exact RelO.knd o v A1 x a m
    · exact RelOK.knd os r A2 y a m
theorem RelOF.knd {g : Gb} {S H : Hp} : ∀ (os : List (Str × O)) vs A, RelOF g S H os vs A → ∀ a ∈ A, ∃ u, H a = some u ∧ Knd u
  | [], _, _, ⟨_, e⟩, a, m => by subst e; cases m
  | (_, o) :: os, _, _, ⟨v, r, A1, A2, e, eA, x, y⟩, a, m => by
    subst eA
    rcases List.mem_append.mp m with m | m
    · exact RelO.knd o v A1 x a m
    · exact RelOF.knd os r A2 y a m
end
/-- S without what B holds -/
def less (S : Hp) (B : List Addr) : Hp := fun a => if a ∈ B then none else S a
theorem less_in {S : Hp} {B : List Addr} {a : Addr} (h : a ∈ B) : less S B a = none := if_pos h
theorem less_out {S : Hp} {B : List Addr} {a : Addr} (h : a ∉ B) : less S B a = S a := if_neg h
section
variable {g : Gb} {S H S' H' : Hp} {B : List Addr}
mutual
theorem Rep.imm (hB : ∀ a ∈ B, ∀ xs, ¬ Rd S a (.tup xs)) : ∀ (d : D) v, d.imm = true → Rep g S d v → Rep g (less S B) d v
  | .non, _, _, r => r
  | .bl _, _, _, r => r
  | .int _, _, _, r => r
  | .str _, _, _, r => r
  | .tup ds, v, h, ⟨a, vs, e, q, b⟩ => by
    refine ⟨a, vs, e, ?_, Reps.imm hB ds vs (by simpa [D.imm] using h) b⟩
    rcases q with q | q
    · have n : a ∉ B := fun m => hB a m vs q
      left
      unfold Rd at q ⊢
      rw [less_out n]; exact q
    · exact .inr q
  | .lst ds, _, h, _ => by simp [D.imm, D.flat] at h
  | .dct ds, _, h, _ => by simp [D.imm, D.flat] at h
  | .ins _ ds, _, h, _ => by simp [D.imm, D.flat] at h
  | .exn _ ds, _, h, _ => by simp [D.imm, D.flat] at h
  | .any, _, _, _ => True.intro
  | .lab _ d, v, h, ⟨e, r⟩ => by
    cases d with
    | any => exact ⟨e, True.intro⟩
    | _ => simp [D.imm, D.flat] at h
  | .scr _, _, h, _ => by simp [D.imm, D.flat] at h
  | .op _, _, _, r => r
theorem Reps.imm (hB : ∀ a ∈ B, ∀ xs, ¬ Rd S a (.tup xs)) : ∀ (ds : List D) vs, D.imm.imms ds = true → Reps g S ds vs → Reps g (less S B) ds vs
  | [], _, _, r => r
  | d :: ds, _, h, ⟨v, r, e, a, b⟩ => by
    unfold D.imm.imms at h
    rw [Bool.and_eq_true] at h
    exact ⟨v, r, e, Rep.imm hB d v h.1 a, Reps.imm hB ds r h.2 b⟩
end
mutual
theorem RelO.own (hB : ∀ a ∈ B, ∀ xs, ¬ Rd S a (.tup xs)) : ∀ (o : O) v A, ownO o = true → (∀ a ∈ A, H' a = H a) → RelO g S H o v A → RelO g (less S B) H' o v A
  | .sh d, v, A, h, _, ⟨e, r⟩ => ⟨e, Rep.imm hB d v (by simpa [ownO] using h) r⟩
  | .lst os, v, A, h, k, ⟨l, vs, A', e, q, eA, r⟩ => by
    subst eA
    exact ⟨l, vs, A', e, (k l (List.mem_cons_self ..)).trans q, rfl, RelOs.own hB os vs A' (by simpa [ownO] using h) (fun a m => k a (List.mem_cons_of_mem _ m)) r⟩
  | .dct os, v, A, h, k, ⟨l, vs, A', e, q, eA, r⟩ => by
    subst eA
    exact ⟨l, vs, A', e, (k l (List.mem_cons_self ..)).trans q, rfl, RelOK.own hB os vs A' (by simpa [ownO] using h) (fun a m => k a (List.mem_cons_of_mem _ m)) r⟩
  | .ins c os, v, A, h, k, ⟨x, dx, vs, A', e, q, q2, eA, r⟩ => by
    subst eA
    exact ⟨x, dx, vs, A', e, (k x (List.mem_cons_self ..)).trans q, (k dx (List.mem_cons_of_mem _ (List.mem_cons_self ..))).trans q2, rfl,
      RelOF.own hB os vs A' (by simpa [ownO] using h) (fun a m => k a (List.mem_cons_of_mem _ (List.mem_cons_of_mem _ m))) r⟩
  | .tag n o, v, A, h, k, ⟨e, r⟩ => ⟨e, RelO.own hB o v A (by simpa [ownO] using h) k r⟩
theorem RelOs.own (hB : ∀ a ∈ B, ∀ xs, ¬ Rd S a (.tup xs)) : ∀ (os : List O) vs A, ownOs os = true → (∀ a ∈ A, H' a = H a) → RelOs g S H os vs A → RelOs g (less S B) H' os vs A
  | [], _, _, _, _, r => r
  | o :: os, _, _, h, k, ⟨v, r, A1, A2, e, eA, a, b⟩ => by
    subst eA
    unfold ownOs at h
    rw [Bool.and_eq_true] at h
    exact ⟨v, r, A1, A2, e, rfl, RelO.own hB o v A1 h.1 (fun a m => k a (List.mem_append_left _ m)) a, RelOs.own hB os r A2 h.2 (fun a m => k a (List.mem_append_right _ m)) b⟩
theorem RelOK.own (hB : ∀ a ∈ B, ∀ xs, ¬ Rd S a (.tup xs)) : ∀ (os : List (Key × O)) vs A, ownOk os = true → (∀ a ∈ A, H' a = H a) → RelOK g S H os vs A → RelOK g (less S B) H' os vs A
  | [], _, _, _, _, r => r
  | (_, o) :: os, _, _, h, k, ⟨v, r, A1, A2, e, eA, a, b⟩ => by
    subst eA
    unfold ownOk at h
    rw [Bool.and_eq_true] at h
    exact ⟨v, r, A1, A2, e, rfl, RelO.own hB o v A1 h.1 (fun a m => k a (List.mem_append_left _ m)) a, RelOK.own hB os r A2 h.2 (fun a m => k a (List.mem_append_right _ m)) b⟩
theorem RelOF.own (hB : ∀ a ∈ B, ∀ xs, ¬ Rd S a (.tup xs)) : ∀ (os : List (Str × O)) vs A, ownOf os = true → (∀ a ∈ A, H' a = H a) → RelOF g S H os vs A → RelOF g (less S B) H' os vs A
  | [], _, _, _, _, r => r
  | (_, o) :: os, _, _, h, k, ⟨v, r, A1, A2, e, eA, a, b⟩ => by
    subst eA
    unfold ownOf at h
    rw [Bool.and_eq_true] at h
    exact ⟨v, r, A1, A2, e, rfl, RelO.own hB o v A1 h.1 (fun a m => k a (List.mem_append_left _ m)) a, RelOF.own hB os r A2 h.2 (fun a m => k a (List.mem_append_right _ m)) b⟩
end
end
/-! dicts that were locked meanwhile are unlocked behind it -/
inductive Unl (H : Hp) : Hp → Hp → Prop where
  | refl (H1 : Hp) : Unl H H1 H1
  | step {H1 H2 : Hp} {d : Addr} {od : Obj} {kvs : List (Key × V)} (h : H d = some (.dK kvs)) (e : H1 d = some (.frz od (.dK kvs))) (r : Unl H (upd H1 d (.dK kvs)) H2) : Unl H H1 H2
def tUnl (t : TE) : TE := fun σ H Q => t σ H fun v H1 => ∃ H2, Unl H H1 H2 ∧ Q v H2
theorem Unl.inv {X : Cx} {pins : List (Addr × Obj)} {σ : L2.St} {H H1 H2 : Hp} {s : Shared} (nf : ∀ d kvs, H d = some (.dK kvs) → ∀ o' u', X.H_0 d ≠ some (.frz o' u')) (u : Unl H H1 H2) : L2.Inv X pins σ H1 s → L2.Inv X pins σ H2 s := by
  induction u with
  | refl => exact id
  | step h e _ ih => exact fun I => ih (I.unlock e (nf _ _ h))
theorem pe_unl {X : Cx} {e : Expr} {t : TE} (h : PE X e t) : PE X e (tUnl t) := by
  refine ⟨fun pins s σ H Q I hw => ?_⟩
  refine thn (h.run pins s σ H _ I hw) fun v s1 ⟨x, H1, I2, r, H2, u, q⟩ => ?_
  exact ⟨x, H2, u.inv (fun d kvs hd => I.nofrz hd trivial) I2, r, q⟩
theorem unl_all {H H1 : Hp} : ∀ (B : List Addr), (∀ a ∈ B, H1 a = H a ∨ ∃ kvs od, H a = some (.dK kvs) ∧ H1 a = some (.frz od (.dK kvs))) → Unl H H1 (fun a => if a ∈ B then H a else H1 a)
  | [], _ => by simp; exact .refl _
  | b :: B, h => by
    have key : ∀ H1' : Hp, (∀ a, a ≠ b → H1' a = H1 a) → H1' b = H b → Unl H H1' (fun a => if a ∈ b :: B then H a else H1 a) := fun H1' h1 h2 => by
      have hB : ∀ a ∈ B, H1' a = H a ∨ ∃ kvs od, H a = some (.dK kvs) ∧ H1' a = some (.frz od (.dK kvs)) := fun a m => by
        by_cases z : a = b
        · rw [z]; exact .inl h2
        · rw [h1 a z]; exact h a (List.mem_cons_of_mem _ m)
      have := unl_all (H := H) (H1 := H1') B hB
      have e : (fun a => if a ∈ B then H a else H1' a) = (fun a => if a ∈ b :: B then H a else H1 a) := by
        funext a
        by_cases m : a ∈ B
        · rw [if_pos m, if_pos (List.mem_cons_of_mem _ m)]
        · rw [if_neg m]
          by_cases z : a = b
          · rw [z, h2, if_pos List.mem_cons_self]
          · rw [h1 a z, if_neg (by simp [m, z])]
      rw [e] at this
      exact this
    rcases h b List.mem_cons_self with e | ⟨kvs, od, e1, e2⟩
    · exact key H1 (fun _ _ => rfl) e
    · exact .step e1 e2 (key _ (fun a z => upd_ne z) (by rw [upd_same, e1]))
def Sl.lend : Sl → Sl
  | .no => .no
  | .v o => .v (.sh o.d)
  | .b o => .v (.sh o.d)
def lendR (ρ : En) : R → R
  | .ok o _ => if ownO o = true then .ok o ρ else .stuck
  | _ => .stuck
def eLend (m : E) : E := fun ρ => lendR ρ (m (ρ.map Sl.lend))
section
variable {g : Gb} {W : WX} {Z : Zn} {S S' H H' : Hp} {τ : List V} {θ : List O} {σ : Sg} {ρ : En} {Q : VK} {m : E} {X : Cx} {j : Nat} {e : Expr}
/-- all that the slots own -/
def allA (α : Nat → List Addr) : Nat → List Addr
  | 0 => []
  | n + 1 => allA α n ++ α n
theorem mem_allA {α : Nat → List Addr} {a : Addr} : ∀ {n : Nat}, a ∈ allA α n ↔ ∃ i, i < n ∧ a ∈ α i
  | 0 => by simp [allA]
  | n + 1 => by
    unfold allA
    rw [List.mem_append, mem_allA]
    constructor
    · rintro (⟨i, h, m⟩ | m)
      · exact ⟨i, by omega, m⟩
      · exact ⟨n, by omega, m⟩
    · rintro ⟨i, h, m⟩
      by_cases z : i = n
      · exact .inr (z ▸ m)
      · exact .inl ⟨i, by omega, m⟩
theorem le_lend (q : LE g W (eLend m) σ H Q) : tUnl (LE g W m) σ H Q := by
  obtain ⟨Z, S, τ, θ, ρ, ⟨A, α0, hd0⟩, post⟩ := q
  -- what slots beyond the names own is nothing
  have hd : ∃ α, Hold g Z S H τ θ σ ρ A α ∧ ∀ i, (∀ o, ρ[i]? ≠ some (.v o) ∧ ρ[i]? ≠ some (.b o)) → α i = [] := by
    refine ⟨fun i => match ρ[i]? with | some (.v _) => α0 i | some (.b _) => α0 i | _ => [], ⟨hd0.bs, hd0.tmp, hd0.len, fun i o hi => ?_, hd0.ndA, fun i => ?_, fun i k n a m => ?_, fun i a m => ?_, fun a m => ?_, hd0.pin⟩, fun i h => ?_⟩
    · obtain ⟨v, e, r⟩ := hd0.slot i o hi
      refine ⟨v, e, ?_⟩
      rcases hi with hi | hi <;> (simp only [hi]; exact r)
    · show (match ρ[i]? with | some (.v _) => α0 i | some (.b _) => α0 i | _ => []).Nodup
      split
      · exact hd0.nd i
      · exact hd0.nd i
      · exact List.nodup_nil
    · have m' : a ∈ α0 i := by
        (try dsimp only at m); split at m
        · exact m
        · exact m
        · cases m
      have := hd0.dis i k n a m'
      (try dsimp only); split
      · exact this
      · exact this
      · exact List.not_mem_nil
    · have m' : a ∈ α0 i := by
        (try dsimp only at m); split at m
        · exact m
        · exact m
        · cases m
      exact hd0.disA i a m'
    · refine hd0.own a ?_
      rcases m with m | ⟨i, m⟩
      · exact .inl m
      · refine .inr ⟨i, ?_⟩
        (try dsimp only at m); split at m
        · exact m
        · exact m
        · cases m
    · cases hs : ρ[i]? with
      | none => simp only [hs]
      | some s =>
        simp only [hs]
        cases s with
        | no => rfl
        | v o => exact absurd hs (h o).1
        | b o => exact absurd hs (h o).2
  obtain ⟨α, hd, out⟩ := hd
  let B := allA α ρ.length
  have memB : ∀ {a}, a ∈ B ↔ ∃ i, a ∈ α i := fun {a} => by
    constructor
    · intro h; obtain ⟨i, _, m⟩ := mem_allA.mp h; exact ⟨i, m⟩
    · rintro ⟨i, m⟩
      refine mem_allA.mpr ⟨i, ?_, m⟩
      by_cases z : i < ρ.length
      · exact z
      · have : ρ[i]? = none := List.getElem?_eq_none (by omega)
        rw [out i fun o => ⟨by rw [this]; simp, by rw [this]; simp⟩] at m
        cases m
  have hB : ∀ a ∈ B, S a = none ∧ (∃ u, H a = some u) ∧ (a ∈ Z.B ∨ Z.H0 a = none) ∧ a ∉ g.tb := fun a m => hd.own a (.inr (memB.mp m))
  have ex1 : Ex S (join S H B) := join_ex fun a m => (hB a m).1
  have kB : ∀ a ∈ B, ∃ u, H a = some u ∧ Knd u := fun a m => by
    obtain ⟨i, m⟩ := memB.mp m
    cases hs : ρ[i]? with
    | none => rw [out i fun o => ⟨by rw [hs]; simp, by rw [hs]; simp⟩] at m; cases m
    | some s =>
      cases s with
      | no => rw [out i fun o => ⟨by rw [hs]; simp, by rw [hs]; simp⟩] at m; cases m
      | v o => obtain ⟨v, _, r⟩ := hd.slot i o (.inl hs); exact RelO.knd o v _ r a m
      | b o => obtain ⟨v, _, r⟩ := hd.slot i o (.inr hs); exact RelO.knd o v _ r a m
  let Z1 : Zn := ⟨join S H B, H, [], σ⟩
  have st1 : St g Z1 (join S H B) H [] [] σ (ρ.map Sl.lend) := by
    refine ⟨[], fun _ => [], ⟨⟨join_sub hd.bs.sub, Ex.refl _, fun a h1 h2 => absurd h2 h1, fun a u h _ _ => .inl h, fun a u h => ⟨u, h⟩, fun p m => (hd.bs.tbl p m).ex ex1, fun p m => ?_⟩, ⟨rfl, rfl⟩, by rw [List.length_map]; exact hd.len, fun i o hi => ?_, List.nodup_nil, fun _ => List.nodup_nil, fun _ _ _ _ m => (nomatch m), fun _ _ m => (nomatch m), fun a m => ?_, fun i o hi => ?_⟩⟩
    · rw [join_out fun m2 => (hB p m2).2.2.2 m]; exact hd.bs.tbS p m
    · rw [List.getElem?_map] at hi
      have key : ∀ o0 : O, (ρ[i]? = some (.v o0) ∨ ρ[i]? = some (.b o0)) → ∃ v, σ[i]? = some (some v) ∧ RelO g (join S H B) H (.sh o0.d) v [] := fun o0 h0 => by
        obtain ⟨v, e, r⟩ := hd.slot i o0 h0
        exact ⟨v, e, rfl, RelO.rep ex1 o0 v (α i) (fun a m u q => by rw [join_in (memB.mpr ⟨i, m⟩)]; exact q) r⟩
      cases hs : ρ[i]? with
      | none => rw [hs] at hi; rcases hi with hi | hi <;> cases hi
      | some s =>
        rw [hs] at hi
        cases s with
        | no => rcases hi with hi | hi <;> cases hi
        | v o0 => rcases hi with hi | hi <;> cases hi; exact key o0 (.inl hs)
        | b o0 => rcases hi with hi | hi <;> cases hi; exact key o0 (.inr hs)
    · rcases m with m | ⟨_, m⟩ <;> cases m
    · rfl
  refine ⟨Z1, join S H B, [], [], ρ.map Sl.lend, st1, ?_⟩
  unfold eLend at post
  cases hm : m (ρ.map Sl.lend) with
  | stuck => rw [hm] at post; exact post.elim
  | exc x ρ1 => rw [hm] at post; exact post.elim
  | ok o ρ1 =>
    rw [hm] at post
    unfold lendR at post
    dsimp only at post
    by_cases ho : ownO o = true
    case neg => rw [if_neg ho] at post; exact post.elim
    rw [if_pos ho] at post
    intro v S' H' e1 st2
    obtain ⟨A2, α2, h2⟩ := st2
    have h2tmp : RelO g S' H' o v A2 := by have := h2.tmp; exact RelOs.oneInv (by simpa using this)
    have bs2 := h2.bs
    -- the heap behind it
    have hH : ∀ a ∈ B, H' a = H a ∨ ∃ kvs od, H a = some (.dK kvs) ∧ H' a = some (.frz od (.dK kvs)) := fun a m => by
      obtain ⟨u, hu, _⟩ := kB a m
      rcases bs2.frm a u hu List.not_mem_nil (hB a m).2.2.2 with z | ⟨_, kvs, od, z, w⟩
      · exact .inl (z.trans hu.symm)
      · subst z; exact .inr ⟨kvs, od, hu, w⟩
    have SB : ∀ a ∈ B, S' a ≠ none := fun a m z => by
      obtain ⟨u, hu, _⟩ := kB a m
      have : join S H B a = some u := by rw [join_in m]; exact hu
      rcases e1 a u this with q | ⟨_, _, _, q⟩ <;> (rw [z] at q; cases q)
    have tB : ∀ a ∈ B, ∀ xs, ¬ Rd S' a (.tup xs) := fun a m xs r => by
      obtain ⟨u, hu, k⟩ := kB a m
      have j1 : join S H B a = some u := by rw [join_in m]; exact hu
      rcases e1 a u j1 with q | ⟨kvs, o', z, q⟩
      · rcases r with r | ⟨o', r⟩
        · rw [q] at r; cases r
          rcases k with ⟨_, z⟩ | ⟨_, z⟩ | ⟨_, _, _, z⟩ | ⟨_, z⟩ <;> cases z
        · rw [q] at r; cases r
          rcases k with ⟨_, z⟩ | ⟨_, z⟩ | ⟨_, _, _, z⟩ | ⟨_, z⟩ <;> cases z
      · subst z
        rcases r with r | ⟨o'', r⟩ <;> (rw [q] at r; cases r)
    have A2B : ∀ a ∈ A2, a ∉ B := fun a m mb => SB a mb (h2.own a (.inl m)).1
    refine ⟨fun a => if a ∈ B then H a else H' a, unl_all B hH, ?_⟩
    have H2in : ∀ {a}, a ∈ B → (fun a => if a ∈ B then H a else H' a) a = H a := fun {a} m => if_pos m
    have H2out : ∀ {a}, a ∉ B → (fun a => if a ∈ B then H a else H' a) a = H' a := fun {a} m => if_neg m
    have exS : Ex S (less S' B) := fun a u h => by
      have n : a ∉ B := fun m => by rw [(hB a m).1] at h; cases h
      have : join S H B a = some u := by rw [join_out n]; exact h
      rw [less_out n]
      exact e1 a u this
    have keepO : ∀ a, S a = none → a ∉ B → ∀ u, H a = some u → a ∉ g.tb → H' a = some u := fun a hs n u hu ht => by
      rcases bs2.frm a u hu List.not_mem_nil ht with z | ⟨z, _⟩
      · exact z
      · exact absurd (by rw [show Z1.S0 a = join S H B a from rfl, join_out n]; exact hs) z
    refine post v (less S' B) _ exS ⟨A ++ A2, α, ⟨⟨fun a u h => ?_, hd.bs.mono.trans exS, fun a h1 h2' => ?_, fun a u h n1 n2 => ?_, fun a u h => ?_, fun p m => ?_, fun p m => ?_⟩, ?_, hd.len, fun i o' hi => ?_, ?_, hd.nd, hd.dis, fun i a m m2 => ?_, fun a m => ?_, hd.pin⟩⟩
    · have n : a ∉ B := fun m => by rw [less_in m] at h; cases h
      rw [less_out n] at h
      show (if a ∈ B then H a else H' a) = _
      rw [if_neg n]
      exact bs2.sub a u h
    · have n : a ∉ B := fun m => by rw [less_in m] at h1; exact h1 rfl
      rw [less_out n] at h1
      by_cases z : S a = none
      · rcases bs2.new a h1 (by show join S H B a = none; rw [join_out n]; exact z) with q | q
        · exact .inl (hd.bs.fresh q)
        · cases q
      · exact hd.bs.new a z h2'
    · show (if a ∈ B then H a else H' a) = _ ∨ _ ∧ ∃ kvs o, _ ∧ (if a ∈ B then H a else H' a) = _
      have nB : a ∉ B := fun m => by
        rcases (hB a m).2.2.1 with q | q
        · exact n1 q
        · rw [q] at h; cases h
      rw [if_neg nB]
      rcases hd.bs.frm a u h n1 n2 with z | ⟨z1, kvs, od, z2, z3⟩
      · rcases bs2.frm a u z List.not_mem_nil n2 with y | ⟨y1, kvs, od, y2, y3⟩
        · exact .inl y
        · refine .inr ⟨fun y4 => ?_, kvs, od, y2, y3⟩
          have y5 : S a ≠ none := fun y6 => y1 (by show join S H B a = none; rw [join_out nB]; exact y6)
          rcases hd.bs.new a y5 y4 with q | q
          · rw [q] at h; cases h
          · exact n1 q
      · rcases bs2.frm a _ z3 List.not_mem_nil n2 with y | ⟨_, kvs', od', y2, _⟩
        · exact .inr ⟨z1, kvs, od, z2, y⟩
        · cases y2
    · obtain ⟨u', q⟩ := hd.bs.dom a u h
      show ∃ u', (if a ∈ B then H a else H' a) = _
      by_cases n : a ∈ B
      · rw [if_pos n]; exact ⟨u', q⟩
      · rw [if_neg n]; exact bs2.dom a u' q
    · obtain ⟨ps, e, k⟩ := bs2.tbl p m
      refine ⟨ps, ?_, k.1, fun q hq pos cv hc => ?_⟩
      rotate_left
      · obtain ⟨c, hc1, hc2⟩ := k.2 q hq pos cv hc
        refine ⟨c, hc1, ?_⟩
        rw [less_out fun mb => ?_]
        · exact hc2
        · obtain ⟨u, hu, kd⟩ := kB c mb
          have hj : join S H B c = some u := (join_in mb).trans hu
          rcases bs2.mono c u hj with y | ⟨kvs, od, y1, y2⟩
          · rw [hc2] at y
            cases y
            unfold LamX.CodeO at kd
            rcases kd with ⟨_, y⟩ | ⟨_, y⟩ | ⟨_, _, _, y⟩ | ⟨_, y⟩ <;> cases y
          · rw [hc2] at y2
            unfold LamX.CodeO at y2
            cases y2
      show (if p ∈ B then H p else H' p) = _
      rw [if_neg fun mb => (hB p mb).2.2.2 m]
      exact e
    · rw [less_out fun mb => (hB p mb).2.2.2 m]
      exact bs2.tbS p m
    · refine RelOs.append (RelOs.mono exS θ τ A (fun a m => ?_) hd.tmp) (RelOs.one (RelO.own tB o v A2 ho (fun a m => ?_) h2tmp))
      · obtain ⟨s1, ⟨u, hu⟩, s3, s4⟩ := hd.own a (.inl m)
        have nB : a ∉ B := fun mb => by obtain ⟨i, mi⟩ := memB.mp mb; exact hd.disA i a mi m
        show (if a ∈ B then H a else H' a) = _
        rw [if_neg nB, hu]
        exact keepO a s1 nB u hu s4
      · show (if a ∈ B then H a else H' a) = _
        rw [if_neg (A2B a m)]
    · obtain ⟨v', q1, q2⟩ := hd.slot i o' hi
      refine ⟨v', q1, RelO.mono exS o' v' (α i) (fun a m => ?_) q2⟩
      show (if a ∈ B then H a else H' a) = _
      rw [if_pos (memB.mpr ⟨i, m⟩)]
    · refine List.nodup_append.mpr ⟨hd.ndA, h2.ndA, fun a m b m2 z => ?_⟩
      subst z
      obtain ⟨s1, ⟨u, hu⟩, s3, s4⟩ := hd.own a (.inl m)
      rcases (h2.own a (.inl m2)).2.2.1 with q | q
      · cases q
      · have q : H a = none := q
        rw [q] at hu; cases hu
    · rcases List.mem_append.mp m2 with m2 | m2
      · exact hd.disA i a m m2
      · exact A2B a m2 (memB.mpr ⟨i, m⟩)
    · rcases m with m | ⟨i, m⟩
      · rcases List.mem_append.mp m with m | m
        · obtain ⟨s1, ⟨u, hu⟩, s3, s4⟩ := hd.own a (.inl m)
          have nB : a ∉ B := fun mb => by obtain ⟨i, mi⟩ := memB.mp mb; exact hd.disA i a mi m
          refine ⟨?_, ?_, s3, s4⟩
          · rw [less_out nB]
            by_cases z : S' a = none
            · exact z
            · rcases bs2.new a z (by show join S H B a = none; rw [join_out nB]; exact s1) with q | q
              · have q : H a = none := q
                rw [q] at hu; cases hu
              · cases q
          · show ∃ u, (if a ∈ B then H a else H' a) = _
            rw [if_neg nB]
            exact ⟨u, keepO a s1 nB u hu s4⟩
        · obtain ⟨s1, s2, s3, s4⟩ := h2.own a (.inl m)
          refine ⟨?_, ?_, ?_, s4⟩
          · rw [less_out (A2B a m)]; exact s1
          · show ∃ u, (if a ∈ B then H a else H' a) = _
            rw [if_neg (A2B a m)]; exact s2
          · rcases s3 with q | q
            · cases q
            · exact .inr (hd.bs.fresh q)
      · have mb : a ∈ B := memB.mpr ⟨i, m⟩
        obtain ⟨s1, ⟨u, hu⟩, s3, s4⟩ := hB a mb
        refine ⟨less_in mb, ?_, s3, s4⟩
        show ∃ u, (if a ∈ B then H a else H' a) = _
        rw [if_pos mb]; exact ⟨u, hu⟩
def tUnlT (t : TT) : TT := fun σ H Q => t σ H fun b H1 => ∃ H2, Unl H H1 H2 ∧ Q b H2
theorem pt_unl {t : TT} (h : PT X e t) : PT X e (tUnlT t) := by
  refine ⟨fun pins s σ H Q I hw => ?_⟩
  refine thn (h.run pins s σ H _ I hw) fun v s1 ⟨H1, I2, H2, u, q⟩ => ?_
  exact ⟨H2, u.inv (fun d kvs hd => I.nofrz hd trivial) I2, q⟩
theorem lt_lend {Q : Bool → Hp → Prop} (q : LT g W (eLend m) σ H Q) : tUnlT (LT g W m) σ H Q := by
  have q' := le_lend q
  unfold tUnl at q'
  obtain ⟨Z, S, τ, θ, ρ, st, post⟩ := q'
  refine ⟨Z, S, τ, θ, ρ, st, ?_⟩
  cases hm : m ρ with
  | stuck => rw [hm] at post; exact post.elim
  | exc x ρ1 => rw [hm] at post; exact post
  | ok o ρ1 =>
    rw [hm] at post
    intro v S' H' e1 st1
    obtain ⟨H2, u, b, hv, q⟩ := post v S' H' e1 st1
    exact ⟨b, hv, H2, u, q⟩
theorem qd_lend (h : PT X e (LT g W m)) : PT X e (LT g W (eLend m)) := ⟨fun pins s σ H Q I q => (pt_unl h).run pins s σ H Q I (lt_lend q)⟩
theorem pd_lend (h : PE X e (LE g W m)) : PE X e (LE g W (eLend m)) := PE_imp (pe_unl h) fun _ _ _ q => le_lend q
end
end DL
set_option Elab.async false
set_option linter.all false
set_option maxRecDepth 100000
set_option autoImplicit false
/-! DLM1: classes: fields, methods, instances made. -/
namespace DL
open PySem PySem.Spec PyProof.Rows L2
/-! ### the rules, over promises that ask for no repr beneath (FnW) -/
/-- o.m(e, ..) -/
def tMethW (C : Addr) (m : Str) (sp : Sp) (dvs : List V) (E : L2.St → XK) (ta : TE) (t : TA) : TE := fun σ H Q => ta σ H fun x H1 => ∃ a dx fs, x = .ref a ∧ H1 a = some (.ins C dx fs) ∧ fs.lookup m = none ∧ t σ H1 fun vs H2 => sp (x :: (vs ++ dvs)) H2 Q (E σ)
section
variable {X : Cx} {CX : CXT} {k : Nat} {f C : Addr} {fd : FuncData} {ps ks : List Str} {sp : Sp} {dvs : List V} {ds : List Value} {E : L2.St → XK} {x m : Str} {p pos apos : Pos} {o e : Expr} {es : List Expr} {ta : TE} {t tk : TA} {kws : List Keyword} {n : Nat} {gv : List Value → List Value → List Value} {gV : List V → List V → List V}
theorem pe_methW {pl : Sem Bool} (he : PE X o ta) (c : Cls X.K C) (hm : Meth X.K C m f) (F : FnW X.prog X.w X.K X.mg X.base CX k f fd ps sp) (hr : Room k X.A) (hgd : X.A.guards = some []) (hb : Binds X.K fd ps ds) (hd : Vals dvs ds) (hx : ∀ σ, PassesAt CX X σ (E σ)) (ha : PA X (e :: es) t)
    (hst : starEach (e :: es) X.env = (false, eval e X.env) :: starEach es X.env := by rfl) (hpl : (backTo pos (starEach es X.env)).any (·.1) = false := by rfl)
    (ht : eval (.Call (.Attribute o m apos) (e :: es) [] pos) X.env = (do
      let ov ← eval o X.env
      standAt apos.atName
      let (f, first) ← holding [ov] (getMethod ov m pl)
      callWith pos f first (backTo pos (starEach (e :: es) X.env)) (backToKw pos (keywordEach [] X.env))) := by rfl) :
    PE X (.Call (.Attribute o m apos) (e :: es) [] pos) (tMethW C m sp dvs E ta t) := by
  refine ⟨fun pins s σ H Q I h => ?_⟩
  refine PySem.W.methodCall_KW (pl := pl) (thn (he.run pins s σ H _ I h) fun u s1 ⟨x, H1, I1, rx, a, dx, fs, ex, ea, l, q⟩ => ?_) ht
  subst ex
  obtain rfl : u = Value.ref a := rx
  refine getmeth_ok I1 ea c hm l ?_
  refine PySem.W.callWith_K (first := [.ref a]) (h₀ := X.base) I.ok.mod.kin hm.kp (thn (ha.run pos pins s1 σ H1 _ I1 q) fun us s2 ⟨vs, H2, I2, r, q2⟩ => ⟨I2.kIn, ?_⟩) hst hpl
  exact run_fnW (us := .ref a :: us) (vs := .ref a :: vs) F hr hgd hb hd (hx σ) I2 (.cons rfl r) q2
theorem pe_meth0W {pl : Sem Bool} (he : PE X o ta) (c : Cls X.K C) (hm : Meth X.K C m f) (F : FnW X.prog X.w X.K X.mg X.base CX k f fd ps sp) (hr : Room k X.A) (hgd : X.A.guards = some []) (hb : Binds X.K fd ps ds) (hd : Vals dvs ds) (hx : ∀ σ, PassesAt CX X σ (E σ))
    (ht : eval (.Call (.Attribute o m apos) [] [] pos) X.env = (do
      let ov ← eval o X.env
      standAt apos.atName
      let (f, first) ← holding [ov] (getMethod ov m pl)
      callWith pos f first (backTo pos (starEach [] X.env)) (backToKw pos (keywordEach [] X.env))) := by rfl) :
    PE X (.Call (.Attribute o m apos) [] [] pos) (tMethW C m sp dvs E ta tNil) := by
  refine ⟨fun pins s σ H Q I h => ?_⟩
  refine PySem.W.methodCall_KW (pl := pl) (thn (he.run pins s σ H _ I h) fun u s1 ⟨x, H1, I1, rx, a, dx, fs, ex, ea, l, q⟩ => ?_) ht
  subst ex
  obtain rfl : u = Value.ref a := rx
  refine getmeth_ok I1 ea c hm l ?_
  exact PySem.W.callWith_K0 (first := [.ref a]) I1.kIn hm.kp (run_fnW (us := [.ref a]) (vs := [.ref a]) F hr hgd hb hd (hx σ) I1 (.cons rfl .nil) q)
/-- C(e, .., k = v, ..) -/
def tMakeW (C : Addr) (n m : Nat) (sp : Sp) (gV : List V → List V → List V) (E : L2.St → XK) (t tk : TA) : TE := fun σ H Q => t σ H fun vs H1 => tk σ H1 fun zs H2 => vs.length = n ∧ zs.length = m ∧ ∀ x dx, H2 x = none → H2 dx = none → dx ≠ x →
  sp (gV (.ref x :: vs) zs) (upd (upd H2 dx (.own x)) x (.ins C dx [])) (fun v H3 => v = .non ∧ Q (.ref x) H3) (E σ)
theorem run_makeW {pins : List (Addr × Obj)} {σ : L2.St} {H : Hp} {s : Shared} {Q : VK} {us ws : List Value} {vs zs : List V} {E : XK} (M : Mk X.K C f) (F : FnW X.prog X.w X.K X.mg X.base CX k f fd ps sp) (hr : Room (k + 1) X.A) (hgd : X.A.guards = some []) (hb : KBn X.K fd ps (n + 1) ks gv gV) (hx : PassesAt CX X σ E)
    (I : L2.Inv X pins σ H s) (r : Vals vs us) (rz : Vals zs ws) (l1 : vs.length = n) (l2 : zs.length = ks.length)
    (h : ∀ x dx, H x = none → H dx = none → dx ≠ x → sp (gV (.ref x :: vs) zs) (upd (upd H dx (.own x)) x (.ins C dx [])) (fun v H2 => v = .non ∧ Q (.ref x) H2) E) :
    wpAny (model X.prog X.w) X.A (call (.ref C) us (ks.zip ws)) (EP X pins σ Q) X.xe s := by
  have hq := h (s.heap.objs.size + 1) s.heap.objs.size (I.hok.fresh (Nat.le_succ _)) (I.hok.fresh (Nat.le_refl _)) (Nat.ne_of_lt (Nat.lt_succ_self _))
  have I2 := Inv.made (C := C) I
  have r1 : Vals (V.ref (s.heap.objs.size + 1) :: vs) (Value.ref (s.heap.objs.size + 1) :: us) := .cons rfl r
  have r2 := hb.rel r1 rz
  have n1 : (Value.ref (s.heap.objs.size + 1) :: us).length = n + 1 := by
    rw [List.length_cons, ← r.length, l1]
  refine wpAny_call (make_map (f := f) I.kIn M.makes M.init (beq_iff_eq.mp M.fn) (codeAny_mono (F.run _ X.stack _ _ ⟨Value.ref (s.heap.objs.size + 1) :: us, ks.zip ws⟩ (gv (Value.ref (s.heap.objs.size + 1) :: us) ws) _ _ E (hr.make C us (ks.zip ws)) hgd
    (I2.env0.make C us (ks.zip ws)) (hb.to _ (Value.ref (s.heap.objs.size + 1) :: us) ws I2.kIn n1 (rz.length.symm.trans l2)) r2 hq) fun r s' hq' => ?_))
  cases r with
  | error e => exact hx pins _ _ e s' I2 hq'
  | ok fl =>
    cases fl with
    | ret u =>
      obtain ⟨v, H', I3, rv, ev, q3⟩ := I2.after hq'
      subst ev
      exact ⟨rv, ⟨V.ref (s.heap.objs.size + 1), H', I3, rfl, q3⟩⟩
    | next => exact False.elim hq'
    | brk => exact False.elim hq'
    | cont => exact False.elim hq'
theorem pe_makeWk (M : Mk X.K C f) (F : FnW X.prog X.w X.K X.mg X.base CX k f fd ps sp) (hr : Room (k + 1) X.A) (hgd : X.A.guards = some []) (hg : Gl X x) (hm : X.mg x = some (.ref C)) (hb : KBn X.K fd ps (n + 1) ks gv gV) (hx : ∀ σ, PassesAt CX X σ (E σ)) (ha : PA X (e :: es) t) (hkw : PK X kws tk)
    (hall : (backToKw pos (keywordEach kws X.env)).all (·.1.isSome) = true := by rfl) (hks : (backToKw pos (keywordEach kws X.env)).filterMap (·.1) = ks := by rfl) (hdb : (x == ("__debug__" : Str)) = false := by decide)
    (he : starEach (e :: es) X.env = (false, eval e X.env) :: starEach es X.env := by rfl) (hpl : ((backTo pos (starEach (e :: es) X.env)).any (·.1) || (backToKw pos (keywordEach kws X.env)).any (·.1.isNone)) = false := by rfl) :
    PE X (.Call (.Name x p) (e :: es) kws pos) (tMakeW C n ks.length sp gV E t tk) := by
  refine ⟨fun pins s σ H Q I h => ?_⟩
  refine wpAny_Call_Name_kw (ld_glob I hg hm ?_ hdb)
  refine PySem.W.callWith_KW (h₀ := X.base) I.ok.mod.kin M.kp hall (thn (ha.run pos pins s σ H _ I h) fun us s1 ⟨vs, H1, I1, r, q⟩ => ?_) hpl he
  refine thn (hkw.run pos pins s1 σ H1 _ I1 q) fun ws s2 ⟨zs, H2, I2, rz, l1, l2, q2⟩ => ⟨I2.kIn, ?_⟩
  rw [hks]
  exact run_makeW M F hr hgd hb (hx σ) I2 r rz l1 l2 q2
theorem pe_makeWk0 (M : Mk X.K C f) (F : FnW X.prog X.w X.K X.mg X.base CX k f fd ps sp) (hr : Room (k + 1) X.A) (hgd : X.A.guards = some []) (hg : Gl X x) (hm : X.mg x = some (.ref C)) (hb : KBn X.K fd ps 1 ks gv gV) (hx : ∀ σ, PassesAt CX X σ (E σ)) (hkw : PK X kws tk)
    (hall : (backToKw pos (keywordEach kws X.env)).all (·.1.isSome) = true := by rfl) (hks : (backToKw pos (keywordEach kws X.env)).filterMap (·.1) = ks := by rfl) (hdb : (x == ("__debug__" : Str)) = false := by decide)
    (hpl : ((backTo pos (starEach [] X.env)).any (·.1) || (backToKw pos (keywordEach kws X.env)).any (·.1.isNone)) = false := by rfl) :
    PE X (.Call (.Name x p) [] kws pos) (tMakeW C 0 ks.length sp gV E tNil tk) := by
  refine ⟨fun pins s σ H Q I h => ?_⟩
  refine wpAny_Call_Name_kw (ld_glob I hg hm ?_ hdb)
  refine PySem.W.callWith_KW0 (h₀ := X.base) I.ok.mod.kin M.kp hall ?_ hpl
  refine thn (hkw.run pos pins s σ H _ I h) fun ws s2 ⟨zs, H2, I2, rz, l1, l2, q2⟩ => ⟨I2.kIn, ?_⟩
  rw [hks]
  exact run_makeW (us := []) (vs := []) M F hr hgd hb (hx σ) I2 .nil rz rfl l2 q2
end
end DL
set_option Elab.async false
set_option linter.all false
set_option maxRecDepth 100000
set_option autoImplicit false
/-! DLM2: classes, lifted: e.f, o.m(..), C(..), self.f = e. -/
namespace DL
open PySem PySem.Spec PyProof.Rows L2
/-- the classes cs hand out their instances' own f -/
def FldOk (g : Gb) (cs : List Str) (f : Str) : Prop := ∀ c ∈ cs, Cls g.K (g.cn c) ∧ NoAttr g.K (g.cn c) f
theorem FldOk.one {g : Gb} {c f : Str} (h : Cls g.K (g.cn c)) (n : NoAttr g.K (g.cn c) f) : FldOk g [c] f := fun d m => by
  rw [List.mem_singleton.mp m]; exact ⟨h, n⟩
theorem FldOk.cons {g : Gb} {c f : Str} {cs : List Str} (h : Cls g.K (g.cn c)) (n : NoAttr g.K (g.cn c) f) (r : FldOk g cs f) : FldOk g (c :: cs) f := fun d m => by
  rcases List.mem_cons.mp m with m | m
  · rw [m]; exact ⟨h, n⟩
  · exact r d m
section
variable {X : Cx} {g : Gb} {W : WX} {Z : Zn} {S S' H H' : Hp} {τ τ' : List V} {θ θ' : List O} {σ σ' : Sg} {ρ : En} {Q Q' : VK} {m mo ma mb mc : E} {ms : List E} {o oi : O} {v : V} {i j n : Nat}
theorem RepF.len : ∀ {ds : List (Str × D)} {vs : List (Str × V)}, RepF g S ds vs → vs.length = ds.length
  | [], _, r => by have e : _ = [] := r; rw [e]; rfl
  | (k, d) :: ds, _, ⟨v, r, e, _, b⟩ => by rw [e, List.length_cons, List.length_cons, RepF.len b]
theorem RepF.lookN : ∀ {ds : List (Str × D)} {vs : List (Str × V)} {f : Str}, RepF g S ds vs → ds.lookup f = none → vs.lookup f = none
  | [], _, _, r, _ => by have e : _ = [] := r; rw [e]; rfl
  | (k, d) :: ds, _, f, ⟨v, r, e, a, b⟩, h => by
    rw [e]
    by_cases q : f == k
    · rw [List.lookup, q] at h; cases h
    · have q' : (f == k) = false := by simpa using q
      rw [List.lookup, q'] at h ⊢
      exact RepF.lookN b h
theorem RelOF.look : ∀ {fs : List (Str × O)} {vs : List (Str × V)} {A : List Addr} {f : Str} {o : O}, RelOF g S H fs vs A → fs.lookup f = some o → ∃ v A', vs.lookup f = some v ∧ RelO g S H o v A'
  | [], _, _, _, _, _, h => by cases h
  | (k, o) :: fs, _, _, f, o', ⟨v, r, A1, A2, e, eA, a, b⟩, h => by
    rw [e]
    by_cases q : f == k
    · rw [List.lookup, q] at h ⊢
      cases h
      exact ⟨v, A1, rfl, a⟩
    · have q' : (f == k) = false := by simpa using q
      rw [List.lookup, q'] at h ⊢
      exact RelOF.look b h
theorem RelOF.lookN : ∀ {fs : List (Str × O)} {vs : List (Str × V)} {A : List Addr} {f : Str}, RelOF g S H fs vs A → fs.lookup f = none → vs.lookup f = none
  | [], _, _, _, ⟨e, _⟩, _ => by rw [e]; rfl
  | (k, o) :: fs, _, _, f, ⟨v, r, A1, A2, e, eA, a, b⟩, h => by
    rw [e]
    by_cases q : f == k
    · rw [List.lookup, q] at h; cases h
    · have q' : (f == k) = false := by simpa using q
      rw [List.lookup, q'] at h ⊢
      exact RelOF.lookN b h
theorem RelOF.len : ∀ {fs : List (Str × O)} {vs : List (Str × V)} {A : List Addr}, RelOF g S H fs vs A → vs.length = fs.length
  | [], _, _, ⟨e, _⟩ => by rw [e]; rfl
  | (k, o) :: fs, _, _, ⟨v, r, A1, A2, e, eA, a, b⟩ => by rw [e, List.length_cons, List.length_cons, RelOF.len b]
/-! ### e.f -/
def eFld (cs : List Str) (f : Str) (m : E) : E := fun ρ => (m ρ).bind fun o ρ1 => match o.d.view with
  | .ins c fs => if c ∈ cs then match fs.lookup f with
    | some d => .ok (.sh d) ρ1
    | none => .stuck else .stuck
  | _ => .stuck
theorem le_fld {cs : List Str} {f : Str} (hf : FldOk g cs f) (q : LE g W (eFld cs f m) σ H Q) : tFld g.K (LE g W m) f σ H Q := by
  obtain ⟨Z, S, τ, θ, ρ, st, post⟩ := q
  refine step0 st post fun o1 ρ1 v1 S1 H1 e1 st1 post1 => ?_
  obtain ⟨S2, e2, st2, ra⟩ := st1.pop
  have ra := ra.view
  cases hd : o1.d.view with
  | ins c fs =>
    rw [hd] at ra
    simp only [hd] at post1
    split at post1
    · rename_i hc
      cases hl : fs.lookup f with
      | none => rw [hl] at post1; exact post1.elim
      | some d =>
        rw [hl] at post1
        obtain ⟨a, dx, fvs, rfl, h1, h2, r⟩ := ra
        obtain ⟨v', l', r'⟩ := r.lookup hl
        exact ⟨a, _, dx, fvs, v', rfl, st2.sub _ _ h1, (hf c hc).1, (hf c hc).2, l', post1.fin e2 st2 (New.same st2.sub r')⟩
    · exact post1.elim
  | _ => simp only [hd] at post1; exact post1.elim
theorem pd_fld {cs : List Str} {f : Str} {e : Expr} {pos : Pos} (C : Cxt X g W j) (T : FldOk g cs f) (he : PE X e (LE g W m)) (hb : attributeBase e f X.env (eval e X.env) = eval e X.env := by rfl) : PE X (.Attribute e f pos) (LE g W (eFld cs f m)) :=
  PE_imp (pe_fld he hb) fun _ _ _ q => by rw [C.K]; exact le_fld T q
/-! ### o.m(..) -/
/-- the class c has the def fn as its method m -/
def Met (P : Program) (w : World) (mg : Str → Option Value) (base : Heap) (g : Gb) (k : Nat) (c m : Str) (n : Nat) (dds : List D) (fn : List O → R) : Prop :=
  ∃ (f : Addr) (fd : FuncData) (ps : List Str) (ds : List Value) (dvs : List V), FnW P w g.K mg base (L2.CX P w) k f fd ps (spD g n fn) ∧ Cls g.K (g.cn c) ∧ Meth g.K (g.cn c) m f ∧ Binds g.K fd ps ds ∧ Vals dvs ds ∧ (∀ S, Reps g S dds dvs) ∧ FdAt g.K f fd ps
def eMet (c m : Str) (fn : List O → R) (dds : List D) (mo : E) (ms : List E) : E := fun ρ => (mo ρ).bind fun o ρ1 => match o.d.view with
  | .ins c' fs => if c' = c ∧ (fs.lookup m).isNone = true then (evs ms ρ1).bind fun os ρ2 => after (fn ((o.d.view :: (O.ds os ++ dds)).map .sh)) ρ2 else .stuck
  | _ => .stuck
theorem le_met {c mn : Str} {fn : List O → R} {dds : List D} {dvs : List V} (hd : ∀ S, Reps g S dds dvs) (hn : ms.length + dds.length + 1 = n) (q : LE g W (eMet c mn fn dds mo ms) σ H Q) : tMethW (g.cn c) mn (spD g n fn) dvs (WE W) (LE g W mo) (LA g W ms) σ H Q := by
  obtain ⟨Z, S, τ, θ, ρ, st, post⟩ := q
  refine step0 st post fun o1 ρ1 v1 S1 H1 e1 st1 post1 => ?_
  obtain ⟨S2, e2, st2, ra⟩ := st1.pop
  have ra := ra.view
  cases hdv : o1.d.view with
  | ins c' fs =>
    rw [hdv] at ra
    simp only [hdv] at post1
    split at post1
    · rename_i hc
      obtain ⟨rfl, hl⟩ := hc
      have ra' := ra
      obtain ⟨a, dx, fvs, rfl, h1, h2, r⟩ := ra
      refine ⟨a, dx, fvs, rfl, st2.sub _ _ h1, r.lookN (by simpa using hl), ?_⟩
      refine stepA' st2 (PostR.mono e2 post1) fun os ρ2 vs S3 H3 e3 l1 l2 st3 post3 => ?_
      obtain ⟨S4, e4, st4, rep⟩ := st3.popN ms.length vs os l1 l2
      have rr : Reps g S4 (D.ins c' fs :: (O.ds os ++ dds)) (V.ref a :: (vs ++ dvs)) := ⟨_, _, rfl, Rep.mono (e3.trans e4) _ _ ra', rep.append (hd S4)⟩
      refine call_sp st4 rr ?_ (fun cls d H h => h) (PostR.mono e4 post3)
      rw [List.length_cons, List.length_append, ds_eq_map, List.length_map, l2]
      exact hn
    · exact post1.elim
  | _ => simp only [hdv] at post1; exact post1.elim
variable {o e : Expr} {es : List Expr} {pos apos : Pos} {k : Nat}
theorem pd_met {c mn : Str} {dds : List D} {fn : List O → R} {pl : Sem Bool} (C : Cxt X g W j) (F : Met X.prog X.w X.mg X.base g k c mn n dds fn) (ho : PE X o (LE g W mo)) (ha : PA X (e :: es) (LA g W ms)) (hk : k ≤ j := by decide) (hn : ms.length + dds.length + 1 = n := by rfl)
    (hst : starEach (e :: es) X.env = (false, eval e X.env) :: starEach es X.env := by rfl) (hpl : (backTo pos (starEach es X.env)).any (·.1) = false := by rfl)
    (ht : eval (.Call (.Attribute o mn apos) (e :: es) [] pos) X.env = (do
      let ov ← eval o X.env
      standAt apos.atName
      let (f, first) ← holding [ov] (getMethod ov mn pl)
      callWith pos f first (backTo pos (starEach (e :: es) X.env)) (backToKw pos (keywordEach [] X.env))) := by rfl) : PE X (.Call (.Attribute o mn apos) (e :: es) [] pos) (LE g W (eMet c mn fn dds mo ms)) := by
  obtain ⟨f, fd, ps, ds, dvs, F, hc, hm, b, d, hd, _⟩ := F
  rw [← C.K] at F hc hm b
  exact PE_imp (pe_methW ho hc hm F (C.rm.mono hk) C.gd b d (passAt C.tk) ha hst hpl ht) fun _ _ _ q => le_met hd hn q
theorem pd_met0 {c mn : Str} {dds : List D} {fn : List O → R} {pl : Sem Bool} (C : Cxt X g W j) (F : Met X.prog X.w X.mg X.base g k c mn n dds fn) (ho : PE X o (LE g W mo)) (hk : k ≤ j := by decide) (hn : dds.length + 1 = n := by rfl)
    (ht : eval (.Call (.Attribute o mn apos) [] [] pos) X.env = (do
      let ov ← eval o X.env
      standAt apos.atName
      let (f, first) ← holding [ov] (getMethod ov mn pl)
      callWith pos f first (backTo pos (starEach [] X.env)) (backToKw pos (keywordEach [] X.env))) := by rfl) : PE X (.Call (.Attribute o mn apos) [] [] pos) (LE g W (eMet c mn fn dds mo [])) := by
  obtain ⟨f, fd, ps, ds, dvs, F, hc, hm, b, d, hd, _⟩ := F
  rw [← C.K] at F hc hm b
  refine PE_imp (pe_meth0W ho hc hm F (C.rm.mono hk) C.gd b d (passAt C.tk) ht) fun _ _ _ q => ?_
  have q := le_met (n := n) (ms := []) hd (by rw [List.length_nil, Nat.zero_add]; exact hn) q
  obtain q := q
  unfold tMethW at q ⊢
  obtain ⟨Z, S, τ, θ, ρ, st, post⟩ := q
  refine ⟨Z, S, τ, θ, ρ, st, ?_⟩
  cases hm : mo ρ with
  | stuck => rw [hm] at post; exact post
  | exc x ρ1 => rw [hm] at post; exact post
  | ok o ρ1 =>
    rw [hm] at post
    intro v S' H' e' st'
    obtain ⟨a, dx, fs, h1, h2, h3, h4⟩ := post v S' H' e' st'
    refine ⟨a, dx, fs, h1, h2, h3, ?_⟩
    obtain ⟨Z2, S2, τ2, θ2, ρ2, st2, post2⟩ := h4
    have := post2 [] S2 _ (Ex.refl _) (by rw [List.append_nil, List.append_nil]; exact st2)
    exact this
/-! ### x.m(..), x handed over for change -/
end
end DL
set_option Elab.async false
set_option linter.all false
set_option maxRecDepth 100000
set_option autoImplicit false
/-! DLM3: instances made, fields stored. -/
namespace DL
open PySem PySem.Spec PyProof.Rows L2
section
variable {X : Cx} {g : Gb} {W : WX} {Z : Zn} {S S' H H' : Hp} {τ τ' : List V} {θ θ' : List O} {σ σ' : Sg} {ρ ρ' : En} {Q Q' : VK} {m mo ma mb mc : E} {ms : List E} {o oi : O} {v : V} {i j n : Nat}
/-- names beyond those known are nothing -/
theorem Hold.pad {A : List Addr} {α : Nat → List Addr} (h : Hold g Z S H τ θ σ ρ A α) : Hold g Z S H τ θ σ (ρ ++ List.replicate (σ.length - ρ.length) .no) A α := by
  have key : ∀ (i : Nat) (s : Sl), s ≠ .no → (ρ ++ List.replicate (σ.length - ρ.length) Sl.no)[i]? = some s → ρ[i]? = some s := fun i s hs e => by
    rw [List.getElem?_append] at e
    split at e
    · exact e
    · rw [List.getElem?_replicate] at e
      split at e
      · cases e; exact absurd rfl hs
      · cases e
  refine ⟨h.bs, h.tmp, by rw [List.length_append, List.length_replicate]; have := h.len; omega, fun i o hi => h.slot i o (hi.imp (key i _ (fun z => nomatch z)) (key i _ (fun z => nomatch z))), h.ndA, h.nd, h.dis, h.disA, h.own, fun i o hi => h.pin i o (key i _ (fun z => nomatch z) hi)⟩
/-- the last value held stands in a slot beyond the names -/
theorem Hold.toSlot {A : List Addr} {α : Nat → List Addr} (h : Hold g Z S H (τ ++ [v]) (θ ++ [o]) σ ρ A α) (hl : ρ.length = σ.length) : St g Z S H τ θ (σ ++ [some v]) (ρ ++ [.v o]) := by
  have htl : τ.length = θ.length := by have := h.tmp.len; simp at this; exact this
  obtain ⟨A1, A2, e, r1, r2⟩ := h.tmp.split htl
  subst e
  have r2 := r2.oneInv
  obtain ⟨n1, n2, n3⟩ := List.nodup_append.mp h.ndA
  refine ⟨A1, fun j => if j = ρ.length then A2 else if j < ρ.length then α j else [], h.bs, r1, by simp [hl], ?_, n1, ?_, ?_, ?_, ?_, ?_⟩
  · intro j o' hj
    by_cases z : j = ρ.length
    · subst z
      rw [List.getElem?_append_right (Nat.le_refl _), Nat.sub_self] at hj
      rcases hj with hj | hj
      · cases hj
        exact ⟨v, by rw [hl, List.getElem?_append_right (Nat.le_refl _), Nat.sub_self]; rfl, by rw [if_pos rfl]; exact r2⟩
      · cases hj
    · by_cases z2 : j < ρ.length
      · rw [List.getElem?_append_left z2] at hj
        obtain ⟨v', q, r'⟩ := h.slot j o' hj
        exact ⟨v', by rw [List.getElem?_append_left (by omega)]; exact q, by rw [if_neg z, if_pos z2]; exact r'⟩
      · have : (ρ ++ [Sl.v o])[j]? = none := List.getElem?_eq_none (by simp; omega)
        rw [this] at hj
        rcases hj with hj | hj <;> cases hj
  · intro j; (try dsimp only); split
    · exact n2
    · split
      · exact h.nd j
      · exact List.nodup_nil
  · intro j k n a m
    (try dsimp only at m ⊢)
    split at m
    · split
      · omega
      · split
        · intro m2; exact h.disA k a m2 (List.mem_append_right _ m)
        · exact List.not_mem_nil
    · split at m
      · split
        · intro m2; exact h.disA j a m (List.mem_append_right _ m2)
        · split
          · exact h.dis j k n a m
          · exact List.not_mem_nil
      · cases m
  · intro j a m m2
    (try dsimp only at m)
    split at m
    · exact n3 a m2 a m rfl
    · split at m
      · exact h.disA j a m (List.mem_append_left _ m2)
      · cases m
  · intro a m
    refine h.own a ?_
    rcases m with m | ⟨j, m⟩
    · exact .inl (List.mem_append_left _ m)
    · (try dsimp only at m)
      split at m
      · exact .inl (List.mem_append_right _ m)
      · split at m
        · exact .inr ⟨j, m⟩
        · cases m
  · intro j o' hj
    by_cases z : j = ρ.length
    · subst z
      rw [List.getElem?_append_right (Nat.le_refl _), Nat.sub_self] at hj
      cases hj
    · by_cases z2 : j < ρ.length
      · rw [List.getElem?_append_left z2] at hj
        rw [List.getElem?_append_left (by omega)]
        exact h.pin j o' hj
      · have : (ρ ++ [Sl.v o])[j]? = none := List.getElem?_eq_none (by simp; omega)
        rw [this] at hj; cases hj
/-- .. and back -/
theorem St.ofSlot (st : St g Z S H τ θ (σ ++ [some v]) (ρ ++ [.v o])) (hl : ρ.length = σ.length) : St g Z S H (τ ++ [v]) (θ ++ [o]) σ ρ := by
  obtain ⟨A, α, h⟩ := st
  obtain ⟨v', q, r⟩ := h.slot ρ.length o (.inl (by rw [List.getElem?_append_right (Nat.le_refl _), Nat.sub_self]; rfl))
  rw [hl, List.getElem?_append_right (Nat.le_refl _), Nat.sub_self] at q
  cases q
  have out : ∀ a ∈ α ρ.length, a ∉ A := fun a m => h.disA _ a m
  refine ⟨A ++ α ρ.length, fun j => if j < ρ.length then α j else [], h.bs, h.tmp.append (RelOs.one r), by omega, fun j o' hj => ?_, List.nodup_append.mpr ⟨h.ndA, h.nd _, fun a m b m2 z => out b m2 (z ▸ m)⟩, fun j => ?_, fun j k n a m => ?_, fun j a m m2 => ?_, fun a m => ?_, fun j o' hj => ?_⟩
  · have z2 : j < ρ.length := by
      rcases hj with hj | hj <;> exact (List.getElem?_eq_some_iff.mp hj).1
    obtain ⟨v', q, r'⟩ := h.slot j o' (by rw [List.getElem?_append_left z2]; exact hj)
    rw [List.getElem?_append_left (by omega)] at q
    exact ⟨v', q, by rw [if_pos z2]; exact r'⟩
  · (try dsimp only); split
    · exact h.nd j
    · exact List.nodup_nil
  · (try dsimp only at m ⊢)
    split at m
    · split
      · exact h.dis j k n a m
      · exact List.not_mem_nil
    · cases m
  · (try dsimp only at m)
    split at m
    · rcases List.mem_append.mp m2 with m2 | m2
      · exact h.disA j a m m2
      · exact h.dis j ρ.length (by omega) a m m2
    · cases m
  · refine h.own a ?_
    rcases m with m | ⟨j, m⟩
    · rcases List.mem_append.mp m with m | m
      · exact .inl m
      · exact .inr ⟨_, m⟩
    · (try dsimp only at m)
      split at m
      · exact .inr ⟨j, m⟩
      · cases m
  · have z2 : j < ρ.length := (List.getElem?_eq_some_iff.mp hj).1
    have := h.pin j o' (by rw [List.getElem?_append_left z2]; exact hj)
    rw [List.getElem?_append_left (by omega)] at this
    exact this
theorem St.unpad (st : St g Z S H τ θ σ (ρ ++ List.replicate n .no)) : St g Z S H τ θ σ ρ := by
  obtain ⟨A, α, h⟩ := st
  have key : ∀ (i : Nat) (s : Sl), ρ[i]? = some s → (ρ ++ List.replicate n Sl.no)[i]? = some s := fun i s e => by
    rw [List.getElem?_append_left (List.getElem?_eq_some_iff.mp e).1]; exact e
  exact ⟨A, α, h.bs, h.tmp, by have := h.len; rw [List.length_append] at this; omega, fun i o hi => h.slot i o (hi.imp (key i _) (key i _)), h.ndA, h.nd, h.dis, h.disA, h.own, fun i o hi => h.pin i o (key i _ hi)⟩
theorem last_get {ρ : En} {s : Sl} {n : Nat} (h : ρ.length = n) : (ρ ++ [s])[n]? = some s := by
  rw [List.getElem?_append_right (by omega), h, Nat.sub_self]; rfl
theorem last_getD {ρ : En} {s s0 : Sl} {n : Nat} (h : ρ.length = n) : (ρ ++ [s]).getD n s0 = s := by rw [List.getD_eq_getElem?_getD, last_get h]; rfl
theorem last_set {ρ : En} {s t : Sl} {n : Nat} (h : ρ.length = n) : (ρ ++ [s]).set n t = ρ ++ [t] := by
  rw [List.set_append_right _ _ (by omega), h, Nat.sub_self]; rfl
/-! ### C(..) -/
def makeR (r : R) (ρ : En) : R := match r with
  | .ok (.sh .non) ρb => match ρb with
    | .b o' :: _ => .ok o' ρ
    | _ => .stuck
  | .exc x ρb => match ρb with
    | .b _ :: _ => .exc x ρ
    | _ => .stuck
  | _ => .stuck
theorem make_sp {c : Str} {x dx : Addr} {fn : List O → R} {ds : List D} {xs : List V} {E : XK} {Q : VK} (st : St g Z S H τ θ σ ρ) (rep : Reps g S ds xs) (hn : ds.length + 1 = n) (hx : H x = none) (hdx : H dx = none) (ne : dx ≠ x) (hE : ∀ cls d H, W cls d σ H → E cls d H)
    (post : PostR g W Z S τ θ σ (makeR (fn (.ins c [] :: ds.map .sh)) ρ) Q) : spD g n fn (.ref x :: xs) (upd (upd H dx (.own x)) x (.ins (g.cn c) dx [])) (fun v H3 => v = .non ∧ Q (.ref x) H3) E := by
  have hx2 : upd H dx (.own x) x = none := by rw [upd_ne (Ne.symm ne)]; exact hx
  have gr : Gr H (upd (upd H dx (.own x)) x (.ins (g.cn c) dx [])) := (Gr.new hdx).trans (Gr.new hx2)
  obtain ⟨A0, α0, h0⟩ := id st
  have hS : ∀ a, H a = none → S a = none := fun a e => Gr.none h0.bs.sub e
  have nw : New g S H (.ins c []) (.ref x) (upd (upd H dx (.own x)) x (.ins (g.cn c) dx [])) := by
    refine ⟨S, [x, dx], Ex.refl _, fun _ h1 h2 => absurd h2 h1, h0.bs.sub.trans gr, ⟨x, dx, [], [], rfl, upd_same, ?_, rfl, rfl, rfl⟩, ?_, fun a m => ?_, gr⟩
    · rw [upd_ne ne, upd_same]
    · simp [Ne.symm ne]
    · simp at m
      rcases m with rfl | rfl
      · exact ⟨hx, hS _ hx⟩
      · exact ⟨hdx, hS _ hdx⟩
  obtain ⟨S1, e1, A1, α1, h1⟩ := st.push nw
  have hp := h1.pad
  have hl : (ρ ++ List.replicate (σ.length - ρ.length) Sl.no).length = σ.length := by rw [List.length_append, List.length_replicate]; have := h1.len; omega
  have st2 := hp.toSlot hl
  refine callB_sp (W := fun cls d _ H => W cls d σ H) (i := σ.length) (Q := fun v H3 => v = .non ∧ Q (.ref x) H3) st2 (by rw [List.getElem?_append_right (Nat.le_refl _), Nat.sub_self]; rfl)
    (by rw [last_getD hl]; rfl) (Reps.mono e1 _ _ rep) hn hE ?_
  have hset : ∀ o', (ρ ++ List.replicate (σ.length - ρ.length) Sl.no ++ [Sl.v (.ins c [])]).set σ.length (((ρ ++ List.replicate (σ.length - ρ.length) Sl.no ++ [Sl.v (.ins c [])]).getD σ.length .no).re o') = ρ ++ List.replicate (σ.length - ρ.length) Sl.no ++ [Sl.v o'] := fun o' => by
    rw [last_getD hl, last_set hl]
    rfl
  cases hf : fn (.ins c [] :: ds.map .sh) with
  | stuck => rw [hf] at post; exact post.elim
  | exc y ρb =>
    rw [hf] at post
    unfold makeR at post
    dsimp only at post
    split at post
    · rename_i o' rest
      intro d S' H' e' st' xa
      rw [hset] at st'
      have st3 := st'.ofSlot hl
      obtain ⟨S3, e3, st4, _⟩ := st3.pop
      exact post d S3 H' ((e1.trans e').trans e3) st4.unpad (xa.mono e3)
    · exact post.elim
  | ok o ρb =>
    rw [hf] at post
    unfold makeR at post
    cases o with
    | sh dd =>
      cases dd with
      | non =>
        dsimp only at post
        split at post
        · rename_i o' rest
          intro v S' H' e' st'
          rw [hset] at st'
          obtain ⟨S3, e3, st4, rv⟩ := st'.pop
          exact ⟨rv, post (.ref x) S3 H' ((e1.trans e').trans e3) (st4.ofSlot hl).unpad⟩
        · exact post.elim
      | _ => exact post.elim
    | _ => exact post.elim
end
end DL
set_option Elab.async false
set_option linter.all false
set_option maxRecDepth 100000
set_option autoImplicit false
/-! DLM4: C(..), self.f = e, properties, isinstance of own classes. -/
namespace DL
open PySem PySem.Spec PyProof.Rows L2
section
variable {X : Cx} {g : Gb} {W : WX} {Z : Zn} {S S' H H' : Hp} {τ τ' : List V} {θ θ' : List O} {σ σ' : Sg} {ρ ρ' : En} {Q Q' : VK} {m mo ma mb mc : E} {ms ms1 ms2 : List E} {o oi : O} {v : V} {i j n : Nat}
variable {e a : Expr} {es : List Expr} {kws : List Keyword} {p pos : Pos} {x : Str} {k : Nat} {ks : List Str}
theorem la_nilI {Q : List V → Hp → Prop} (h : LA g W [] σ H Q) : Q [] H := by
  obtain ⟨Z, S, τ, θ, ρ, st, post⟩ := h
  exact post [] S H (Ex.refl _) (by rw [List.append_nil, List.append_nil]; exact st)
/-! ### self.f = e -/
def putFO (f : Str) (o : O) : List (Str × O) → List (Str × O)
  | [] => [(f, o)]
  | (h, x) :: r => if h = f then (h, o) :: r else (h, x) :: putFO f o r
def sFst (cs : List Str) (i : Nat) (f : Str) (m : E) : Sm := fun ρ => (m ρ).toO fun o ρ1 => match slO (ρ1.getD i .no) with
  | some (.ins c fs) => if c ∈ cs ∧ fs.length < 1000 then .next (ρ1.set i ((ρ1.getD i .no).re (.ins c (putFO f o fs)))) else .stuck
  | _ => .stuck
theorem RelOF.put {f : Str} {B : List Addr} : ∀ {fs : List (Str × O)} {vs : List (Str × V)} {A : List Addr}, RelOF g S H fs vs A → RelO g S H o v B → ∃ A', RelOF g S H (putFO f o fs) (putF f v vs) A' ∧ (∀ a ∈ A', a ∈ A ∨ a ∈ B) ∧ ((A ++ B).Nodup → A'.Nodup)
  | [], _, _, ⟨e, eA⟩, q => by
    subst e; subst eA
    exact ⟨B, ⟨v, [], B, [], rfl, by simp, q, rfl, rfl⟩, fun a m => .inr m, fun h => by simpa using h⟩
  | (k, x) :: fs, _, _, ⟨w, r, A1, A2, e, eA, a, b⟩, q => by
    subst e; subst eA
    unfold putFO putF
    by_cases z : k = f
    · rw [if_pos z, if_pos z]
      refine ⟨B ++ A2, ⟨v, r, B, A2, rfl, rfl, q, b⟩, fun a m => ?_, fun h => ?_⟩
      · rcases List.mem_append.mp m with m | m
        · exact .inr m
        · exact .inl (List.mem_append_right _ m)
      · obtain ⟨n1, n2, n3⟩ := List.nodup_append.mp h
        obtain ⟨_, n5, _⟩ := List.nodup_append.mp n1
        exact List.nodup_append.mpr ⟨n2, n5, fun a x b y z => n3 b (List.mem_append_right _ y) a x z.symm⟩
    · rw [if_neg z, if_neg z]
      obtain ⟨A', h1, h2, h3⟩ := RelOF.put b q
      refine ⟨A1 ++ A', ⟨w, _, A1, A', rfl, rfl, a, h1⟩, fun a m => ?_, fun h => ?_⟩
      · rcases List.mem_append.mp m with m | m
        · exact .inl (List.mem_append_left _ m)
        · exact (h2 a m).imp (List.mem_append_right _) id
      · obtain ⟨n1, n2, n3⟩ := List.nodup_append.mp h
        obtain ⟨n4, n5, n6⟩ := List.nodup_append.mp n1
        refine List.nodup_append.mpr ⟨n4, h3 (List.nodup_append.mpr ⟨n5, n2, fun a x b y => n3 a (List.mem_append_right _ x) b y⟩), fun a x b y => ?_⟩
        rcases h2 b y with y | y
        · exact n6 a x b y
        · exact n3 a (List.mem_append_left _ x) b y
theorem ls_fst {cs : List Str} {f : Str} {D : Ends} (hf : FldOk g cs f) (q : LS g W (sFst cs i f m) D σ H) : sFld g.K (tVar i) (LE g W m) f D σ H := by
  obtain ⟨Z, S, ρ, st, post⟩ := q
  refine sstep st post fun o1 ρ1 v1 S1 H1 e1 st1 post1 => ?_
  split at post1
  · rename_i c fs ho
    split at post1
    · rename_i hc
      obtain ⟨vi, A0, hv, x, dx, fvs, A', rfl, h1, h2, eA, r⟩ := st1.peek ho
      obtain ⟨A, α, hd⟩ := st1
      obtain ⟨x', dx', fvs', B', e', g1, g2, eB, r'⟩ := hd.at ho hv
      cases e'
      rw [h1] at g1
      cases g1
      have r2 := hd.tmp
      have r2 : RelO g S1 H1 o1 v1 A := RelOs.oneInv (by simpa using r2)
      have ndi := hd.nd i
      rw [eB] at ndi
      obtain ⟨nx, nd1⟩ := List.nodup_cons.mp ndi
      obtain ⟨ndx, ndB⟩ := List.nodup_cons.mp nd1
      have dA : ∀ a ∈ A, a ∉ α i := fun a m m2 => hd.disA i a m2 m
      have kk : ∀ a, a ∈ B' ∨ a ∈ A ∨ a = dx → upd H1 x (.ins (g.cn c) dx (putF f v1 fvs)) a = H1 a := fun a m => by
        refine upd_ne fun z => ?_
        subst z
        rcases m with m | m | m
        · exact nx (List.mem_cons_of_mem _ m)
        · exact dA a m (by rw [eB]; exact List.mem_cons_self)
        · exact nx (by rw [m]; exact List.mem_cons_self)
      have r3 := RelOF.mono (Ex.refl S1) fs fvs B' (H' := upd H1 x (.ins (g.cn c) dx (putF f v1 fvs))) (fun a m => kk a (.inl m)) r'
      have r4 := RelO.mono (Ex.refl S1) o1 v1 A (H' := upd H1 x (.ins (g.cn c) dx (putF f v1 fvs))) (fun a m => kk a (.inr (.inl m))) r2
      obtain ⟨A3, p1, p2, p3⟩ := RelOF.put (f := f) r3 r4
      have dj : (B' ++ A).Nodup := List.nodup_append.mpr ⟨ndB, hd.ndA, fun a x b y z => dA b y (by rw [eB]; exact List.mem_cons_of_mem _ (List.mem_cons_of_mem _ (z ▸ x)))⟩
      have st2 := hd.mut (τ := []) (θ := []) (A1 := []) (A2 := A) (A' := x :: dx :: A3) (u := .ins (g.cn c) dx (putF f v1 fvs)) (o' := .ins c (putFO f o1 fs)) rfl ⟨rfl, rfl⟩ ho hv (by rw [eB]; exact List.mem_cons_self)
        ⟨x, dx, _, A3, rfl, upd_same, (kk dx (.inr (.inr rfl))).trans h2, rfl, p1⟩
        (List.nodup_cons.mpr ⟨fun z => by
          rcases List.mem_cons.mp z with z | z
          · exact nx (by rw [z]; exact List.mem_cons_self)
          · rcases p2 x z with z | z
            · exact nx (List.mem_cons_of_mem _ z)
            · exact dA x z (by rw [eB]; exact List.mem_cons_self), List.nodup_cons.mpr ⟨fun z => by
          rcases p2 dx z with z | z
          · exact ndx z
          · exact dA dx z (by rw [eB]; exact List.mem_cons_of_mem _ List.mem_cons_self), p3 dj⟩⟩)
        (fun a m => by
          rw [eB]
          rcases List.mem_cons.mp m with m | m
          · subst m; exact .inl List.mem_cons_self
          · rcases List.mem_cons.mp m with m | m
            · subst m; exact .inl (List.mem_cons_of_mem _ List.mem_cons_self)
            · exact (p2 a m).imp (fun m => List.mem_cons_of_mem _ (List.mem_cons_of_mem _ m)) id)
      exact ⟨_, hv, x, _, dx, fvs, rfl, h1, (hf c hc.1).1, (hf c hc.1).2, by rw [RelOF.len r]; exact hc.2, post1 σ S1 _ (Ex.refl _) st2⟩
    · exact post1.elim
  · exact post1.elim
theorem sd_fst {cs : List Str} {f y : Str} {px p' : Pos} (C : Cxt X g W j) (i : Nat) (T : FldOk g cs f) (h : PE X a (LE g W m)) (hN : X.N[i]? = some y := by rfl) (hv : Vis X.env.scope y := by first | exact Or.inl rfl | exact Or.inr (Or.inl rfl) | exact Or.inr (Or.inr rfl)) (hd : (y == ("__debug__" : Str)) = false := by decide) (hcd : (y == ("__classdict__" : Str)) = false := by decide)
    (hs : swapsWith a (some (.Attribute (.Name y px) f p')) pos.line X.env = pure false := by rfl) : PS X (.Assign [.Attribute (.Name y px) f p'] a pos) (LS g W (sFst cs i f m)) :=
  PS_imp (ps_fld (pe_var hN hv hd hcd) h hs) fun _ _ _ q => by rw [C.K]; exact ls_fst T q
end
end DL
set_option Elab.async false
set_option linter.all false
set_option maxRecDepth 100000
set_option autoImplicit false
/-! DLM5: more built-in functions: int, str, max, min, sum. -/
namespace DL
open PySem PySem.Spec PyProof.Rows L2
section
variable {X : Cx} {g : Gb} {W : WX} {Z : Zn} {S S' H H' : Hp} {τ τ' : List V} {θ θ' : List O} {σ σ' : Sg} {ρ ρ' : En} {Q Q' : VK} {m mo ma mb mc : E} {ms ms1 ms2 : List E} {o oi : O} {v : V} {i j n : Nat}
/-! int(x) -/
def dInt : List D → Option O
  | [.int i] => oI i
  | [.bl b] => oI (if b then 1 else 0)
  | [.str a] => if a.length ≤ 640 then (intText? a).bind fun n => oI n else none
  | _ => none
/-! str(x) -/
def dStr : List D → Option O
  | [.int i] => if i.natAbs.log2 < 1920 then oS (toString i) else none
  | [.str a] => oS a
  | _ => none
def rStrA : List V → Hp → VK → Prop := fun xs H Q => (∃ i, xs = [.int i] ∧ i.natAbs.log2 < 1920 ∧ Q (.str (toString i)) H) ∨ ∃ a, xs = [.str a] ∧ Q (.str a) H
/-! max, min, sum of a list of ints -/
def maxI : List Int → Int
  | [] => 0
  | [a] => a
  | a :: r => max a (maxI r)
variable {a : Expr} {es : List Expr} {pos : Pos} {lv : Nat}
end
end DL
set_option Elab.async false
set_option linter.all false
set_option maxRecDepth 100000
set_option autoImplicit false
/-! DLM6: keyword-only parameters with defaults. -/
namespace DL
open PySem PySem.Spec PyProof.Rows L2
/-! facts of the text -/
end DL
set_option Elab.async false
set_option linter.all false
set_option maxRecDepth 100000
set_option autoImplicit false
/-! DLM7: for x in xs: x[k] = c, where xs owns dicts and is not needed any more. -/
namespace DL
open PySem PySem.Spec PyProof.Rows L2
section
variable {g : Gb} {Z : Zn} {S H H' S' : Hp} {τ : List V} {θ : List O} {σ : Sg} {ρ : En} {A : List Addr} {α : Nat → List Addr} {o : O} {v : V} {i j : Nat} {l : Addr} {u : HO}
/-- what no slot owns may change -/
theorem Hold.free (h : Hold g Z S H τ θ σ ρ A α) (hA : l ∉ A) (ha : ∀ i, l ∉ α i) (hS : S l = none) (hB : l ∈ Z.B ∨ Z.H0 l = none) (ht : l ∉ g.tb) : Hold g Z S (upd H l u) τ θ σ ρ A α := by
  have k : ∀ a, a ≠ l → upd H l u a = H a := fun a z => upd_ne z
  refine ⟨⟨fun a u' q => ?_, h.bs.mono, h.bs.new, fun a u' h1 h2 h3 => ?_, fun a u' h1 => ?_, fun p m => ?_, h.bs.tbS⟩, RelOs.mono (Ex.refl _) θ τ A (fun a m => k a fun z => hA (z ▸ m)) h.tmp, h.len, fun n o hn => ?_, h.ndA, h.nd, h.dis, h.disA, fun a m => ?_, h.pin⟩
  · rw [k a fun z => by rw [z, hS] at q; cases q]
    exact h.bs.sub a u' q
  · rw [k a fun z => by
      subst z
      rcases hB with q | q
      · exact h2 q
      · rw [h1] at q; cases q]
    exact h.bs.frm a u' h1 h2 h3
  · by_cases z : a = l
    · subst z; exact ⟨_, upd_same⟩
    · obtain ⟨u2, q⟩ := h.bs.dom a u' h1; exact ⟨u2, by rw [k a z]; exact q⟩
  · obtain ⟨ps, q1, q2⟩ := h.bs.tbl p m
    exact ⟨ps, by rw [k p fun z => ht (z ▸ m)]; exact q1, q2⟩
  · obtain ⟨v', q, r'⟩ := h.slot n o hn
    exact ⟨v', q, RelO.mono (Ex.refl _) o v' (α n) (fun a m => k a fun z => ha n (z ▸ m)) r'⟩
  · obtain ⟨q1, ⟨u', q2⟩, q3⟩ := h.own a m
    refine ⟨q1, ?_, q3⟩
    by_cases z : a = l
    · subst z; exact ⟨_, upd_same⟩
    · exact ⟨u', by rw [k a z]; exact q2⟩
end
end DL
set_option Elab.async false
set_option linter.all false
set_option maxRecDepth 100000
set_option autoImplicit false
/-! DLM8: more of texts: str(x), divmod, rstrip(chars), zfill, find, partition. -/
namespace DL
open PySem PySem.Spec PyProof.Rows L2
section
variable {X : Cx} {g : Gb} {W : WX} {σ : L2.St} {H : Hp} {Q : VK} {ms : List E} {m mo ma mb : E} {lv : Nat} {x : Str} {p pos apos : Pos} {a b : Expr} {es : List Expr}
/-- a text's method with one text -/
def mS2 (c : Str → Str → Bool) (f : Str → Str → D) : D → List D → Option O
  | .str a, [.str b] => if c a b = true then some (.sh (f a b)) else none
  | _, _ => none
theorem ms_s2 {r : V → List V → Hp → VK → Prop} {c : Str → Str → Bool} {f : Str → Str → D} (hf : ∀ a b, (f a b).flat = true) (hr : ∀ a b H Q, c a b = true → Q (f a b).val H → r (.str a) [.str b] H Q) : MetS g r (mS2 c f) := mets_flat fun H x xs dx ds o Q S rx rs h => by
  unfold mS2 at h
  split at h
  · rename_i a b
    split at h
    · rename_i hc
      cases h
      obtain ⟨v, rfl, rv⟩ := reps_one rs
      refine ⟨_, rfl, hf a b, fun q => ?_⟩
      rw [show x = .str a from rx, show v = .str b from rv]
      exact hr a b H Q hc q
    · cases h
  · cases h
/-- .. with one int -/
def mSI (c : Str → Int → Bool) (f : Str → Int → D) : D → List D → Option O
  | .str a, [.int b] => if c a b = true then some (.sh (f a b)) else none
  | _, _ => none
theorem ms_sI {r : V → List V → Hp → VK → Prop} {c : Str → Int → Bool} {f : Str → Int → D} (hf : ∀ a b, (f a b).flat = true) (hr : ∀ a b H Q, c a b = true → Q (f a b).val H → r (.str a) [.int b] H Q) : MetS g r (mSI c f) := mets_flat fun H x xs dx ds o Q S rx rs h => by
  unfold mSI at h
  split at h
  · rename_i a b
    split at h
    · rename_i hc
      cases h
      obtain ⟨v, rfl, rv⟩ := reps_one rs
      refine ⟨_, rfl, hf a b, fun q => ?_⟩
      rw [show x = .str a from rx, show v = .int b from rv]
      exact hr a b H Q hc q
    · cases h
  · cases h
def mRstripC : D → List D → Option O := mS2 (fun a _ => decide (a.length ≤ 1000000)) fun a b => .str (Txt.rstripChars a b)
def mZfill : D → List D → Option O := mSI (fun _ i => PadOk i) fun a i => .str (Txt.zfill a i)
theorem pd_rstripC (ho : PE X a (LE g W mo)) (C : Cxt X g W lv) (hb : PE X b (LE g W mb)) (hbase : attributeBase a "rstrip" X.env (eval a X.env) = eval a X.env := by rfl)
    (hfew : ((backTo pos (starEach [b] X.env)).all (fun x => !x.1) && (backToKw pos (keywordEach [] X.env)).all (fun x => x.1.isSome) && decide ([b].length + ([] : List Keyword).length + (if ([] : List Keyword).isEmpty then 0 else 1) < 30)) = true := by rfl)
    (hline : (apos.endLine == pos.line) = true := by rfl) (hs : starEach [b] X.env = (false, eval b X.env) :: starEach [] X.env := by rfl) (hplain : (backTo pos (starEach [] X.env)).any (·.1) = false := by rfl) :
    PE X (.Call (.Attribute a "rstrip" apos) [b] [] pos) (LE g W (eBm mRstripC (eTy "str" mo) [mb])) :=
  PE_imp (pe_bm PySem.F.plainAttrs_str PySem.F.slot_str_rstrip (by first | exact PySem.F.type_str_rstrip | kernel_rfl) mt_rstripChars ho (ad_cons hb ad_nil hs) hbase hfew hline hs hplain) fun _ _ _ q => by
    rw [C.K]; exact le_bm (ms_s2 (c := fun a _ => decide (a.length ≤ 1000000)) (f := fun a b => .str (Txt.rstripChars a b)) (fun _ _ => rfl) fun a b H Q hc q => ⟨a, b, rfl, rfl, Nat.le_trans (of_decide_eq_true hc) (show 1000000 ≤ sizeLine by decide), q⟩) q
theorem pd_zfill (ho : PE X a (LE g W mo)) (C : Cxt X g W lv) (hb : PE X b (LE g W mb)) (hbase : attributeBase a "zfill" X.env (eval a X.env) = eval a X.env := by rfl)
    (hfew : ((backTo pos (starEach [b] X.env)).all (fun x => !x.1) && (backToKw pos (keywordEach [] X.env)).all (fun x => x.1.isSome) && decide ([b].length + ([] : List Keyword).length + (if ([] : List Keyword).isEmpty then 0 else 1) < 30)) = true := by rfl)
    (hline : (apos.endLine == pos.line) = true := by rfl) (hs : starEach [b] X.env = (false, eval b X.env) :: starEach [] X.env := by rfl) (hplain : (backTo pos (starEach [] X.env)).any (·.1) = false := by rfl) :
    PE X (.Call (.Attribute a "zfill" apos) [b] [] pos) (LE g W (eBm mZfill (eTy "str" mo) [mb])) :=
  PE_imp (pe_bm PySem.F.plainAttrs_str PySem.F.slot_str_zfill (by first | exact PySem.F.type_str_zfill | kernel_rfl) mt_zfill ho (ad_cons hb ad_nil hs) hbase hfew hline hs hplain) fun _ _ _ q => by
    rw [C.K]; exact le_bm (ms_sI (c := fun _ i => PadOk i) (f := fun a i => .str (Txt.zfill a i)) (fun _ _ => rfl) fun a b H Q hc q => ⟨a, b, rfl, rfl, hc, q⟩) q
/-! divmod -/
def dDivmod : List D → Option O
  | [.int i, .int j] => if 0 < j ∧ j < 1073741824 then some (.sh (.tup [.int (i / j), .int (i % j)])) else none
  | _ => none
theorem cs_divmod : CallS g (fun xs H Q => ∃ i j, xs = [.int i, .int j] ∧ CDiv i j ∧ ∀ p, H p = none → Q (.ref p) (upd H p (.tup [.int (i / j), .int (i % j)]))) dDivmod := callS_of fun S H xs ds o Q e r hf k => by
  unfold dDivmod at hf
  split at hf
  · rename_i i j
    obtain ⟨v1, v2, rfl, r1, r2⟩ := reps2 r
    split at hf
    · rename_i hc
      cases hf
      exact ⟨i, j, by rw [show v1 = .int i from r1, show v2 = .int j from r2], hc, fun p hp => k _ _ (New.tup e ⟨_, _, rfl, rfl, _, _, rfl, rfl, rfl⟩ hp)⟩
    · cases hf
  · cases hf
theorem boot_divmod1 : bootBuiltins "divmod" = some (.builtin "divmod") := by decide +kernel
theorem boot_str1 : bootBuiltins "str" = some (.type "str") := by decide +kernel
theorem pd_divmod (C : Cxt X g W lv) (hm : X.mg "divmod" = none) (ha : PA X (a :: es) (LA g W ms)) (hg : Gl X "divmod" := by rfl) (he : starEach (a :: es) X.env = (false, eval a X.env) :: starEach es X.env := by rfl) (hpl : (backTo pos (starEach es X.env)).any (·.1) = false := by rfl) :
    PE X (.Call (.Name "divmod" p) (a :: es) [] pos) (LE g W (eCB dDivmod ms)) := PE_imp (pe_callB call_divmod hg hm boot_divmod1 ha (he := he) (hpl := hpl)) fun _ _ _ q => le_callB cs_divmod q
/-! str(x) -/
theorem call_strA : CallR X (.type "str") rStrA := CallR_or call_str_int SkE.call_str_str
theorem cs_strA : CallS g rStrA dStr := callS_of fun S H xs ds o Q e r hf k => by
  unfold dStr at hf
  split at hf
  · rename_i i
    obtain ⟨v, rfl, rv⟩ := reps_one r
    split at hf
    · rename_i hl
      cases hf
      exact .inl ⟨i, by rw [show v = .int _ from rv], hl, k _ H (new_flat e rfl rfl)⟩
    · cases hf
  · cases hf
    obtain ⟨v, rfl, rv⟩ := reps_one r
    exact .inr ⟨_, by rw [show v = .str _ from rv], k _ H (new_flat e rfl rfl)⟩
  · cases hf
theorem pd_str1 {p : Pos} (C : Cxt X g W lv) (hm : X.mg "str" = none) (ha : PA X (a :: es) (LA g W ms)) (hg : Gl X "str" := by rfl) (he : starEach (a :: es) X.env = (false, eval a X.env) :: starEach es X.env := by rfl) (hpl : (backTo pos (starEach es X.env)).any (·.1) = false := by rfl) :
    PE X (.Call (.Name "str" p) (a :: es) [] pos) (LE g W (eCB dStr ms)) := PE_imp (pe_callTy call_strA hg hm boot_str1 ha (he := he) (hpl := hpl)) fun _ _ _ q => le_callB cs_strA q
/-! f'..' -/
/-- {e} -/
def eFmt (m : E) : E := fun ρ => (m ρ).bind fun o ρ1 => match o.d.view with
  | .str y => if y.length ≤ 1000000 then .ok (.sh (.str y)) ρ1 else .stuck
  | .int i => if i.natAbs.log2 < 1920 then .ok (.sh (.str (toString i))) ρ1 else .stuck
  | _ => .stuck
/-- the parts one behind the other -/
def eJs : List E → Str → E
  | [], acc => fun ρ => .ok (.sh (.str acc)) ρ
  | m :: ms, acc => fun ρ => (m ρ).bind fun o ρ1 => match o.d.view with
    | .str y => if (acc ++ y).length ≤ 1000000 then eJs ms (acc ++ y) ρ1 else .stuck
    | _ => .stuck
end
section
variable {X : Cx} {g : Gb} {W : WX} {Z : Zn} {S S' H H' : Hp} {τ τ' : List V} {θ θ' : List O} {σ : L2.St} {ρ : En} {Q Q' : VK} {ms : List E} {m : E}
theorem step_flat {k : O → E} (st : St g Z S H τ θ σ ρ) (post : PostR g W Z S τ θ σ ((m ρ).bind k) Q)
    (hk : ∀ o ρ1 v S1 H1, Ex S S1 → St g Z S1 H1 τ θ σ ρ1 → Rep g S1 o.d v → PostR g W Z S1 τ θ σ (k o ρ1) Q → Q' v H1) : LE g W m σ H Q' :=
  step0 st post fun o1 ρ1 v1 S1 H1 e1 st1 post1 => by
    obtain ⟨S2, e2, st2, r⟩ := st1.pop
    exact hk o1 ρ1 v1 S2 H1 (e1.trans e2) st2 r (PostR.mono e2 post1)
theorem le_fmt (q : LE g W (eFmt m) σ H Q) : tFmt (LE g W m) σ H Q := by
  obtain ⟨Z, S, τ, θ, ρ, st, post⟩ := q
  refine step_flat st post fun o ρ1 v S1 H1 e1 st1 r post1 => ?_
  have r := r.view
  split at post1
  · rename_i y hy
    rw [hy] at r
    split at post1
    · rename_i hl
      exact .inl ⟨y, r, Nat.le_trans hl (show 1000000 ≤ sizeLine by decide), PostR.fin post1 (Ex.refl _) st1 (New.flat (d := .str y) st1.sub rfl)⟩
    · exact post1.elim
  · rename_i i hi
    rw [hi] at r
    split at post1
    · rename_i hl
      exact .inr ⟨i, r, hl, PostR.fin post1 (Ex.refl _) st1 (New.flat (d := .str _) st1.sub rfl)⟩
    · exact post1.elim
  · exact post1.elim
theorem le_js : ∀ {ms : List E} {acc : Str} {σ : L2.St} {H : Hp} {Q : VK}, LE g W (eJs ms acc) σ H Q → tJs (ms.map fun m => LE g W m) acc σ H fun out H1 => Q (.str out) H1
  | [], acc, σ, H, Q, q => by
    obtain ⟨Z, S, τ, θ, ρ, st, post⟩ := q
    exact PostR.fin post (Ex.refl _) st (New.flat (d := .str acc) st.sub rfl)
  | m :: ms, acc, σ, H, Q, q => by
    obtain ⟨Z, S, τ, θ, ρ, st, post⟩ := q
    refine step_flat (m := m) (k := fun o ρ1 => match o.d.view with | .str y => if (acc ++ y).length ≤ 1000000 then eJs ms (acc ++ y) ρ1 else .stuck | _ => .stuck) st post fun o ρ1 v S1 H1 e1 st1 r post1 => ?_
    have r := r.view
    split at post1
    · rename_i y hy
      rw [hy] at r
      split at post1
      · rename_i hl
        exact ⟨y, r, Nat.le_trans hl (show 1000000 ≤ sizeLine by decide), le_js ⟨Z, S1, τ, θ, ρ1, st1, post1⟩⟩
      · exact post1.elim
    · exact post1.elim
theorem pd_fmt {e : Expr} {pos : Pos} (he : PE X e (LE g W m)) : PE X (.FormattedValue e (-1) none pos) (LE g W (eFmt m)) := PE_imp (pe_fmt he) fun _ _ _ q => le_fmt q
inductive PJD (X : Cx) (g : Gb) (W : WX) : List Expr → List E → Prop where
  | nil : PJD X g W [] []
  | cons {e : Expr} {m : E} {es : List Expr} {ms : List E} (h : PE X e (LE g W m)) (r : PJD X g W es ms) : PJD X g W (e :: es) (m :: ms)
theorem PJD.pj {es : List Expr} {ms : List E} (h : PJD X g W es ms) : PJ X es (ms.map fun m => LE g W m) := by
  induction h with
  | nil => exact .nil
  | cons h _ ih => exact .cons h ih
theorem pd_fstr {v1 v2 : Expr} {rest : List Expr} {pos : Pos} (h : PJD X g W (v1 :: v2 :: rest) ms) : PE X (.JoinedStr (v1 :: v2 :: rest) pos) (LE g W (eJs ms Str.empty)) := PE_imp (pe_joined h.pj) fun _ _ _ q => le_js q
end
end DL
set_option Elab.async false
set_option linter.all false
set_option maxRecDepth 100000
set_option autoImplicit false
/-! DLM9: own exceptions as values. -/
namespace DL
open PySem PySem.Spec PyProof.Rows L2
section
variable {X : Cx} {o e : Expr} {es : List Expr} {to te : TE} {ta : TA} {f b : Str} {p p' p1 p2 pos : Pos}
/-- B.__init__(self, ..), B an own exception class without own __init__ -/
theorem pe_cinit {B : Addr} {mc : Value} {pl : Sem Bool} (hg : Gl X b) (hm : X.mg b = some (.ref B)) (hga : PySem.W.specialIn X.K (.ref B) "__getattribute__" = some (some (.builtin "type.__getattribute__"))) (hr : PySem.W.readsIn X.K B mc = true)
    (hv : PySem.W.findCls X.K (.ref B) mc "__init__" = some (.val (.builtin "ValueError.__init__"))) (ha : PA X (e :: es) ta)
    (hc : eval (.Call (.Attribute (.Name b p1) "__init__" p2) (e :: es) [] pos) X.env = (do
      let ov ← eval (.Name b p1) X.env
      standAt p2.atName
      let (f, first) ← holding [ov] (getMethod ov "__init__" pl)
      callWith pos f first (backTo pos (starEach (e :: es) X.env)) (backToKw pos (keywordEach [] X.env))) := by rfl)
    (hdb : (b == ("__debug__" : Str)) = false := by decide) (he : starEach (e :: es) X.env = (false, eval e X.env) :: starEach es X.env := by rfl) (hpl : (backTo pos (starEach es X.env)).any (·.1) = false := by rfl) :
    PE X (.Call (.Attribute (.Name b p1) "__init__" p2) (e :: es) [] pos) (tVeI X.K ta) := by
  refine ⟨fun pins s σ H Q I h => ?_⟩
  refine PySem.W.methodCall_KW (ld_glob I hg hm ?_ hdb) hc
  refine PySem.W.method_cls I.kIn hga (PySem.W.cls_value I.kIn hr hv (by decide +kernel) ?_)
  show wpAny _ _ (callWith pos (Value.builtin "ValueError.__init__") [] (backTo pos (starEach (e :: es) X.env)) []) _ _ _
  refine PyProof.Rows.callWith_method1 (thn (ha.run pos pins _ σ H _ (I.tok _) h) fun us s1 ⟨vs, H1, I1, r1, a, C, ws, ev, hl, T, ea, q⟩ => ?_) he hpl
  subst ev
  cases r1 with
  | @cons _ u0 _ ur ra rw' =>
    obtain rfl : u0 = Value.ref a := ra
    have hlen : ur.length ≤ sizeLine := by
      rw [← Paired.length rw', sizeLine_eq]
      omega
    exact oinit_ok T I1 ea hlen fun s' J => ⟨.non, H1, J, rfl, q⟩
end
section
variable {g : Gb} {S H : Hp}
theorem takes00 {X : Cx} : Takes X (fun _ _ _ _ => False) := fun _ _ x => by
  obtain ⟨_, _, _, _, _, _, _, _, _, _, _, _, _, _, _, _, z⟩ := x
  exact z.elim
/-- a new exception -/
theorem New.exn {c fld : Str} {d : D} {y : V} {a dx : Addr} (e : Sub S H) (r : Rep g S d y) (ha : H a = none) (hd : H dx = none) (ne : dx ≠ a) :
    New g S H (.sh (.exn c [(fld, d)])) (.ref a) (upd (upd (upd H a (exo a (g.cn c) none)) dx (exd dx [(fld, y)])) a (exo a (g.cn c) (some dx))) := by
  have hsa : S a = none := e.none ha
  have hsd : S dx = none := e.none hd
  have hs2 : (upd S dx (exd dx [(fld, y)])) a = none := by rw [upd_ne (Ne.symm ne)]; exact hsa
  have ex : Ex S (upd (upd S dx (exd dx [(fld, y)])) a (exo a (g.cn c) (some dx))) := (Ex.new hsd).trans (Ex.new hs2)
  refine ⟨upd (upd S dx (exd dx [(fld, y)])) a (exo a (g.cn c) (some dx)), [], ex, fun b h1 h2 => ?_, fun b u q => ?_, ⟨rfl, a, dx, [(fld, y)], rfl, upd_same, by rw [upd_ne ne]; exact upd_same, y, [], rfl, Rep.mono ex d y r, rfl⟩, List.nodup_nil, fun _ m => (nomatch m), fun b u q => ?_⟩
  · by_cases z : b = a
    · rw [z]; exact ha
    · rw [upd_ne z] at h1
      by_cases z2 : b = dx
      · rw [z2]; exact hd
      · rw [upd_ne z2] at h1; exact absurd h2 h1
  · by_cases z : b = a
    · subst z; rw [upd_same] at q ⊢; exact q
    · rw [upd_ne z] at q ⊢
      by_cases z2 : b = dx
      · subst z2; rw [upd_same] at q ⊢; exact q
      · rw [upd_ne z2] at q ⊢; rw [upd_ne z]; exact e b u q
  · have z : b ≠ a := fun z => by rw [z, ha] at q; cases q
    have z2 : b ≠ dx := fun z => by rw [z, hd] at q; cases q
    rw [upd_ne z, upd_ne z2, upd_ne z]; exact q
/-- what C.__init__(self, y) promises: the field is stored -/
def spExn (C : Addr) (fld : Str) : Sp := fun vs H Q _ => ∃ (a : Addr) (y : V), vs = [.ref a, y] ∧ H a = some (exo a C none) ∧ ∀ dx, H dx = none → dx ≠ a → Q .non (upd (upd H dx (exd dx [(fld, y)])) a (exo a C (some dx)))
/-- an own exception class: its level, its field -/
def ExT (P : Program) (w : World) (mg : Str → Option Value) (base : Heap) (g : Gb) (k : Nat) (c fld : Str) : Prop :=
  ∃ (fI : Addr) (fd : FuncData) (ps : List Str), OexC g.K (g.cn c) ∧ PySem.W.findIn g.K (.ref (g.cn c)) "__init__" = some (some (.ref fI)) ∧ PySem.W.typeIn g.K (.ref fI) = some (.type "function") ∧ FnW P w g.K mg base (L2.CX P w) k fI fd ps (spExn (g.cn c) fld) ∧ mg c = some (.ref (g.cn c)) ∧ Binds g.K fd ps []
variable {X : Cx} {W : WX} {σ : L2.St} {Q : VK} {m : E} {e : Expr} {p pos : Pos} {lv : Nat}
theorem exnInit_ok {P : Program} {w : World} {mg : Str → Option Value} {base : Heap} {qual y fld : Str} {st : Stmt} {f : Addr} {fd : FuncData} {C : Addr} {j : Nat} {msg : Str} (F : DefK g.K "__init__" qual st f fd) (Sc : FnScope ["self", y] ["self", y] (defScope st)) (hC : OexC g.K C) (hno : PySem.W.findIn g.K (.ref C) fld = some none)
    (hbody : ∀ (cdv : Value) (A : Around) (outer : List PySem.Env) (s : Shared) (H : Hp) (E : XK), Room j (A.deeper (envOfC qual (defScope st) s.heap.objs.size f cdv)) → A.guards = some [] →
      PSs (cxOf (L2.CX P w) P w g.K mg base ["self", y] qual (defScope st) f cdv A outer s H E) (defBody st) (tSeq (tDrop (tVeI g.K (tCons (tVar 0) (tCons (tC (.str msg)) tNil)))) (tSeq (tOst g.K fld (tVar 0) (tVar 1)) tNext))) :
    FnW P w g.K mg base (L2.CX P w) (j + 1) f fd ["self", y] (spExn C fld) := by
  obtain ⟨oc, od, dV, kV, doc, pm, an, cdv, ct, osl, rfl, lk, hcd⟩ := F.ex
  refine fnW_of lk hcd Sc (fun vs H Q E h => by obtain ⟨a, y, rfl, _⟩ := h; rfl) fun A outer s H vs Q E hr hgd hsp => ⟨_, hbody cdv A outer s H E hr hgd, ?_⟩
  obtain ⟨a, y, rfl, ha, k⟩ := hsp
  refine ⟨_, rfl, a, C, [.str msg], rfl, by simp, hC, ha, ?_⟩
  exact ⟨_, rfl, _, rfl, a, C, rfl, hC, hno, .inl ⟨ha, fun dx hdx ne => k dx hdx ne⟩⟩
end
end DL
set_option Elab.async false
set_option linter.all false
set_option maxRecDepth 100000
set_option autoImplicit false
/-! DLM10: xs[::-1]. -/
namespace DL
open PySem PySem.Spec PyProof.Rows L2
end DL
set_option Elab.async false
set_option linter.all false
set_option maxRecDepth 100000
set_option maxHeartbeats 4000000
set_option autoImplicit false
/-! DLM11: isinstance of an own exception that has fields. -/
namespace DL
open PySem PySem.Spec PySem.Calls PyProof.Rows PySem.W
end DL
namespace DL
open PySem PySem.Spec PyProof.Rows L2
end DL
set_option Elab.async false
set_option linter.all false
set_option maxRecDepth 100000
set_option autoImplicit false
/-! DLM12: x.ljust(n, c). -/
namespace DL
open PySem PySem.Spec PyProof.Rows L2
end DL
set_option Elab.async false
set_option linter.all false
set_option maxRecDepth 100000
set_option autoImplicit false
/-! DLM13: isinstance where values may be own exceptions (class c). -/
namespace DL
open PySem PySem.Spec PyProof.Rows L2
end DL
set_option Elab.async false
set_option linter.all false
set_option maxRecDepth 100000
set_option autoImplicit false
/-! DLM14: what the text says of an own exception class; its promise. -/
namespace DL
open PySem PySem.Spec PyProof.Rows L2
/-- the j-th def of a class -/
def defIn (st : Stmt) (j : Nat) : Stmt := match st with
  | .ClassDef (body := body) .. => body.getD j (.Pass ⟨0, 0, 0, 0⟩)
  | _ => .Pass ⟨0, 0, 0, 0⟩
/-- class c(b): def __init__(self, y): b.__init__(self, text); self.fld = y -/
def ExD (g : Gb) (mg : Str → Option Value) (c b fld y qual : Str) (st : Stmt) : Prop :=
  ∃ (fI B : Addr) (fd : FuncData) (mc : Value), OexC g.K (g.cn c) ∧ PySem.W.findIn g.K (.ref (g.cn c)) "__init__" = some (some (.ref fI)) ∧ PySem.W.typeIn g.K (.ref fI) = some (.type "function") ∧ DefK g.K "__init__" qual st fI fd ∧ mg c = some (.ref (g.cn c)) ∧ Binds g.K fd ["self", y] [] ∧
    PySem.W.findIn g.K (.ref (g.cn c)) fld = some none ∧ mg b = some (.ref B) ∧ PySem.W.specialIn g.K (.ref B) "__getattribute__" = some (some (.builtin "type.__getattribute__")) ∧ PySem.W.readsIn g.K B mc = true ∧ PySem.W.findCls g.K (.ref B) mc "__init__" = some (.val (.builtin "ValueError.__init__"))
theorem exT_of {P : Program} {w : World} {mg : Str → Option Value} {base : Heap} {g : Gb} {c b fld y qual msg : Str} {st : Stmt} (D : ExD g mg c b fld y qual st) (Sc : FnScope ["self", y] ["self", y] (defScope st))
    (hbody : ∀ (B : Addr) (mc : Value) (f : Addr) (cdv : Value) (A : Around) (outer : List PySem.Env) (s : Shared) (H : Hp) (E : XK), mg b = some (.ref B) → PySem.W.specialIn g.K (.ref B) "__getattribute__" = some (some (.builtin "type.__getattribute__")) → PySem.W.readsIn g.K B mc = true → PySem.W.findCls g.K (.ref B) mc "__init__" = some (.val (.builtin "ValueError.__init__")) →
      PSs (cxOf (L2.CX P w) P w g.K mg base ["self", y] qual (defScope st) f cdv A outer s H E) (defBody st) (tSeq (tDrop (tVeI g.K (tCons (tVar 0) (tCons (tC (.str msg)) tNil)))) (tSeq (tOst g.K fld (tVar 0) (tVar 1)) tNext))) : ExT P w mg base g 1 c fld := by
  obtain ⟨fI, B, fd, mc, O1, iC, tI, F, hm, hb, hno, mb, hga, hr, hv⟩ := D
  exact ⟨fI, fd, ["self", y], O1, iC, tI, exnInit_ok (j := 0) (msg := msg) F Sc O1 hno fun cdv A outer s H E _ _ => hbody B mc fI cdv A outer s H E mb hga hr hv, hm, hb⟩
end DL
set_option Elab.async false
set_option linter.all false
set_option maxRecDepth 100000
set_option autoImplicit false
/-! DLM15: methods and makes from the text, keywords, isinstance of own classes. -/
namespace DL
open PySem PySem.Spec PyProof.Rows L2
/-- a method of the class c as the text has it -/
def DefM (g : Gb) (c m qual : Str) (st : Stmt) (ps : List Str) (dds : List D) : Prop :=
  ∃ (f : Addr) (fd : FuncData) (ds : List Value) (dvs : List V), DefK g.K m qual st f fd ∧ Cls g.K (g.cn c) ∧ Meth g.K (g.cn c) m f ∧ Binds g.K fd ps ds ∧ Vals dvs ds ∧ ∀ S, Reps g S dds dvs
theorem met_ok {P : Program} {w : World} {mg : Str → Option Value} {base : Heap} {g : Gb} {c x qual : Str} {st : Stmt} {N ps : List Str} {j n k : Nat} {bor : List Bool} {m : Sm} {dds : List D} (T : DefM g c x qual st ps dds) (Sc : FnScope N ps (defScope st)) (hp : ps.length = n) (hN : N.length = n + k) (hps : ps = parN (defArgs st) := by rfl)
    (hbody : ∀ (f : Addr) (cdv : Value) (A : Around) (outer : List PySem.Env) (s : Shared) (H : Hp) (E : XK), Room j (A.deeper (envOfC qual (defScope st) s.heap.objs.size f cdv)) → A.guards = some [] →
      PSs (cxOf (L2.CX P w) P w g.K mg base N qual (defScope st) f cdv A outer s H E) (defBody st) (LS g (WF E) m)) : Met P w mg base g (j + 1) c x n dds (mkFn n k bor m) := by
  obtain ⟨f, fd, ds, dvs, F, hc, hm, b, d, hd⟩ := T
  exact ⟨f, fd, ps, ds, dvs, def_ok F Sc hp hN fun cdv A outer s H E _ => hbody f cdv A outer s H E, hc, hm, b, d, hd, .of F hps⟩
/-- __init__ of the class c (x its name), as the text has it -/
def DefI (g : Gb) (mg : Str → Option Value) (x c qual : Str) (st : Stmt) : Prop :=
  ∃ (f : Addr) (fd : FuncData), DefK g.K "__init__" qual st f fd ∧ Mk g.K (g.cn c) f ∧ mg x = some (.ref (g.cn c))
def Ini (P : Program) (w : World) (mg : Str → Option Value) (base : Heap) (g : Gb) (k : Nat) (x c : Str) (n : Nat) (fn : List O → R) : Prop :=
  ∃ (f : Addr) (fd : FuncData) (ps : List Str), FnW P w g.K mg base (L2.CX P w) k f fd ps (spD g n fn) ∧ Mk g.K (g.cn c) f ∧ mg x = some (.ref (g.cn c)) ∧ FdAt g.K f fd ps
theorem ini_ok {P : Program} {w : World} {mg : Str → Option Value} {base : Heap} {g : Gb} {c x qual : Str} {st : Stmt} {N ps : List Str} {j n k : Nat} {bor : List Bool} {m : Sm} (T : DefI g mg x c qual st) (Sc : FnScope N ps (defScope st)) (hp : ps.length = n) (hN : N.length = n + k) (hps : ps = parN (defArgs st) := by rfl)
    (hbody : ∀ (f : Addr) (cdv : Value) (A : Around) (outer : List PySem.Env) (s : Shared) (H : Hp) (E : XK), Room j (A.deeper (envOfC qual (defScope st) s.heap.objs.size f cdv)) → A.guards = some [] →
      PSs (cxOf (L2.CX P w) P w g.K mg base N qual (defScope st) f cdv A outer s H E) (defBody st) (LS g (WF E) m)) : Ini P w mg base g (j + 1) x c n (mkFn n k bor m) := by
  obtain ⟨f, fd, F, hc, hm⟩ := T
  exact ⟨f, fd, ps, def_ok F Sc hp hN fun cdv A outer s H E _ => hbody f cdv A outer s H E, hc, hm, .of F hps⟩
/-! ### how a call's values stand in the parameters behind the first one -/
def gvU {α : Type} (d : α) (pm : List Nat) (its : List α) (us ws : List α) : List α := match us with
  | u :: us => u :: pm.map fun i => (us ++ (ws ++ its)).getD i d
  | [] => []
def Shp (g : Gb) (fd : FuncData) (ps : List Str) (n : Nat) (ks : List Str) (pm : List Nat) (dds : List D) : Prop :=
  ∃ (its : List Value) (dvs : List V), (∀ S, Reps g S dds dvs) ∧ KBn g.K fd ps (n + 1) ks (gvU .none pm its) (gvU .non pm dvs)
theorem gvU_rel {pm : List Nat} {its : List Value} {dvs : List V} (hv : Vals dvs its) {vs : List V} {us : List Value} {zs : List V} {ws : List Value} (r : Vals vs us) (rz : Vals zs ws) : Vals (gvU .non pm dvs vs zs) (gvU .none pm its us ws) := by
  cases r with
  | nil => exact .nil
  | cons h t => exact .cons h (vals_perm (Vals.append t (Vals.append rz hv)) pm)
theorem shp_of {g : Gb} {fd : FuncData} {ps ks nms : List Str} {n : Nat} {pm : List Nat} {D : Addr} {its : List Value} {dvs : List V} {dds : List DL.D} (hv : Vals dvs its) (hr : ∀ S, Reps g S dds dvs) (hn : ∀ q ∈ nms.zip its, PySem.W.nsIn g.K D q.1 = some (some q.2))
    (h : ∀ (u : Value) (us ws : List Value), us.length = n → ws.length = ks.length → KwChain D (nms.zip its) (bindArgs fd ⟨u :: us, ks.zip ws⟩) (ps.zip (u :: pm.map fun i => (us ++ (ws ++ its)).getD i .none))) : Shp g fd ps n ks pm dds :=
  ⟨its, dvs, hr, { to := fun s us ws X h1 h2 => by
                     cases us with
                     | nil => cases h1
                     | cons u us => exact BindsTo.of_looks fun M => KwChain.looks X hn (h u us ws (by simpa using h1) h2)
                   rel := fun r rz => gvU_rel hv r rz }⟩
/-- the method m of the class c may be called so -/
def ShpM (g : Gb) (c m : Str) (n : Nat) (ks : List Str) (pm : List Nat) (dds : List D) : Prop := ∃ (f : Addr) (fd : FuncData) (ps : List Str), Meth g.K (g.cn c) m f ∧ FdAt g.K f fd ps ∧ Shp g fd ps n ks pm dds
/-- an instance of the class c may be made so -/
def ShpI (g : Gb) (c : Str) (n : Nat) (ks : List Str) (pm : List Nat) (dds : List D) : Prop := ∃ (f : Addr) (fd : FuncData) (ps : List Str), Mk g.K (g.cn c) f ∧ FdAt g.K f fd ps ∧ Shp g fd ps n ks pm dds
/-! ### the rules -/
section
variable {X : Cx} {CX : CXT} {k : Nat} {f C : Addr} {fd : FuncData} {ps ks : List Str} {sp : Sp} {E : L2.St → XK} {m : Str} {p pos apos : Pos} {o e : Expr} {es : List Expr} {ta : TE} {t tk : TA} {kws : List Keyword} {n : Nat} {gv : List Value → List Value → List Value} {gV : List V → List V → List V}
theorem run_fnNW {pins : List (Addr × Obj)} {σ : L2.St} {H : Hp} {s : Shared} {Q : VK} {us ws : List Value} {vs zs : List V} (F : FnW X.prog X.w X.K X.mg X.base CX k f fd ps sp) (hr : Room k X.A) (hgd : X.A.guards = some []) (hb : KBn X.K fd ps n ks gv gV) (hx : PassesAt CX X σ (E σ))
    (I : L2.Inv X pins σ H s) (r : Vals vs us) (rz : Vals zs ws) (l1 : vs.length = n) (l2 : zs.length = ks.length) (h : sp (gV vs zs) H Q (E σ)) : wpAny (model X.prog X.w) X.A (call (.ref f) us (ks.zip ws)) (EP X pins σ Q) X.xe s := by
  have r2 := hb.rel r rz
  refine wpAny_call (codeAny_mono (F.run X.A X.stack s H ⟨us, ks.zip ws⟩ (gv us ws) (gV vs zs) Q (E σ) hr hgd I.env0 (hb.to s us ws I.kIn (r.length.symm.trans l1) (rz.length.symm.trans l2)) r2 h) fun r s' hq => ?_)
  cases r with
  | error e => exact hx pins _ _ e s' I hq
  | ok fl =>
    cases fl with
    | ret u => exact I.after hq
    | next => exact False.elim hq
    | brk => exact False.elim hq
    | cont => exact False.elim hq
/-- o.m(e, .., k = v, ..) -/
def tMethKW (C : Addr) (m : Str) (n p : Nat) (sp : Sp) (gV : List V → List V → List V) (E : L2.St → XK) (ta : TE) (t tk : TA) : TE := fun σ H Q => ta σ H fun x H1 => ∃ a dx fs, x = .ref a ∧ H1 a = some (.ins C dx fs) ∧ fs.lookup m = none ∧ t σ H1 fun vs H2 => tk σ H2 fun zs H3 => vs.length = n ∧ zs.length = p ∧ sp (gV (x :: vs) zs) H3 Q (E σ)
theorem pe_methKW0 {pl : Sem Bool} (he : PE X o ta) (c : Cls X.K C) (hm : Meth X.K C m f) (F : FnW X.prog X.w X.K X.mg X.base CX k f fd ps sp) (hr : Room k X.A) (hgd : X.A.guards = some []) (hb : KBn X.K fd ps 1 ks gv gV) (hx : ∀ σ, PassesAt CX X σ (E σ)) (hkw : PK X kws tk)
    (hall : (backToKw pos (keywordEach kws X.env)).all (·.1.isSome) = true := by rfl) (hks : (backToKw pos (keywordEach kws X.env)).filterMap (·.1) = ks := by rfl)
    (hpl : ((backTo pos (starEach [] X.env)).any (·.1) || (backToKw pos (keywordEach kws X.env)).any (·.1.isNone)) = false := by rfl)
    (ht : eval (.Call (.Attribute o m apos) [] kws pos) X.env = (do
      let ov ← eval o X.env
      standAt apos.atName
      let (f, first) ← holding [ov] (getMethod ov m pl)
      callWith pos f first (backTo pos (starEach [] X.env)) (backToKw pos (keywordEach kws X.env))) := by rfl) :
    PE X (.Call (.Attribute o m apos) [] kws pos) (tMethKW C m 0 ks.length sp gV E ta tNil tk) := by
  refine ⟨fun pins s σ H Q I h => ?_⟩
  refine PySem.W.methodCall_KW (pl := pl) (thn (he.run pins s σ H _ I h) fun u s1 ⟨x, H1, I1, rx, a, dx, fs, ex, ea, l, q⟩ => ?_) ht
  subst ex
  obtain rfl : u = Value.ref a := rx
  refine getmeth_ok I1 ea c hm l ?_
  refine PySem.W.callWith_KW0 (first := [.ref a]) (h₀ := X.base) I.ok.mod.kin hm.kp hall ?_ hpl
  refine thn (hkw.run pos pins s1 σ H1 _ I1 q) fun ws s3 ⟨zs, H3, I3, rz, l1, l2, q3⟩ => ⟨I3.kIn, ?_⟩
  rw [hks]
  exact run_fnNW (us := [.ref a]) (vs := [.ref a]) F hr hgd hb (hx σ) I3 (.cons rfl .nil) rz rfl l2 q3
end
/-! ### lifted -/
section
variable {X : Cx} {g : Gb} {W : WX} {Z : Zn} {S S' H H' : Hp} {τ τ' : List V} {θ θ' : List O} {σ σ' : Sg} {ρ ρ' : En} {Q Q' : VK} {m mo ma mb mc : E} {ms ms1 ms2 : List E} {o oi : O} {v : V} {i j n : Nat}
/-- a call's values by the parameters' places -/
def pmD (pm : List Nat) (dds : List D) (os : List O) : List D := pm.map fun i => (O.ds os ++ dds).getD i .non
def eMakeD (c : Str) (fn : List O → R) (pm : List Nat) (dds : List D) (ms : List E) : E := fun ρ => (evs ms ρ).bind fun os ρ1 => makeR (fn (.ins c [] :: (pmD pm dds os).map .sh)) ρ1
theorem le_makeD {c : Str} {fn : List O → R} {pm : List Nat} {dds : List D} {dvs : List V} {p k : Nat} (hk : pm.length + 1 = k) (h1 : ms1.length = n) (h2 : ms2.length = p) (hd : ∀ S, Reps g S dds dvs)
    (q : LE g W (eMakeD c fn pm dds (ms1 ++ ms2)) σ H Q) : tMakeW (g.cn c) n p (spD g k fn) (gvU .non pm dvs) (WE W) (LA g W ms1) (LA g W ms2) σ H Q := by
  have q2 : LA g W (ms1 ++ ms2) σ H fun vs H1 => vs.length = ms1.length + ms2.length ∧ ∀ us zs, vs = us ++ zs → ∀ x dx, H1 x = none → H1 dx = none → dx ≠ x →
      spD g k fn (gvU .non pm dvs (.ref x :: us) zs) (upd (upd H1 dx (.own x)) x (.ins (g.cn c) dx [])) (fun v H3 => v = .non ∧ Q (.ref x) H3) (WE W σ) := by
    obtain ⟨Z, S, τ, θ, ρ, st, post⟩ := q
    refine stepA' st post fun os ρ1 vs S1 H1 e1 l1 l2 st1 post1 => ⟨by rw [l1, List.length_append], fun us zs e x dx hx hdx ne => ?_⟩
    obtain ⟨S2, e2, st2, rep⟩ := St.popN os.length vs os (by omega) rfl st1
    subst e
    show spD g k fn (.ref x :: pm.map fun i => (us ++ (zs ++ dvs)).getD i .non) _ _ _
    rw [← List.append_assoc]
    exact make_sp st2 (reps_perm (rep.append (hd S2)) pm) (by rw [List.length_map]; exact hk) hx hdx ne (fun cls d H h => h) (PostR.mono e2 post1)
  refine (la_app q2).mono fun vs H1 ⟨l1, r⟩ => r.mono fun zs H2 ⟨l2, r2⟩ => ?_
  rw [List.length_append, l1] at l2
  exact ⟨by omega, by omega, fun x dx hx hdx ne => r2 vs zs rfl x dx hx hdx ne⟩
variable {e a oe : Expr} {es : List Expr} {kws : List Keyword} {p pos apos : Pos} {x : Str} {k : Nat} {ks : List Str}
theorem mk_same {K : PySem.W.Frag} {C f f2 : Addr} (h : Mk K C f) (h2 : Mk K C f2) : f = f2 := by
  have e := h.init.symm.trans h2.init
  cases e
  rfl
theorem meth_same {K : PySem.W.Frag} {C f f2 : Addr} {m : Str} (h : Meth K C m f) (h2 : Meth K C m f2) : f = f2 := by
  have e := h.at_.symm.trans h2.at_
  cases e
  rfl
theorem fd_same {K : PySem.W.Frag} {f : Addr} {fd fd2 : FuncData} {ps ps2 : List Str} (h : FdAt K f fd ps) (h2 : FdAt K f fd2 ps2) : fd = fd2 ∧ ps = ps2 := by
  obtain ⟨⟨_, _, _, l1⟩, p1⟩ := h
  obtain ⟨⟨_, _, _, l2⟩, p2⟩ := h2
  have e := l1.symm.trans l2
  cases e
  exact ⟨rfl, p1.trans p2.symm⟩
theorem pd_makeDK {c : Str} {fn : List O → R} {pm : List Nat} {dds : List D} {q : Nat} (C : Cxt X g W j) (I : Ini X.prog X.w X.mg X.base g k x c n fn) (T : ShpI g c q ks pm dds) (ha : PA X (a :: es) (LA g W ms1)) (hkw : PK X kws (LA g W ms2)) (h1 : ms1.length = q := by rfl) (h2 : ms2.length = ks.length := by rfl) (hn : pm.length + 1 = n := by rfl) (hk : k + 1 ≤ j := by decide) (hg : Gl X x := by rfl) (hdb : (x == ("__debug__" : Str)) = false := by decide)
    (hall : (backToKw pos (keywordEach kws X.env)).all (·.1.isSome) = true := by rfl) (hks : (backToKw pos (keywordEach kws X.env)).filterMap (·.1) = ks := by rfl) (he : starEach (a :: es) X.env = (false, eval a X.env) :: starEach es X.env := by rfl)
    (hpl : ((backTo pos (starEach (a :: es) X.env)).any (·.1) || (backToKw pos (keywordEach kws X.env)).any (·.1.isNone)) = false := by rfl) :
    PE X (.Call (.Name x p) (a :: es) kws pos) (LE g W (eMakeD c fn pm dds (ms1 ++ ms2))) := by
  obtain ⟨f, fd, ps, F, M, hm, fa⟩ := I
  obtain ⟨f2, fd2, ps2, M2, fa2, its, dvs, hd, kb⟩ := T
  obtain rfl := mk_same M M2
  obtain ⟨rfl, rfl⟩ := fd_same fa fa2
  rw [← C.K] at F M kb
  exact PE_imp (pe_makeWk M F (C.rm.mono hk) C.gd hg hm kb (passAt C.tk) ha hkw hall hks hdb he hpl) fun σ H Q z => le_makeD hn h1 h2 hd z
theorem pd_makeDK0 {c : Str} {fn : List O → R} {pm : List Nat} {dds : List D} (C : Cxt X g W j) (I : Ini X.prog X.w X.mg X.base g k x c n fn) (T : ShpI g c 0 ks pm dds) (hkw : PK X kws (LA g W ms2)) (h2 : ms2.length = ks.length := by rfl) (hn : pm.length + 1 = n := by rfl) (hk : k + 1 ≤ j := by decide) (hg : Gl X x := by rfl) (hdb : (x == ("__debug__" : Str)) = false := by decide)
    (hall : (backToKw pos (keywordEach kws X.env)).all (·.1.isSome) = true := by rfl) (hks : (backToKw pos (keywordEach kws X.env)).filterMap (·.1) = ks := by rfl)
    (hpl : ((backTo pos (starEach [] X.env)).any (·.1) || (backToKw pos (keywordEach kws X.env)).any (·.1.isNone)) = false := by rfl) :
    PE X (.Call (.Name x p) [] kws pos) (LE g W (eMakeD c fn pm dds ms2)) := by
  obtain ⟨f, fd, ps, F, M, hm, fa⟩ := I
  obtain ⟨f2, fd2, ps2, M2, fa2, its, dvs, hd, kb⟩ := T
  obtain rfl := mk_same M M2
  obtain ⟨rfl, rfl⟩ := fd_same fa fa2
  rw [← C.K] at F M kb
  refine PE_imp (pe_makeWk0 M F (C.rm.mono hk) C.gd hg hm kb (passAt C.tk) hkw hall hks hdb hpl) fun σ H Q z => ?_
  exact la_nilI (le_makeD (n := 0) (ms1 := []) (ms2 := ms2) hn rfl h2 hd z)
/-! o.m(.., k = v) -/
def eMetK (c m : Str) (fn : List O → R) (pm : List Nat) (dds : List D) (mo : E) (ms : List E) : E := fun ρ => (mo ρ).bind fun o ρ1 => match o.d.view with
  | .ins c' fs => if c' = c ∧ (fs.lookup m).isNone = true then (evs ms ρ1).bind fun os ρ2 => after (fn ((o.d.view :: pmD pm dds os).map .sh)) ρ2 else .stuck
  | _ => .stuck
theorem le_metK {c mn : Str} {fn : List O → R} {pm : List Nat} {dds : List D} {dvs : List V} {p k : Nat} (hk : pm.length + 1 = k) (h1 : ms1.length = n) (h2 : ms2.length = p) (hd : ∀ S, Reps g S dds dvs)
    (q : LE g W (eMetK c mn fn pm dds mo (ms1 ++ ms2)) σ H Q) : tMethKW (g.cn c) mn n p (spD g k fn) (gvU .non pm dvs) (WE W) (LE g W mo) (LA g W ms1) (LA g W ms2) σ H Q := by
  obtain ⟨Z, S, τ, θ, ρ, st, post⟩ := q
  refine step0 st post fun o1 ρ1 v1 S1 H1 e1 st1 post1 => ?_
  obtain ⟨S2, e2, st2, ra⟩ := st1.pop
  have ra := ra.view
  cases hdv : o1.d.view with
  | ins c' fs =>
    rw [hdv] at ra
    simp only [hdv] at post1
    split at post1
    · rename_i hc
      obtain ⟨rfl, hl⟩ := hc
      have ra' := ra
      obtain ⟨a, dx, fvs, rfl, h3, h4, r⟩ := ra
      refine ⟨a, dx, fvs, rfl, st2.sub _ _ h3, r.lookN (by simpa using hl), ?_⟩
      have q2 : LA g W (ms1 ++ ms2) σ H1 fun vs H3 => vs.length = ms1.length + ms2.length ∧ ∀ us zs, vs = us ++ zs → spD g k fn (gvU .non pm dvs (.ref a :: us) zs) H3 Q (WE W σ) := by
        refine stepA' st2 (PostR.mono e2 post1) fun os ρ2 vs S3 H3 e3 l1 l2 st3 post3 => ⟨by rw [l1, List.length_append], fun us zs e => ?_⟩
        obtain ⟨S4, e4, st4, rep⟩ := St.popN os.length vs os (by omega) rfl st3
        subst e
        show spD g k fn (.ref a :: pm.map fun i => (us ++ (zs ++ dvs)).getD i .non) _ _ _
        rw [← List.append_assoc]
        have rr : Reps g S4 (D.ins c' fs :: pmD pm dds os) (V.ref a :: pm.map fun i => (us ++ zs ++ dvs).getD i .non) := ⟨_, _, rfl, Rep.mono (e3.trans e4) _ _ ra', reps_perm (rep.append (hd S4)) pm⟩
        refine call_sp st4 rr ?_ (fun cls d H h => h) (PostR.mono e4 post3)
        rw [List.length_cons]; unfold pmD; rw [List.length_map]; exact hk
      refine (la_app q2).mono fun vs H3 ⟨l1, r⟩ => r.mono fun zs H4 ⟨l2, r2⟩ => ?_
      rw [List.length_append, l1] at l2
      exact ⟨by omega, by omega, r2 vs zs rfl⟩
    · exact post1.elim
  | _ => simp only [hdv] at post1; exact post1.elim
theorem pd_metK0 {c mn : Str} {dds dd2 : List D} {fn : List O → R} {pm : List Nat} {pl : Sem Bool} (C : Cxt X g W j) (F : Met X.prog X.w X.mg X.base g k c mn n dd2 fn) (T : ShpM g c mn 0 ks pm dds) (ho : PE X oe (LE g W mo)) (hkw : PK X kws (LA g W ms2)) (h2 : ms2.length = ks.length := by rfl) (hn : pm.length + 1 = n := by rfl) (hk : k ≤ j := by decide)
    (hall : (backToKw pos (keywordEach kws X.env)).all (·.1.isSome) = true := by rfl) (hks : (backToKw pos (keywordEach kws X.env)).filterMap (·.1) = ks := by rfl)
    (hpl : ((backTo pos (starEach [] X.env)).any (·.1) || (backToKw pos (keywordEach kws X.env)).any (·.1.isNone)) = false := by rfl)
    (ht : eval (.Call (.Attribute oe mn apos) [] kws pos) X.env = (do
      let ov ← eval oe X.env
      standAt apos.atName
      let (f, first) ← holding [ov] (getMethod ov mn pl)
      callWith pos f first (backTo pos (starEach [] X.env)) (backToKw pos (keywordEach kws X.env))) := by rfl) : PE X (.Call (.Attribute oe mn apos) [] kws pos) (LE g W (eMetK c mn fn pm dds mo ms2)) := by
  obtain ⟨f, fd, ps, ds, dvs, F, hc, hm, b, d, hd, fa⟩ := F
  obtain ⟨f2, fd2, ps2, hm2, fa2, its, dv2, hd2, kb⟩ := T
  obtain rfl := meth_same hm hm2
  obtain ⟨rfl, rfl⟩ := fd_same fa fa2
  rw [← C.K] at F hc hm kb
  refine PE_imp (pe_methKW0 ho hc hm F (C.rm.mono hk) C.gd kb (passAt C.tk) hkw hall hks hpl ht) fun σ H Q z => ?_
  have z := le_metK (n := 0) (ms1 := []) (ms2 := ms2) hn rfl h2 hd2 z
  unfold tMethKW at z ⊢
  exact LE.mono z fun x H1 ⟨a, dx, fs, h1, h2, h3, h4⟩ => ⟨a, dx, fs, h1, h2, h3, la_nilI h4⟩
end
end DL
set_option Elab.async false
set_option linter.all false
set_option maxRecDepth 100000
set_option autoImplicit false
/-! DLM16: isinstance(x, C), C an own class. -/
namespace DL
open PySem PySem.Spec PyProof.Rows L2
def tyL : List String := ["NoneType", "bool", "int", "str", "list", "tuple", "dict"]
/-- what the text says of the own classes ks together -/
structure ClsK (g : Gb) (ks : List Str) : Prop where
  hn : PySem.W.specialIn g.K (.builtin "object.__class__") "__get__" = some (some (.builtin "getset_descriptor.__get__"))
  ht : PySem.W.takesIn g.K (.builtin "object.__class__") = some true
  own : ∀ c ∈ ks, Cls g.K (g.cn c) ∧ PySem.W.findIn g.K (.ref (g.cn c)) "__class__" = some (some (.builtin "object.__class__")) ∧ PySem.W.mroIn g.K (g.cn c) (.type "object") = some true ∧ PySem.W.typeIn g.K (.ref (g.cn c)) = some (.type "type")
  ne : ∀ c ∈ ks, ∀ c' ∈ ks, c' ≠ c → g.cn c' ≠ g.cn c ∧ PySem.W.subIn g.K (.ref (g.cn c')) (.ref (g.cn c)) = some false
theorem sub_ref_none (K : PySem.W.Frag) (C : Addr) : PySem.W.subIn K (.type "NoneType") (.ref C) = some false := by kernel_rfl
theorem sub_ref_bool (K : PySem.W.Frag) (C : Addr) : PySem.W.subIn K (.type "bool") (.ref C) = some false := by kernel_rfl
theorem sub_ref_int (K : PySem.W.Frag) (C : Addr) : PySem.W.subIn K (.type "int") (.ref C) = some false := by kernel_rfl
theorem sub_ref_str (K : PySem.W.Frag) (C : Addr) : PySem.W.subIn K (.type "str") (.ref C) = some false := by kernel_rfl
theorem sub_ref_list (K : PySem.W.Frag) (C : Addr) : PySem.W.subIn K (.type "list") (.ref C) = some false := by kernel_rfl
theorem sub_ref_tuple (K : PySem.W.Frag) (C : Addr) : PySem.W.subIn K (.type "tuple") (.ref C) = some false := by kernel_rfl
theorem sub_ref_dict (K : PySem.W.Frag) (C : Addr) : PySem.W.subIn K (.type "dict") (.ref C) = some false := by kernel_rfl
theorem ClsK.ref {g : Gb} {ks : List Str} (T : ClsK g ks) {c : Str} (h : c ∈ ks) {t : Value} {b : Bool} (ne : t ≠ .ref (g.cn c)) (s : PySem.W.subIn g.K t (.ref (g.cn c)) = some b) : PySem.W.kitOne g.K t (.ref (g.cn c)) = some b := by
  obtain ⟨hc, _, _, h2⟩ := T.own c h
  have h1 : (PySem.W.clsIn g.K (g.cn c)).isSome = true := by
    have := hc.hd
    unfold PySem.W.hasDictIn at this
    cases q : PySem.W.clsIn g.K (g.cn c) with
    | none => rw [q] at this; cases this
    | some _ => rfl
  unfold PySem.W.kitOne
  rw [if_neg (by simpa using ne)]
  unfold PySem.W.kitCls
  dsimp only
  rw [if_pos (by rw [h1, h2]; rfl)]
  exact s
theorem ClsK.ty {g : Gb} {ks : List Str} (T : ClsK g ks) {c : Str} (h : c ∈ ks) {t : String} (m : t ∈ tyL) : PySem.W.kitOne g.K (.type t) (.ref (g.cn c)) = some false := by
  refine T.ref h (by intro z; cases z) ?_
  simp only [tyL, List.mem_cons, List.not_mem_nil, or_false] at m
  rcases m with rfl | rfl | rfl | rfl | rfl | rfl | rfl
  · exact sub_ref_none _ _
  · exact sub_ref_bool _ _
  · exact sub_ref_int _ _
  · exact sub_ref_str _ _
  · exact sub_ref_list _ _
  · exact sub_ref_tuple _ _
  · exact sub_ref_dict _ _
theorem ClsK.cc {g : Gb} {ks : List Str} (T : ClsK g ks) {c c' : Str} (h : c ∈ ks) (h' : c' ∈ ks) : PySem.W.kitOne g.K (.ref (g.cn c')) (.ref (g.cn c)) = some (decide (c' = c)) := by
  by_cases e : c' = c
  · subst e
    rw [decide_eq_true rfl]
    unfold PySem.W.kitOne
    rw [if_pos (by simp)]
  · rw [decide_eq_false e]
    obtain ⟨n, s⟩ := T.ne c h c' h' e
    exact T.ref h (fun z => n (by injection z)) s
def isC (ks : List Str) (c : Str) (d : D) : Option Bool := if c ∈ ks then match d with
  | .ins c' _ => if c' ∈ ks then some (decide (c' = c)) else none
  | d => (tyN d).map fun _ => false else none
section
variable {X : Cx} {g : Gb} {W : WX} {σ : Sg} {H S : Hp} {Q : VK} {m : E} {j : Nat} {ks : List Str} {c : Str} {a : Expr} {p q pos : Pos}
theorem isC_ty {d : D} {v : V} {b : Bool} (T : ClsK g ks) (h : isC ks c d = some b) (e : Sub S H) (r : Rep g S d v) : ∃ t, TyX g.K H v t ∧ PySem.W.kitOne g.K t (.ref (g.cn c)) = some b := by
  unfold isC at h
  split at h
  · rename_i hc
    have go : (tyN d).map (fun _ => false) = some b → ∃ t, TyX g.K H v t ∧ PySem.W.kitOne g.K t (.ref (g.cn c)) = some b := fun h => by
      cases ht : tyN d with
      | none => rw [ht] at h; cases h
      | some t => rw [ht] at h; cases h; exact ⟨_, tyx_of e ht r, T.ty hc (tyN_mem ht)⟩
    cases d with
    | ins c' fs =>
      dsimp only at h
      split at h
      · rename_i hc'
        cases h
        obtain ⟨x, dx, fvs, rfl, h1, h2, _⟩ := r
        obtain ⟨k1, k2, k3, _⟩ := T.own c' hc'
        exact ⟨_, .base (.ins (e _ _ h1) k1 k2 T.hn T.ht k3), T.cc hc hc'⟩
      · cases h
    | _ => exact go h
  · cases h
def eIsC (ks : List Str) (c : Str) (m : E) : E := fun ρ => (m ρ).bind fun o ρ1 => match isC ks c o.d.view with
  | some b => .ok (.sh (.bl b)) ρ1
  | none => .stuck
theorem le_isC (T : ClsK g ks) (h : LE g W (eIsC ks c m) σ H Q) : tCB (rIsi g.K) (tCons (LE g W m) (tCons (tC (.ref (g.cn c))) tNil)) σ H Q := by
  obtain ⟨Z, S, τ, θ, ρ, st, post⟩ := h
  refine step_flat st post fun o ρ1 v S1 H1 e1 st1 r post1 => ?_
  have r := r.view
  cases hi : isC ks c o.d.view with
  | none => rw [hi] at post1; exact post1.elim
  | some b =>
    rw [hi] at post1
    obtain ⟨t, h1, h2⟩ := isC_ty T hi st1.sub r
    exact ⟨v, _, t, _, b, rfl, .own _, h1, h2, post1.fin (Ex.refl _) st1 (New.flat (d := .bl b) st1.sub rfl)⟩
/-- isinstance(e, C) -/
theorem pd_isC (C : Cxt X g W j) (T : ClsK g ks) (hi : X.mg "isinstance" = none) (hc : X.mg c = some (.ref (g.cn c))) (ha : PE X a (LE g W m)) (hg : Gl X "isinstance" := by rfl) (hgc : Gl X c := by rfl) (hd : (c == ("__debug__" : Str)) = false := by decide)
    (he : starEach [a, .Name c q] X.env = (false, eval a X.env) :: starEach [.Name c q] X.env := by rfl) (he2 : starEach [.Name c q] X.env = (false, eval (.Name c q) X.env) :: starEach [] X.env := by rfl) (hpl : (backTo pos (starEach [.Name c q] X.env)).any (·.1) = false := by rfl) :
    PE X (.Call (.Name "isinstance" p) [a, .Name c q] [] pos) (LE g W (eIsC ks c m)) :=
  PE_imp (pe_callB call_isi hg hi bootX_isinstance (pa_cons ha (pa_cons (pe_glob (v := .ref (g.cn c)) hgc hc rfl hd) pa_nil he2) he) (he := he) (hpl := hpl)) fun _ _ _ z => by rw [C.K]; exact le_isC T z
end
end DL
set_option Elab.async false
set_option linter.all false
set_option maxRecDepth 100000
set_option maxHeartbeats 4000000
set_option autoImplicit false
/-! DLM17: sorted(xs, key=lambda x: ..): the sort over what is tracked. -/
namespace DL
open PySem PySem.Spec PyProof.Rows L2
section
variable {X : Cx} {pins : List (Addr × Obj)} {σ : L2.St} {H : Hp} {s : Shared} {a b kS : Addr}
/-- an object of ours that nobody knows: its address -/
structure Tmp (X : Cx) (pins : List (Addr × Obj)) (a : Addr) : Prop where
  loc : a ≠ X.env.locals
  fs : a ∉ X.fs
  new : X.s_0.heap.objs.size ≤ a
  cell : ∀ x c, X.env.cells.lookup x = some c → c ≠ a
  pin : ∀ p ∈ X.pn ++ pins, p.1 ≠ a
theorem Tmp.of (I : L2.Inv X pins σ H s) (h : s.heap.objs.size ≤ a) : Tmp X pins a := by
  obtain ⟨_, h1, h2, h3, h4, h5⟩ := I.fpOk (b := a) (H' := H) h (I.hok.fresh h)
  exact ⟨h1, h2, Nat.le_trans I.sz h, h4, h5⟩
end
end DL
set_option Elab.async false
set_option linter.all false
set_option maxRecDepth 100000
set_option maxHeartbeats 4000000
set_option autoImplicit false
/-! DLM18: a lambda of one parameter, nothing captured; sorted(xs, key=lambda x: ..). -/
namespace DL
open PySem PySem.Spec PyProof.Rows L2
/-! ### the lambda is called -/
/-! ### the lambda is made -/
/-! ### sorted(e, key=lambda x: body) -/
end DL
set_option Elab.async false
set_option linter.all false
set_option maxRecDepth 100000
set_option maxHeartbeats 1000000
set_option autoImplicit false
/-! DLM19: sorted(e, key=lambda x: body), lifted. -/
namespace DL
open PySem PySem.Spec PyProof.Rows L2
/-! ### the keys -/
section
variable {X : Cx} {g : Gb} {W : WX} {σ : Sg} {H S : Hp} {Q : VK} {m mb : E} {j : Nat} {P : Addr} {q x : Str}
abbrev WN : WX := WF fun _ _ _ => False
end
end DL
set_option Elab.async false
set_option linter.all false
set_option maxRecDepth 100000
set_option maxHeartbeats 1000000
set_option autoImplicit false
/-! DLM20: dicts merged: {**a, **b}, d.update(e). -/
namespace DL
open PySem PySem.Spec PyProof.Rows L2
end DL
set_option Elab.async false
set_option linter.all false
set_option maxRecDepth 100000
set_option maxHeartbeats 1000000
set_option autoImplicit false
/-! DLM21: {**a, **b}, d.update(e), lifted; t + u of tuples; break; xs.reverse(), xs.extend(ys). -/
namespace DL
open PySem PySem.Spec PyProof.Rows L2
/-! ### rules -/
end DL
set_option Elab.async false
set_option linter.all false
set_option maxRecDepth 100000
set_option autoImplicit false
/-! DLM22: {**a, **b}, d.update(e), t + u, break, xs.reverse(), xs.extend(ys): lifted. -/
namespace DL
open PySem PySem.Spec PyProof.Rows L2
end DL
set_option Elab.async false
set_option linter.all false
set_option autoImplicit false
/-! DLM23: what is stored is frozen; len(x), i in x, x[i] of own instances. -/
namespace DL
open PySem PySem.Spec PyProof.Rows L2
section
variable {X : Cx} {g : Gb} {W : WX} {Z : Zn} {S S' H H' : Hp} {τ τ' : List V} {θ θ' : List O} {σ σ' : Sg} {ρ : En} {Q Q' : VK} {m mo mk : E} {o : O} {v : V} {i j n k : Nat} {D : Ends} {ms : List E}
/-! ### a value that is frozen -/
/-! ### own methods behind len, in, [] -/
theorem run_fnWA {A : Around} {CX : CXT} {f : Addr} {fd : FuncData} {ps : List Str} {sp : Sp} {dvs : List V} {ds : List Value} {E : XK} {pins : List (Addr × Obj)} {s : Shared} {us : List Value} {vs : List V} (F : FnW X.prog X.w X.K X.mg X.base CX k f fd ps sp) (hr : Room k A) (hgd : A.guards = some []) (e0 : Env0 X.prog X.w X.K X.mg X.base A X.stack s H) (hb : Binds X.K fd ps ds) (hd : Vals dvs ds) (hx : PassesAt CX X σ E)
    (I : L2.Inv X pins σ H s) (r : Vals vs us) (h : sp (vs ++ dvs) H Q E) : wpAny (model X.prog X.w) A (call (.ref f) us) (EP X pins σ Q) X.xe s := by
  have r2 : Vals (vs ++ dvs) (us ++ ds) := r.append hd
  have hl : (us ++ ds).length = ps.length := by rw [← r2.length]; exact F.len _ _ _ _ h
  refine wpAny_call (codeAny_mono (F.run A X.stack s H ⟨us, []⟩ (us ++ ds) (vs ++ dvs) Q E hr hgd e0 (hb s us I.kIn hl) r2 h) fun r s' hq => ?_)
  cases r with
  | error e => exact hx pins H s e s' I hq
  | ok fl =>
    cases fl with
    | ret u => exact I.after hq
    | next => exact False.elim hq
    | brk => exact False.elim hq
    | cont => exact False.elim hq
abbrev noX : XK := fun _ _ _ => False
theorem passNo {σ : L2.St} (tk : Takes X W) : PassesAt (L2.CX X.prog X.w) X σ noX := fun _ _ _ e s' I c => tk e s' (XE.of_call (W := W) (σ := σ) I (fun _ _ _ h => h.elim) c)
theorem ins_at {pins : List (Addr × Obj)} {s : Shared} {a C dx : Addr} {fs : List (Str × V)} (I : L2.Inv X pins σ H s) (ha : H a = some (.ins C dx fs)) : ∃ ox od, PySem.W.InstAt s.heap a ox C od := by
  obtain ⟨mA, O, _⟩ := ins_get I.hok ha
  obtain ⟨od, J, _⟩ := O.look
  exact ⟨_, _, J⟩
/-! their functions -/
theorem two_flat {k : O → O → E} {ma mb : E} {Q2 : V → V → Hp → Prop} (st : St g Z S H τ θ σ ρ) (post : PostR g W Z S τ θ σ ((ma ρ).bind fun o1 ρ1 => (mb ρ1).bind fun o2 ρ2 => k o1 o2 ρ2) Q)
    (hk : ∀ o1 o2 ρ2 v1 v2 S2 H2, Ex S S2 → St g Z S2 H2 τ θ σ ρ2 → Rep g S2 o1.d v1 → Rep g S2 o2.d v2 → PostR g W Z S2 τ θ σ (k o1 o2 ρ2) Q → Q2 v1 v2 H2) : LE g W ma σ H fun v1 H1 => LE g W mb σ H1 fun v2 H2 => Q2 v1 v2 H2 :=
  step_flat st post fun o1 ρ1 v1 S1 H1 e1 st1 r1 post1 => step_flat st1 post1 fun o2 ρ2 v2 S2 H2 e2 st2 r2 post2 => hk o1 o2 ρ2 v1 v2 S2 H2 (e1.trans e2) st2 (Rep.mono e2 _ _ r1) r2 post2
end
section
variable {X : Cx} {g : Gb} {W : WX} {j k n : Nat} {mo mk : E} {a b : Expr} {pos p : Pos} {c : Str} {fn : List O → R}
/-- without defaults -/
def Met0 (P : Program) (w : World) (mg : Str → Option Value) (base : Heap) (g : Gb) (k : Nat) (c m : Str) (n : Nat) (fn : List O → R) : Prop :=
  ∃ (f : Addr) (fd : FuncData) (ps : List Str), FnW P w g.K mg base (L2.CX P w) k f fd ps (spD g n fn) ∧ Meth g.K (g.cn c) m f ∧ Binds g.K fd ps [] ∧ FdAt g.K f fd ps
theorem Met.zero {P : Program} {w : World} {mg : Str → Option Value} {base : Heap} {m : Str} (h : Met P w mg base g k c m n [] fn) : Met0 P w mg base g k c m n fn := by
  obtain ⟨f, fd, ps, ds, dvs, F, _, hm, hb, hd, hr, hf⟩ := h
  have e : dvs = [] := hr (fun _ => none)
  subst e
  cases hd
  exact ⟨f, fd, ps, F, hm, hb, hf⟩
end
end DL
set_option Elab.async false
set_option linter.all false
set_option maxRecDepth 100000
set_option autoImplicit false
/-! DLM24: xs[at::-1]. -/
namespace DL
open PySem PySem.Spec PyProof.Rows L2
end DL
set_option Elab.async false
set_option linter.all false
set_option maxRecDepth 100000
set_option autoImplicit false
/-! DLM25: try with several clauses, named or not; raise. -/
namespace DL
open PySem PySem.Spec PyProof.Rows L2
/-- the ends of a clause that binds the slot i: the name is gone behind it -/
def Ends.gone (D : Ends) (i : Nat) : Ends := { nx := fun σ' H' => D.nx (σ'.set i none) H', rt := D.rt, bk := fun σ' H' => D.bk (σ'.set i none) H', ct := fun σ' H' => D.ct (σ'.set i none) H' }
/-- a clause: the class, the name's slot, the suite's reading -/
structure Cl where
  c : Value
  i : Option Nat
  ts : Addr → Value → Option Addr → TS
def Cl.run (k : Cl) (D : Ends) (a : Addr) (cls : Value) (d : Option Addr) (σ : Sg) (H : Hp) : Prop := match k.i with
  | none => k.ts a cls d D σ H
  | some i => k.ts a cls d (Ends.gone D i) (σ.set i (some (.ref a))) H
end DL
set_option Elab.async false
set_option linter.all false
set_option maxRecDepth 100000
set_option autoImplicit false
/-! DLM26: try and raise, as functions on data. -/
namespace DL
open PySem PySem.Spec PyProof.Rows L2
/-! ### raise c(e) -/
def sRaise (c fld : Str) (m : E) : Sm := fun ρ => (m ρ).toO fun o ρ1 => .exc ⟨c, [(fld, o.d)]⟩ ρ1
theorem St.grow {g : Gb} {Z : Zn} {S H H' : Hp} {τ : List V} {θ : List O} {σ : Sg} {ρ : En} (h : St g Z S H τ θ σ ρ) (e : Gr H H') : St g Z S H' τ θ σ ρ := let ⟨A, α, h⟩ := h; ⟨A, α, h.grow e⟩
section
variable {X : Cx} {o e : Expr} {es : List Expr} {to te : TE} {ta : TA} {f : Str} {p p' p1 p2 pos : Pos}
/-- raise's C(e, ..): C's own __init__ keeps sp -/
theorem pmk_oexW {CX : CXT} {x : Str} {C fI : Addr} {k : Nat} {fd : FuncData} {ps : List Str} {sp : Sp} {ds : List Value} {dvs : List V} (T : OexC X.K C) (iC : PySem.W.findIn X.K (.ref C) "__init__" = some (some (.ref fI))) (tI : PySem.W.typeIn X.K (.ref fI) = some (.type "function"))
    (F1 : FnW X.prog X.w X.K X.mg X.base CX k fI fd ps sp) (hr : Room (k + 1) X.A) (hgd : X.A.guards = some []) (hb : Binds X.K fd ps ds) (hd : Vals dvs ds) (hx : ∀ σ, PassesAt CX X σ (fun _ _ _ => False)) (hg : Gl X x) (hm : X.mg x = some (.ref C)) (ha : PA X (e :: es) ta)
    (hdb : (x == ("__debug__" : Str)) = false := by decide) (he : starEach (e :: es) X.env = (false, eval e X.env) :: starEach es X.env := by rfl) (hpl : (backTo pos (starEach es X.env)).any (·.1) = false := by rfl) :
    PMk X (.Call (.Name x p) (e :: es) [] pos) (tMkO C sp dvs ta) := by
  intro pins s σ H Q I h
  obtain ⟨nm, q, N, bs, bm, sn, sub, ab, col, dd, k0, k1, k2, k3, k5, hC, hbm⟩ := T.cls
  refine wpAny_Call_Name_kw (ld_glob I hg hm ?_ hdb)
  refine PySem.W.callWith_K (h₀ := X.base) I.ok.mod.kin T.kC (thn (ha.run pos pins s σ H _ I h) fun us s1 ⟨vs, H1, I1, r1, hz, q1⟩ => ⟨I1.kIn, ?_⟩) he hpl
  show wpAny _ _ (call (.ref C) us) _ _ _
  obtain ⟨hp, g, dr, tk, os⟩ := s1
  have hsz : hp.objs.size ≤ hp.objs.size + 1 := Nat.le_succ _
  have hn : H1 (hp.objs.size + 1) = none := I1.hok.fresh hsz
  have hq := q1 (hp.objs.size + 1) hn
  have kk : ∀ b o, hp.get? b = some o → ((hp.push (PySem.W.kdv_tup us)).push (PySem.HandSPX.excO C hp.objs.size)).get? b = some o := fun b o e => Heap.get?_push_of_some _ (Heap.get?_push_of_some _ e)
  have hget : ((hp.push (PySem.W.kdv_tup us)).push (PySem.HandSPX.excO C hp.objs.size)).get? (hp.objs.size + 1) = some (PySem.HandSPX.excO C hp.objs.size) := by heap_get
  have I2 : Inv X pins σ (upd H1 (hp.objs.size + 1) (exo (hp.objs.size + 1) C none)) ⟨(hp.push (PySem.W.kdv_tup us)).push (PySem.HandSPX.excO C hp.objs.size), g, dr, tk, os⟩ :=
    I1.laid (t' := tk) (a := hp.objs.size + 1) (o := exo (hp.objs.size + 1) C none) (h' := (hp.push (PySem.W.kdv_tup us)).push (PySem.HandSPX.excO C hp.objs.size)) kk hsz (exo_ok hget)
  have r2 : Vals (V.ref (hp.objs.size + 1) :: (vs ++ dvs)) (Value.ref (hp.objs.size + 1) :: (us ++ ds)) := .cons rfl (r1.append hd)
  have hl : (Value.ref (hp.objs.size + 1) :: us ++ ds).length = ps.length := by
    have e := r2.length
    rw [F1.len _ _ _ _ hq] at e
    exact e.symm
  have hus : us.length ≤ sizeLine := by
    rw [← Paired.length r1, sizeLine_eq]
    omega
  refine wpAny_call (PySem.HandSPX.call_own F.excBase_ValueError (fun Y => PySem.HandSPX.refsVE_contains Y bm hbm) (I1.kIn _ _ hC) (PySem.W.looks_findIn I1.kIn iC) (fun self => PySem.W.bind_fn I1.kIn self tI) hus
    (codeAny_mono (F1.run _ X.stack _ _ ⟨Value.ref (hp.objs.size + 1) :: us, []⟩ (Value.ref (hp.objs.size + 1) :: (us ++ ds)) _ _ (fun _ _ _ => False) (hr.make C us []) hgd (I2.env0.make C us []) (hb _ (Value.ref (hp.objs.size + 1) :: us) I2.kIn hl) r2 hq) fun r s' hq' => ?_))
  cases r with
  | error er => exact hx σ pins _ _ er s' I2 hq'
  | ok fl =>
    cases fl with
    | ret u =>
      obtain ⟨v, H2, os2, bare2, un2, hok2, rv, ev, d, fs, ea, ed, hd1, q2⟩ := hq'
      subst ev
      obtain ⟨h2, g2, d2, t2, os'⟩ := s'
      exact ⟨rv, mk_end (raises_own T.exC T.tyC) I1 hsz kk un2 hok2 os2 bare2 ea ed hd1 q2⟩
    | next => exact False.elim hq'
    | brk => exact False.elim hq'
    | cont => exact False.elim hq'
end
section
variable {X : Cx} {g : Gb} {W : WX} {Z : Zn} {S S' H H' : Hp} {τ τ' : List V} {θ θ' : List O} {σ : Sg} {ρ : En} {m ma mb mc : E} {ms : List E} {D : Ends} {c fld : Str} {e : Expr} {p pos p' : Pos} {lv k : Nat}
theorem ls_raise (q : LS g W (sRaise c fld m) D σ H) : tMkO (g.cn c) (spExn (g.cn c) fld) [] (LA g W [m]) σ H (fun cls d H' => W cls d σ H') := by
  obtain ⟨Z, S, ρ, st, post⟩ := q
  refine le_one (Qa := fun vs H1 => vs.length ≤ 1000 ∧ _) ?_
  refine sstep st post fun o1 ρ1 v1 S1 H1 e1 st1 post1 => ⟨by simp, fun a ha => ⟨a, v1, rfl, upd_same, fun dx hdx ne => ⟨rfl, dx, [(fld, v1)], upd_same, ?_, ?_, ?_⟩⟩⟩
  · rw [upd_ne ne]; exact upd_same
  · rw [upd_ne ne] at hdx; exact hdx
  · rw [upd_ne ne] at hdx
    obtain ⟨S2, e2, st2, r⟩ := St.pop (τ := []) (θ := []) st1
    refine post1 dx σ S2 _ e2 (st2.grow fun b u hb => ?_) ⟨[(fld, v1)], upd_same, v1, [], rfl, r, rfl⟩
    have z : b ≠ a := fun z => by rw [z, ha] at hb; cases hb
    have z2 : b ≠ dx := fun z => by rw [z, hdx] at hb; cases hb
    rw [upd_ne z2, del_ne z, upd_ne z, upd_ne z2, upd_ne z]
    exact hb
theorem sd_raise (C : Cxt X g W lv) (T : ExT X.prog X.w X.mg X.base g k c fld) (ha : PE X e (LE g W m)) (hk : k + 1 ≤ lv := by decide) (hg : Gl X c := by rfl) (hdb : (c == ("__debug__" : Str)) = false := by decide)
    (he : starEach [e] X.env = (false, eval e X.env) :: starEach [] X.env := by rfl) (hpl : (backTo p' (starEach [] X.env)).any (·.1) = false := by rfl) : PS X (.Raise (some (.Call (.Name c p) [e] [] p')) none pos) (LS g W (sRaise c fld m)) := by
  obtain ⟨fI, fd, ps, O1, iC, tI, F, hm, b⟩ := T
  rw [← C.K] at F O1 iC tI b
  exact PS_imp (ps_raise C.calm C.tk (pmk_oexW O1 iC tI F (C.rm.mono hk) C.gd b .nil (fun σ => passAt (W := fun _ _ _ _ => False) takes00 σ) hg hm (ad_cons ha ad_nil he) hdb he hpl)) fun _ _ _ q => ls_raise q
end
/-! ### try -/
structure Kl where
  h : Str
  i : Option Nat
  f : Exn → Sm
def Out.map (k : En → En) : Out → Out
  | .next ρ => .next (k ρ) | .brk ρ => .brk (k ρ) | .cont ρ => .cont (k ρ) | .ret o ρ => .ret o (k ρ) | .exc x ρ => .exc x (k ρ) | .stuck => .stuck
def Kl.run (k : Kl) (x : Exn) : Sm := fun ρ => match k.i with
  | none => k.f x ρ
  | some i => match ρ[i]? with
    | none => .stuck
    | some _ => (k.f x (wipeE ρ [i])).map fun ρ' => wipeE ρ' [i]
end DL
set_option Elab.async false
set_option linter.all false
set_option maxRecDepth 100000
set_option autoImplicit false
/-! DLM27: except suites. -/
namespace DL
open PySem PySem.Spec PyProof.Rows L2
section
variable {X : Cx} {g : Gb} {W : WX} {lv : Nat} {Z : Zn} {S H : Hp} {σ : Sg} {ρ : En} {e : Expr} {es : List Expr} {pos p : Pos}
/-- what a suite knows of the caught exception -/
def XP (g : Gb) (i : Option Nat) (a : Addr) (cls : Value) (d : Option Addr) (x : Exn) (S : Hp) (σ : Sg) (H : Hp) : Prop := (∀ j, i = some j → σ[j]? = some (some (.ref a))) ∧ cls = .ref (g.cn x.c) ∧ ∃ dd, d = some dd ∧ ExnAt g S H x dd
end
end DL
set_option Elab.async false
set_option linter.all false
set_option maxRecDepth 100000
set_option autoImplicit false
/-! DLM28: which own exception class is which other's, as a table; what the text says of a caught class. -/
namespace DL
open PySem PySem.Spec PyProof.Rows L2
end DL
set_option Elab.async false
set_option linter.all false
set_option maxRecDepth 100000
set_option autoImplicit false
/-! DLQ1: == of lists and tuples whose items' == runs code, with either answer. -/
namespace DLq
open PySem PySem.SeqAt
open AutoSeq1 (wpAny_loadPart')
open MeetsSeq MeetsSeq2 MeetsSeq3 SeqRoads2
open GQ (FinOf call_here eqBool_refG)
section
variable {prog : Program} {w : World} {A : Around} {R : Result → Shared → Prop}
/-- turn by turn: the two lists as they are then, and what the turn's == tells -/
def ListJ (prog : Program) (w : World) (A : Around) (E : Value → Shared → Prop) (l b : Addr) (N : Nat) (t : Nat → Bool) (I : Nat → Shared → Prop) (Z : Shared → Prop) : Prop :=
  ∀ i s, I i s → ∃ (us ws : Array Value) (n m : Nat), s.heap.get? l = some { cls := .type "list", data := .seq us n } ∧ s.heap.get? b = some { cls := .type "list", data := .seq ws m } ∧ us.size = N ∧ ws.size = N ∧
    ∀ (h1 : i < us.size) (h2 : i < ws.size), wpAny (model prog w) A.in1 (eqBool us[i] ws[i]) (fun r z => r = t i ∧ (t i = true → I (i + 1) z) ∧ (t i = false → Z z)) E s
theorem loopJ (l b : Addr) (N : Nat) (t : Nat → Bool) (I : Nat → Shared → Prop) (Z : Shared → Prop) (hl : ListJ prog w A (fun e z => R (.error e) z) l b N t I Z)
    (zl : ∀ s, Z s → ∃ (us ws : Array Value) (n m : Nat), s.heap.get? l = some { cls := .type "list", data := .seq us n } ∧ s.heap.get? b = some { cls := .type "list", data := .seq ws m } ∧ us.size = N ∧ ws.size = N)
    (yes : ∀ s, I N s → R (.ok (.ret (.bool true))) s) (no : ∀ s, Z s → R (.ok (.ret (.bool false))) s) (k : Nat) :
    ∀ i : Nat, N - i = k → i ≤ N → ∀ s, I i s →
      wpAny (model prog w) A.in1 (Builtin.«list.__eq__.loop» ⟨[.ref l, .ref b, rawInt i, rawInt 2], []⟩) (FinOf prog w A R) (fun e z => R (.error e) z) s := by
  induction k with
  | zero =>
    intro i hk hi s h
    obtain ⟨us, ws, n, m, e1, e2, z1, z2, _⟩ := hl _ _ h
    have ei : i = N := by omega
    have hR : R (.ok (.ret (.bool true))) s := yes s (ei ▸ h)
    obtain ⟨hp, g, d, tk, os⟩ := s
    wp_walk using wpAny_loadPart' e1, wpAny_loadPart' e2
    have q1 : us[((i : Nat) : Int).toNat]? = none := by simp; omega
    have q2 : ws[((i : Nat) : Int).toNat]? = none := by simp; omega
    rw [q1, q2]
    wp_walk using wpAny_loadPart' e1, wpAny_loadPart' e2
    show R (.ok (.ret (.bool (us.size == ws.size)))) _
    rw [z1, z2]
    simpa using hR
  | succ k ih =>
    intro i hk hi s h
    obtain ⟨us, ws, n, m, e1, e2, z1, z2, turn⟩ := hl _ _ h
    have l1 : i < us.size := by omega
    have l2 : i < ws.size := by omega
    have ht := turn l1 l2
    obtain ⟨hp, g, d, tk, os⟩ := s
    wp_walk using wpAny_loadPart' e1, wpAny_loadPart' e2
    have q1 : us[((i : Nat) : Int).toNat]? = some us[i] := by simp [l1]
    have q2 : ws[((i : Nat) : Int).toNat]? = some ws[i] := by simp [l2]
    have hc : ((i : Int) + 1) = ((i + 1 : Nat) : Int) := by omega
    rw [q1, q2]
    refine wpAny_bind (wpAny_mono ht (fun r s2 h2 => ?_) fun _ _ x => x)
    obtain ⟨hr, h2, h3⟩ := h2
    cases hb : t i with
    | true =>
      rw [hb] at hr
      subst hr
      have hrec := ih (i + 1) (by omega) (by omega) s2 (h2 hb)
      obtain ⟨hp2, g2, d2, tk2, os2⟩ := s2
      wp_walk
      rw [hc]
      exact ⟨plainId_quiet plain_eq_loop _, codeAny_builtin entry_eq_loop (by
        rw [Around.under_plainId plain_eq_loop _]
        exact hrec)⟩
    | false =>
      rw [hb] at hr
      subst hr
      have hR := no s2 (h3 hb)
      obtain ⟨us2, ws2, n2, m2, e3, e4, z3, z4⟩ := zl s2 (h3 hb)
      have l3 : i < us2.size := by omega
      have l4 : i < ws2.size := by omega
      obtain ⟨hp2, g2, d2, tk2, os2⟩ := s2
      wp_walk using wpAny_loadPart' e3, wpAny_loadPart' e4
      have q3 : us2[((i : Nat) : Int).toNat]? = some us2[i] := by simp [l3]
      have q4 : ws2[((i : Nat) : Int).toNat]? = some ws2[i] := by simp [l4]
      rw [q3, q4]
      wp_walk
      exact hR
theorem listJ (l b : Addr) (N : Nat) (t : Nat → Bool) (I : Nat → Shared → Prop) (Z : Shared → Prop) (hl : ListJ prog w A (fun e z => R (.error e) z) l b N t I Z)
    (zl : ∀ s, Z s → ∃ (us ws : Array Value) (n m : Nat), s.heap.get? l = some { cls := .type "list", data := .seq us n } ∧ s.heap.get? b = some { cls := .type "list", data := .seq ws m } ∧ us.size = N ∧ ws.size = N)
    (yes : ∀ s, I N s → R (.ok (.ret (.bool true))) s) (no : ∀ s, Z s → R (.ok (.ret (.bool false))) s) {s : Shared} (h : I 0 s) :
    wpAny (model prog w) A.in1 (Builtin.«list.__eq__» ⟨[.ref l, .ref b], []⟩) (FinOf prog w A R) (fun e z => R (.error e) z) s := by
  obtain ⟨us, ws, n, m, e1, e2, z1, z2, _⟩ := hl _ _ h
  have hrec := loopJ (A := A) (R := R) l b N t I Z hl zl yes no _ 0 rfl (Nat.zero_le _) s h
  obtain ⟨hp, g, d, tk, os⟩ := s
  have f3 := AutoSeq1.sub_list_list
  have hne : ¬ (us.size != ws.size) = true := by simp [z1, z2]
  wp_walk using wpAny_loadPart' e1, wpAny_loadPart' e2
  exact ⟨plainId_quiet plain_eq_loop _, codeAny_builtin entry_eq_loop (by
    rw [Around.under_plainId plain_eq_loop _]
    exact hrec)⟩
/-- lists of unlike lengths -/
theorem listN (l b : Addr) {us ws : Array Value} {n m : Nat} {s : Shared} (e1 : s.heap.get? l = some { cls := .type "list", data := .seq us n }) (e2 : s.heap.get? b = some { cls := .type "list", data := .seq ws m }) (hz : us.size ≠ ws.size)
    (no : R (.ok (.ret (.bool false))) s) : wpAny (model prog w) A.in1 (Builtin.«list.__eq__» ⟨[.ref l, .ref b], []⟩) (FinOf prog w A R) (fun e z => R (.error e) z) s := by
  obtain ⟨hp, g, d, tk, os⟩ := s
  have f3 := AutoSeq1.sub_list_list
  have hne : (us.size != ws.size) = true := by simpa using hz
  wp_walk using wpAny_loadPart' e1, wpAny_loadPart' e2
  exact no
theorem tupJ (l b : Addr) (us ws : Array Value) (n m : Nat) (dd dd2 : Option Addr) (sl sl2 : Array (Option Value)) (t : Nat → Bool) (I : Nat → Shared → Prop) (Z : Shared → Prop)
    (turn : ∀ i (h1 : i < us.size) (h2 : i < ws.size) s, I i s → wpAny (model prog w) A.in1 (eqBool us[i] ws[i]) (fun r z => r = t i ∧ (t i = true → I (i + 1) z) ∧ (t i = false → Z z)) (fun e z => R (.error e) z) s)
    (yes : ∀ s, I (min us.size ws.size) s → R (.ok (.ret (.bool (us.size == ws.size)))) s) (no : ∀ s, Z s → R (.ok (.ret (.bool false))) s) {s : Shared} (hl1 : s.heap.get? l = some { cls := .type "tuple", dict := dd, data := .seq us n, slots := sl }) (hb1 : s.heap.get? b = some { cls := .type "tuple", dict := dd2, data := .seq ws m, slots := sl2 }) (h : I 0 s) :
    wpAny (model prog w) A.in1 (Builtin.«tuple.__eq__» ⟨[.ref l, .ref b], []⟩) (FinOf prog w A R) (fun e z => R (.error e) z) s := by
  have f2 := AutoSeq1.sub_tuple_tuple
  have hZ : (us.toList.zip ws.toList).length = min us.size ws.size := by simp
  have h0 := h
  obtain ⟨hp, g, d, tk, os⟩ := s
  wp_walk using wpAny_loadPart' hl1, wpAny_loadPart' hb1, wpAny_forIn_list _ (fun rest b s' => b.1 = none ∧ ∃ i, rest = (us.toList.zip ws.toList).drop i ∧ i ≤ min us.size ws.size ∧ I i s') _
  case turn =>
    rintro ⟨y, x⟩ rest b s' ⟨hb', i, hz, hi, hI⟩
    have hlt : i < (us.toList.zip ws.toList).length := by
      rcases Nat.lt_or_ge i (us.toList.zip ws.toList).length with h' | h'
      · exact h'
      · rw [List.drop_of_length_le h'] at hz; cases hz
    have h1 : i < us.size := by omega
    have h2 : i < ws.size := by omega
    rw [List.drop_eq_getElem_cons hlt] at hz
    injection hz with hyx hrest
    have hy : y = us[i] := by have := congrArg Prod.fst hyx; simpa using this
    have hx : x = ws[i] := by have := congrArg Prod.snd hyx; simpa using this
    subst hy hx
    refine wpAny_bind (wpAny_mono (turn i h1 h2 s' hI) (fun r s2 q2 => ?_) fun _ _ x => x)
    obtain ⟨hr, q2, q3⟩ := q2
    cases hb : t i with
    | true =>
      rw [hb] at hr
      subst hr
      have q2 := q2 hb
      wp_walk
      exact ⟨rfl, i + 1, hrest, by omega, q2⟩
    | false =>
      rw [hb] at hr
      subst hr
      have hR := no s2 (q3 hb)
      wp_walk
      exact hR
  case fin =>
    rintro ⟨b1, b2⟩ s' ⟨hb', i, hz, hi, hI⟩
    simp only at hb'
    subst hb'
    have hge : min us.size ws.size ≤ i := by
      rcases Nat.lt_or_ge i (us.toList.zip ws.toList).length with h' | h'
      · rw [List.drop_eq_getElem_cons h'] at hz; cases hz
      · exact hZ ▸ h'
    have hi' : i = min us.size ws.size := by omega
    have hR := yes s' (hi' ▸ hI)
    wp_walk
    simpa [Builtin.Tuple.tupleCompareSizes] using hR
  case h => exact ⟨rfl, 0, rfl, Nat.zero_le _, h0⟩
end
section
variable {prog : Program} {w : World} {A : Around} {E : Value → Shared → Prop} {s : Shared}
theorem rcJ {l b : Addr} {N : Nat} {Q : Value → Shared → Prop} (hu : A.units < cLine) (t : Nat → Bool) (I : Nat → Shared → Prop) (Z : Shared → Prop) (hl : ListJ prog w A E l b N t I Z)
    (zl : ∀ s, Z s → ∃ (us ws : Array Value) (n m : Nat), s.heap.get? l = some { cls := .type "list", data := .seq us n } ∧ s.heap.get? b = some { cls := .type "list", data := .seq ws m } ∧ us.size = N ∧ ws.size = N)
    (yes : ∀ s, I N s → Q (.bool true) s) (no : ∀ s, Z s → Q (.bool false) s) (h : I 0 s) : wpAny (model prog w) A (richCompare .Eq (.ref l) (.ref b)) Q E s := by
  obtain ⟨us, ws, n, m, e1, e2, _, _, _⟩ := hl _ _ h
  refine wpAny_richCompare_same_room (op := .Eq) ⟨_, e1, rfl⟩ ⟨_, e2, rfl⟩ F.slot_list_eq (call_here F.slot_list_eq ⟨_, e1, rfl⟩ F.entry_list_eq (F.args_list_eq_2 _ _) ?_) hu
  exact listJ (R := wants (fun v z => v ≠ .notImplemented ∧ Q v z) E) l b N t I Z hl zl (fun z q => ⟨(fun x => nomatch x), yes z q⟩) (fun z q => ⟨(fun x => nomatch x), no z q⟩) h
theorem rcJN {l b : Addr} {us ws : Array Value} {n m : Nat} {Q : Value → Shared → Prop} (hu : A.units < cLine) (e1 : s.heap.get? l = some { cls := .type "list", data := .seq us n }) (e2 : s.heap.get? b = some { cls := .type "list", data := .seq ws m }) (hz : us.size ≠ ws.size)
    (no : Q (.bool false) s) : wpAny (model prog w) A (richCompare .Eq (.ref l) (.ref b)) Q E s := by
  refine wpAny_richCompare_same_room (op := .Eq) ⟨_, e1, rfl⟩ ⟨_, e2, rfl⟩ F.slot_list_eq (call_here F.slot_list_eq ⟨_, e1, rfl⟩ F.entry_list_eq (F.args_list_eq_2 _ _) ?_) hu
  exact listN (R := wants (fun v z => v ≠ .notImplemented ∧ Q v z) E) l b e1 e2 hz ⟨(fun x => nomatch x), no⟩
theorem rcJT {l b : Addr} {us ws : Array Value} {Q : Value → Shared → Prop} (hu : A.units < cLine) (t : Nat → Bool) (I : Nat → Shared → Prop) (Z : Shared → Prop)
    (hl : s.heap.IsTuple l us) (hb : s.heap.IsTuple b ws)
    (turn : ∀ i (h1 : i < us.size) (h2 : i < ws.size) s, I i s → wpAny (model prog w) A.in1 (eqBool us[i] ws[i]) (fun r z => r = t i ∧ (t i = true → I (i + 1) z) ∧ (t i = false → Z z)) E s)
    (yes : ∀ s, I (min us.size ws.size) s → Q (.bool (us.size == ws.size)) s) (no : ∀ s, Z s → Q (.bool false) s) (h : I 0 s) : wpAny (model prog w) A (richCompare .Eq (.ref l) (.ref b)) Q E s := by
  obtain ⟨⟨c1, d1, a1, s1⟩, ho, hc, n, hd⟩ := id hl
  obtain ⟨⟨c2, d2, a2, s2⟩, ho2, hc2, n2, hd2⟩ := id hb
  simp only at hc hd hc2 hd2
  subst hc hd hc2 hd2
  refine wpAny_richCompare_same_room (op := .Eq) ⟨_, ho, rfl⟩ ⟨_, ho2, rfl⟩ F.slot_tuple_eq (call_here F.slot_tuple_eq ⟨_, ho, rfl⟩ F.entry_tuple_eq (F.args_tuple_eq_2 _ _) ?_) hu
  exact tupJ (R := wants (fun v z => v ≠ .notImplemented ∧ Q v z) E) l b us ws n n2 d1 d2 s1 s2 t I Z turn (fun z q => ⟨(fun x => nomatch x), yes z q⟩) (fun z q => ⟨(fun x => nomatch x), no z q⟩) ho ho2 h
end
section
variable {prog : Program} {w : World} {A : Around} {E : Value → Shared → Prop} {s : Shared} {x l C dx : Addr}
/-! a builtin's == of an instance: not its business -/
theorem dec_int {n : Int} {t : Tok} {Q : Fin → Shared → Prop} (hx : s.heap.get? x = some (W.instObj C dx)) (h : Q (.done (.ret .notImplemented)) s) : wpAny (model prog w) A (Builtin.«int.__eq__» ⟨[.int n t, .ref x], []⟩) Q E s := by
  obtain ⟨hp, g, d, tk, os⟩ := s
  wp_walk using wpAny_load hx
  exact h
theorem dec_bool {n : Bool} {Q : Fin → Shared → Prop} (hx : s.heap.get? x = some (W.instObj C dx)) (h : Q (.done (.ret .notImplemented)) s) : wpAny (model prog w) A (Builtin.«int.__eq__» ⟨[.bool n, .ref x], []⟩) Q E s := by
  obtain ⟨hp, g, d, tk, os⟩ := s
  wp_walk using wpAny_load hx
  exact h
theorem dec_non {Q : Fin → Shared → Prop} (h : Q (.done (.ret .notImplemented)) s) : wpAny (model prog w) A (Builtin.«NoneType.__eq__» ⟨[.none, .ref x], []⟩) Q E s := by
  obtain ⟨hp, g, d, tk, os⟩ := s
  wp_walk
  exact h
theorem dec_str {n : Str} {t : Tok} {Q : Fin → Shared → Prop} (hx : s.heap.get? x = some (W.instObj C dx)) (h : Q (.done (.ret .notImplemented)) s) : wpAny (model prog w) A (Builtin.«str.__eq__» ⟨[.str n t, .ref x], []⟩) Q E s := by
  obtain ⟨hp, g, d, tk, os⟩ := s
  wp_walk using wpAny_load hx
  exact h
theorem dec_lst {Q : Fin → Shared → Prop} (hx : s.heap.get? x = some (W.instObj C dx)) (hs : ∀ {Q : Bool → Shared → Prop} {z : Shared}, z.heap = s.heap → Q false z → wpAny (model prog w) A (isSubtype (.ref C) (.type "list")) Q E z) (h : Q (.done (.ret .notImplemented)) s) : wpAny (model prog w) A (Builtin.«list.__eq__» ⟨[.ref l, .ref x], []⟩) Q E s := by
  obtain ⟨hp, g, d, tk, os⟩ := s
  wp_walk using wpAny_loadPart' hx
  refine hs rfl ?_
  wp_walk
  exact h
theorem dec_tup {Q : Fin → Shared → Prop} (hx : s.heap.get? x = some (W.instObj C dx)) (hs : ∀ {Q : Bool → Shared → Prop} {z : Shared}, z.heap = s.heap → Q false z → wpAny (model prog w) A (isSubtype (.ref C) (.type "tuple")) Q E z) (h : Q (.done (.ret .notImplemented)) s) : wpAny (model prog w) A (Builtin.«tuple.__eq__» ⟨[.ref l, .ref x], []⟩) Q E s := by
  obtain ⟨hp, g, d, tk, os⟩ := s
  wp_walk using wpAny_loadPart' hx
  refine hs rfl ?_
  wp_walk
  exact h
end
section
variable {prog : Program} {w : World} {A : Around} {R : Result → Shared → Prop}
/-- x in a list: the turns -/
def ListC (prog : Program) (w : World) (A : Around) (E : Value → Shared → Prop) (l : Addr) (x : Value) (N : Nat) (t : Nat → Bool) (I : Nat → Shared → Prop) (Z : Shared → Prop) : Prop :=
  ∀ i s, I i s → ∃ (us : Array Value) (n : Nat), s.heap.get? l = some { cls := .type "list", data := .seq us n } ∧ us.size = N ∧
    ∀ (h1 : i < us.size), wpAny (model prog w) A.in1 (eqBool us[i] x) (fun r z => r = t i ∧ (t i = false → I (i + 1) z) ∧ (t i = true → Z z)) E s
theorem loopC (l : Addr) (x : Value) (N : Nat) (t : Nat → Bool) (I : Nat → Shared → Prop) (Z : Shared → Prop) (hl : ListC prog w A (fun e z => R (.error e) z) l x N t I Z)
    (no : ∀ s, I N s → R (.ok (.ret (.bool false))) s) (yes : ∀ s, Z s → R (.ok (.ret (.bool true))) s) (k : Nat) :
    ∀ i : Nat, N - i = k → i ≤ N → ∀ s, I i s →
      wpAny (model prog w) A.in1 (Builtin.«list.__contains__.loop» ⟨[.ref l, x, rawInt i], []⟩) (FinOf prog w A R) (fun e z => R (.error e) z) s := by
  induction k with
  | zero =>
    intro i hk hi s h
    obtain ⟨us, n, e1, z1, _⟩ := hl _ _ h
    have ei : i = N := by omega
    have hR := no s (ei ▸ h)
    obtain ⟨hp, g, d, tk, os⟩ := s
    wp_walk using wpAny_loadPart' e1
    have q1 : us[((i : Nat) : Int).toNat]? = none := by simp; omega
    rw [q1]
    wp_walk
    exact hR
  | succ k ih =>
    intro i hk hi s h
    obtain ⟨us, n, e1, z1, turn⟩ := hl _ _ h
    have l1 : i < us.size := by omega
    have ht := turn l1
    obtain ⟨hp, g, d, tk, os⟩ := s
    wp_walk using wpAny_loadPart' e1
    have q1 : us[((i : Nat) : Int).toNat]? = some us[i] := by simp [l1]
    rw [q1]
    refine wpAny_bind (wpAny_mono ht (fun r s2 h2 => ?_) fun _ _ x => x)
    obtain ⟨hr, h2, h3⟩ := h2
    cases hb : t i with
    | false =>
      rw [hb] at hr
      subst hr
      have hc : ((i : Int) + 1) = ((i + 1 : Nat) : Int) := by omega
      have hrec := ih (i + 1) (by omega) (by omega) s2 (h2 hb)
      obtain ⟨hp2, g2, d2, tk2, os2⟩ := s2
      wp_walk
      rw [hc]
      exact ⟨plainId_quiet plain_contains_loop _, codeAny_builtin entry_contains_loop (by
        rw [Around.under_plainId plain_contains_loop _]
        exact hrec)⟩
    | true =>
      rw [hb] at hr
      subst hr
      have hR := yes s2 (h3 hb)
      obtain ⟨hp2, g2, d2, tk2, os2⟩ := s2
      wp_walk
      exact hR
theorem listC (l : Addr) (x : Value) (N : Nat) (t : Nat → Bool) (I : Nat → Shared → Prop) (Z : Shared → Prop) (hl : ListC prog w A (fun e z => R (.error e) z) l x N t I Z)
    (no : ∀ s, I N s → R (.ok (.ret (.bool false))) s) (yes : ∀ s, Z s → R (.ok (.ret (.bool true))) s) {s : Shared} (h : I 0 s) :
    wpAny (model prog w) A.in1 (Builtin.«list.__contains__» ⟨[.ref l, x], []⟩) (FinOf prog w A R) (fun e z => R (.error e) z) s := by
  obtain ⟨us, n, e1, z1, _⟩ := hl _ _ h
  have hrec := loopC (A := A) (R := R) l x N t I Z hl no yes _ 0 rfl (Nat.zero_le _) s h
  obtain ⟨hp, g, d, tk, os⟩ := s
  wp_walk using wpAny_loadPart' e1
  exact ⟨plainId_quiet plain_contains_loop _, codeAny_builtin entry_contains_loop (by
    rw [Around.under_plainId plain_contains_loop _]
    exact hrec)⟩
theorem inC {l : Addr} {x : Value} {N : Nat} {E : Value → Shared → Prop} {s : Shared} {Q : Value → Shared → Prop} (t : Nat → Bool) (I : Nat → Shared → Prop) (Z : Shared → Prop) (hl : ListC prog w A E l x N t I Z)
    (no : ∀ s, I N s → Q (.bool false) s) (yes : ∀ s, Z s → Q (.bool true) s) (h : I 0 s) : wpAny (model prog w) A (compareOp .In x (.ref l)) Q E s := by
  obtain ⟨us, n, e1, _, _⟩ := hl _ _ h
  refine PyProof.Rows.In_slot ⟨_, e1, rfl⟩ F.slot_list_contains (call_here F.slot_list_contains ⟨_, e1, rfl⟩ F.entry_list_contains (F.args_list_contains_2 _ _) ?_)
  exact listC (R := wants (fun v z => wpAny (model prog w) A (truthy v) (fun b z2 => Q (.bool b) z2) E z) E) l x N t I Z hl (fun z q => wpAny_truthy_bool (no z q)) (fun z q => wpAny_truthy_bool (yes z q)) h
end
end DLq
set_option Elab.async false
set_option linter.all false
set_option maxRecDepth 100000
set_option autoImplicit false
/-! DLQ2: == of own instances, lists of them, as a function. -/
namespace DLq
open PySem PySem.SeqAt PySem.W
open GQ (FinOf call_here eqBool_refG)
section
variable {prog : Program} {w : World} {A : Around} {E : Value → Shared → Prop} {s : Shared} {x C L f : Addr} {K : W.Frag} {ox : Obj} {od : Option Obj} {h₀ : Heap} {m : Str → Option Value}
/-- a builtin is not asked further; the instance's own == is -/
theorem rc_back {a : Value} {T id : String} {B : Builtin} {Q : Value → Shared → Prop} (hu : A.units < cLine) (F : PyProof.Rows.Fr h₀ L s.heap m) (X₀ : K.In h₀) (I : W.InstAt s.heap x ox C od) (ha : s.TypeIs a T)
    (hsub : W.subIn K (.ref C) (.type T) = some false) (slot : Slot T (cmpInfo .Eq).2.1 id) (entry : entryFor table id = some B) (args : argsOk id ⟨[a, .ref x], []⟩)
    (hB : wpAny (model prog w) A.in1 (B ⟨[a, .ref x], []⟩) (FinOf prog w A (wants (fun v z => v = .notImplemented ∧ z = s) E)) (fun e z => wants (fun v z => v = .notImplemented ∧ z = s) E (.error e) z) s)
    (hs : W.findIn K (.ref C) "__eq__" = some (some (.ref f))) (hf : W.isFn K (.ref f) = true)
    (h : wpAny (model prog w) A (call (.ref f) [.ref x, a]) (W.CmpBack Q) E s) : wpAny (model prog w) A (richCompare .Eq a (.ref x)) Q E s := by
  have X := X₀.keeps F.keep
  have one : wpAny (model prog w) A (tryCompare (.ref x) (cmpInfo .Eq).2.2 a) (fun r z => ∃ v, r = some v ∧ Q v z) E s := by
    unfold tryCompare
    refine wpAny_bind (W.ifBound_K X I hs hf (wpAny_mono h (fun v z hv => ?_) fun _ _ e => e))
    cases v <;> first | exact hv.elim | exact wpAny_pure ⟨_, rfl, hv⟩
  have dec : wpAny (model prog w) A (tryCompare a (cmpInfo .Eq).2.1 (.ref x)) (fun r z => r = none ∧ z = s) E s :=
    wpAny_tryCompare_declines ha slot (wpAny_mono (call_here slot ha entry args hB) (fun v z hq => ⟨hq.1, rfl, hq.2⟩) fun _ _ e => e)
  unfold richCompare
  simp only [ha.oneThing_none]
  refine wpAny_holding (wpAny_bind (wpAny_cRoomFor hu ?_))
  refine wpAny_bind (wpAny_typeOf ha (wpAny_bind (I.type.here ?_)))
  rw [show (Value.type T != Value.ref C) = true from rfl]
  simp only [if_true]
  refine wpAny_bind ((W.looks_subIn X hsub).here ?_)
  simp only [Bool.false_eq_true, if_false, Bool.not_false, if_true]
  refine wpAny_bind (wpAny_mono dec (fun r z q => ?_) fun _ _ e => e)
  obtain ⟨rfl, rfl⟩ := q
  refine wpAny_bind (wpAny_mono one (fun r z q => ?_) fun _ _ e => e)
  obtain ⟨v, rfl, hq⟩ := q
  exact wpAny_pure hq
end
end DLq
namespace DL
open PySem PySem.Spec PyProof.Rows L2
/-- the own == of the classes -/
abbrev EqTab := List (Str × (List O → R) × (List (Str × D) → Bool))
def insEq (T : EqTab) (c : Str) (fs : List (Str × D)) (b : D) : Option Bool := (T.lookup c).bind fun fp => if fp.2 fs = true then match fp.1 [.sh (.ins c fs), .sh b] with
  | .ok (.sh (.bl r)) _ => some r
  | _ => none else none
theorem insEq_some {T : EqTab} {c : Str} {fs : List (Str × D)} {b : D} {r : Bool} (h : insEq T c fs b = some r) : ∃ fn pf ρ, T.lookup c = some (fn, pf) ∧ pf fs = true ∧ fn [.sh (.ins c fs), .sh b] = .ok (.sh (.bl r)) ρ := by
  unfold insEq at h
  cases hl : T.lookup c with
  | none => rw [hl] at h; cases h
  | some fp =>
    obtain ⟨fn, pf⟩ := fp
    rw [hl] at h
    have h : (if pf fs = true then (match fn [.sh (.ins c fs), .sh b] with | .ok (.sh (.bl r)) _ => some r | _ => none) else none) = some r := h
    split at h
    · rename_i hp
      cases e : fn [.sh (.ins c fs), .sh b] with
      | ok o ρ =>
        rw [e] at h
        cases o with
        | sh d => cases d <;> first | (cases h; done) | (cases h; exact ⟨fn, pf, ρ, rfl, hp, e⟩)
        | _ => cases h
      | exc x ρ => rw [e] at h; cases h
      | stuck => rw [e] at h; cases h
    · cases h
def othD : D → Bool
  | .non => true
  | .bl _ => true
  | .int _ => true
  | .str _ => true
  | .lst _ => true
  | .tup _ => true
  | _ => false
def eqC (T : EqTab) : Nat → D → D → Option Bool
  | 0, _, _ => none
  | n + 1, x, y => match x.view, y.view with
    | .lst xs, .lst ys => if xs.length = ys.length then eqAll (eqC T n) xs ys else some false
    | .tup xs, .tup ys => (eqAll (eqC T n) xs ys).map fun b => b && xs.length == ys.length
    | .ins c fs, .ins c' gs => if c = c' then insEq T c fs (.ins c' gs) else none
    | .ins c fs, b => if othD b then insEq T c fs b else none
    | a, .ins c gs => if othD a then insEq T c gs a else none
    | a, b => eqN (n + 1) a b
/-- of the same thing it says True -/
def ReflE (g : Gb) (c : Str) (fn : List O → R) (pf : List (Str × D) → Bool) : Prop := ∀ (X : Cx) (H S : Hp) (s : Shared) (pins : List (Addr × Obj)) (σ : L2.St) (fs gs : List (Str × D)) (v : V) (b : Bool) (ρ : En), L2.Inv X pins σ H s → X.K = g.K → Sub S H → pf fs = true → Rep g S (.ins c fs) v → Rep g S (.ins c gs) v → fn [.sh (.ins c fs), .sh (.ins c gs)] = .ok (.sh (.bl b)) ρ → b = true
def tyNames : List String := ["NoneType", "bool", "int", "str", "list", "tuple"]
structure EqAp (g : Gb) (c : Str) : Prop where
  l : ∀ T ∈ tyNames, PySem.W.subIn g.K (.type T) (.ref (g.cn c)) = some false
  r : ∀ T ∈ tyNames, PySem.W.subIn g.K (.ref (g.cn c)) (.type T) = some false
  n : PySem.W.findIn g.K (.ref (g.cn c)) "__ne__" = some (some (.builtin "object.__ne__"))
  o : PySem.W.mroIn g.K (g.cn c) (.type "object") = some true
def EqOk (P : Program) (w : World) (mg : Str → Option Value) (base : Heap) (g : Gb) (k : Nat) (T : EqTab) : Prop :=
  ∀ c fn pf, T.lookup c = some (fn, pf) → Met0 P w mg base g k c "__eq__" 2 fn ∧ EqAp g c ∧ ReflE g c fn pf
theorem EqOk.nil {P : Program} {w : World} {mg : Str → Option Value} {base : Heap} {g : Gb} {k : Nat} : EqOk P w mg base g k [] := fun _ _ _ h => by cases h
theorem EqOk.cons {P : Program} {w : World} {mg : Str → Option Value} {base : Heap} {g : Gb} {k n : Nat} {c : Str} {fn : List O → R} {pf : List (Str × D) → Bool} {T : EqTab} (h : Met P w mg base g k c "__eq__" n [] fn) (e : n = 2) (a : EqAp g c) (r : ReflE g c fn pf) (t : EqOk P w mg base g k T) : EqOk P w mg base g k ((c, fn, pf) :: T) := fun c' fn' pf' q => by
  subst e
  unfold List.lookup at q
  split at q
  · rename_i z
    cases q
    have z : c' = c := by simpa using z
    subst z
    exact ⟨h.zero, a, r⟩
  · exact t _ _ _ q
section
variable {X : Cx} {g : Gb} {W : WX} {Z : Zn} {S S' H H' : Hp} {τ τ' : List V} {θ θ' : List O} {σ σ' : Sg} {ρ : En} {Q Q' : VK} {T : EqTab} {k : Nat} {pins : List (Addr × Obj)} {s : Shared}
/-- where the walk stands after a comparison -/
def At (X : Cx) (g : Gb) (Z : Zn) (pins : List (Addr × Obj)) (σi : L2.St) (τ : List V) (θ : List O) (σ : Sg) (ρ : En) (S : Hp) (s' : Shared) : Prop := ∃ S' H', Ex S S' ∧ St g Z S' H' τ θ σ ρ ∧ L2.Inv X pins σi H' s'
theorem eqC_same (ok : ∀ c fn pf, T.lookup c = some (fn, pf) → ReflE g c fn pf) (I : L2.Inv X pins σ H s) (hK : X.K = g.K) (sb : Sub S H) : ∀ (n : Nat) (x y : D) (v : V) (b : Bool), Rep g S x v → Rep g S y v → eqC T n x y = some b → b = true
  | 0, _, _, _, _, _, _, h => by cases h
  | n + 1, x, y, v, b, rx, ry, h => by
    have rx := rx.view
    have ry := ry.view
    unfold eqC at h
    have all : ∀ {xs ys : List D} {vs : List V} {b : Bool}, Reps g S xs vs → Reps g S ys vs → eqAll (eqC T n) xs ys = some b → b = true := by
      intro xs
      induction xs with
      | nil => intro ys vs b _ _ h; cases ys <;> (cases h; rfl)
      | cons x xs ih =>
        intro ys vs b r1 r2 h
        cases ys with
        | nil => cases h; rfl
        | cons y ys =>
          obtain ⟨v, r, e, a, r1⟩ := r1
          subst e
          obtain ⟨v', r', e, a', r2⟩ := r2
          cases e
          unfold eqAll at h
          cases h1 : eqC T n x y with
          | none => rw [h1] at h; cases h
          | some c =>
            rw [h1] at h
            cases h2 : eqAll (eqC T n) xs ys with
            | none => rw [h2] at h; cases h
            | some d =>
              rw [h2] at h
              cases h
              rw [eqC_same ok I hK sb n x y v c a a' h1, ih r1 r2 h2]
              rfl
    have ins : ∀ {c : Str} {fs gs : List (Str × D)} {b : Bool}, Rep g S (.ins c fs) v → Rep g S (.ins c gs) v → insEq T c fs (.ins c gs) = some b → b = true := fun {c fs gs b} ra rb h => by
      obtain ⟨fn, pf, ρ0, hl, hp, e0⟩ := insEq_some h
      exact ok c fn pf hl X H S s pins σ fs gs v b ρ0 I hK sb hp ra rb e0
    have oth : ∀ {c : Str} {fs : List (Str × D)} {d : D}, Rep g S (.ins c fs) v → Rep g S d v → othD d = true → False := fun {c fs d} ra rb hd => by
      obtain ⟨a, dx, fvs, rfl, h1, _⟩ := ra
      cases d with
      | non => cases rb
      | bl _ => cases rb
      | int _ => cases rb
      | str _ => cases rb
      | lst ds =>
        obtain ⟨a2, vs, e, h2, _⟩ := rb
        cases e
        rw [h1] at h2
        cases h2
      | tup ds =>
        obtain ⟨a2, vs, e, h2, _⟩ := rb
        cases e
        rw [← hK] at h2
        obtain ⟨us, _, p, _⟩ := I.tuple (sb.sqT h2)
        obtain ⟨mA, O, _⟩ := ins_get I.hok (sb _ _ h1)
        obtain ⟨o, ho, hc, _⟩ := p
        rw [O.obj] at ho
        cases ho
        cases hc
      | _ => cases hd
    split at h
    · rename_i xs ys ex ey
      rw [ex] at rx; rw [ey] at ry
      obtain ⟨a, vs, rfl, h1, r1⟩ := rx
      obtain ⟨a2, vs2, e2, h2, r2⟩ := ry
      cases e2
      rw [h1] at h2
      cases h2
      rw [if_pos (r1.len.symm.trans r2.len)] at h
      exact all r1 r2 h
    · rename_i xs ys ex ey
      rw [ex] at rx; rw [ey] at ry
      obtain ⟨a, vs, rfl, h1, r1⟩ := rx
      obtain ⟨a2, vs2, e2, h2, r2⟩ := ry
      cases e2
      rw [← hK] at h1 h2
      have e := sqT_inj I (sb.sqT h1) (sb.sqT h2)
      subst e
      cases h3 : eqAll (eqC T n) xs ys with
      | none => rw [h3] at h; cases h
      | some c =>
        rw [h3] at h
        cases h
        rw [all r1 r2 h3, ← r1.len, ← r2.len]
        simp
    · rename_i c fs c' gs ex ey
      rw [ex] at rx; rw [ey] at ry
      split at h
      · rename_i hc
        subst hc
        exact ins rx ry h
      · cases h
    · rename_i c fs ex hn
      rw [ex] at rx
      split at h
      · rename_i ho
        exact (oth rx ry ho).elim
      · cases h
    · rename_i c gs ey hn
      rw [ey] at ry
      split at h
      · rename_i ho
        exact (oth ry rx ho).elim
      · cases h
    · exact eqN_same I hK sb (n + 1) _ _ v b rx ry h
variable {A : Around} {x y : V} {u v : Value} {dx dy : D} {b : Bool} {c : Str} {fs gs : List (Str × D)} {fn : List O → R}
/-- the own == runs -/
theorem own_run (ok : EqOk X.prog X.w X.mg X.base g k T) (hK : X.K = g.K) (tk : Takes X W) {a : Addr} (hr : Room k A) (hgd : A.guards = some []) (fr : A.frames = X.A.frames) (I : L2.Inv X pins σ' H s) (st : St g Z S H τ θ σ ρ)
    (ra : Rep g S (.ins c fs) (.ref a)) (rb : Rep g S dy y) (rv : RelV y v) (h : insEq T c fs dy = some b) :
    ∃ f, PySem.W.findIn X.K (.ref (g.cn c)) "__eq__" = some (some (.ref f)) ∧ PySem.W.isFn X.K (.ref f) = true ∧
      wpAny (model X.prog X.w) A (call (.ref f) [.ref a, v]) (PySem.W.CmpBack fun r s' => r = .bool b ∧ At X g Z pins σ' τ θ σ ρ S s') X.xe s := by
  obtain ⟨fn, pf, ρ0, hl, _, e⟩ := insEq_some h
  obtain ⟨⟨f, fd, ps, F, hm, hb, _⟩, _, _⟩ := ok c fn pf hl
  rw [← hK] at F hm hb
  refine ⟨f, hm.at_, hm.fn, ?_⟩
  have e0 : Env0 X.prog X.w X.K X.mg X.base A X.stack s H := by
    have e := I.env0
    exact ⟨by rw [fr]; exact e.frames, e.mod, e.bs, e.bsz, e.funs, e.frf, e.hok, e.bare⟩
  have sp : spD g 2 fn [V.ref a, y] H (fun z H' => z = .bl b ∧ ∃ S', Ex S S' ∧ St g Z S' H' τ θ σ ρ) noX := by
    refine call_sp (W := WN) (ds := [.ins c fs, dy]) st ⟨_, _, rfl, ra, _, _, rfl, rb, rfl⟩ rfl (fun _ _ _ h => h) ?_
    show PostR g WN Z S τ θ σ (after (fn [.sh (.ins c fs), .sh dy]) ρ) _
    rw [e]
    intro z S' H' ex st'
    obtain ⟨S2, e2, st2, rz⟩ := st'.pop
    exact ⟨rz, S2, ex.trans e2, st2⟩
  refine wpAny_mono (run_fnWA (A := A) (us := [.ref a, v]) (vs := [.ref a, y]) F hr hgd e0 hb .nil (passNo tk) I (.cons rfl (.cons rv .nil)) sp) (fun r s' q => ?_) fun _ _ q => q
  obtain ⟨z, H', I', rz, rfl, S', ex, st'⟩ := q
  cases (show r = Value.bool b from rz)
  exact ⟨rfl, S', H', ex, st', I'⟩
theorem rep_obj {a : Addr} (I : L2.Inv X pins σ' H s) (sb : Sub S H) (ra : Rep g S (.ins c fs) (.ref a)) : ∃ dx, s.heap.get? a = some (PySem.W.instObj (g.cn c) dx) ∧ ∃ ox od, PySem.W.InstAt s.heap a ox (g.cn c) od := by
  obtain ⟨a', dx, fvs, e, h1, h2, r⟩ := ra
  cases e
  obtain ⟨mA, O, _⟩ := ins_get I.hok (sb _ _ h1)
  exact ⟨dx, O.obj, ins_at I (sb _ _ h1)⟩
theorem own_left (ok : EqOk X.prog X.w X.mg X.base g k T) (hK : X.K = g.K) (tk : Takes X W) {a : Addr} {tb : Value} (hu : A.units < cLine) (hr : Room k A) (hgd : A.guards = some []) (fr : A.frames = X.A.frames) (I : L2.Inv X pins σ' H s) (st : St g Z S H τ θ σ ρ)
    (ra : Rep g S (.ins c fs) (.ref a)) (rb : Rep g S dy y) (rv : RelV y v) (h : insEq T c fs dy = some b)
    (hb : PySem.W.Looks (model X.prog X.w) s.heap (typeOf v) tb) (hn : PySem.W.notFirst X.K (g.cn c) tb = true) :
    wpAny (model X.prog X.w) A (richCompare .Eq (.ref a) v) (fun r s' => r = .bool b ∧ At X g Z pins σ' τ θ σ ρ S s') X.xe s := by
  obtain ⟨f, h1, h2, h3⟩ := own_run ok hK tk hr hgd fr I st ra rb rv h
  obtain ⟨dx, _, ox, od, J⟩ := rep_obj I st.sub ra
  obtain ⟨m, hF⟩ := I.fr
  exact PySem.W.cmp_K (op := .Eq) hu hF I.ok.mod.kin J hb hn h1 h2 h3
theorem notFirst_ty {K : PySem.W.Frag} {C : Addr} {N : String} (h : PySem.W.subIn K (.type N) (.ref C) = some false) : PySem.W.notFirst K C (.type N) = true := by
  unfold PySem.W.notFirst
  rw [h]
  rfl
theorem own_flat (ok : EqOk X.prog X.w X.mg X.base g k T) (hK : X.K = g.K) (tk : Takes X W) {a : Addr} (hu : A.units < cLine) (hr : Room k A) (hgd : A.guards = some []) (fr : A.frames = X.A.frames) (I : L2.Inv X pins σ' H s) (st : St g Z S H τ θ σ ρ)
    (ra : Rep g S (.ins c fs) (.ref a)) (rb : Rep g S dy y) (rv : RelV y v) (h : insEq T c fs dy = some b) (ho : othD dy = true) :
    wpAny (model X.prog X.w) A (richCompare .Eq (.ref a) v) (fun r s' => r = .bool b ∧ At X g Z pins σ' τ θ σ ρ S s') X.xe s ∧ wpAny (model X.prog X.w) A (richCompare .Eq v (.ref a)) (fun r s' => r = .bool b ∧ At X g Z pins σ' τ θ σ ρ S s') X.xe s := by
  obtain ⟨fn, pf, ρ0, hl, _⟩ := insEq_some h
  obtain ⟨_, ap, _⟩ := ok c fn pf hl
  obtain ⟨f, h1, h2, h3⟩ := own_run ok hK tk hr hgd fr I st ra rb rv h
  obtain ⟨dx, hx, ox, od, J⟩ := rep_obj I st.sub ra
  obtain ⟨m, hF⟩ := I.fr
  have ml : ∀ N ∈ tyNames, PySem.W.notFirst X.K (g.cn c) (.type N) = true := fun N hN => notFirst_ty (by rw [hK]; exact ap.l N hN)
  have mr : ∀ N ∈ tyNames, PySem.W.subIn X.K (.ref (g.cn c)) (.type N) = some false := fun N hN => by rw [hK]; exact ap.r N hN
  have X0 := I.ok.mod.kin.keeps hF.keep
  cases dy with
  | non =>
    cases rb; cases rv
    exact ⟨own_left ok hK tk hu hr hgd fr I st ra (dy := .non) rfl rfl h .now (ml "NoneType" (by decide)),
      DLq.rc_back (T := "NoneType") hu hF I.ok.mod.kin J rfl (mr _ (by decide)) F.slot_NoneType_eq F.entry_NoneType_eq (F.args_NoneType_eq_2 _ _) (DLq.dec_non ⟨rfl, rfl⟩) h1 h2 h3⟩
  | bl z =>
    cases rb; cases rv
    exact ⟨own_left ok hK tk hu hr hgd fr I st ra (dy := .bl z) rfl rfl h .now (ml "bool" (by decide)),
      DLq.rc_back (T := "bool") hu hF I.ok.mod.kin J rfl (mr _ (by decide)) F.slot_bool_eq F.entry_int_eq (F.args_int_eq_2 _ _) (DLq.dec_bool hx ⟨rfl, rfl⟩) h1 h2 h3⟩
  | int z =>
    cases rb; obtain ⟨t, rfl⟩ := rv
    exact ⟨own_left ok hK tk hu hr hgd fr I st ra (dy := .int z) rfl ⟨t, rfl⟩ h .now (ml "int" (by decide)),
      DLq.rc_back (T := "int") hu hF I.ok.mod.kin J rfl (mr _ (by decide)) F.slot_int_eq F.entry_int_eq (F.args_int_eq_2 _ _) (DLq.dec_int hx ⟨rfl, rfl⟩) h1 h2 h3⟩
  | str z =>
    cases rb; obtain ⟨t, rfl⟩ := rv
    exact ⟨own_left ok hK tk hu hr hgd fr I st ra (dy := .str z) rfl ⟨t, rfl⟩ h .now (ml "str" (by decide)),
      DLq.rc_back (T := "str") hu hF I.ok.mod.kin J rfl (mr _ (by decide)) F.slot_str_eq F.entry_str_eq (F.args_str_eq_2 _ _) (DLq.dec_str hx ⟨rfl, rfl⟩) h1 h2 h3⟩
  | lst zs =>
    have rb0 := rb
    obtain ⟨l, vs, rfl, hl1, rr⟩ := rb
    cases (show v = Value.ref l from rv)
    obtain ⟨z, its, n, r, e⟩ := I.hok l _ (st.sub _ _ hl1)
    exact ⟨own_left ok hK tk hu hr hgd fr I st ra (dy := .lst zs) rb0 rfl h (PySem.W.Looks.ld e |>.andThen .now) (ml "list" (by decide)),
      DLq.rc_back (T := "list") hu hF I.ok.mod.kin J ⟨_, e, rfl⟩ (mr _ (by decide)) F.slot_list_eq F.entry_list_eq (F.args_list_eq_2 _ _) (DLq.dec_lst hx (fun hz q => (PySem.W.looks_subIn (hz ▸ X0) (mr "list" (by decide))).here q) ⟨rfl, rfl⟩) h1 h2 h3⟩
  | tup zs =>
    have rb0 := rb
    obtain ⟨l, vs, rfl, hl1, rr⟩ := rb
    cases (show v = Value.ref l from rv)
    rw [← hK] at hl1
    obtain ⟨its, r, e, z⟩ := I.tuple (st.sub.sqT hl1)
    obtain ⟨⟨c1, d1, a1, s1⟩, ho, hc, n, hd⟩ := id e
    simp only at hc hd
    subst hc hd
    exact ⟨own_left ok hK tk hu hr hgd fr I st ra (dy := .tup zs) rb0 rfl h (PySem.W.Looks.ld ho |>.andThen .now) (ml "tuple" (by decide)),
      DLq.rc_back (T := "tuple") hu hF I.ok.mod.kin J ⟨_, ho, rfl⟩ (mr _ (by decide)) F.slot_tuple_eq F.entry_tuple_eq (F.args_tuple_eq_2 _ _) (DLq.dec_tup hx (fun hz q => (PySem.W.looks_subIn (hz ▸ X0) (mr "tuple" (by decide))).here q) ⟨rfl, rfl⟩) h1 h2 h3⟩
  | _ => cases ho
/-- a comparison that runs code, with room for n levels -/
abbrev RcD (X : Cx) (g : Gb) (T : EqTab) (k n : Nat) : Prop := ∀ (A : Around) (pins : List (Addr × Obj)) (s : Shared) (σ σ' : Sg) (H S : Hp) (Z : Zn) (τ : List V) (θ : List O) (ρ : En) (x y : V) (u v : Value) (dx dy : D) (b : Bool),
  Room (k + n) A → A.guards = some [] → A.frames = X.A.frames → L2.Inv X pins σ' H s → St g Z S H τ θ σ ρ → Rep g S dx x → Rep g S dy y → RelV x u → RelV y v → eqC T n dx dy = some b →
    wpAny (model X.prog X.w) A (richCompare .Eq u v) (fun r s' => r = .bool b ∧ At X g Z pins σ' τ θ σ ρ S s') X.xe s
abbrev EbD (X : Cx) (g : Gb) (T : EqTab) (k n : Nat) : Prop := ∀ (A : Around) (pins : List (Addr × Obj)) (s : Shared) (σ σ' : Sg) (H S : Hp) (Z : Zn) (τ : List V) (θ : List O) (ρ : En) (x y : V) (u v : Value) (dx dy : D) (b : Bool),
  Room (k + n) A → A.guards = some [] → A.frames = X.A.frames → L2.Inv X pins σ' H s → St g Z S H τ θ σ ρ → Rep g S dx x → Rep g S dy y → RelV x u → RelV y v → eqC T n dx dy = some b →
    wpAny (model X.prog X.w) A (eqBool u v) (fun r s' => r = b ∧ At X g Z pins σ' τ θ σ ρ S s') X.xe s
theorem At.refl (I : L2.Inv X pins σ' H s) (st : St g Z S H τ θ σ ρ) : At X g Z pins σ' τ θ σ ρ S s := ⟨S, H, Ex.refl _, st, I⟩
theorem eqC_flat {n : Nat} (hx : ∀ a, x ≠ .ref a) (hy : ∀ a, y ≠ .ref a) (rx : Rep g S dx x) (ry : Rep g S dy y) (h : eqC T n dx dy = some b) : eqN n dx.view dy.view = some b := by
  cases n with
  | zero => cases h
  | succ n =>
    have rx := rx.view
    have ry := ry.view
    unfold eqC at h
    split at h
    · rename_i ex ey
      rw [ex] at rx
      obtain ⟨a, vs, e, _⟩ := rx
      exact absurd e (hx a)
    · rename_i ex ey
      rw [ex] at rx
      obtain ⟨a, vs, e, _⟩ := rx
      exact absurd e (hx a)
    · rename_i ex ey
      rw [ex] at rx
      obtain ⟨a, _, vs, e, _⟩ := rx
      exact absurd e (hx a)
    · rename_i ex _
      rw [ex] at rx
      obtain ⟨a, _, vs, e, _⟩ := rx
      exact absurd e (hx a)
    · rename_i ey _
      rw [ey] at ry
      obtain ⟨a, _, vs, e, _⟩ := ry
      exact absurd e (hy a)
    · exact h
/-- == inside a list -/
theorem eb_of (ok : EqOk X.prog X.w X.mg X.base g k T) (hK : X.K = g.K) {n : Nat} (h : RcD X g T k n) : EbD X g T k n := by
  intro A pins s σ σ' H S Z τ θ ρ x y u v dx dy b hr hgd fr I st rx ry ru rv e
  have ih := h A pins s σ σ' H S Z τ θ ρ x y u v dx dy b hr hgd fr I st rx ry ru rv e
  by_cases hr2 : ∃ a c, u = .ref a ∧ v = .ref c
  · obtain ⟨a, c, rfl, rfl⟩ := hr2
    by_cases hac : a = c
    · subst hac
      have := relV_inj ru rv
      subst this
      have eb := eqC_same (fun c fn pf q => (ok c fn pf q).2.2) I hK st.sub n dx dy x b rx ry e
      subst eb
      exact SeqAt.EqAt.same (A := A) (s := s) (.ref a) X.prog X.w X.xe _ ⟨rfl, At.refl I st⟩
    · exact GQ.eqBool_refG hac (wpAny_mono ih (fun r s' q => ⟨b, q.1, rfl, q.2⟩) fun _ _ x => x)
  · by_cases hfl : (∃ c, u = .ref c) ∨ ∃ c, v = .ref c
    · have hne : (u == v) = false := by
        rcases hfl with ⟨c, rfl⟩ | ⟨c, rfl⟩
        · cases v <;> first | rfl | (exfalso; exact hr2 ⟨_, _, rfl, rfl⟩)
        · cases u <;> first | rfl | (exfalso; exact hr2 ⟨_, _, rfl, rfl⟩)
      unfold eqBool
      refine wpAny_holding ?_
      refine wpAny_ite_split (fun hab => by rw [hne] at hab; cases hab) (fun _ => ?_)
      have fin : wpAny (model X.prog X.w) A (richCompare .Eq u v >>= fun r => truthOfDropped r) (fun r s' => r = b ∧ At X g Z pins σ' τ θ σ ρ S s') X.xe s := by
        refine wpAny_bind (wpAny_mono ih (fun r s' hv => ?_) fun _ _ x => x)
        obtain ⟨rfl, q⟩ := hv
        exact wpAny_truthy_bool ⟨rfl, q⟩
      rcases hfl with ⟨c, rfl⟩ | ⟨c, rfl⟩
      · exact fin
      · cases u <;> exact fin
    · have e2 := eqC_flat (fun a z => by
        subst z
        exact hfl (.inl ⟨_, ru⟩)) (fun a z => by
        subst z
        exact hfl (.inr ⟨_, rv⟩)) rx ry e
      have q := eqN_at I hK st.sub n A (by have := hr.un; omega) _ _ x y u v b rx.view ry.view ru rv e2
      exact q _ _ ⟨rfl, At.refl I st⟩
/-- where the loop over two lists stands -/
theorem list_of {a : Addr} {vs : List V} (I : L2.Inv X pins σ' H s) (h : H a = some (.lst vs)) : ∃ (its : List Value) (n : Nat), Vals vs its ∧ s.heap.get? a = some { cls := .type "list", data := .seq its.toArray n } := by
  obtain ⟨z, its, n, r, e⟩ := I.hok a _ h
  exact ⟨its, n, r, e⟩
theorem vals_at {vs : List V} {its : List Value} {i : Nat} (r : Vals vs its) (h : i < its.toArray.size) : ∃ v, vs[i]? = some v ∧ RelV v its.toArray[i] := by
  have l1 : i < vs.length := by rw [r.length]; simpa using h
  obtain ⟨w, c, e⟩ := r.get (List.getElem?_eq_getElem l1)
  have : its.toArray[i] = w := by
    have q : its[i]? = some w := c
    rw [List.getElem?_eq_getElem (by simpa using h)] at q
    simpa using q
  exact ⟨_, List.getElem?_eq_getElem l1, by rw [this]; exact e⟩
theorem rcD_zero : RcD X g T k 0 := fun A pins s σ σ' H S Z τ θ ρ x y u v dx dy b hr hgd fr I st rx ry ru rv e => by cases e
theorem range_all_false {n i : Nat} {t : Nat → Bool} (hi : i < n) (h : t i = false) : (List.range n).all t = false := by
  rw [List.all_eq_false]
  exact ⟨i, List.mem_range.mpr hi, by rw [h]; decide⟩
theorem range_all_true {n : Nat} {t : Nat → Bool} (h : ∀ i, i < n → t i = true) : (List.range n).all t = true := List.all_eq_true.mpr fun i m => h i (List.mem_range.mp m)
theorem rcD_succ (ok : EqOk X.prog X.w X.mg X.base g k T) (hK : X.K = g.K) (tk : Takes X W) {n : Nat} (ih : EbD X g T k n) : RcD X g T k (n + 1) := by
  intro A pins s σ σ' H S Z τ θ ρ x y u v dx dy b hr hgd fr I st rx ry ru rv e
  have rx := rx.view
  have ry := ry.view
  have hr1 : Room (k + n) A.in1 := Room.in1 (k := k + n) (by rw [Nat.add_assoc]; exact hr)
  have hu : A.units < cLine := hr.units0
  unfold eqC at e
  split at e
  · rename_i xs ys ex ey
    rw [ex] at rx; rw [ey] at ry
    obtain ⟨a, vs, rfl, h1, r1⟩ := rx
    obtain ⟨a2, vs2, rfl, h2, r2⟩ := ry
    cases ru; cases rv
    obtain ⟨its, n1, w1, e1⟩ := list_of I (st.sub _ _ h1)
    obtain ⟨its2, n2, w2, e2⟩ := list_of I (st.sub _ _ h2)
    have l1 : its.toArray.size = xs.length := by rw [List.size_toArray, ← w1.length, r1.len]
    have l2 : its2.toArray.size = ys.length := by rw [List.size_toArray, ← w2.length, r2.len]
    split at e
    · rename_i hl
      obtain ⟨t, q1, q2⟩ := eqAll_get e
      rw [← hl, Nat.min_self] at q2
      have two : ∀ z, At X g Z pins σ' τ θ σ ρ S z → ∃ (us ws : Array Value) (n m : Nat), z.heap.get? a = some { cls := .type "list", data := .seq us n } ∧ z.heap.get? a2 = some { cls := .type "list", data := .seq ws m } ∧ us.size = xs.length ∧ ws.size = xs.length := by
        rintro z ⟨S', H', ex, st', I'⟩
        obtain ⟨us, m1, w3, e3⟩ := list_of I' (st'.sub _ _ (ex.lst h1))
        obtain ⟨ws, m2, w4, e4⟩ := list_of I' (st'.sub _ _ (ex.lst h2))
        exact ⟨us.toArray, ws.toArray, m1, m2, e3, e4, by rw [List.size_toArray, ← w3.length, r1.len], by rw [List.size_toArray, ← w4.length, r2.len, hl]⟩
      refine DLq.rcJ (N := xs.length) hu t (fun i z => (∀ j, j < i → t j = true) ∧ At X g Z pins σ' τ θ σ ρ S z) (fun z => (∃ j, j < xs.length ∧ t j = false) ∧ At X g Z pins σ' τ θ σ ρ S z) (fun i z q => ?_) (fun z q => two z q.2) (fun z q => ⟨?_, q.2⟩) (fun z q => ⟨?_, q.2⟩) ⟨fun j h => absurd h (Nat.not_lt_zero _), At.refl I st⟩
      · obtain ⟨qa, S', H', ex, st', I'⟩ := q
        obtain ⟨us, m1, w3, e3⟩ := list_of I' (st'.sub _ _ (ex.lst h1))
        obtain ⟨ws, m2, w4, e4⟩ := list_of I' (st'.sub _ _ (ex.lst h2))
        refine ⟨us.toArray, ws.toArray, m1, m2, e3, e4, by rw [List.size_toArray, ← w3.length, r1.len], by rw [List.size_toArray, ← w4.length, r2.len, hl], fun k1 k2 => ?_⟩
        obtain ⟨v1, g1, rv1⟩ := vals_at w3 k1
        obtain ⟨v2, g2, rv2⟩ := vals_at w4 k2
        obtain ⟨d1, f1, rr1⟩ := r1.getV g1
        obtain ⟨d2, f2, rr2⟩ := r2.getV g2
        have il : i < xs.length := (List.getElem?_eq_some_iff.mp f1).1
        refine wpAny_mono (ih A.in1 pins z σ σ' H' S' Z τ θ ρ v1 v2 _ _ d1 d2 (t i) hr1 hgd fr I' st' (Rep.mono ex _ _ rr1) (Rep.mono ex _ _ rr2) rv1 rv2 (q1 i d1 d2 f1 f2)) (fun r s' q => ?_) fun _ _ q => q
        obtain ⟨rfl, S2, H2, ex2, st2, I2⟩ := q
        refine ⟨rfl, fun ht => ⟨fun j hj => ?_, S2, H2, ex.trans ex2, st2, I2⟩, fun ht => ⟨⟨i, il, ht⟩, S2, H2, ex.trans ex2, st2, I2⟩⟩
        by_cases z : j = i
        · rw [z]; exact ht
        · exact qa j (by omega)
      · rw [q2, range_all_true q.1]
      · obtain ⟨⟨j, hj, hf⟩, _⟩ := q
        rw [q2, range_all_false hj hf]
    · rename_i hl
      cases e
      exact DLq.rcJN hu e1 e2 (by rw [l1, l2]; exact hl) ⟨rfl, At.refl I st⟩
  · rename_i xs ys ex ey
    rw [ex] at rx; rw [ey] at ry
    obtain ⟨a, vs, rfl, h1, r1⟩ := rx
    obtain ⟨a2, vs2, rfl, h2, r2⟩ := ry
    cases ru; cases rv
    have h1' := h1
    have h2' := h2
    rw [← hK] at h1' h2'
    obtain ⟨its, w1, e1, _⟩ := I.tuple (st.sub.sqT h1')
    obtain ⟨its2, w2, e2, _⟩ := I.tuple (st.sub.sqT h2')
    have l1 : its.toArray.size = xs.length := by rw [List.size_toArray, ← w1.length, r1.len]
    have l2 : its2.toArray.size = ys.length := by rw [List.size_toArray, ← w2.length, r2.len]
    cases h3 : eqAll (eqC T n) xs ys with
    | none => rw [h3] at e; cases e
    | some c =>
      rw [h3] at e
      cases e
      obtain ⟨t, q1, q2⟩ := eqAll_get h3
      refine DLq.rcJT hu t (fun i z => (∀ j, j < i → t j = true) ∧ At X g Z pins σ' τ θ σ ρ S z) (fun z => (∃ j, j < min xs.length ys.length ∧ t j = false) ∧ At X g Z pins σ' τ θ σ ρ S z) e1 e2 (fun i k1 k2 z q => ?_) (fun z q => ⟨?_, q.2⟩) (fun z q => ⟨?_, q.2⟩) ⟨fun j h => absurd h (Nat.not_lt_zero _), At.refl I st⟩
      · obtain ⟨qa, S', H', ex, st', I'⟩ := q
        obtain ⟨v1, g1, rv1⟩ := vals_at w1 k1
        obtain ⟨v2, g2, rv2⟩ := vals_at w2 k2
        obtain ⟨d1, f1, rr1⟩ := r1.getV g1
        obtain ⟨d2, f2, rr2⟩ := r2.getV g2
        have il : i < xs.length := (List.getElem?_eq_some_iff.mp f1).1
        have il2 : i < ys.length := (List.getElem?_eq_some_iff.mp f2).1
        refine wpAny_mono (ih A.in1 pins z σ σ' H' S' Z τ θ ρ v1 v2 _ _ d1 d2 (t i) hr1 hgd fr I' st' (Rep.mono ex _ _ rr1) (Rep.mono ex _ _ rr2) rv1 rv2 (q1 i d1 d2 f1 f2)) (fun r s' q => ?_) fun _ _ q => q
        obtain ⟨rfl, S2, H2, ex2, st2, I2⟩ := q
        refine ⟨rfl, fun ht => ⟨fun j hj => ?_, S2, H2, ex.trans ex2, st2, I2⟩, fun ht => ⟨⟨i, by omega, ht⟩, S2, H2, ex.trans ex2, st2, I2⟩⟩
        by_cases z : j = i
        · rw [z]; exact ht
        · exact qa j (by omega)
      · rw [l1, l2] at q ⊢
        rw [q2, range_all_true q.1]
        simp
      · obtain ⟨⟨j, hj, hf⟩, _⟩ := q
        rw [q2, range_all_false hj hf]
        simp
  · rename_i c fs c' gs ex ey
    rw [ex] at rx; rw [ey] at ry
    split at e
    · rename_i hc
      subst hc
      have rx0 := rx
      have ry0 := ry
      obtain ⟨a, d1, f1, rfl, _⟩ := rx
      obtain ⟨a2, d2, f2, rfl, _⟩ := ry
      cases ru; cases rv
      obtain ⟨_, _, ox, od, J⟩ := rep_obj I st.sub ry0
      exact own_left ok hK tk hu (hr.mono (by omega)) hgd fr I st rx0 ry0 rfl e J.type (by simp [PySem.W.notFirst])
    · cases e
  · rename_i c fs ex hn
    rw [ex] at rx
    split at e
    · rename_i ho
      have rx0 := rx
      obtain ⟨a, d1, f1, rfl, _⟩ := rx
      cases ru
      exact (own_flat ok hK tk hu (hr.mono (by omega)) hgd fr I st rx0 ry rv e ho).1
    · cases e
  · rename_i c gs ey hn
    rw [ey] at ry
    split at e
    · rename_i ho
      have ry0 := ry
      obtain ⟨a, d1, f1, rfl, _⟩ := ry
      cases rv
      exact (own_flat ok hK tk hu (hr.mono (by omega)) hgd fr I st ry0 rx ru e ho).2
    · cases e
  · have q := (eqR_at I hK st.sub (A := A) (n := n) hu (fun x y vx vy v u c r1 r2 r3 r4 hc => eqN_at I hK st.sub n A.in1 (by have := hr.un; show A.units + 1 + n < cLine; omega) x y vx vy v u c r1 r2 r3 r4 hc) e rx ry ru rv X.xe (fun r s' => r = .bool b ∧ At X g Z pins σ' τ θ σ ρ S s')).1 ⟨rfl, At.refl I st⟩
    exact q
theorem rcD_all (ok : EqOk X.prog X.w X.mg X.base g k T) (hK : X.K = g.K) (tk : Takes X W) : ∀ n, RcD X g T k n
  | 0 => rcD_zero
  | n + 1 => rcD_succ ok hK tk (eb_of ok hK (rcD_all ok hK tk n))
end
end DL
set_option Elab.async false
set_option linter.all false
set_option maxRecDepth 100000
set_option autoImplicit false
/-! DLQ3: ==, !=, in by own ==, lifted. -/
namespace DLq
open PySem PySem.SeqAt PySem.W
open GQ (FinOf call_here)
open MeetsSeq MeetsSeq2 MeetsSeq3 SeqRoads2
section
variable {prog : Program} {w : World} {A : Around} {E : Value → Shared → Prop} {s : Shared} {x C L f : Addr} {K : W.Frag} {ox : Obj} {od : Option Obj} {h₀ : Heap} {m : Str → Option Value}
theorem check_ne {M : Model} {v : Value} {Q : Unit → Shared → Prop} (Lk : Looks M s.heap (isInstance (.ref x) (.type "object")) true) (hq : Q () s) : wpAny M A (checkBuiltinCall "object.__ne__" ⟨[.ref x, v], []⟩) Q E s := by
  have ha := F.cmpArgs_ne (.ref x) v
  simp only [checkBuiltinCall, F.cmpKind_ne, F.cmpSplit_ne]
  refine wpAny_bind (Lk.here ?_)
  cases hsig : Manifest.signature? "object.__ne__" with
  | none => exact wpAny_pure hq
  | some sig =>
    unfold argsOk at ha
    rw [hsig] at ha
    have h2 : Bind.checkArgs "object.__ne__" sig ⟨[.ref x, v], []⟩ = pure () := ha
    show wpAny M A (Bind.checkArgs "object.__ne__" sig ⟨[.ref x, v], []⟩) Q E _
    rw [h2]
    exact wpAny_pure hq
theorem bound_ne {M : Model} {args : List Value} {Q : Option Value → Shared → Prop} (X : K.In s.heap) (I : InstAt s.heap x ox C od) (hs : findIn K (.ref C) "__ne__" = some (some (.builtin "object.__ne__")))
    (h : wpAny M A (call (.builtin "object.__ne__") (.ref x :: args)) (fun v => Q (some v)) E s) : wpAny M A (callSpecialIfBound? (.ref x) "__ne__" args) Q E s := by
  simp only [callSpecialIfBound?, bindSpecialIfBound?]
  refine wpAny_holding (wpAny_bind (wpAny_bind (wpAny_bind (I.type.here ((looks_findIn X hs).here ?_)))))
  have S : bindSpecial (.builtin "object.__ne__") (.ref x) = pure (.builtin "object.__ne__", [.ref x]) := by
    unfold bindSpecial
    have : typeOf (.builtin "object.__ne__") = pure (.type "wrapper_descriptor") := by kernel_rfl
    rw [this]
    rfl
  simp only [S]
  refine wpAny_bind (wpAny_askSetting (wpAny_ite ?_))
  have fin : wpAny M A (call (.builtin "object.__ne__") ([.ref x] ++ args) >>= fun v => pure (some v)) Q E s := wpAny_bind (wpAny_mono h (fun v s' h' => wpAny_pure h') fun _ _ h' => h')
  split
  · exact wpAny_bind (wpAny_pure (wpAny_pure fin))
  · exact wpAny_tryCatch (wpAny_bind (wpAny_pure (wpAny_pure fin)))
/-- x != y by an own == -/
theorem ne_K {v tb : Value} {Q : Value → Shared → Prop} (hu : A.units + 1 < cLine) (Fr : PyProof.Rows.Fr h₀ L s.heap m) (X₀ : K.In h₀) (I : InstAt s.heap x ox C od) (hb : Looks (model prog w) s.heap (typeOf v) tb) (hn : notFirst K C tb = true)
    (hne : findIn K (.ref C) "__ne__" = some (some (.builtin "object.__ne__"))) (ho : mroIn K C (.type "object") = some true) (hcls : Looks (model prog w) s.heap (isInstance (.ref x) (.type "object")) true) (hs : findIn K (.ref C) "__eq__" = some (some (.ref f))) (hf : isFn K (.ref f) = true)
    (h : wpAny (model prog w) A.in1 (call (.ref f) [.ref x, v]) (fun r z => ∃ b, r = .bool b ∧ Q (.bool (!b)) z) E s) : wpAny (model prog w) A (richCompare .NotEq (.ref x) v) Q E s := by
  have X := X₀.keeps Fr.keep
  have body : wpAny (model prog w) A.in1 (Builtin.«object.__ne__» ⟨[.ref x, v], []⟩) (FinOf prog w A (wants (fun r z => ∃ b, r = .bool b ∧ Q (.bool b) z) E)) (fun e z => wants (fun r z => ∃ b, r = .bool b ∧ Q (.bool b) z) E (.error e) z) s := by
    unfold Builtin.«object.__ne__»
    iterate 4 (first | with_reducible refine wpAny_cRoomFor (by show A.units + 1 < cLine; exact hu) ?_ | wp_step)
    refine wpAny_pure ?_
    show wpAny (model prog w) A.in1 (cRoomFor "comparison" [.ref x, v] >>= _) _ _ s
    refine wpAny_bind (wpAny_cRoomFor (by show A.units + 1 < cLine; exact hu) ?_)
    refine wpAny_bind (ifBound_K X I hs hf (wpAny_mono h (fun r s' hr => ?_) fun _ _ e => e))
    obtain ⟨b, rfl, hq⟩ := hr
    refine wpAny_bind (m := truthy (.bool b)) (wpAny_truthy_bool ?_)
    exact wpAny_pure ⟨_, rfl, hq⟩
  have one : wpAny (model prog w) A (tryCompare (.ref x) (cmpInfo .NotEq).2.1 v) (fun r s' => ∃ z, r = some z ∧ Q z s') E s := by
    unfold tryCompare
    refine wpAny_bind (bound_ne X I hne ?_)
    refine wpAny_mono (wpAny_call (codeAny_call_builtin (by decide +kernel) F.cmpEntry_ne (check_ne (M := model prog w) (A := A.in1) hcls body))) (fun r z q => ?_) fun _ _ e => e
    obtain ⟨b, rfl, q⟩ := q
    exact wpAny_pure ⟨_, rfl, q⟩
  unfold richCompare
  simp only [oneThing_ref]
  refine wpAny_holding (wpAny_bind (wpAny_cRoomFor (Nat.lt_of_succ_lt hu) ?_))
  refine wpAny_bind (I.type.here (wpAny_bind (hb.here ?_)))
  split
  · rename_i q
    have e : subIn K tb (.ref C) = some false := by
      rcases Bool.or_eq_true_iff.mp hn with e | e
      · rw [beq_iff_eq.mp e] at q; simp at q
      · exact beq_iff_eq.mp e
    refine wpAny_bind ((looks_subIn X e).here ?_)
    simp only [Bool.false_eq_true, if_false]
    refine wpAny_bind (wpAny_mono one (fun r s' z => ?_) fun _ _ e => e)
    obtain ⟨v, rfl, hq⟩ := z
    exact wpAny_pure hq
  · refine wpAny_bind (wpAny_pure ?_)
    simp only [Bool.false_eq_true, if_false]
    refine wpAny_bind (wpAny_mono one (fun r s' z => ?_) fun _ _ e => e)
    obtain ⟨v, rfl, hq⟩ := z
    exact wpAny_pure hq
end
end DLq
namespace DL
open PySem PySem.Spec PyProof.Rows L2
section
variable {X : Cx} {g : Gb} {W : WX} {Z : Zn} {S S' H H' : Hp} {τ τ' : List V} {θ θ' : List O} {σ σ' : Sg} {ρ : En} {Q Q' : VK} {T : EqTab} {k j n : Nat} {ma mb : E} {a b : Expr} {pos : Pos}
def rEqC (g : Gb) (T : EqTab) (n : Nat) : R2 := fun x y H Q => ∃ (Z : Zn) (S : Hp) (τ : List V) (θ : List O) (σ : Sg) (ρ : En) (dx dy : D) (b : Bool), St g Z S H τ θ σ ρ ∧ Rep g S dx x ∧ Rep g S dy y ∧ eqC T n dx dy = some b ∧ ∀ S' H', Ex S S' → St g Z S' H' τ θ σ ρ → Q (.bl b) H'
theorem op_eqC (ok : EqOk X.prog X.w X.mg X.base g k T) (hK : X.K = g.K) (tk : Takes X W) (hr : Room (k + n) X.A) (hgd : X.A.guards = some []) : OpR X (compareOp .Eq) (rEqC g T n) := by
  intro pins s σi H x y v u Q I rv ru h
  obtain ⟨Z, S, τ, θ, σ, ρ, dx, dy, b, st, rx, ry, e, q⟩ := h
  refine wpAny_mono (rcD_all (W := W) ok hK tk n X.A pins s σ σi H S Z τ θ ρ x y v u dx dy b hr hgd rfl I st rx ry rv ru e) (fun r s' z => ?_) fun _ _ z => z
  obtain ⟨rfl, S', H', ex, st', I'⟩ := z
  exact ⟨.bl b, H', I', rfl, q S' H' ex st'⟩
def eEqC (T : EqTab) (n : Nat) (ma mb : E) : E := fun ρ => (ma ρ).bind fun o1 ρ1 => (mb ρ1).bind fun o2 ρ2 => match eqC T n o1.d o2.d with
  | some b => .ok (.sh (.bl b)) ρ2
  | none => .stuck
theorem le_eqC (q : LE g W (eEqC T n ma mb) σ H Q) : tOp (rEqC g T n) (LE g W ma) (LE g W mb) σ H Q := by
  obtain ⟨Z, S, τ, θ, ρ, st, post⟩ := q
  refine two_flat st post fun o1 o2 ρ2 v1 v2 S2 H2 e2 st2 r1 r2 post2 => ?_
  cases he : eqC T n o1.d o2.d with
  | none => rw [he] at post2; exact post2.elim
  | some b =>
    rw [he] at post2
    exact ⟨Z, S2, τ, θ, σ, ρ2, o1.d, o2.d, b, st2, r1, r2, he, fun S' H' ex st' => PostR.fin post2 ex st' (New.same (d := .bl b) st'.sub rfl)⟩
theorem pd_eqC (n : Nat) (C : Cxt X g W j) (ok : EqOk X.prog X.w X.mg X.base g k T) (ha : PE X a (LE g W ma)) (hb : PE X b (LE g W mb)) (hk : k + n ≤ j := by decide) : PE X (.Compare a [.Eq] [b] pos) (LE g W (eEqC T n ma mb)) :=
  PE_imp (pe_cmpR (op_eqC ok C.K C.tk (C.rm.mono hk) C.gd) ha hb (nomark _)) fun _ _ _ q => le_eqC q
theorem qd_eqC (n : Nat) (C : Cxt X g W j) (ok : EqOk X.prog X.w X.mg X.base g k T) (ha : PE X a (LE g W ma)) (hb : PE X b (LE g W mb)) (hk : k + n ≤ j := by decide) : PT X (.Compare a [.Eq] [b] pos) (LT g W (eEqC T n ma mb)) :=
  PT_imp (pt_cmpR (op_eqC ok C.K C.tk (C.rm.mono hk) C.gd) ha hb (nomark _)) fun _ _ _ q => le_eqC q
/-! != of two instances of a class -/
def insNe (T : EqTab) (x y : D) : Option Bool := match x.view, y.view with
  | .ins c fs, .ins c' gs => if c = c' then insEq T c fs (.ins c' gs) else none
  | _, _ => none
def rNeC (g : Gb) (T : EqTab) : R2 := fun x y H Q => ∃ (Z : Zn) (S : Hp) (τ : List V) (θ : List O) (σ : Sg) (ρ : En) (dx dy : D) (b : Bool), St g Z S H τ θ σ ρ ∧ Rep g S dx x ∧ Rep g S dy y ∧ insNe T dx dy = some b ∧ ∀ S' H', Ex S S' → St g Z S' H' τ θ σ ρ → Q (.bl (!b)) H'
theorem op_neC (ok : EqOk X.prog X.w X.mg X.base g k T) (hK : X.K = g.K) (tk : Takes X W) (hr : Room (k + 1) X.A) (hgd : X.A.guards = some []) : OpR X (compareOp .NotEq) (rNeC g T) := by
  intro pins s σi H x y v u Q I rv ru h
  obtain ⟨Z, S, τ, θ, σ, ρ, dx, dy, b, st, rx, ry, e, q⟩ := h
  have rx := rx.view
  have ry := ry.view
  unfold insNe at e
  split at e
  · rename_i c fs c' gs ex ey
    rw [ex] at rx; rw [ey] at ry
    split at e
    · rename_i hc
      subst hc
      have rx0 := rx
      have ry0 := ry
      obtain ⟨a, d1, f1, rfl, _⟩ := rx
      obtain ⟨a2, d2, f2, rfl, _⟩ := ry
      cases rv; cases ru
      obtain ⟨fn, pf, ρ0, hl, _⟩ := insEq_some e
      obtain ⟨_, ap, _⟩ := ok c fn pf hl
      obtain ⟨f, h1, h2, h3⟩ := own_run (A := X.A.in1) ok hK tk hr.in1 hgd rfl I st rx0 ry0 (v := .ref a2) rfl e
      obtain ⟨_, _, ox, od, J⟩ := rep_obj I st.sub rx0
      obtain ⟨_, _, ox2, od2, J2⟩ := rep_obj I st.sub ry0
      obtain ⟨m, hF⟩ := I.fr
      have X0 := I.ok.mod.kin.keeps hF.keep
      have hmo : PySem.W.mroIn X.K (g.cn c) (.type "object") = some true := by rw [hK]; exact ap.o
      refine DLq.ne_K (by have := hr.un; omega) hF I.ok.mod.kin J J2.type (by simp [PySem.W.notFirst]) (by rw [hK]; exact ap.n) hmo (J.type.andThen (PySem.W.looks_mroIn X0 hmo)) h1 h2 (wpAny_mono h3 (fun r z w => ?_) fun _ _ z => z)
      cases r with
      | notImplemented => exact w.elim
      | bool b' =>
        obtain ⟨hb, S', H', ex, st', I'⟩ := w
        cases hb
        exact ⟨b, rfl, .bl (!b), H', I', rfl, q S' H' ex st'⟩
      | _ => obtain ⟨hb, _⟩ := w; cases hb
    · cases e
  · cases e
def eNeC (T : EqTab) (ma mb : E) : E := fun ρ => (ma ρ).bind fun o1 ρ1 => (mb ρ1).bind fun o2 ρ2 => match insNe T o1.d o2.d with
  | some b => .ok (.sh (.bl (!b))) ρ2
  | none => .stuck
theorem le_neC (q : LE g W (eNeC T ma mb) σ H Q) : tOp (rNeC g T) (LE g W ma) (LE g W mb) σ H Q := by
  obtain ⟨Z, S, τ, θ, ρ, st, post⟩ := q
  refine two_flat st post fun o1 o2 ρ2 v1 v2 S2 H2 e2 st2 r1 r2 post2 => ?_
  cases he : insNe T o1.d o2.d with
  | none => rw [he] at post2; exact post2.elim
  | some b =>
    rw [he] at post2
    exact ⟨Z, S2, τ, θ, σ, ρ2, o1.d, o2.d, b, st2, r1, r2, he, fun S' H' ex st' => PostR.fin post2 ex st' (New.same (d := .bl (!b)) st'.sub rfl)⟩
theorem pd_neC (C : Cxt X g W j) (ok : EqOk X.prog X.w X.mg X.base g k T) (ha : PE X a (LE g W ma)) (hb : PE X b (LE g W mb)) (hk : k + 1 ≤ j := by decide) : PE X (.Compare a [.NotEq] [b] pos) (LE g W (eNeC T ma mb)) :=
  PE_imp (pe_cmpR (op_neC ok C.K C.tk (C.rm.mono hk) C.gd) ha hb (nomark _)) fun _ _ _ q => le_neC q
/-! x in a list of instances -/
def anyC (T : EqTab) (n : Nat) (x : D) : List D → Option Bool
  | [] => some false
  | y :: ys => (eqC T n y x).bind fun a => (anyC T n x ys).map fun b => a || b
theorem anyC_get {x : D} : ∀ {ys : List D} {b : Bool}, anyC T n x ys = some b → ∃ e : Nat → Bool, (∀ (i : Nat) y, ys[i]? = some y → eqC T n y x = some (e i)) ∧ b = (List.range ys.length).any e
  | [], b, h => by cases h; exact ⟨fun _ => true, fun i x h => by simp at h, by simp⟩
  | y :: ys, b, h => by
    unfold anyC at h
    cases h1 : eqC T n y x with
    | none => rw [h1] at h; cases h
    | some a =>
      rw [h1] at h
      dsimp only [Option.bind] at h
      cases h2 : anyC T n x ys with
      | none => rw [h2] at h; cases h
      | some c =>
        rw [h2] at h
        cases h
        obtain ⟨e, q1, q2⟩ := anyC_get h2
        refine ⟨fun i => match i with | 0 => a | i + 1 => e i, fun i y' hy => ?_, ?_⟩
        · cases i with
          | zero => simp at hy; subst hy; exact h1
          | succ i => exact q1 i y' (by simpa using hy)
        · simp only [List.length_cons, List.range_succ_eq_map, List.any_cons, List.any_map]
          rw [q2]
          rfl
def dInC (T : EqTab) (n : Nat) (x y : D) : Option Bool := match y.view with
  | .lst ys => anyC T n x ys
  | _ => none
def rInC (g : Gb) (T : EqTab) (n : Nat) : R2 := fun x y H Q => ∃ (Z : Zn) (S : Hp) (τ : List V) (θ : List O) (σ : Sg) (ρ : En) (dx dy : D) (b : Bool), St g Z S H τ θ σ ρ ∧ Rep g S dx x ∧ Rep g S dy y ∧ dInC T n dx dy = some b ∧ ∀ S' H', Ex S S' → St g Z S' H' τ θ σ ρ → Q (.bl b) H'
theorem op_inC (ok : EqOk X.prog X.w X.mg X.base g k T) (hK : X.K = g.K) (tk : Takes X W) (hr : Room (k + n + 1) X.A) (hgd : X.A.guards = some []) : OpR X (compareOp .In) (rInC g T n) := by
  intro pins s σi H x y v u Q I rv ru h
  obtain ⟨Z, S, τ, θ, σ, ρ, dx, dy, b, st, rx, ry, e, q⟩ := h
  have ry := ry.view
  unfold dInC at e
  split at e
  · rename_i ys ey
    rw [ey] at ry
    obtain ⟨a, vs, rfl, h1, r1⟩ := ry
    cases ru
    obtain ⟨t, q1, q2⟩ := anyC_get e
    refine DLq.inC (N := ys.length) t (fun i z => (∀ j, j < i → t j = false) ∧ At X g Z pins σi τ θ σ ρ S z) (fun z => (∃ j, j < ys.length ∧ t j = true) ∧ At X g Z pins σi τ θ σ ρ S z) (fun i z w => ?_) (fun z w => ?_) (fun z w => ?_) ⟨fun j h => absurd h (Nat.not_lt_zero _), At.refl I st⟩
    · obtain ⟨qa, S', H', ex, st', I'⟩ := w
      obtain ⟨us, m1, w3, e3⟩ := list_of I' (st'.sub _ _ (ex.lst h1))
      refine ⟨us.toArray, m1, e3, by rw [List.size_toArray, ← w3.length, r1.len], fun k1 => ?_⟩
      obtain ⟨v1, g1, rv1⟩ := vals_at w3 k1
      obtain ⟨d1, f1, rr1⟩ := r1.getV g1
      have il : i < ys.length := (List.getElem?_eq_some_iff.mp f1).1
      refine wpAny_mono (eb_of ok hK (rcD_all (W := W) ok hK tk n) X.A.in1 pins z σ σi H' S' Z τ θ ρ v1 x _ v d1 dx (t i) hr.in1 hgd rfl I' st' (Rep.mono ex _ _ rr1) (Rep.mono ex _ _ rx) rv1 rv (q1 i d1 f1)) (fun r s' z2 => ?_) fun _ _ z2 => z2
      obtain ⟨rfl, S2, H2, ex2, st2, I2⟩ := z2
      refine ⟨rfl, fun ht => ⟨fun j hj => ?_, S2, H2, ex.trans ex2, st2, I2⟩, fun ht => ⟨⟨i, il, ht⟩, S2, H2, ex.trans ex2, st2, I2⟩⟩
      by_cases z3 : j = i
      · rw [z3]; exact ht
      · exact qa j (by omega)
    · obtain ⟨qa, S', H', ex, st', I'⟩ := w
      have : b = false := by rw [q2, List.any_eq_false]; exact fun j m => by rw [qa j (List.mem_range.mp m)]; decide
      subst this
      exact ⟨.bl false, H', I', rfl, q S' H' ex st'⟩
    · obtain ⟨⟨j, hj, hf⟩, S', H', ex, st', I'⟩ := w
      have : b = true := by rw [q2, List.any_eq_true]; exact ⟨j, List.mem_range.mpr hj, hf⟩
      subst this
      exact ⟨.bl true, H', I', rfl, q S' H' ex st'⟩
  · cases e
def eInC (T : EqTab) (n : Nat) (ma mb : E) : E := fun ρ => (ma ρ).bind fun o1 ρ1 => (mb ρ1).bind fun o2 ρ2 => match dInC T n o1.d o2.d with
  | some b => .ok (.sh (.bl b)) ρ2
  | none => .stuck
theorem le_inC (q : LE g W (eInC T n ma mb) σ H Q) : tOp (rInC g T n) (LE g W ma) (LE g W mb) σ H Q := by
  obtain ⟨Z, S, τ, θ, ρ, st, post⟩ := q
  refine two_flat st post fun o1 o2 ρ2 v1 v2 S2 H2 e2 st2 r1 r2 post2 => ?_
  cases he : dInC T n o1.d o2.d with
  | none => rw [he] at post2; exact post2.elim
  | some b =>
    rw [he] at post2
    exact ⟨Z, S2, τ, θ, σ, ρ2, o1.d, o2.d, b, st2, r1, r2, he, fun S' H' ex st' => PostR.fin post2 ex st' (New.same (d := .bl b) st'.sub rfl)⟩
theorem pd_inC (n : Nat) (C : Cxt X g W j) (ok : EqOk X.prog X.w X.mg X.base g k T) (ha : PE X a (LE g W ma)) (hb : PE X b (LE g W mb)) (hk : k + n + 1 ≤ j := by decide) (hm : behindInMarks .In b = false := by rfl) : PE X (.Compare a [.In] [b] pos) (LE g W (eInC T n ma mb)) :=
  PE_imp (pe_cmpR (op_inC ok C.K C.tk (C.rm.mono hk) C.gd) ha hb hm) fun _ _ _ q => le_inC q
end
end DL
set_option Elab.async false
set_option linter.all false
set_option maxRecDepth 100000
set_option autoImplicit false
/-! DLP1: a part of what a slot owns, by its path. -/
namespace DL
open PySem PySem.Spec PyProof.Rows L2
/-- the j-th part -/
def oKid : O → Nat → Option O
  | .lst os, j => os[j]?
  | .dct kos, j => (kos[j]?).map (·.2)
  | .ins _ fs, j => (fs[j]?).map (·.2)
  | .tag _ o, j => oKid o j
  | _, _ => none
def setK {α : Type} (l : List (α × O)) (j : Nat) (o : O) : List (α × O) := match l[j]? with
  | some p => l.set j (p.1, o)
  | none => l
def oSetKid : O → Nat → O → O
  | .lst os, j, o => .lst (os.set j o)
  | .dct kos, j, o => .dct (setK kos j o)
  | .ins c fs, j, o => .ins c (setK fs j o)
  | .tag n p, j, o => .tag n (oSetKid p j o)
  | p, _, _ => p
def oGet : List Nat → O → Option O
  | [], o => some o
  | j :: r, o => (oKid o j).bind (oGet r)
def oPut : List Nat → O → O → O
  | [], _, o' => o'
  | j :: r, o, o' => match oKid o j with
    | some k => oSetKid o j (oPut r k o')
    | none => o
def vKid (H : Hp) (v : V) (j : Nat) : Option V := match v with
  | .ref l => match H l with
    | some (.lst vs) => vs[j]?
    | some (.dK kvs) => (kvs[j]?).map (·.2)
    | some (.ins _ _ fvs) => (fvs[j]?).map (·.2)
    | _ => none
  | _ => none
theorem vKid_lst {H : Hp} {l : Addr} {vs : List V} {j : Nat} (h : H l = some (.lst vs)) : vKid H (.ref l) j = vs[j]? := by simp only [vKid, h]
theorem vKid_dct {H : Hp} {l : Addr} {vs : List (Key × V)} {j : Nat} (h : H l = some (.dK vs)) : vKid H (.ref l) j = (vs[j]?).map (·.2) := by simp only [vKid, h]
theorem vKid_ins {H : Hp} {l C dx : Addr} {vs : List (Str × V)} {j : Nat} (h : H l = some (.ins C dx vs)) : vKid H (.ref l) j = (vs[j]?).map (·.2) := by simp only [vKid, h]
def vGet (H : Hp) : List Nat → V → Option V
  | [], v => some v
  | j :: r, v => (vKid H v j).bind (vGet H r)
section
variable {g : Gb} {S S' H H' : Hp}
theorem RelOK.splitAt : ∀ {os : List (Key × O)} {vs : List (Key × V)} {A : List Addr} {j : Nat} {k : Key} {o : O}, RelOK g S H os vs A → os[j]? = some (k, o) → ∃ v A1 Ao A2, vs[j]? = some (k, v) ∧ A = A1 ++ (Ao ++ A2) ∧ RelO g S H o v Ao ∧
    (∀ H' S' o' v' B, Ex S S' → (∀ a, a ∈ A1 ∨ a ∈ A2 → H' a = H a) → RelO g S' H' o' v' B → RelOK g S' H' (os.set j (k, o')) (vs.set j (k, v')) (A1 ++ (B ++ A2)))
  | [], _, _, _, _, _, _, e => by simp at e
  | (k0, p) :: os, _, _, 0, k, o, ⟨v, r, A1, A2, e, eA, x, y⟩, h => by
    have h' : (k0, p) = (k, o) := by simpa using h
    cases h'
    refine ⟨v, [], A1, A2, by rw [e]; rfl, by rw [eA]; rfl, x, fun H' S' o' v' B ex q w => ?_⟩
    rw [e]
    exact ⟨v', r, B, A2, rfl, rfl, w, RelOK.mono ex os r A2 (fun a m => q a (.inr m)) y⟩
  | (k0, p) :: os, _, _, j + 1, k, o, ⟨v, r, A1, A2, e, eA, x, y⟩, h => by
    obtain ⟨v', B1, Bo, B2, h1, h2, h3, h4⟩ := RelOK.splitAt (j := j) (k := k) y (by simpa using h)
    refine ⟨v', A1 ++ B1, Bo, B2, by rw [e]; simpa using h1, by rw [eA, h2, List.append_assoc], h3, fun H' S' o' v2 B ex q w => ?_⟩
    rw [e]
    refine ⟨v, r.set j (k, v2), A1, B1 ++ (B ++ B2), rfl, by rw [List.append_assoc], RelO.mono ex p v A1 (fun a m => q a (.inl (List.mem_append_left _ m))) x, h4 H' S' o' v2 B ex (fun a m => q a ?_) w⟩
    rcases m with m | m
    · exact .inl (List.mem_append_right _ m)
    · exact .inr m
theorem RelOF.splitAt : ∀ {os : List (Str × O)} {vs : List (Str × V)} {A : List Addr} {j : Nat} {k : Str} {o : O}, RelOF g S H os vs A → os[j]? = some (k, o) → ∃ v A1 Ao A2, vs[j]? = some (k, v) ∧ A = A1 ++ (Ao ++ A2) ∧ RelO g S H o v Ao ∧
    (∀ H' S' o' v' B, Ex S S' → (∀ a, a ∈ A1 ∨ a ∈ A2 → H' a = H a) → RelO g S' H' o' v' B → RelOF g S' H' (os.set j (k, o')) (vs.set j (k, v')) (A1 ++ (B ++ A2)))
  | [], _, _, _, _, _, _, e => by simp at e
  | (k0, p) :: os, _, _, 0, k, o, ⟨v, r, A1, A2, e, eA, x, y⟩, h => by
    have h' : (k0, p) = (k, o) := by simpa using h
    cases h'
    refine ⟨v, [], A1, A2, by rw [e]; rfl, by rw [eA]; rfl, x, fun H' S' o' v' B ex q w => ?_⟩
    rw [e]
    exact ⟨v', r, B, A2, rfl, rfl, w, RelOF.mono ex os r A2 (fun a m => q a (.inr m)) y⟩
  | (k0, p) :: os, _, _, j + 1, k, o, ⟨v, r, A1, A2, e, eA, x, y⟩, h => by
    obtain ⟨v', B1, Bo, B2, h1, h2, h3, h4⟩ := RelOF.splitAt (j := j) (k := k) y (by simpa using h)
    refine ⟨v', A1 ++ B1, Bo, B2, by rw [e]; simpa using h1, by rw [eA, h2, List.append_assoc], h3, fun H' S' o' v2 B ex q w => ?_⟩
    rw [e]
    refine ⟨v, r.set j (k, v2), A1, B1 ++ (B ++ B2), rfl, by rw [List.append_assoc], RelO.mono ex p v A1 (fun a m => q a (.inl (List.mem_append_left _ m))) x, h4 H' S' o' v2 B ex (fun a m => q a ?_) w⟩
    rcases m with m | m
    · exact .inl (List.mem_append_right _ m)
    · exact .inr m
theorem list_set_same {α : Type} {l : List α} {j : Nat} {a : α} (h : l[j]? = some a) : l.set j a = l := by
  apply List.ext_getElem?
  intro i
  by_cases e : j = i
  · subst e
    rw [List.getElem?_set_self (List.getElem?_eq_some_iff.mp h).1, h]
  · rw [List.getElem?_set_ne e]
/-- one step down -/
theorem RelO.kid : ∀ {p o : O} {v : V} {A : List Addr} {j : Nat}, RelO g S H p v A → oKid p j = some o → ∃ v' B1 Bo B2, vKid H v j = some v' ∧ A = B1 ++ (Bo ++ B2) ∧ RelO g S H o v' Bo ∧
    ∀ H' S' o' B, Ex S S' → (∀ a, a ∈ B1 ∨ a ∈ B2 → H' a = H a) → RelO g S' H' o' v' B → RelO g S' H' (oSetKid p j o') v (B1 ++ (B ++ B2))
  | .sh _, _, _, _, _, _, h => by cases h
  | .lst os, o, v, A, j, ⟨l, vs, A', ev, hl, eA, r⟩, h => by
    obtain ⟨v', A1, Ao, A2, h1, h2, h3, h4, _⟩ := r.splitAt (j := j) h
    refine ⟨v', l :: A1, Ao, A2, by rw [ev]; exact (vKid_lst hl).trans h1, by rw [eA, h2]; rfl, h3, fun H' S' o' B ex k w => ?_⟩
    have q := h4 H' S' o' v' B ex (fun a m => k a (m.imp (List.mem_cons_of_mem _) id)) w
    rw [list_set_same h1] at q
    exact ⟨l, vs, A1 ++ (B ++ A2), ev, (k l (.inl List.mem_cons_self)).trans hl, rfl, q⟩
  | .dct kos, o, v, A, j, ⟨l, vs, A', ev, hl, eA, r⟩, h => by
    have h : (kos[j]?).map (·.2) = some o := h
    cases hk : kos[j]? with
    | none => rw [hk] at h; cases h
    | some p =>
      obtain ⟨k0, o0⟩ := p
      rw [hk] at h
      cases h
      obtain ⟨v', A1, Ao, A2, h1, h2, h3, h4⟩ := r.splitAt (j := j) hk
      refine ⟨v', l :: A1, Ao, A2, by rw [ev]; exact (vKid_dct hl).trans (by rw [h1]; rfl), by rw [eA, h2]; rfl, h3, fun H' S' o' B ex k w => ?_⟩
      have q := h4 H' S' o' v' B ex (fun a m => k a (m.imp (List.mem_cons_of_mem _) id)) w
      rw [list_set_same h1] at q
      refine ⟨l, vs, A1 ++ (B ++ A2), ev, (k l (.inl List.mem_cons_self)).trans hl, rfl, ?_⟩
      unfold setK
      rw [hk]
      exact q
  | .ins c fs, o, v, A, j, ⟨x, dx, vs, A', ev, hx, hdx, eA, r⟩, h => by
    have h : (fs[j]?).map (·.2) = some o := h
    cases hk : fs[j]? with
    | none => rw [hk] at h; cases h
    | some p =>
      obtain ⟨k0, o0⟩ := p
      rw [hk] at h
      cases h
      obtain ⟨v', A1, Ao, A2, h1, h2, h3, h4⟩ := r.splitAt (j := j) hk
      refine ⟨v', x :: dx :: A1, Ao, A2, by rw [ev]; exact (vKid_ins hx).trans (by rw [h1]; rfl), by rw [eA, h2]; rfl, h3, fun H' S' o' B ex k w => ?_⟩
      have q := h4 H' S' o' v' B ex (fun a m => k a (m.imp (fun m => List.mem_cons_of_mem _ (List.mem_cons_of_mem _ m)) id)) w
      rw [list_set_same h1] at q
      refine ⟨x, dx, vs, A1 ++ (B ++ A2), ev, (k x (.inl List.mem_cons_self)).trans hx, (k dx (.inl (List.mem_cons_of_mem _ List.mem_cons_self))).trans hdx, rfl, ?_⟩
      unfold setK
      rw [hk]
      exact q
  | .tag n p, o, v, A, j, ⟨e, r⟩, h => by
    obtain ⟨v', B1, Bo, B2, h1, h2, h3, h4⟩ := RelO.kid (p := p) r h
    exact ⟨v', B1, Bo, B2, h1, h2, h3, fun H' S' o' B ex k w => ⟨e, h4 H' S' o' B ex k w⟩⟩
/-- the whole way -/
theorem RelO.at : ∀ {path : List Nat} {p o : O} {v : V} {A : List Addr}, RelO g S H p v A → oGet path p = some o → ∃ v' B1 Bo B2, vGet H path v = some v' ∧ A = B1 ++ (Bo ++ B2) ∧ RelO g S H o v' Bo ∧
    ∀ H' S' o' B, Ex S S' → (∀ a, a ∈ B1 ∨ a ∈ B2 → H' a = H a) → RelO g S' H' o' v' B → RelO g S' H' (oPut path p o') v (B1 ++ (B ++ B2))
  | [], p, o, v, A, r, h => by
    cases h
    exact ⟨v, [], A, [], rfl, by simp, r, fun H' S' o' B _ _ w => by simpa [oPut] using w⟩
  | j :: path, p, o, v, A, r, h => by
    have h : (oKid p j).bind (oGet path) = some o := h
    cases hk : oKid p j with
    | none => rw [hk] at h; cases h
    | some k =>
      rw [hk] at h
      obtain ⟨v1, B1, Bo, B2, h1, h2, h3, h4⟩ := r.kid hk
      obtain ⟨v2, C1, Co, C2, i1, i2, i3, i4⟩ := RelO.at (path := path) h3 h
      refine ⟨v2, B1 ++ C1, Co, C2 ++ B2, by unfold vGet; rw [h1]; exact i1, by rw [h2, i2]; simp [List.append_assoc], i3, fun H' S' o' B ex kk w => ?_⟩
      have q := i4 H' S' o' B ex (fun a m => kk a (m.imp (List.mem_append_right _) (List.mem_append_left _))) w
      have q2 := h4 H' S' (oPut path k o') _ ex (fun a m => kk a (m.imp (List.mem_append_left _) (List.mem_append_right _))) q
      unfold oPut
      rw [hk]
      have e : B1 ++ ((C1 ++ (B ++ C2)) ++ B2) = (B1 ++ C1) ++ (B ++ (C2 ++ B2)) := by simp [List.append_assoc]
      rw [← e]
      exact q2
theorem vGet_snoc {H : Hp} {p : List Nat} {j : Nat} : ∀ {v v1 : V}, vGet H p v = some v1 → vGet H (p ++ [j]) v = vKid H v1 j := by
  induction p with
  | nil => intro v v1 h; cases h; show (vKid H v j).bind (vGet H []) = _; cases vKid H v j <;> rfl
  | cons i p ih =>
    intro v v1 h
    have h : (vKid H v i).bind (vGet H p) = some v1 := h
    show (vKid H v i).bind (vGet H (p ++ [j])) = _
    cases hk : vKid H v i with
    | none => rw [hk] at h; cases h
    | some w => rw [hk] at h; exact ih h
theorem oGet_snoc {p : List Nat} {j : Nat} : ∀ {o o1 : O}, oGet p o = some o1 → oGet (p ++ [j]) o = oKid o1 j := by
  induction p with
  | nil => intro o o1 h; cases h; show (oKid o j).bind (oGet []) = _; cases oKid o j <;> rfl
  | cons i p ih =>
    intro o o1 h
    have h : (oKid o i).bind (oGet p) = some o1 := h
    show (oKid o i).bind (oGet (p ++ [j])) = _
    cases hk : oKid o i with
    | none => rw [hk] at h; cases h
    | some w => rw [hk] at h; exact ih h
end
end DL
set_option Elab.async false
set_option linter.all false
set_option maxRecDepth 100000
set_option autoImplicit false
/-! DLP2: a part changes in place; places in the text. -/
namespace DL
open PySem PySem.Spec PyProof.Rows L2
def untag : O → O
  | .tag _ o => untag o
  | o => o
theorem untag_kid : ∀ (o : O) (j : Nat), oKid (untag o) j = oKid o j
  | .tag _ o, j => by show oKid (untag o) j = oKid o j; exact untag_kid o j
  | .sh _, _ => rfl
  | .lst _, _ => rfl
  | .dct _, _ => rfl
  | .ins _ _, _ => rfl
/-- the same labels around something else -/
def retag : O → O → O
  | .tag n o, o' => .tag n (retag o o')
  | _, o' => o'
section
variable {X : Cx} {g : Gb} {W : WX} {Z : Zn} {S S' H H' : Hp} {τ τ' : List V} {θ θ' : List O} {σ σ' : Sg} {ρ ρ' : En} {Q Q' : VK} {m mo ma mb mc : E} {o oi : O} {v : V} {i j n : Nat}
theorem RelO.untag : ∀ {o : O} {v : V} {A : List Addr}, RelO g S H o v A → RelO g S H (untag o) v A ∧ ∀ S' H' o' B, RelO g S' H' o' v B → RelO g S' H' (retag o o') v B
  | .tag n o, v, A, ⟨e, r⟩ => ⟨(RelO.untag (o := o) r).1, fun S' H' o' B w => ⟨e, (RelO.untag (o := o) r).2 S' H' o' B w⟩⟩
  | .sh _, _, _, r => ⟨r, fun _ _ _ _ w => w⟩
  | .lst _, _, _, r => ⟨r, fun _ _ _ _ w => w⟩
  | .dct _, _, _, r => ⟨r, fun _ _ _ _ w => w⟩
  | .ins _ _, _, _, r => ⟨r, fun _ _ _ _ w => w⟩
/-- a part of what slot i owns changes -/
theorem Hold.mutP {A : List Addr} {α : Nat → List Addr} {p : List Nat} {vi : V} (h : Hold g Z S H τ θ σ ρ A α) (ho : slO (ρ.getD i .no) = some oi) (hv : σ[i]? = some (some vi)) (hp : oGet p oi = some o) :
    ∃ v Bo, vGet H p vi = some v ∧ RelO g S H (DL.untag o) v Bo ∧ (∀ a ∈ Bo, a ∈ α i) ∧ Bo.Nodup ∧ ∀ l u o' B', l ∈ Bo → RelO g S (upd H l u) o' v B' → B'.Nodup → (∀ a ∈ B', a ∈ Bo) → St g Z S (upd H l u) τ θ σ (ρ.set i ((ρ.getD i .no).re (oPut p oi (retag o o')))) := by
  have r := h.at ho hv
  obtain ⟨v, B1, Bo, B2, h1, h2, h3, h4⟩ := r.at hp
  obtain ⟨r0, rt⟩ := h3.untag
  have nd := h.nd i
  rw [h2] at nd
  obtain ⟨n1, n2, n3⟩ := List.nodup_append.mp nd
  obtain ⟨n4, n5, n6⟩ := List.nodup_append.mp n2
  refine ⟨v, Bo, h1, r0, fun a m => by rw [h2]; exact List.mem_append_right _ (List.mem_append_left _ m), n4, fun l u o' B' hl w hn hB => ?_⟩
  have q := h4 (upd H l u) S (retag o o') B' (Ex.refl _) (fun a m => upd_ne fun z => by
    subst z
    rcases m with m | m
    · exact n3 a m a (List.mem_append_left _ hl) rfl
    · exact n6 a hl a m rfl) (rt _ _ _ _ w)
  have h' : Hold g Z S H (τ ++ []) (θ ++ []) σ ρ A α := by simpa using h
  have hr := h'.mut (A1 := A) (A2 := []) (A' := B1 ++ (B' ++ B2)) (u := u) (l := l) (vi := vi) (o' := oPut p oi (retag o o')) (by simp) h.tmp ho hv (by rw [h2]; exact List.mem_append_right _ (List.mem_append_left _ hl)) q ?_ ?_
  · exact hr
  · exact List.nodup_append.mpr ⟨n1, List.nodup_append.mpr ⟨hn, n5, fun a m b m2 => n6 a (hB a m) b m2⟩, fun a m b m2 => n3 a m b ((List.mem_append.mp m2).elim (fun z => List.mem_append_left _ (hB b z)) fun z => List.mem_append_right _ z)⟩
  · intro a m
    refine .inl ?_
    rw [h2]
    rcases List.mem_append.mp m with m | m
    · exact List.mem_append_left _ m
    · rcases List.mem_append.mp m with m | m
      · exact List.mem_append_right _ (List.mem_append_left _ (hB a m))
      · exact List.mem_append_right _ (List.mem_append_right _ m)
/-! ### places in the text, the last step first -/
inductive PStep where
  | ix (n : Int) | kv (j : Nat) | fd (cs : List Str) (f : Str)
def keyIx {α : Type} (k : Key) (l : List (Key × α)) : Option Nat := l.findIdx? fun p => decide (p.1 = k)
def rsv (ρ : En) : List PStep → O → Option (List Nat × O)
  | [], oi => some ([], oi)
  | s :: r, oi => (rsv ρ r oi).bind fun po => match s with
    | .ix n => match untag po.2 with
      | .lst os => (ixN os.length n).bind fun j => (os[j]?).map fun k => (po.1 ++ [j], k)
      | _ => none
    | .kv j => match untag po.2, slO (ρ.getD j .no) with
      | .dct kos, some (.sh d) => (keyD d.view).bind fun k => (keyIx k kos).bind fun j => (kos[j]?).map fun k => (po.1 ++ [j], k.2)
      | _, _ => none
    | .fd cs f => match untag po.2 with
      | .ins c fs => if c ∈ cs then (fs.findIdx? fun p => p.1 == f).bind fun j => (fs[j]?).map fun k => (po.1 ++ [j], k.2) else none
      | _ => none
def tPl (K : PySem.W.Frag) (t : TE) : List PStep → TE
  | [] => t
  | .ix n :: r => tOp (rIxA K) (tPl K t r) (tC (.int n))
  | .kv j :: r => tOp (rIxA K) (tPl K t r) (tVar j)
  | .fd _ f :: r => tFld K (tPl K t r) f
def PStOk (g : Gb) : List PStep → Prop
  | [] => True
  | .fd cs f :: r => FldOk g cs f ∧ PStOk g r
  | _ :: r => PStOk g r
theorem RelOs.vat {os : List O} {vs : List V} {A : List Addr} (r : RelOs g S H os vs A) {j : Nat} {o : O} (h : os[j]? = some o) : ∃ v Ao, vs[j]? = some v ∧ RelO g S H o v Ao := let ⟨v, Ao, a, b, _⟩ := r.get h; ⟨v, Ao, a, b⟩
theorem keyIx_val : ∀ {kos : List (Key × O)} {kvs : List (Key × V)} {A : List Addr} {k : Key} {j : Nat}, RelOK g S H kos kvs A → keyIx k kos = some j → valV kvs k = (kvs[j]?).map (·.2)
  | [], _, _, _, _, _, h => by cases h
  | (k0, o0) :: kos, kvs, A, k, j, ⟨v0, r, A1, A2, e, eA, x, y⟩, h => by
    subst e
    unfold keyIx at h
    rw [List.findIdx?_cons] at h
    by_cases z : k0 = k
    · subst z
      simp at h
      subst h
      exact valV_pos rfl
    · simp [z] at h
      obtain ⟨j', h1, rfl⟩ := h
      have := keyIx_val (k := k) (j := j') y h1
      rw [show valV ((k0, v0) :: r) k = valV r k from valV_neg z, this]
      rfl
theorem fldIx_val : ∀ {fs : List (Str × O)} {fvs : List (Str × V)} {A : List Addr} {f : Str} {j : Nat}, RelOF g S H fs fvs A → (fs.findIdx? fun p => p.1 == f) = some j → fvs.lookup f = (fvs[j]?).map (·.2)
  | [], _, _, _, _, _, h => by cases h
  | (k0, o0) :: fs, fvs, A, f, j, ⟨v0, r, A1, A2, e, eA, x, y⟩, h => by
    subst e
    rw [List.findIdx?_cons] at h
    by_cases z : k0 == f
    · simp [z] at h
      subst h
      have : (f == k0) = true := by rw [beq_iff_eq] at z ⊢; exact z.symm
      rw [List.lookup, this]
      rfl
    · simp [z] at h
      obtain ⟨j', h1, rfl⟩ := h
      have := fldIx_val (f := f) (j := j') y (by simpa using h1)
      have e : (f == k0) = false := by
        rw [beq_eq_false_iff_ne]
        intro q
        exact z (by rw [q]; exact beq_self_eq_true _)
      rw [List.lookup, e]
      exact this
/-- a place of the text is a part -/
theorem place : ∀ {ps : List PStep} {p : List Nat} {o oi : O} {vi : V} {Ai : List Addr}, PStOk g ps → St g Z S H τ θ σ ρ → RelO g S H oi vi Ai → rsv ρ ps oi = some (p, o) →
    oGet p oi = some o ∧ ∀ {t : TE} {Q : VK}, (∀ Q : VK, Q vi H → t σ H Q) → (∀ v, vGet H p vi = some v → Q v H) → tPl g.K t ps σ H Q
  | [], p, o, oi, vi, Ai, _, st, r, h => by
    cases h
    exact ⟨rfl, fun ht k => ht _ (k vi rfl)⟩
  | s :: ps, p, o, oi, vi, Ai, ok, st, r, h => by
    unfold rsv at h
    cases h1 : rsv ρ ps oi with
    | none => rw [h1] at h; cases h
    | some po =>
      obtain ⟨p1, o1⟩ := po
      rw [h1] at h
      have ok1 : PStOk g ps := by
        cases s with
        | fd cs f => exact ok.2
        | ix n => exact ok
        | kv j => exact ok
      obtain ⟨g1, w1⟩ := place (ps := ps) ok1 st r h1
      obtain ⟨v1, B1, Bo, B2, e1, e2, e3, _⟩ := r.at g1
      obtain ⟨ru, _⟩ := e3.untag
      have kid : ∀ j, oKid o1 j = some o → p = p1 ++ [j] → oGet p oi = some o := fun j q1 q2 => by rw [q2, oGet_snoc g1]; exact q1
      cases s with
      | ix n =>
        have h : (match DL.untag o1 with | .lst os => (ixN os.length n).bind fun j => (os[j]?).map fun k => (p1 ++ [j], k) | _ => none) = some (p, o) := h
        cases hu : DL.untag o1 with
        | lst os =>
          rw [hu] at h ru
          cases hj : ixN os.length n with
          | none => simp only [hj] at h; cases h
          | some j =>
            simp only [hj, Option.bind_some] at h
            cases hk : os[j]? with
            | none => rw [hk] at h; cases h
            | some k =>
              rw [hk] at h
              cases h
              obtain ⟨l, vs, A', rfl, hl, eA, rr⟩ := ru
              obtain ⟨v2, Ao, hv2, _⟩ := rr.vat hk
              refine ⟨kid j (by rw [← untag_kid, hu]; exact hk) rfl, fun ht q => w1 ht fun v hv => ?_⟩
              rw [e1] at hv
              cases hv
              refine .inl (.inl ⟨l, vs, n, v2, rfl, rfl, .inl (.inl hl), ?_, q v2 ?_⟩)
              · show (ixN vs.length n).bind (fun j => vs[j]?) = _
                rw [rr.len, hj]
                exact hv2
              · rw [vGet_snoc e1, vKid_lst hl]
                exact hv2
        | _ => rw [hu] at h; cases h
      | kv jj =>
        have h : (match DL.untag o1, slO (ρ.getD jj .no) with | .dct kos, some (.sh d) => (keyD d.view).bind fun k => (keyIx k kos).bind fun j => (kos[j]?).map fun k => (p1 ++ [j], k.2) | _, _ => none) = some (p, o) := h
        cases hu : DL.untag o1 with
        | dct kos =>
          rw [hu] at h ru
          cases hs : slO (ρ.getD jj .no) with
          | none => rw [hs] at h; cases h
          | some os =>
            rw [hs] at h
            cases os with
            | sh d =>
              have h : ((keyD d.view).bind fun k => (keyIx k kos).bind fun j => (kos[j]?).map fun k => (p1 ++ [j], k.2)) = some (p, o) := h
              cases hkd : keyD d.view with
              | none => rw [hkd] at h; cases h
              | some key =>
                simp only [hkd, Option.bind_some] at h
                cases hj : keyIx key kos with
                | none => rw [hj] at h; cases h
                | some j =>
                  simp only [hj, Option.bind_some] at h
                  cases hk : kos[j]? with
                  | none => rw [hk] at h; cases h
                  | some kk =>
                    obtain ⟨k0, ok0⟩ := kk
                    rw [hk] at h
                    cases h
                    obtain ⟨l, kvs, A', rfl, hl, eA, rr⟩ := ru
                    obtain ⟨v2, C1, Co, C2, hv2, _, _, _⟩ := rr.splitAt hk
                    obtain ⟨vk, Ak, hvk, rk⟩ := st.peek hs
                    have ek := keyD_rep hkd rk.2.view
                    refine ⟨kid j (by rw [← untag_kid, hu]; show (kos[j]?).map (·.2) = _; rw [hk]; rfl) rfl, fun ht q => w1 ht fun v hv => ?_⟩
                    rw [e1] at hv
                    cases hv
                    refine ⟨vk, hvk, .inr ⟨l, v2, rfl, .inl ⟨kvs, key, .inl hl, ek, ?_⟩, q v2 ?_⟩⟩
                    · rw [keyIx_val rr hj, hv2]
                      rfl
                    · rw [vGet_snoc e1, vKid_dct hl, hv2]
                      rfl
            | _ => cases h
        | _ => rw [hu] at h; cases h
      | fd cs f =>
        have h : (match DL.untag o1 with | .ins c fs => if c ∈ cs then (fs.findIdx? fun p => p.1 == f).bind fun j => (fs[j]?).map fun k => (p1 ++ [j], k.2) else none | _ => none) = some (p, o) := h
        cases hu : DL.untag o1 with
        | ins c fs =>
          rw [hu] at h ru
          by_cases hc : c ∈ cs
          · simp only [hc, if_true] at h
            cases hj : fs.findIdx? fun p => p.1 == f with
            | none => rw [hj] at h; cases h
            | some j =>
              simp only [hj, Option.bind_some] at h
              cases hk : fs[j]? with
              | none => rw [hk] at h; cases h
              | some kk =>
                obtain ⟨k0, ok0⟩ := kk
                rw [hk] at h
                cases h
                obtain ⟨x, dx, fvs, A', rfl, hx, hdx, eA, rr⟩ := ru
                obtain ⟨v2, C1, Co, C2, hv2, _, _, _⟩ := rr.splitAt hk
                refine ⟨kid j (by rw [← untag_kid, hu]; show (fs[j]?).map (·.2) = _; rw [hk]; rfl) rfl, fun ht q => w1 ht fun v hv => ?_⟩
                rw [e1] at hv
                cases hv
                refine ⟨x, _, dx, fvs, v2, rfl, hx, (ok.1 c hc).1, (ok.1 c hc).2, ?_, q v2 ?_⟩
                · rw [fldIx_val rr hj, hv2]
                  rfl
                · rw [vGet_snoc e1, vKid_ins hx, hv2]
                  rfl
          · simp only [hc, if_false] at h
            cases h
        | _ => rw [hu] at h; cases h
end
end DL
set_option Elab.async false
set_option linter.all false
set_option maxRecDepth 100000
set_option autoImplicit false
/-! DLP3: stores and appends at places. -/
namespace DL
open PySem PySem.Spec PyProof.Rows L2
theorem ty_all {p : String → Prop} (a : p "NoneType") (b : p "bool") (c : p "int") (d : p "str") (e : p "list") (f : p "tuple") : ∀ N ∈ tyNames, p N := fun N m => by
  simp only [tyNames, List.mem_cons, List.not_mem_nil, or_false] at m
  rcases m with rfl | rfl | rfl | rfl | rfl | rfl <;> assumption
/-- what the own == of these classes looks at -/
def pfCue : List (Str × D) → Bool := fun _ => true
def pfShow : List (Str × D) → Bool := fun fs => match fs.lookup (Str.ofString "_cues") with
  | some d => match d.view with
    | .lst _ => true
    | _ => false
  | none => false
section
variable {X : Cx} {g : Gb} {W : WX} {Z : Zn} {S S' H H' : Hp} {τ τ' : List V} {θ θ' : List O} {σ σ' : Sg} {ρ ρ' : En} {Q Q' : VK} {m mo ma mb mc mv : E} {o oi : O} {v : V} {i j n : Nat} {ps : List PStep}
/-- a part of a slot, found by a place -/
def atPl (i : Nat) (ps : List PStep) (ρ : En) : Option (O × List Nat × O) := (slO (ρ.getD i .no)).bind fun oi => (rsv ρ ps oi).map fun pq => (oi, pq)
/-- .. and changed -/
def putPl (i : Nat) (ρ : En) (x : O × List Nat × O) (o' : O) : En := ρ.set i ((ρ.getD i .no).re (oPut x.2.1 x.1 (retag x.2.2 o')))
theorem atPl_some {x : O × List Nat × O} (h : atPl i ps ρ = some x) : slO (ρ.getD i .no) = some x.1 ∧ rsv ρ ps x.1 = some x.2 := by
  unfold atPl at h
  cases ho : slO (ρ.getD i .no) with
  | none => rw [ho] at h; cases h
  | some oi =>
    rw [ho] at h
    have h : (rsv ρ ps oi).map (fun pq => (oi, pq)) = some x := h
    cases hr : rsv ρ ps oi with
    | none => rw [hr] at h; cases h
    | some pq => rw [hr] at h; cases h; exact ⟨rfl, hr⟩
/-- what stands at a place, and how it changes -/
theorem St.place (ok : PStOk g ps) (st : St g Z S H τ θ σ ρ) {x : O × List Nat × O} (h : atPl i ps ρ = some x) : ∃ v Bo, (∀ Q : VK, Q v H → tPl g.K (tVar i) ps σ H Q) ∧ RelO g S H (untag x.2.2) v Bo ∧ Bo.Nodup ∧
    ∀ l u o' B', l ∈ Bo → RelO g S (upd H l u) o' v B' → B'.Nodup → (∀ a ∈ B', a ∈ Bo) → St g Z S (upd H l u) τ θ σ (putPl i ρ x o') := by
  obtain ⟨ho, hr⟩ := atPl_some h
  obtain ⟨oi, p, q⟩ := x
  obtain ⟨vi, Ai, hv, ri⟩ := st.peek ho
  obtain ⟨hp, hw⟩ := DL.place ok st ri hr
  obtain ⟨A, α, hd⟩ := id st
  obtain ⟨v, Bo, e1, e2, _, e4, e5⟩ := hd.mutP ho hv hp
  refine ⟨v, Bo, fun Q hq => hw (fun Q q => ⟨vi, hv, q⟩) fun v' hv' => ?_, e2, e4, e5⟩
  rw [e1] at hv'
  cases hv'
  exact hq
/-- place[k] = e, k a constant -/
def sPut (i : Nat) (ps : List PStep) (kd : D) (mv : E) : Sm := fun ρ => (mv ρ).toO fun o ρ1 => match atPl i ps ρ1 with
  | some x => match untag x.2.2, keyD kd with
    | .dct kos, some k => if kos.length < 1000000 then .next (putPl i ρ1 x (.dct (putO kos k (.sh o.d)))) else .stuck
    | _, _ => .stuck
  | none => .stuck
theorem ls_put {kd : D} {D : Ends} (ok : PStOk g ps) (q : LS g W (sPut i ps kd mv) D σ H) : tAsg (LE g W mv) (gSub (tPl g.K (tVar i) ps) (tC kd.val) rSetA) D σ H := by
  obtain ⟨Z, S, ρ, st, post⟩ := q
  refine sstepN (τ' := []) (θ' := []) (n := 0) st rfl rfl post fun o1 ρ1 v1 S1 H1 e1 st1 post1 => ?_
  obtain ⟨S2, e2, st2, rv⟩ := St.pop (τ := []) (θ := []) st1
  cases hx : atPl i ps ρ1 with
  | none => rw [hx] at post1; exact post1.elim
  | some x =>
    rw [hx] at post1
    obtain ⟨v, Bo, w1, w2, w3, w4⟩ := st2.place ok hx
    refine w1 _ ?_
    cases hu : untag x.2.2 with
    | dct kos =>
      cases hk : keyD kd with
      | none => simp only [hu, hk] at post1; exact post1.elim
      | some key =>
        simp only [hu, hk] at post1
        split at post1
        · rename_i hsz
          rw [hu] at w2
          obtain ⟨l, kvs, A', rfl, hl, eA', r'⟩ := w2
          rw [eA'] at w3
          obtain ⟨nl, ndA'⟩ := List.nodup_cons.mp w3
          obtain ⟨A2, p1, p2⟩ := putO_ok (H' := upd H1 l (.dK (putK kvs key v1))) (k := key) rv (fun a m => upd_ne fun z => nl (z ▸ m)) r'
          have ek : kd.val = kV key := by
            cases kd <;> first | (cases hk; rfl) | cases hk
          refine .inr ⟨l, _, rfl, .inl ⟨kvs, key, hl, ek, Nat.lt_of_lt_of_le (by rw [r'.klen]; exact hsz) (show 1000000 ≤ sizeLine by decide), rfl⟩, ?_⟩
          refine post1 σ S2 _ e2 (w4 l _ _ (l :: A2) (by rw [eA']; exact List.mem_cons_self) ⟨l, _, _, rfl, upd_same, rfl, p1⟩ (List.nodup_cons.mpr ⟨fun z => nl (p2.subset z), ndA'.sublist p2⟩) fun a m => ?_)
          rw [eA']
          rcases List.mem_cons.mp m with m | m
          · rw [m]; exact List.mem_cons_self
          · exact List.mem_cons_of_mem _ (p2.subset m)
        · exact post1.elim
    | _ => simp only [hu] at post1; exact post1.elim
end
section
variable {X : Cx} {g : Gb} {W : WX} {j : Nat} {a b e : Expr} {pos : Pos} {i : Nat} {ps : List PStep} {mv : E} {t : TE}
/-! places, read off the text -/
theorem pl_var {x : Str} {px : Pos} (i : Nat) (hN : X.N[i]? = some x := by rfl) (hv : Vis X.env.scope x := by first | exact Or.inl rfl | exact Or.inr (Or.inl rfl) | exact Or.inr (Or.inr rfl)) (hd : (x == ("__debug__" : Str)) = false := by decide) (hcd : (x == ("__classdict__" : Str)) = false := by decide) : PE X (.Name x px) (tPl g.K (tVar i) []) := pe_var hN hv hd hcd
theorem pl_ix {n : Int} (C : Cxt X g W j) (h : PE X a (tPl g.K t ps)) (hb : PE X b (tC (.int n))) (hs : PlainIx b := by exact fun _ _ => rfl) : PE X (.Subscript a b pos) (tPl g.K t (.ix n :: ps)) :=
  PE_imp (pe_ix (ix_any C.hu) h hb hs) fun _ _ _ q => by rw [C.K]; exact q
theorem sd_put {kd : D} {p : Pos} (C : Cxt X g W j) (ok : PStOk g ps) (ho : PE X a (tPl g.K (tVar i) ps)) (hk : PE X b (tC kd.val)) (h : PE X e (LE g W mv)) (hs : swapsWithSole [.Subscript a b p] e pos.line X.env = pure false := by rfl) (hw : swappedStores [.Subscript a b p] e X.env = pure none := by rfl) (h1 : (assignEach [.Subscript a b p] X.env).map (·.2) = [assign (.Subscript a b p) X.env] := by rfl)
    (has : ∀ v, assign (.Subscript a b p) X.env v = (do
      let ov ← holding [v] (eval a X.env)
      let iv ← holding [v, ov] (eval b X.env)
      standAt p
      holding [v, ov, iv] (setItem ov iv v)
      release [v, ov, iv] []) := by intro _; rfl) : PS X (.Assign [.Subscript a b p] e pos) (LS g W (sPut i ps kd mv)) := PS_imp (ps_asg h (pg_sub ho hk (set_any C.hu) has) hs hw h1) fun _ _ _ q => ls_put ok q
end
end DL
set_option Elab.async false
set_option linter.all false
set_option maxRecDepth 100000
set_option autoImplicit false
/-! DLP4: list(d.values()); while. -/
namespace DL
open PySem PySem.Spec PyProof.Rows L2
end DL
set_option Elab.async false
set_option linter.all false
set_option maxRecDepth 100000
set_option autoImplicit false
/-! DLP5: str(x) by an own __str__; f-strings of one part. -/
namespace DL
open PySem PySem.Spec PyProof.Rows L2
section
variable {X : Cx} {g : Gb} {W : WX} {Z : Zn} {S S' H H' : Hp} {τ τ' : List V} {θ θ' : List O} {σ σ' : Sg} {ρ : En} {Q Q' : VK} {k j n : Nat} {m : E} {a : Expr} {pos p : Pos} {c : Str} {fn : List O → R}
def strO (c : Str) (fn : List O → R) : D → Option Str
  | .ins c' fs => if c' = c then match fn [.sh (.ins c fs)] with
    | .ok (.sh (.str y)) _ => some y
    | _ => none else none
  | _ => none
theorem strO_some {c' : Str} {fs : List (Str × D)} {y : Str} (h : strO c fn (.ins c' fs) = some y) : c' = c ∧ ∃ ρ0, fn [.sh (.ins c fs)] = .ok (.sh (.str y)) ρ0 := by
  replace h : (if c' = c then (match fn [.sh (.ins c fs)] with
    | .ok (.sh (.str y)) _ => some y
    | _ => none) else none) = some y := h
  by_cases hc : c' = c
  · rw [if_pos hc] at h
    refine ⟨hc, ?_⟩
    generalize fn [.sh (.ins c fs)] = r at h ⊢
    split at h
    · rename_i y' ρ0
      cases h
      exact ⟨ρ0, rfl⟩
    · cases h
  · rw [if_neg hc] at h
    cases h
def rStrO (g : Gb) (c : Str) (fn : List O → R) : List V → Hp → VK → Prop := fun xs H Q => ∃ (Z : Zn) (S : Hp) (τ : List V) (θ : List O) (σ : Sg) (ρ : En) (x : V) (d : D) (y : Str), xs = [x] ∧ St g Z S H τ θ σ ρ ∧ Rep g S d x ∧ strO c fn d.view = some y ∧ ∀ S' H', Ex S S' → St g Z S' H' τ θ σ ρ → Q (.str y) H'
theorem call_strO (ok : Met0 X.prog X.w X.mg X.base g k c "__str__" 1 fn) (hK : X.K = g.K) (tk : Takes X W) (hr : Room (k + 2) X.A) (hgd : X.A.guards = some []) : CallR X (.type "str") (rStrO g c fn) := by
  intro pins s σi H xs us Q I rv h
  obtain ⟨Z, S, τ, θ, σ, ρ, x, d, y, rfl, st, rx, e, q⟩ := h
  obtain ⟨u, rfl, r1⟩ := vals1 rv
  have rx := rx.view
  cases hd : d.view with
  | ins c' fs =>
    rw [hd] at e rx
    obtain ⟨rfl, ρ0, e⟩ := strO_some e
    have rx0 := rx
    obtain ⟨a, d1, f1, rfl, _⟩ := rx
    cases r1
    obtain ⟨f, fd, ps, F, hm, hb, _⟩ := ok
    rw [← hK] at F hm hb
    obtain ⟨dx, _, ox, od, J⟩ := rep_obj I st.sub rx0
    obtain ⟨m, hF⟩ := I.fr
    have X0 := I.ok.mod.kin.keeps hF.keep
    have e0 : Env0 X.prog X.w X.K X.mg X.base X.A.in1.in1 X.stack s H := by
      have e := I.env0
      exact ⟨e.frames, e.mod, e.bs, e.bsz, e.funs, e.frf, e.hok, e.bare⟩
    have hr1 : Room (k + 1) X.A.in1 := Room.in1 (k := k + 1) hr
    have hr2 : Room k X.A.in1.in1 := Room.in1 hr1
    have sp : spD g 1 fn [V.ref a] H (fun z H' => z = .str y ∧ ∃ S', Ex S S' ∧ St g Z S' H' τ θ σ ρ) noX := by
      refine call_sp (W := WN) (ds := [.ins c' fs]) st ⟨_, _, rfl, rx0, rfl⟩ rfl (fun _ _ _ h => h) ?_
      show PostR g WN Z S τ θ σ (after (fn [.sh (.ins c' fs)]) ρ) _
      rw [e]
      intro z S' H' ex st'
      obtain ⟨S2, e2, st2, rz⟩ := st'.pop
      exact ⟨rz, S2, ex.trans e2, st2⟩
    refine PySem.W.kso_call (by have := hr2.un; omega) X0 J hm.at_ hm.fn ?_
    refine wpAny_mono (run_fnWA (A := X.A.in1.in1) (us := [.ref a]) (vs := [.ref a]) F hr2 hgd e0 hb .nil (passNo tk) I (.cons rfl .nil) sp) (fun r s' w => ?_) fun _ _ q => q
    obtain ⟨z, H', I', rz, rfl, S', ex, st'⟩ := w
    obtain ⟨t, rfl⟩ := rz
    exact ⟨.str y, H', I', ⟨t, rfl⟩, q S' H' ex st'⟩
  | _ => rw [hd] at e; cases e
def eStrO (c : Str) (fn : List O → R) (m : E) : E := fun ρ => (m ρ).bind fun o ρ1 => match strO c fn o.d.view with
  | some y => .ok (.sh (.str y)) ρ1
  | none => .stuck
theorem le_strO (q : LE g W (eStrO c fn m) σ H Q) : tCB (rStrO g c fn) (tCons (LE g W m) tNil) σ H Q := by
  obtain ⟨Z, S, τ, θ, ρ, st, post⟩ := q
  refine step_flat st post fun o ρ1 v S1 H1 e1 st1 r1 post1 => ?_
  cases he : strO c fn o.d.view with
  | none => rw [he] at post1; exact post1.elim
  | some y =>
    rw [he] at post1
    exact ⟨Z, S1, τ, θ, σ, ρ1, v, o.d, y, rfl, st1, r1, he, fun S' H' ex st' => PostR.fin post1 ex st' (New.same (d := .str y) st'.sub rfl)⟩
theorem pd_strO (C : Cxt X g W j) (ok : Met X.prog X.w X.mg X.base g k c "__str__" n [] fn) (hm : X.mg "str" = none) (ha : PE X a (LE g W m)) (hn : n = 1 := by rfl) (hk : k + 2 ≤ j := by decide) (hg : Gl X "str" := by rfl) (he : starEach [a] X.env = (false, eval a X.env) :: starEach [] X.env := by rfl) (hpl : (backTo pos (starEach [] X.env)).any (·.1) = false := by rfl) :
    PE X (.Call (.Name "str" p) [a] [] pos) (LE g W (eStrO c fn m)) := by
  subst hn
  exact PE_imp (pe_callTy (call_strO ok.zero C.K C.tk (C.rm.mono hk) C.gd) hg hm boot_str1 (pa_cons ha pa_nil he) (he := he) (hpl := hpl)) fun _ _ _ q => le_strO q
theorem pd_js1 (h : PE X a (LE g W m)) : PE X (.JoinedStr [a] pos) (LE g W m) := pe_joined1 h
end
end DL
set_option Elab.async false
set_option linter.all false
set_option maxRecDepth 100000
set_option autoImplicit false
/-! DLP6: the truth of dicts and lists. -/
namespace DL
open PySem PySem.Spec PyProof.Rows L2
section
variable {X : Cx} {g : Gb} {W : WX} {σ σ' : Sg} {H : Hp} {m : E} {a : Expr} {pos p : Pos} {j : Nat}
def rTru (K : PySem.W.Frag) : V → Hp → (Bool → Hp → Prop) → Prop := fun x H Q => (∃ (a : Addr) (kvs : List (Key × V)), x = .ref a ∧ Rd H a (.dK kvs) ∧ Q (!kvs.isEmpty) H) ∨ ∃ (a : Addr) (xs : List V), x = .ref a ∧ SqL K H a xs ∧ Q (!xs.isEmpty) H
theorem tru_dl : TruR X (rTru X.K) := by
  intro pins s σ H x v Q I rx h
  have hl := line63
  have hs : sizeLine = 16777216 := sizeLine_eq
  rcases h with ⟨p, kvs, rfl, hx, q⟩ | ⟨p, xs, rfl, hx, q⟩
  · cases rx
    obtain ⟨hz, hS, vs, r, m⟩ : kvs.length ≤ sizeLine ∧ (p == sysModules) = false ∧ ∃ vs, KV kvs vs ∧ s.heap.DictOf (mixKind X.prog X.w) p vs := hx.ok I.hok
    have hlen : kvs.length = vs.length := Paired.length r
    exact wpAny_truthy_dict hS m (by omega) ⟨H, I.tok _, by rw [isEmpty_kv r]; exact q⟩
  · cases rx
    obtain ⟨its, r, pl, hz⟩ := I.list hx
    have hlen := r.length
    exact wpAny_truthy_list pl.isList (by simp only [List.size_toArray]; omega) ⟨H, I.tok _, by rw [isEmpty_of r]; exact q⟩
def truD : D → Option Bool
  | .dct kds => some (!kds.isEmpty)
  | .lst ds => some (!ds.isEmpty)
  | _ => none
def eTru (m : E) : E := fun ρ => (m ρ).bind fun o ρ1 => match truD o.d.view with
  | some b => .ok (.sh (.bl b)) ρ1
  | none => .stuck
theorem repK_empty {S : Hp} : ∀ {kds : List (Key × D)} {kvs : List (Key × V)}, RepK g S kds kvs → kvs.isEmpty = kds.isEmpty
  | [], kvs, r => by rw [show kvs = [] from r]; rfl
  | _ :: _, kvs, ⟨v, rr, e, _, _⟩ => by subst e; rfl
theorem reps_empty {S : Hp} : ∀ {ds : List D} {vs : List V}, Reps g S ds vs → vs.isEmpty = ds.isEmpty
  | [], vs, r => by rw [show vs = [] from r]; rfl
  | _ :: _, vs, ⟨v, rr, e, _, _⟩ => by subst e; rfl
theorem lt_tru {Q : Bool → Hp → Prop} (q : LT g W (eTru m) σ H Q) : (fun σ H Q => LE g W m σ H fun x H1 => rTru g.K x H1 Q) σ H Q := by
  obtain ⟨Z, S, τ, θ, ρ, st, post⟩ := q
  refine step_flat st post fun o ρ1 v S1 H1 e1 st1 r post1 => ?_
  have r := r.view
  cases ht : truD o.d.view with
  | none => rw [ht] at post1; exact post1.elim
  | some b =>
    rw [ht] at post1
    obtain ⟨b', e', q⟩ := PostR.fin post1 (Ex.refl _) st1 (New.flat (d := .bl b) st1.sub rfl)
    cases e'
    cases hd : o.d.view with
    | dct kds =>
      rw [hd] at ht r
      cases ht
      obtain ⟨p, kvs, rfl, hp, rp⟩ := r
      exact .inl ⟨p, kvs, rfl, st1.sub.rd hp, by rw [repK_empty rp]; exact q⟩
    | lst ds =>
      rw [hd] at ht r
      cases ht
      obtain ⟨p, vs, rfl, hp, rp⟩ := r
      exact .inr ⟨p, vs, rfl, .inl (.inl (st1.sub.lst hp)), by rw [reps_empty rp]; exact q⟩
    | _ => rw [hd] at ht; cases ht
theorem qd_tru (C : Cxt X g W j) (h : PE X a (LE g W m)) (he : ∀ whole, isTrue a X.env whole = (do let v ← whole; standAt a.pos; holding [v] (truthy v)) := by intro _; rfl) : PT X a (LT g W (eTru m)) :=
  PT_imp (pt_truthR h tru_dl he) fun _ _ _ q => by rw [C.K]; exact lt_tru q
end
end DL
set_option Elab.async false
set_option linter.all false
set_option autoImplicit false
set_option maxRecDepth 100000
/-! DH: the functions of the defs that laws share. -/
namespace DH
open PySem DL
def m__law_box_k01 : Sm := (sRet (eLst [(eCB dMax [(eC (.int 0)), (eBin dSub (eVar 0) (eBin dPow (eC (.int 10)) (eC (.int 18))))]), (eBin dMod (eVar 0) (eC (.int 2147483629))), (eBin dMod (eVar 0) (eC (.int 2147483587))), (eC (.int 0))]))
def f__law_box_k01 : List O → R := mkFn 1 0 [] m__law_box_k01
def m_is_whole : Sm := (sRet (eAnd (eCB dIsi [(eVar 0), (eC (.op (.ty "int")))]) (eAnd (eNot (eCB dIsi [(eVar 0), (eC (.op (.ty "bool")))])) (eChn dLe dLe (eVar 1) (eVar 0) (eVar 2)))))
def f_is_whole : List O → R := mkFn 3 0 [] m_is_whole
def m_is_number : Sm := (sRet (eCall f_is_whole [] [(eVar 0), (eC (.int 1)), (eC (.int 99999))]))
def f_is_number : List O → R := mkFn 1 0 [] m_is_number
def m_number_text : Sm := (sSeq (sIf (eNot (eCall f_is_number [] [(eVar 0)])) (sRaise "NoNumber" "value" (eVar 0)) sNext) (sSeq (sAsg (eCB dDivmod [(eVar 0), (eC (.int 100))]) (TD.tg (TD.tp [(TD.nm 1), (TD.nm 2)]))) (sSeq (sIf (eBin dEq (eVar 2) (eC (.int 0))) (sRet (eCB dStr [(eVar 1)])) sNext) (sRet (eJs [(eFmt (eVar 1)), (eC (.str ".")), (eFmt (eBm mRstripC (eTy "str" (eBm mZfill (eTy "str" (eCB dStr [(eVar 2)])) [(eC (.int 2))])) [(eC (.str "0"))]))] Str.empty)))))
def f_number_text : List O → R := mkFn 1 2 [] m_number_text
def m_is_time : Sm := (sRet (eCall f_is_whole [] [(eVar 0), (eC (.int 0)), (eC (.int 9999))]))
def f_is_time : List O → R := mkFn 1 0 [] m_is_time
def m_time_text : Sm := (sSeq (sIf (eNot (eCall f_is_time [] [(eVar 0)])) (sRaise "NoTime" "value" (eVar 0)) sNext) (sSeq (sAsg (eCB dDivmod [(eVar 0), (eC (.int 10))]) (TD.tg (TD.tp [(TD.nm 1), (TD.nm 2)]))) (sRet (eIf (eBin dGt (eVar 2) (eC (.int 0))) (eJs [(eFmt (eVar 1)), (eC (.str ".")), (eFmt (eVar 2))] Str.empty) (eCB dStr [(eVar 1)])))))
def f_time_text : List O → R := mkFn 1 2 [] m_time_text
def m_is_channel : Sm := (sSeq (sIf (eOr (eNot (eCB dIsi [(eVar 0), (eC (.op (.ty "str")))])) (eNot (eChn dLe dLe (eC (.int 1)) (eCB dLen [(eVar 0)]) (eC (.int 8))))) (sRet (eC (.bl false))) sNext) (sRet (eAllI 1 itV (eVar 0) (TD.tg (TD.nm 0)) (eBin dIn (eVar 0) (eC (.str "abcdefghijklmnopqrstuvwxyz"))))))
def f_is_channel : List O → R := mkFn 1 1 [] m_is_channel
def m_is_level : Sm := (sRet (eCall f_is_whole [] [(eVar 0), (eC (.int 0)), (eC (.int 100))]))
def f_is_level : List O → R := mkFn 1 0 [] m_is_level
def m_is_moves : Sm := (sSeq (sIf (eOr (eNot (eCB dIsi [(eVar 0), (eC (.op (.ty "dict")))])) (eBin dGt (eCB dLen [(eVar 0)]) (eC (.int 60)))) (sRet (eC (.bl false))) sNext) (sRet (eAllI 2 itItems (eVar 0) (TD.tg (TD.tp [(TD.nm 0), (TD.nm 1)])) (eAnd (eCall f_is_channel [] [(eVar 0)]) (eCall f_is_level [] [(eVar 1)])))))
def f_is_moves : List O → R := mkFn 1 2 [] m_is_moves
def m__law_channels_k11 (take : List O → R) : Sm := (sSeq (sSet 2 (eC (.str "abcdefghijklmnopqrstuvwxyz"))) (sSeq (sAsg (eTup [(eCallB 0 take [] [(eC (.int 3))]), (eCallB 0 take [] [(eC (.int 26))]), (eCallB 0 take [] [(eC (.int 7))])]) (TD.tg (TD.tp [(TD.nm 3), (TD.nm 4), (TD.nm 5)]))) (sSeq (sSet 6 (eBm mJoin (eTy "str" (eC (.str ""))) [(eLc [7] itRng (eC (.int 7)) (TD.tg (TD.nm 7)) none (eBin dIx (eVar 2) (eCallB 0 take [] [(eC (.int 26))])))])) (sSeq (sIf (eBin dEq (eVar 3) (eC (.int 0))) (sSeq (sSet 8 (eBm mSplit (eTy "str" (eC (.str "up down block cue dark look drop cut store only lean from undo redo put at"))) [(eC (.str " "))])) (sRet (eLc [7] itRng (eVar 1) (TD.tg (TD.nm 7)) none (eBin dIx (eVar 8) (eBin dMod (eBin dAdd (eVar 4) (eBin dMul (eBin dIx (eLst [(eC (.int 1)), (eC (.int 3)), (eC (.int 5)), (eC (.int 7))]) (eBin dMod (eVar 5) (eC (.int 4)))) (eVar 7))) (eC (.int 16))))))) sNext) (sSeq (sIf (eAnd (eBin dEq (eVar 3) (eC (.int 1))) (eBin dLt (eVar 1) (eC (.int 9)))) (sRet (eLc [7] itRng (eVar 1) (TD.tg (TD.nm 7)) none (eSl dSl (eBin dAdd (eBin dIx (eVar 2) (eVar 4)) (eVar 6)) none (some (eBin dAdd (eC (.int 1)) (eBin dMod (eBin dAdd (eVar 5) (eVar 7)) (eC (.int 8)))))))) sNext) (sRet (eLc [7] itRng (eVar 1) (TD.tg (TD.nm 7)) none (eBin dAdd (eBin dAdd (eSl dSl (eVar 6) none (some (eVar 5))) (eBin dIx (eVar 2) (eBin dMod (eBin dAdd (eVar 4) (eBin dMul (eC (.int 5)) (eVar 7))) (eC (.int 26))))) (eSl dSl (eVar 6) (some (eVar 5)) none)))))))))
def f__law_channels_k11 (take : List O → R) : List O → R := mkFn 2 7 [true] (m__law_channels_k11 take)
def m__law_level_k11 (take : List O → R) : Sm := (sRet (eBin dIx (eLst [(eC (.int 0)), (eC (.int 100)), (eCallB 0 take [] [(eC (.int 101))]), (eBin dAdd (eC (.int 1)) (eCallB 0 take [] [(eC (.int 3))]))]) (eCallB 0 take [] [(eC (.int 4))])))
def f__law_level_k11 (take : List O → R) : List O → R := mkFn 1 0 [true] (m__law_level_k11 take)
def m__law_sorted_k11 : Sm := (sRet (eCB dDict [(eLc [1] itV (eCB dSorted [(eVar 0)]) (TD.tg (TD.nm 1)) none (eTup [(eVar 1), (eBin dIx (eVar 0) (eVar 1))]))]))
def f__law_sorted_k11 : List O → R := mkFn 1 1 [] m__law_sorted_k11
def m__law_drawn_k11 (take : List O → R) : Sm := (sSeq (sPar 3 4 (eCB dList [(eVar 1)]) eDct0) (sSeq (sForI itRng (eCallB 0 take [] [(eBin dAdd (eCB dLen [(eVar 1)]) (eC (.int 1)))]) (TD.tg (TD.nm 5)) (sStore 4 (ePopX 3 (eCallB 0 take [] [(eLend (eCB dLen [(eVar 3)]))])) (eCB dMax [(eVar 2), (eCallB 0 (f__law_level_k11 take) [] [])]))) (sRetV 4)))
def f__law_drawn_k11 (take : List O → R) : List O → R := mkFn 3 3 [true] (m__law_drawn_k11 take)
def m_need_moves : Sm := (sIf (eNot (eCall f_is_moves [] [(eVar 0)])) (sRaise "NoMoves" "value" (eVar 0)) sNext)
def f_need_moves : List O → R := mkFn 1 0 [] m_need_moves
def m_pairs_text : Sm := (sRet (eBm mJoin (eTy "str" (eC (.str " "))) [(eLc [1] itV (eCB dSorted [(eVar 0)]) (TD.tg (TD.nm 1)) none (eJs [(eFmt (eVar 1)), (eC (.str "@")), (eFmt (eBin dIx (eVar 0) (eVar 1)))] Str.empty))]))
def f_pairs_text : List O → R := mkFn 1 1 [] m_pairs_text
def m__law_parts_k21 (take : List O → R) : Sm := (sSeq (sSet 2 (eBin dIx (eLst [(eC (.int 1)), (eC (.int 99999)), (eC (.int 100)), (eBin dAdd (eC (.int 1)) (eCallB 0 take [] [(eC (.int 99999))]))]) (eCallB 0 take [] [(eC (.int 4))]))) (sSeq (sSet 3 (eLc [4] itRng (eC (.int 2)) (TD.tg (TD.nm 4)) none (eBin dIx (eLst [(eC (.int 0)), (eC (.int 9999)), (eC (.int 10)), (eCallB 0 take [] [(eC (.int 10000))])]) (eCallB 0 take [] [(eC (.int 4))])))) (sRet (eLst [(eVar 2), (eCallB 0 (f__law_drawn_k11 take) [] [(eVar 1), (eC (.int 0))]), (eBin dIx (eVar 3) (eC (.int 0))), (eBin dIx (eVar 3) (eC (.int 1))), (eBin dEq (eCallB 0 take [] [(eC (.int 2))]) (eC (.int 0)))]))))
def f__law_parts_k21 (take : List O → R) : List O → R := mkFn 2 3 [true] (m__law_parts_k21 take)
def m_Cue___init__ : Sm := (sSeq (sIf (eNot (eCall f_is_number [] [(eVar 1)])) (sRaise "NoNumber" "value" (eVar 1)) sNext) (sSeq (sDrop (eCall f_need_moves [] [(eVar 2)])) (sSeq (sIf (eNot (eCall f_is_time [] [(eVar 3)])) (sRaise "NoTime" "value" (eVar 3)) sNext) (sSeq (sIf (eAnd (eBin dNotN (eVar 4) (eC .non)) (eNot (eCall f_is_time [] [(eVar 4)]))) (sRaise "NoTime" "value" (eVar 4)) sNext) (sSeq (sIf (eNot (eCB dIsi [(eVar 5), (eC (.op (.ty "bool")))])) (sRaise "NoFlag" "value" (eVar 5)) sNext) (sSeq (sFst ["Cue"] 0 "_number" (eVar 1)) (sSeq (sFst ["Cue"] 0 "_moves" (eDc [6] itV (eCB dSorted [(eVar 2)]) (TD.tg (TD.nm 6)) none (eVar 6) (eBin dIx (eVar 2) (eVar 6)))) (sSeq (sFst ["Cue"] 0 "_up" (eVar 3)) (sSeq (sFst ["Cue"] 0 "_down" (eIf (eBin dIsN (eVar 4) (eC .non)) (eVar 3) (eVar 4))) (sFst ["Cue"] 0 "_block" (eVar 5)))))))))))
def f_Cue___init__ : List O → R := mkFn 6 1 [true] m_Cue___init__
def m__law_made_k21 (take : List O → R) : Sm := (sSeq (sSet 2 (eCallB 0 take [] [(eC (.int 3))])) (sSeq (sSet 3 (eCB dDict [(eBin dIx (eVar 1) (eC (.int 1)))])) (sSeq (sIf (eAnd (eBin dEq (eVar 2) (eC (.int 0))) (eBin dEq (eBin dIx (eVar 1) (eC (.int 2))) (eBin dIx (eVar 1) (eC (.int 3))))) (sSet 4 (eLend (eMakeD "Cue" f_Cue___init__ [0, 1, 2, 4, 3] [.non] ([(eBin dIx (eVar 1) (eC (.int 0))), (eVar 3)] ++ [(eBin dIx (eVar 1) (eC (.int 2))), (eBin dIx (eVar 1) (eC (.int 4)))])))) (sIf (eAnd (eBin dEq (eVar 2) (eC (.int 1))) (eBin dEq (eSl dSl (eVar 1) (some (eC (.int 2))) none) (eLst [(eC (.int 0)), (eC (.int 0)), (eC (.bl false))]))) (sSet 4 (eLend (eMakeD "Cue" f_Cue___init__ [0, 1, 2, 3, 4] [.int 0, .non, .bl false] [(eBin dIx (eVar 1) (eC (.int 0))), (eVar 3)]))) (sIf (eAnd (eBin dEq (eVar 2) (eC (.int 2))) (eBin dEq (eBin dIx (eVar 1) (eC (.int 2))) (eBin dIx (eVar 1) (eC (.int 3))))) (sSet 4 (eLend (eMakeD "Cue" f_Cue___init__ [0, 1, 4, 2, 3] [] ([(eBin dIx (eVar 1) (eC (.int 0))), (eVar 3)] ++ [(eC .non), (eBin dIx (eVar 1) (eC (.int 4))), (eBin dIx (eVar 1) (eC (.int 2)))])))) (sSet 4 (eLend (eMakeD "Cue" f_Cue___init__ [0, 1, 4, 3, 2] [] ([(eBin dIx (eVar 1) (eC (.int 0))), (eVar 3)] ++ [(eBin dIx (eVar 1) (eC (.int 4))), (eBin dIx (eVar 1) (eC (.int 3))), (eBin dIx (eVar 1) (eC (.int 2)))]))))))) (sSeq (sStore 3 (eC (.str "late")) (eC (.int 1))) (sRetV 4)))))
def f__law_made_k21 (take : List O → R) : List O → R := mkFn 2 3 [true] (m__law_made_k21 take)
def m_Cue_number : Sm := (sRet (eFld ["Cue"] "_number" (eVar 0)))
def f_Cue_number : List O → R := mkFn 1 0 [] m_Cue_number
def m_Cue_moves : Sm := (sRet (eCB dDict [(eFld ["Cue"] "_moves" (eVar 0))]))
def f_Cue_moves : List O → R := mkFn 1 0 [] m_Cue_moves
def m_Cue_up : Sm := (sRet (eFld ["Cue"] "_up" (eVar 0)))
def f_Cue_up : List O → R := mkFn 1 0 [] m_Cue_up
def m_Cue_down : Sm := (sRet (eFld ["Cue"] "_down" (eVar 0)))
def f_Cue_down : List O → R := mkFn 1 0 [] m_Cue_down
def m_Cue_block : Sm := (sRet (eFld ["Cue"] "_block" (eVar 0)))
def f_Cue_block : List O → R := mkFn 1 0 [] m_Cue_block
def m__law_right_k21 : Sm := (sSeq (sSet 2 (eLst [(eBin dIx (eVar 1) (eC (.int 0))), (eCall f__law_sorted_k11 [] [(eBin dIx (eVar 1) (eC (.int 1)))]), (eBin dIx (eVar 1) (eC (.int 2))), (eBin dIx (eVar 1) (eC (.int 3))), (eBin dIx (eVar 1) (eC (.int 4)))])) (sSeq (sForI itRng (eC (.int 2)) (TD.tg (TD.nm 3)) (sSeq (sSet 4 (eLst [(eMet "Cue" "number" f_Cue_number [] (eVar 0) []), (eMet "Cue" "moves" f_Cue_moves [] (eVar 0) []), (eMet "Cue" "up" f_Cue_up [] (eVar 0) []), (eMet "Cue" "down" f_Cue_down [] (eVar 0) []), (eMet "Cue" "block" f_Cue_block [] (eVar 0) [])])) (sSeq (sIf (eLend (eOr (eNot (eIsC ["Cue"] "Cue" (eVar 0))) (eOr (eBin dNe (eVar 4) (eVar 2)) (eBin dNe (eCB dRepr [(eVar 4)]) (eCB dRepr [(eVar 2)]))))) (sRet (eC (.bl false))) sNext) (sPut 4 [.ix 1] (.str "more") (eC (.int 7)))))) (sRet (eC (.bl true)))))
def f__law_right_k21 : List O → R := mkFn 2 3 [] m__law_right_k21
def m__law_otherwise_k21 (take : List O → R) : Sm := (sSeq (sPar 3 4 (eCB dList [(eVar 1)]) (eCallB 0 take [] [(eC (.int 7))])) (sSeq (sIf (eBin dEq (eVar 4) (eC (.int 0))) (sStore 3 (eC (.int 0)) (eBin dAdd (eBin dMod (eBin dIx (eVar 1) (eC (.int 0))) (eC (.int 99999))) (eC (.int 1)))) sNext) (sSeq (sIf (eBin dEq (eVar 4) (eC (.int 1))) (sStore 3 (eC (.int 1)) (eCallB 0 (f__law_drawn_k11 take) [] [(eVar 2), (eC (.int 0))])) sNext) (sSeq (sIf (eBin dIn (eVar 4) (eLst [(eC (.int 2)), (eC (.int 3))])) (sStore 3 (eVar 4) (eBin dMod (eBin dAdd (eBin dIx (eVar 1) (eVar 4)) (eC (.int 1))) (eC (.int 10000)))) sNext) (sSeq (sIf (eBin dEq (eVar 4) (eC (.int 4))) (sStore 3 (eC (.int 4)) (eNot (eBin dIx (eVar 1) (eC (.int 4))))) sNext) (sSeq (sIf (eAnd (eBin dEq (eVar 4) (eC (.int 5))) (eBin dNe (eBin dIx (eVar 1) (eC (.int 1))) eDct0)) (sStore 3 (eC (.int 1)) (eCB dDict [(eLc [5] itV (eSl dSl (eCB dList [(eBin dIx (eVar 1) (eC (.int 1)))]) (some (eC (.int 1))) none) (TD.tg (TD.nm 5)) none (eTup [(eVar 5), (eBin dIx (eBin dIx (eVar 1) (eC (.int 1))) (eVar 5))]))])) sNext) (sRetV 3)))))))
def f__law_otherwise_k21 (take : List O → R) : List O → R := mkFn 3 3 [true] (m__law_otherwise_k21 take)
def m_Cue_with_moves : Sm := (sRet (eMakeD "Cue" f_Cue___init__ [0, 1, 2, 3, 4] [] ([(eFld ["Cue"] "_number" (eVar 0)), (eVar 1)] ++ [(eFld ["Cue"] "_up" (eVar 0)), (eFld ["Cue"] "_down" (eVar 0)), (eFld ["Cue"] "_block" (eVar 0))])))
def f_Cue_with_moves : List O → R := mkFn 2 0 [] m_Cue_with_moves
def m_Cue_with_number : Sm := (sRet (eMakeD "Cue" f_Cue___init__ [0, 1, 2, 3, 4] [] ([(eVar 1), (eFld ["Cue"] "_moves" (eVar 0))] ++ [(eFld ["Cue"] "_up" (eVar 0)), (eFld ["Cue"] "_down" (eVar 0)), (eFld ["Cue"] "_block" (eVar 0))])))
def f_Cue_with_number : List O → R := mkFn 2 0 [] m_Cue_with_number
def m_Cue_with_block : Sm := (sRet (eMakeD "Cue" f_Cue___init__ [0, 1, 2, 3, 4] [] ([(eFld ["Cue"] "_number" (eVar 0)), (eFld ["Cue"] "_moves" (eVar 0))] ++ [(eFld ["Cue"] "_up" (eVar 0)), (eFld ["Cue"] "_down" (eVar 0)), (eVar 1)])))
def f_Cue_with_block : List O → R := mkFn 2 0 [] m_Cue_with_block
def m_Cue_text : Sm := (sSeq (sSet 1 (eLst [(eC (.str "cue")), (eCall f_number_text [] [(eFld ["Cue"] "_number" (eVar 0))]), (eC (.str "up")), (eCall f_time_text [] [(eFld ["Cue"] "_up" (eVar 0))]), (eC (.str "down")), (eCall f_time_text [] [(eFld ["Cue"] "_down" (eVar 0))])])) (sSeq (sIf (eFld ["Cue"] "_block" (eVar 0)) (sDrop (eApp 1 (eC (.str "block")))) sNext) (sSeq (sIf (eTru (eFld ["Cue"] "_moves" (eVar 0))) (sDrop (eApp 1 (eCall f_pairs_text [] [(eFld ["Cue"] "_moves" (eVar 0))]))) sNext) (sRet (eBm mJoin (eTy "str" (eC (.str " "))) [(eVar 1)])))))
def f_Cue_text : List O → R := mkFn 1 1 [] m_Cue_text
def m_Cue___str__ : Sm := (sRet (eFmt (eMet "Cue" "text" f_Cue_text [] (eVar 0) [])))
def f_Cue___str__ : List O → R := mkFn 1 0 [] m_Cue___str__
def m_Cue_parts : Sm := (sRet (eTup [(eFld ["Cue"] "_number" (eVar 0)), (eFld ["Cue"] "_moves" (eVar 0)), (eFld ["Cue"] "_up" (eVar 0)), (eFld ["Cue"] "_down" (eVar 0)), (eFld ["Cue"] "_block" (eVar 0))]))
def f_Cue_parts : List O → R := mkFn 1 0 [] m_Cue_parts
def m_Cue___eq__ : Sm := (sRet (eAnd (eIsC ["Cue"] "Cue" (eVar 1)) (eBin dEq (eMet "Cue" "parts" f_Cue_parts [] (eVar 0) []) (eMet "Cue" "parts" f_Cue_parts [] (eVar 1) []))))
def f_Cue___eq__ : List O → R := mkFn 2 0 [] m_Cue___eq__
def m_Show_cues : Sm := (sRet (eCB dList [(eFld ["Show"] "_cues" (eVar 0))]))
def f_Show_cues : List O → R := mkFn 1 0 [] m_Show_cues
def m_Show___eq__ : Sm := (sRet (eAnd (eIsC ["Show"] "Show" (eVar 1)) (eEqC [("Cue", f_Cue___eq__, pfCue)] 2 (eFld ["Show"] "_cues" (eVar 0)) (eMet "Show" "cues" f_Show_cues [] (eVar 1) []))))
def f_Show___eq__ : List O → R := mkFn 2 0 [] m_Show___eq__
end DH
set_option Elab.async false
set_option linter.all false
set_option maxRecDepth 100000
set_option autoImplicit false
/-! DQ: the own == of cues and shows says True of the same thing. -/
namespace DL
open PySem PySem.Spec PyProof.Rows L2
abbrev lkS (fs : List (Str × D)) (x : String) : Option D := fs.lookup (Str.ofString x)
theorem eFld_at {c : Str} {fs : List (Str × D)} {f : Str} {i : Nat} {ρ : En} (hi : ρ[i]? = some (.v (.sh (.ins c fs)))) : eFld [c] f (eVar i) ρ = match fs.lookup f with | some d => .ok (.sh d) ρ | none => .stuck := by
  unfold eFld eVar
  rw [hi]
  show (if c ∈ [c] then _ else _) = _
  rw [if_pos (List.mem_singleton.mpr rfl)]
  all_goals cases fs.lookup f <;> rfl
theorem eMet_at {c m : Str} {fs : List (Str × D)} {fn : List O → R} {i : Nat} {ρ : En} (hi : ρ[i]? = some (.v (.sh (.ins c fs)))) : eMet c m fn [] (eVar i) [] ρ = if (fs.lookup m).isNone = true then after (fn [.sh (.ins c fs)]) ρ else .stuck := by
  unfold eMet eVar
  rw [hi]
  show (if c = c ∧ (fs.lookup m).isNone = true then _ else _) = _
  by_cases q : (fs.lookup m).isNone = true
  · rw [if_pos ⟨rfl, q⟩, if_pos q]
    rfl
  · rw [if_neg fun z => q z.2, if_neg q]
theorem parts_ok {fs : List (Str × D)} {o : O} {ρ : En} (h : DH.f_Cue_parts [.sh (.ins "Cue" fs)] = .ok o ρ) :
    ∃ d0 d1 d2 d3 d4, lkS fs "_number" = some d0 ∧ lkS fs "_moves" = some d1 ∧ lkS fs "_up" = some d2 ∧ lkS fs "_down" = some d3 ∧ lkS fs "_block" = some d4 ∧ o = .sh (.tup [d0, d1, d2, d3, d4]) := by
  have hv := fun f => eFld_at (c := "Cue") (fs := fs) (f := f) (i := 0) (ρ := [.v (.sh (.ins "Cue" fs))]) rfl
  have h : (((sRet (eTup [eFld ["Cue"] "_number" (eVar 0), eFld ["Cue"] "_moves" (eVar 0), eFld ["Cue"] "_up" (eVar 0), eFld ["Cue"] "_down" (eVar 0), eFld ["Cue"] "_block" (eVar 0)]) [.v (.sh (.ins "Cue" fs))]).back 1) : R) = .ok o ρ := h
  unfold sRet eTup lkS at *
  cases h0 : fs.lookup (Str.ofString "_number") with
  | none => simp [evs, hv, h0, RA.bind, R.toO, Out.back] at h
  | some d0 =>
  cases h1 : fs.lookup (Str.ofString "_moves") with
  | none => simp [evs, hv, h0, h1, RA.bind, R.toO, Out.back] at h
  | some d1 =>
  cases h2 : fs.lookup (Str.ofString "_up") with
  | none => simp [evs, hv, h0, h1, h2, RA.bind, R.toO, Out.back] at h
  | some d2 =>
  cases h3 : fs.lookup (Str.ofString "_down") with
  | none => simp [evs, hv, h0, h1, h2, h3, RA.bind, R.toO, Out.back] at h
  | some d3 =>
  cases h4 : fs.lookup (Str.ofString "_block") with
  | none => simp [evs, hv, h0, h1, h2, h3, h4, RA.bind, R.toO, Out.back] at h
  | some d4 =>
    simp [evs, hv, h0, h1, h2, h3, h4, RA.bind, R.toO, Out.back] at h
    exact ⟨d0, d1, d2, d3, d4, rfl, rfl, rfl, rfl, rfl, h.1.symm⟩
theorem refl_Cue {g : Gb} : ReflE g "Cue" DH.f_Cue___eq__ pfCue := by
  intro X H S s pins σ fs gs v b ρ I hK sb _ rx ry h
  have h : (((sRet (eAnd (eIsC ["Cue"] "Cue" (eVar 1)) (eBin dEq (eMet "Cue" "parts" DH.f_Cue_parts [] (eVar 0) []) (eMet "Cue" "parts" DH.f_Cue_parts [] (eVar 1) []))) [.v (.sh (.ins "Cue" fs)), .v (.sh (.ins "Cue" gs))]).back 2) : R) = .ok (.sh (.bl b)) ρ := h
  have hc : eIsC ["Cue"] "Cue" (eVar 1) [.v (.sh (.ins "Cue" fs)), .v (.sh (.ins "Cue" gs))] = .ok (.sh (.bl true)) [.v (.sh (.ins "Cue" fs)), .v (.sh (.ins "Cue" gs))] := by
    rfl
  have h1 := eMet_at (c := "Cue") (m := "parts") (fs := fs) (fn := DH.f_Cue_parts) (i := 0) (ρ := [.v (.sh (.ins "Cue" fs)), .v (.sh (.ins "Cue" gs))]) rfl
  have h2 := eMet_at (c := "Cue") (m := "parts") (fs := gs) (fn := DH.f_Cue_parts) (i := 1) (ρ := [.v (.sh (.ins "Cue" fs)), .v (.sh (.ins "Cue" gs))]) rfl
  have ha : ∀ B : E, eAnd (eIsC ["Cue"] "Cue" (eVar 1)) B [.v (.sh (.ins "Cue" fs)), .v (.sh (.ins "Cue" gs))] = B [.v (.sh (.ins "Cue" fs)), .v (.sh (.ins "Cue" gs))] := fun B => by
    unfold eAnd
    rw [hc]
    rfl
  unfold sRet at h
  rw [ha] at h
  unfold eBin at h
  rw [h1] at h
  split at h
  case isFalse => simp [R.bind, R.toO, Out.back] at h
  cases p1 : DH.f_Cue_parts [.sh (.ins "Cue" fs)] with
  | stuck => rw [p1] at h; simp [after, R.bind, R.toO, Out.back] at h
  | exc x ρ1 => rw [p1] at h; simp [after, R.bind, R.toO, Out.back] at h
  | ok o1 ρ1 =>
    rw [p1] at h
    have h : Out.back 2 (R.toO (R.bind (eMet "Cue" "parts" DH.f_Cue_parts [] (eVar 1) [] [.v (.sh (.ins "Cue" fs)), .v (.sh (.ins "Cue" gs))]) fun o2 ρ2 => R.of (dEq o1.d.view o2.d.view) ρ2) fun o ρ => Out.ret o ρ) = .ok (.sh (.bl b)) ρ := h
    rw [h2] at h
    split at h
    case isFalse => simp [R.bind, R.toO, Out.back] at h
    cases p2 : DH.f_Cue_parts [.sh (.ins "Cue" gs)] with
    | stuck => rw [p2] at h; simp [after, R.bind, R.toO, Out.back] at h
    | exc x ρ1 => rw [p2] at h; simp [after, R.bind, R.toO, Out.back] at h
    | ok o2 ρ2 =>
      rw [p2] at h
      obtain ⟨a0, a1, a2, a3, a4, l0, l1, l2, l3, l4, rfl⟩ := parts_ok p1
      obtain ⟨b0, b1, b2, b3, b4, m0, m1, m2, m3, m4, rfl⟩ := parts_ok p2
      obtain ⟨a, dx, fvs, rfl, e1, _, r1⟩ := rx
      obtain ⟨a', dx', gvs, e, e2, _, r2⟩ := ry
      cases e
      rw [e1] at e2
      cases e2
      have same : ∀ {x : String} {p q : D} {c : Bool} {n : Nat}, lkS fs x = some p → lkS gs x = some q → eqN n p q = some c → c = true := fun {x p q c n} hp hq hc => by
        obtain ⟨v1, z1, w1⟩ := r1.lookup hp
        obtain ⟨v2, z2, w2⟩ := r2.lookup hq
        rw [z1] at z2
        cases z2
        exact eqN_same I hK sb n p q v1 c w1 w2 hc
      simp only [after, R.bind, O.d, D.view, dEq] at h
      cases he : eqN 60 (.tup [a0, a1, a2, a3, a4]) (.tup [b0, b1, b2, b3, b4]) with
      | none => rw [he] at h; simp [R.of, R.toO, Out.back] at h
      | some c =>
        rw [he] at h
        simp [R.of, R.toO, Out.back] at h
        rw [← h.1]
        unfold eqN at he
        simp only [D.view, eqAll] at he
        cases q0 : eqN 59 a0 b0 with
        | none => rw [q0] at he; cases he
        | some c0 =>
        cases q1 : eqN 59 a1 b1 with
        | none => rw [q0, q1] at he; cases he
        | some c1 =>
        cases q2 : eqN 59 a2 b2 with
        | none => rw [q0, q1, q2] at he; cases he
        | some c2 =>
        cases q3 : eqN 59 a3 b3 with
        | none => rw [q0, q1, q2, q3] at he; cases he
        | some c3 =>
        cases q4 : eqN 59 a4 b4 with
        | none => rw [q0, q1, q2, q3, q4] at he; cases he
        | some c4 =>
          rw [q0, q1, q2, q3, q4] at he
          rw [same l0 m0 q0, same l1 m1 q1, same l2 m2 q2, same l3 m3 q3, same l4 m4 q4] at he
          simpa using he.symm
end DL
set_option Elab.async false
set_option linter.all false
set_option autoImplicit false
/-! PL: the plain layer: evaluation of the combinators on data. -/
namespace DL
open PySem PySem.Spec PyProof.Rows L2
section
variable {i j : Nat} {ρ ρ1 : En} {d : D} {o : O} {os : List O} {kos : List (Key × O)} {m a b c : E} {ms : List E} {s : Sm} {x y : R} {u w : Out}
def varK (i : Nat) (ρ : En) : Option Sl → R
  | some (.v (.sh d)) => .ok (.sh d) ρ
  | some (.v o) => .ok (.sh o.d) (ρ.set i (.v (.sh o.d)))
  | _ => .stuck
theorem eVar_ev : eVar i ρ = varK i ρ (ρ[i]?) := by
  unfold eVar
  generalize ρ[i]? = s
  rcases s with _ | _ | (_ | _ | _ | _) | _ <;> rfl
theorem var_sh : varK i ρ (some (.v (.sh d))) = .ok (.sh d) ρ := rfl
theorem var_lst : varK i ρ (some (.v (.lst os))) = .ok (.sh (.lst (O.ds os))) (ρ.set i (.v (.sh (.lst (O.ds os))))) := rfl
theorem var_dct : varK i ρ (some (.v (.dct kos))) = .ok (.sh (.dct (O.dk kos))) (ρ.set i (.v (.sh (.dct (O.dk kos))))) := rfl
theorem eC_ev : eC d ρ = .ok (.sh d) ρ := rfl
theorem bind_ok {k : O → E} : R.bind (.ok o ρ) k = k o ρ := rfl
theorem toO_ok {k : O → En → Out} : R.toO (.ok o ρ) k = k o ρ := rfl
theorem ra_ok {k : List O → E} : RA.bind (.ok os ρ) k = k os ρ := rfl
theorem then_next {k : Sm} : Out.andThen (.next ρ) k = k ρ := rfl
theorem then_ret {k : Sm} : Out.andThen (.ret o ρ) k = .ret o ρ := rfl
theorem of_some : R.of (some o) ρ = .ok o ρ := rfl
theorem back_next {n : Nat} : Out.back n (.next ρ) = .ok (.sh .non) (backs n ρ) := rfl
theorem back_ret {n : Nat} : Out.back n (.ret o ρ) = .ok o (backs n ρ) := rfl
theorem after_ok : after (.ok o ρ1) ρ = .ok o ρ := rfl
theorem afterB_ok {o' : O} : afterB (.ok o (.b o' :: ρ1)) i ρ = .ok o (ρ.set i ((ρ.getD i .no).re o')) := rfl
theorem re_b {o o' : O} : (Sl.b o).re o' = .b o' := rfl
theorem re_v {o o' : O} : (Sl.v o).re o' = .v o' := rfl
theorem re_no {o' : O} : Sl.no.re o' = .v o' := rfl
theorem slO_v : slO (.v o) = some o := rfl
theorem slO_b : slO (.b o) = some o := rfl
theorem slO_no : slO .no = none := rfl
/-! argument lists -/
def consA (o : O) : RA → RA
  | .ok os ρ => .ok (o :: os) ρ
  | .exc x ρ => .exc x ρ
  | .stuck => .stuck
def nextA (ms : List E) : R → RA
  | .ok o ρ => consA o (evs ms ρ)
  | .exc x ρ => .exc x ρ
  | .stuck => .stuck
theorem evs_cs : evs (m :: ms) ρ = nextA ms (m ρ) := by
  unfold evs nextA consA
  cases m ρ <;> rfl
/-! tests -/
def tstR (o : O) (x y : R) : R := match o with
  | .sh (.bl true) => x
  | .sh (.bl false) => y
  | _ => .stuck
def tstO (o : O) (x y : Out) : Out := match o with
  | .sh (.bl true) => x
  | .sh (.bl false) => y
  | _ => .stuck
theorem tstR_bl {b : Bool} : tstR (.sh (.bl b)) x y = if b = true then x else y := by cases b <;> rfl
theorem tstO_bl {b : Bool} : tstO (.sh (.bl b)) u w = if b = true then u else w := by cases b <;> rfl
theorem eAnd_ev : eAnd a b ρ = (a ρ).bind fun o ρ1 => tstR o (b ρ1) (.ok (.sh (.bl false)) ρ1) := rfl
theorem eOr_ev : eOr a b ρ = (a ρ).bind fun o ρ1 => tstR o (.ok (.sh (.bl true)) ρ1) (b ρ1) := rfl
theorem eIf_ev : eIf c a b ρ = (c ρ).bind fun o ρ1 => tstR o (a ρ1) (b ρ1) := rfl
theorem sIf_ev {s t : Sm} : sIf c s t ρ = (c ρ).toO fun o ρ1 => tstO o (s ρ1) (t ρ1) := rfl
def notR (o : O) (ρ : En) : R := match o with
  | .sh (.bl b) => .ok (.sh (.bl (!b))) ρ
  | _ => .stuck
theorem eNot_ev : eNot a ρ = (a ρ).bind notR := rfl
theorem notR_bl {b : Bool} : notR (.sh (.bl b)) ρ = .ok (.sh (.bl (!b))) ρ := rfl
/-! slots -/
def putK (i : Nat) (o : O) (ρ : En) : Option Sl → Out
  | some (.b _) => .stuck
  | some _ => .next (ρ.set i (.v o))
  | none => .stuck
theorem put_ev : En.put ρ i o = putK i o ρ (ρ[i]?) := by
  unfold En.put
  generalize ρ[i]? = s
  rcases s with _ | _ | _ | _ <;> rfl
theorem put_no : putK i o ρ (some .no) = .next (ρ.set i (.v o)) := rfl
theorem put_v {o' : O} : putK i o ρ (some (.v o')) = .next (ρ.set i (.v o)) := rfl
def retK (i : Nat) (ρ : En) : Option Sl → Out
  | some (.v o) => .ret o (ρ.set i .no)
  | _ => .stuck
theorem retV_ev : sRetV i ρ = retK i ρ (ρ[i]?) := by
  unfold sRetV
  generalize ρ[i]? = s
  rcases s with _ | _ | _ | _ <;> rfl
theorem ret_v : retK i ρ (some (.v o)) = .ret o (ρ.set i .no) := rfl
def pixK (k : O) (ρ : En) : Option O → R
  | some oi => R.of ((oIx oi k.d.view).map .sh) ρ
  | none => .stuck
theorem pixK_some {k oi : O} : pixK k ρ (some oi) = R.of ((oIx oi k.d.view).map .sh) ρ := rfl
def guardR (o : Option O) (r : R) : R := match o with
  | some _ => r
  | none => .stuck
theorem guardR_some : guardR (some o) x = x := rfl
theorem ePix_ev : ePix i m ρ = guardR (slO (ρ.getD i .no)) ((m ρ).bind fun o ρ1 => pixK o ρ1 (slO (ρ1.getD i .no))) := by
  unfold ePix guardR
  cases slO (ρ.getD i .no) with
  | none => rfl
  | some oi =>
    refine (if_pos rfl).trans ?_
    congr 1
    funext o ρ1
    unfold pixK
    cases slO (ρ1.getD i .no) <;> rfl
def oSetO (o k : O) : Option O → Option O
  | some oi => oSet oi k.d.view o
  | none => none
theorem oSetO_some {k oi : O} : oSetO o k (some oi) = oSet oi k.d.view o := rfl
def storeN (i : Nat) (ρ : En) : Option O → Out
  | some o' => .next (ρ.set i ((ρ.getD i .no).re o'))
  | none => .stuck
theorem storeN_some {o' : O} : storeN i ρ (some o') = .next (ρ.set i ((ρ.getD i .no).re o')) := rfl
def guardO (o : Option O) (r : Out) : Out := match o with
  | some _ => r
  | none => .stuck
theorem guardO_some {r : Out} : guardO (some o) r = r := rfl
theorem sStore_ev {mk mv : E} : sStore i mk mv ρ = (mv ρ).toO fun o ρ1 => guardO (slO (ρ1.getD i .no)) ((mk ρ1).toO fun k ρ2 => storeN i ρ2 (oSetO o k (slO (ρ2.getD i .no)))) := by
  unfold sStore
  congr 1
  funext o ρ1
  cases slO (ρ1.getD i .no) with
  | none => rfl
  | some oi =>
    refine (if_pos rfl).trans ?_
    unfold guardO
    congr 1
    funext k ρ2
    cases slO (ρ2.getD i .no) <;> rfl
def callBK (fn : List O → R) (dds : List D) (i : Nat) (os : List O) (ρ : En) : Option O → R
  | some oi => afterB (fn (oi :: (O.ds os ++ dds).map .sh)) i ρ
  | none => .stuck
theorem callBK_some {fn : List O → R} {dds : List D} {oi : O} : callBK fn dds i os ρ (some oi) = afterB (fn (oi :: (O.ds os ++ dds).map .sh)) i ρ := rfl
theorem eCallB_ev {fn : List O → R} {dds : List D} : eCallB i fn dds ms ρ = guardR (slO (ρ.getD i .no)) ((evs ms ρ).bind fun os ρ1 => callBK fn dds i os ρ1 (slO (ρ1.getD i .no))) := by
  unfold eCallB guardR
  cases slO (ρ.getD i .no) with
  | none => rfl
  | some oi =>
    congr 1
/-! data -/
theorem d_sh : O.d (.sh d) = d := rfl
theorem d_lst : O.d (.lst os) = .lst (O.ds os) := rfl
theorem d_dct : O.d (.dct kos) = .dct (O.dk kos) := rfl
theorem ds_nil : O.ds [] = [] := rfl
theorem ds_cons : O.ds (o :: os) = o.d :: O.ds os := rfl
theorem vw_int {n : Int} : D.view (.int n) = .int n := rfl
theorem vw_str {s : Str} : D.view (.str s) = .str s := rfl
theorem vw_bl {b : Bool} : D.view (.bl b) = .bl b := rfl
theorem vw_non : D.view .non = .non := rfl
theorem vw_lst {l : List D} : D.view (.lst l) = .lst l := rfl
theorem vw_tup {l : List D} : D.view (.tup l) = .tup l := rfl
theorem vw_dct {l : List (Key × D)} : D.view (.dct l) = .dct l := rfl
theorem vw_scr {l : List Int} : D.view (.scr l) = .scr l := rfl
theorem vw_op {v : V} : D.view (.op v) = .op v := rfl
theorem add_int {a b : Int} : dAdd (.int a) (.int b) = some (.sh (.int (a + b))) := rfl
theorem sub_int {a b : Int} : dSub (.int a) (.int b) = some (.sh (.int (a - b))) := rfl
theorem mul_int {a b : Int} (h : (-18446744073709551616 < a ∧ a < 18446744073709551616) ∨ (-18446744073709551616 < b ∧ b < 18446744073709551616)) : dMul (.int a) (.int b) = some (.sh (.int (a * b))) := if_pos (by
  show a.natAbs < 18446744073709551616 ∨ b.natAbs < 18446744073709551616
  omega)
theorem fdv_int {a b : Int} (h : 0 < b ∧ b < 340282366920938463463374607431768211456) : dFdv (.int a) (.int b) = some (.sh (.int (a / b))) := if_pos h
theorem mod_int {a b : Int} (h : 0 < b) : dMod (.int a) (.int b) = some (.sh (.int (a % b))) := if_pos h
theorem pow_int {a b : Int} (h : 0 ≤ b ∧ b ≤ 1000 ∧ -18446744073709551616 < a ∧ a < 18446744073709551616) : dPow (.int a) (.int b) = some (.sh (.int (a ^ b.toNat))) := if_pos ⟨h.1, h.2.1, by
  show a.natAbs < 18446744073709551616
  omega⟩
theorem lt_int {a b : Int} : dLt (.int a) (.int b) = some (.sh (.bl (decide (a < b)))) := rfl
theorem gt_int {a b : Int} : dGt (.int a) (.int b) = some (.sh (.bl (decide (b < a)))) := rfl
theorem le_int {a b : Int} : dLe (.int a) (.int b) = some (.sh (.bl (decide (a ≤ b)))) := rfl
theorem ge_int {a b : Int} : dGe (.int a) (.int b) = some (.sh (.bl (decide (b ≤ a)))) := rfl
theorem max_int {a b : Int} : dMax [.int a, .int b] = some (.sh (.int (if b > a then b else a))) := rfl
theorem min_int {a b : Int} : dMin [.int a, .int b] = some (.sh (.int (if b < a then b else a))) := rfl
theorem len_lst {l : List D} : dLen [.lst l] = some (.sh (.int l.length)) := rfl
theorem len_tup {l : List D} : dLen [.tup l] = some (.sh (.int l.length)) := rfl
theorem len_scr {l : List Int} : dLen [.scr l] = some (.sh (.int l.length)) := rfl
theorem len_dct {l : List (Key × D)} : dLen [.dct l] = some (.sh (.int l.length)) := rfl
/-- the four places of a box -/
abbrev box (a b c t : Int) : O := .lst [.sh (.int a), .sh (.int b), .sh (.int c), .sh (.int t)]
theorem box0 {a b c t : Int} : oIx (box a b c t) (.int 0) = some (.int a) := rfl
theorem box1 {a b c t : Int} : oIx (box a b c t) (.int 1) = some (.int b) := rfl
theorem box2 {a b c t : Int} : oIx (box a b c t) (.int 2) = some (.int c) := rfl
theorem box3 {a b c t : Int} : oIx (box a b c t) (.int 3) = some (.int t) := rfl
theorem sbox0 {a b c t z : Int} : oSet (box a b c t) (.int 0) (.sh (.int z)) = some (box z b c t) := rfl
theorem sbox3 {a b c t z : Int} : oSet (box a b c t) (.int 3) (.sh (.int z)) = some (box a b c z) := rfl
/-! loops -/
theorem allL_all {n : Nat} {tg : Tg} {mb : E} {p : D → Bool} : ∀ (ds : List D), (∀ d ∈ ds, ∃ ρ1 ρ2, tg d (List.replicate n .no) = some ρ1 ∧ mb ρ1 = .ok (.sh (.bl (p d))) ρ2) → allL n tg mb ds = some (ds.all p)
  | [], h => rfl
  | d :: ds, h => by
    obtain ⟨ρ1, ρ2, h1, h2⟩ := h d List.mem_cons_self
    unfold allL
    rw [h1]
    dsimp only
    rw [h2]
    cases hp : p d with
    | true =>
      dsimp only
      rw [allL_all ds fun x m => h x (List.mem_cons_of_mem _ m)]
      simp [hp]
    | false => simp [hp]
def allN (ρ : En) : Option Bool → R
  | some b => .ok (.sh (.bl b)) ρ
  | none => .stuck
def allK (n : Nat) (tg : Tg) (mb : E) (ρ : En) : Option (List D) → R
  | some ds => allN ρ (allL n tg mb ds)
  | none => .stuck
theorem eAllI_ev {n : Nat} {items : D → Option (List D)} {tg : Tg} {mb : E} : eAllI n items m tg mb ρ = (m ρ).bind fun o ρ1 => allK n tg mb ρ1 (items o.d.view) := by
  unfold eAllI
  congr 1
theorem allK_some {n : Nat} {tg : Tg} {mb : E} {ds : List D} : allK n tg mb ρ (some ds) = allN ρ (allL n tg mb ds) := rfl
theorem allN_some {b : Bool} : allN ρ (some b) = .ok (.sh (.bl b)) ρ := rfl
def lcN : Option (List O × En) → R
  | some (os, ρ) => .ok (.lst os) ρ
  | none => .stuck
def lcK (vs : List Nat) (tg : Tg) (mt : Option E) (me : E) (ρ : En) : Option (List D) → R
  | some ds => if ds.length ≤ 1000000 then lcN (lcL vs tg mt me ds [] (wipeE ρ vs)) else .stuck
  | none => .stuck
theorem eLc_ev {vs : List Nat} {items : D → Option (List D)} {tg : Tg} {mt : Option E} {me : E} : eLc vs items m tg mt me ρ = (m ρ).bind fun o ρ1 => lcK vs tg mt me ρ1 (items o.d.view) := by
  unfold eLc
  congr 1
theorem lcK_some {vs : List Nat} {tg : Tg} {mt : Option E} {me : E} {ds : List D} (h : ds.length ≤ 1000000) : lcK vs tg mt me ρ (some ds) = lcN (lcL vs tg mt me ds [] (wipeE ρ vs)) := if_pos h
theorem lcN_some : lcN (some (os, ρ)) = .ok (.lst os) ρ := rfl
def dcN : Option (List (Key × D) × En) → R
  | some (kds, ρ) => .ok (.dct (kds.map fun p => (p.1, .sh p.2))) ρ
  | none => .stuck
def dcK (vs : List Nat) (tg : Tg) (mt : Option E) (mk me : E) (ρ : En) : Option (List D) → R
  | some ds => if ds.length ≤ 1000000 then dcN (dcL vs tg mt mk me ds [] (wipeE ρ vs)) else .stuck
  | none => .stuck
theorem eDc_ev {vs : List Nat} {items : D → Option (List D)} {tg : Tg} {mt : Option E} {mk me : E} : eDc vs items m tg mt mk me ρ = (m ρ).bind fun o ρ1 => dcK vs tg mt mk me ρ1 (items o.d.view) := by
  unfold eDc
  congr 1
theorem dcK_some {vs : List Nat} {tg : Tg} {mt : Option E} {mk me : E} {ds : List D} (h : ds.length ≤ 1000000) : dcK vs tg mt mk me ρ (some ds) = dcN (dcL vs tg mt mk me ds [] (wipeE ρ vs)) := if_pos h
def forK (tg : Tg) (body : Sm) (ρ : En) : Option (List D) → Out
  | some ds => forL tg body ds ρ
  | none => .stuck
theorem sForI_ev {items : D → Option (List D)} {tg : Tg} {body : Sm} : sForI items m tg body ρ = (m ρ).toO fun o ρ1 => forK tg body ρ1 (items o.d.view) := by
  unfold sForI
  congr 1
theorem forK_some {tg : Tg} {body : Sm} {ds : List D} : forK tg body ρ (some ds) = forL tg body ds ρ := rfl
end
end DL
set_option Elab.async false
set_option linter.all false
set_option autoImplicit false
set_option maxRecDepth 20000
/-! PB: the plain layer's base: free slots, dicts by texts, loops by facts. -/
namespace DL
open PySem PySem.Spec PyProof.Rows L2
section
variable {i j k n : Nat} {ρ ρ1 : En} {d : D} {o o' : O} {s : Sl}
/-! ### slots from k on are free to be stored -/
def FrK (k : Nat) (ρ : En) : Prop := ∀ i o, k ≤ i → ρ[i]? ≠ some (.b o)
theorem FrK.sv (h : FrK k ρ) : FrK k (ρ.set i (.v o)) := fun j o' hj e => by
  rw [List.getElem?_set] at e
  split at e
  · split at e
    · cases e
    · cases e
  · exact h j o' hj e
theorem FrK.sn (h : FrK k ρ) : FrK k (ρ.set i .no) := fun j o' hj e => by
  rw [List.getElem?_set] at e
  split at e
  · split at e
    · cases e
    · cases e
  · exact h j o' hj e
theorem FrK.sb (h : FrK 1 ρ) : FrK 1 (ρ.set 0 (.b o)) := fun j o' hj e => by
  rw [List.getElem?_set] at e
  split at e
  · omega
  · exact h j o' hj e
theorem frk_sv (h : FrK k ρ) : FrK k (ρ.set i (.v o)) = True := eq_true h.sv
theorem frk_sn (h : FrK k ρ) : FrK k (ρ.set i .no) = True := eq_true h.sn
theorem frk_sb (h : FrK 1 ρ) : FrK 1 (ρ.set 0 (.b o)) = True := eq_true h.sb
theorem frk_cv (h : FrK 0 ρ) : FrK 0 (.v o :: ρ) := fun j o' hj e => by
  cases j with
  | zero => simp at e
  | succ j => exact h j o' (Nat.zero_le _) (by simpa using e)
theorem frk_replicate {k n : Nat} : FrK k (List.replicate n .no) := fun i o _ e => by
  rw [List.getElem?_replicate] at e
  split at e <;> cases e
theorem getD_some {s0 : Sl} (h : ρ[i]? = some s) : ρ.getD i s0 = s := by rw [List.getD_eq_getElem?_getD, h]; rfl
theorem varK_v : ρ[i]? = some (.v o) → varK i ρ (some (.v o)) = .ok (.sh o.d) (ρ.set i (.v (.sh o.d))) := fun h => by
  cases o with
  | sh d =>
    show R.ok (.sh d) ρ = .ok (.sh d) (ρ.set i (.v (.sh d)))
    congr 1
    apply List.ext_getElem?
    intro j
    by_cases z : i = j
    · subst z; rw [List.getElem?_set_self (List.getElem?_eq_some_iff.mp h).1, h]
    · rw [List.getElem?_set_ne z]
  | _ => rfl
end
/-! ### dicts by texts -/
section
variable {α β : Type}
def getL (L : List (Str × α)) (c : Str) : Option α := (L.find? fun p => decide (p.1 = c)).map (·.2)
def putL (L : List (Str × α)) (c : Str) (v : α) : List (Str × α) := if (L.any fun p => decide (p.1 = c)) = true then L.map (fun p => if p.1 = c then (p.1, v) else p) else L ++ [(c, v)]
def kys (L : List (Str × α)) : List Str := L.map (·.1)
def dkD (f : α → D) (L : List (Str × α)) : D := .dct (L.map fun p => (.inr p.1, f p.2))
def dkO (f : α → D) (L : List (Str × α)) : O := .dct (L.map fun p => (.inr p.1, .sh (f p.2)))
def chD (cs : List Str) : D := .lst (cs.map .str)
variable {f : α → D} {L M : List (Str × α)} {c e : Str} {v w : α}
theorem dk_d : (dkO f L).d = dkD f L := by
  show D.dct (O.dk _) = _
  unfold dkD
  congr 1
  induction L with
  | nil => rfl
  | cons p L ih => show (_, _) :: O.dk _ = _ :: _; rw [ih]; rfl
theorem strsO_d {ys : List Str} : (strsO ys).d = chD ys := by
  show D.lst (O.ds _) = _
  rw [ds_map_sh]; rfl
theorem getL_cons : getL ((e, v) :: L) c = if e = c then some v else getL L c := by
  unfold getL
  rw [List.find?_cons]
  by_cases h : e = c <;> simp [h]
theorem getL_none : getL L c = none ↔ c ∉ kys L := by
  induction L with
  | nil => simp [getL, kys]
  | cons p L ih =>
    obtain ⟨a, b⟩ := p
    rw [getL_cons]
    by_cases h : a = c
    · simp [h, kys]
    · rw [if_neg h, ih]
      simp [kys, Ne.symm h]
theorem getL_mem : getL L c = some v → (c, v) ∈ L := by
  induction L with
  | nil => simp [getL]
  | cons p L ih =>
    obtain ⟨a, b⟩ := p
    rw [getL_cons]
    by_cases h : a = c
    · rw [if_pos h]; intro q; cases q; rw [h]; exact List.mem_cons_self
    · rw [if_neg h]; intro q; exact List.mem_cons_of_mem _ (ih q)
theorem getL_of_mem (nd : (kys L).Nodup) : (c, v) ∈ L → getL L c = some v := by
  induction L with
  | nil => intro h; cases h
  | cons p L ih =>
    obtain ⟨a, b⟩ := p
    obtain ⟨n1, n2⟩ := List.nodup_cons.mp nd
    intro h
    rw [getL_cons]
    rcases List.mem_cons.mp h with h | h
    · cases h; rw [if_pos rfl]
    · have : a ≠ c := fun z => n1 (z ▸ List.mem_map.mpr ⟨_, h, rfl⟩)
      rw [if_neg this]; exact ih n2 h
theorem getL_isSome : (getL L c).isSome = decide (c ∈ kys L) := by
  cases h : getL L c with
  | none => simp [getL_none.mp h]
  | some v => simp; exact List.mem_map.mpr ⟨_, getL_mem h, rfl⟩
theorem lookK_map {f : α → β} : lookK (.inr c) (L.map fun p => ((.inr p.1 : Key), f p.2)) = (getL L c).map f := by
  induction L with
  | nil => rfl
  | cons p L ih =>
    obtain ⟨a, b⟩ := p
    rw [getL_cons]
    unfold lookK at ih ⊢
    rw [List.map_cons, List.find?_cons]
    by_cases h : a = c
    · simp [h]
    · have h2 : ¬ (Sum.inr a : Key) = .inr c := fun z => h (by cases z; rfl)
      simp only [h, h2, decide_false, if_false]
      exact ih
theorem any_map {f : α → β} : ((L.map fun p => ((.inr p.1 : Key), f p.2)).any fun p => decide (p.1 = .inr c)) = L.any fun p => decide (p.1 = c) := by
  rw [List.any_map]
  congr 1
  funext p
  simp [Function.comp]
theorem putO_map : putO (L.map fun p => ((.inr p.1 : Key), O.sh (f p.2))) (.inr c) (.sh (f v)) = (putL L c v).map fun p => ((.inr p.1 : Key), O.sh (f p.2)) := by
  unfold putO putL
  rw [any_map (f := fun x => O.sh (f x))]
  split
  · rw [List.map_map, List.map_map]
    apply List.map_congr_left
    intro p _
    simp only [Function.comp]
    by_cases h : p.1 = c
    · simp [h]
    · simp [h]
  · simp
theorem putD_map {f : α → β} : putD (L.map fun p => ((.inr p.1 : Key), f p.2)) (.inr c) (f v) = (putL L c v).map fun p => ((.inr p.1 : Key), f p.2) := by
  unfold putD putL
  rw [any_map]
  split
  · rw [List.map_map, List.map_map]
    apply List.map_congr_left
    intro p _
    simp only [Function.comp]
    by_cases h : p.1 = c
    · simp [h]
    · simp [h]
  · simp
theorem any_kys : (L.any fun p => decide (p.1 = c)) = decide (c ∈ kys L) := by
  induction L with
  | nil => simp [kys]
  | cons p L ih =>
    rw [List.any_cons, ih]
    simp only [kys, List.map_cons, List.mem_cons]
    by_cases h : p.1 = c
    · simp [h]
    · have : c ≠ p.1 := Ne.symm h
      simp only [h, this, decide_false, Bool.false_or, false_or]
      rfl
theorem putL_new (h : c ∉ kys L) : putL L c v = L ++ [(c, v)] := by
  unfold putL; rw [any_kys]; simp [h]
theorem putL_old (h : c ∈ kys L) : putL L c v = L.map (fun p => if p.1 = c then (p.1, v) else p) := by
  unfold putL; rw [any_kys]; simp [h]
theorem kys_putL : kys (putL L c v) = if c ∈ kys L then kys L else kys L ++ [c] := by
  by_cases h : c ∈ kys L
  · rw [putL_old h, if_pos h]
    unfold kys
    rw [List.map_map]
    apply List.map_congr_left
    intro p _
    simp only [Function.comp]
    split <;> rfl
  · rw [putL_new h, if_neg h]; simp [kys]
theorem nodup_putL (h : (kys L).Nodup) : (kys (putL L c v)).Nodup := by
  rw [kys_putL]
  split
  · exact h
  · rename_i n
    exact List.nodup_append.mpr ⟨h, by simp, fun a m b m2 z => by simp at m2; subst m2; subst z; exact n m⟩
theorem mem_putL {p : Str × α} (h : p ∈ putL L c v) : p ∈ L ∨ p = (c, v) := by
  by_cases m : c ∈ kys L
  · rw [putL_old m] at h
    obtain ⟨q, hq, e⟩ := List.mem_map.mp h
    split at e
    · rename_i z; subst e; exact .inr (by rw [z])
    · subst e; exact .inl hq
  · rw [putL_new m] at h
    rcases List.mem_append.mp h with h | h
    · exact .inl h
    · exact .inr (by simpa using h)
theorem getL_app : getL (L ++ M) c = (getL L c).or (getL M c) := by
  induction L with
  | nil => rfl
  | cons p L ih =>
    obtain ⟨a, b⟩ := p
    rw [List.cons_append, getL_cons, getL_cons]
    split
    · rfl
    · exact ih
theorem getL_upd : getL (L.map fun p => if p.1 = c then (p.1, v) else p) e = if e = c then (getL L c).map (fun _ => v) else getL L e := by
  induction L with
  | nil => simp [getL]
  | cons p L ih =>
    obtain ⟨a, b⟩ := p
    rw [List.map_cons, getL_cons]
    by_cases h : a = c
    · subst h
      simp only [if_true]
      rw [getL_cons, getL_cons]
      by_cases h2 : e = a
      · subst h2; simp
      · have h3 : ¬ a = e := fun z => h2 z.symm
        simp only [h2, h3, if_false]
        rw [ih]; simp [h2]
    · simp only [h, if_false]
      rw [getL_cons, getL_cons]
      by_cases h2 : a = e
      · subst h2; simp [h]
      · simp only [h2, if_false, h]; exact ih
theorem getL_putL : getL (putL L c v) e = if e = c then some v else getL L e := by
  by_cases m : c ∈ kys L
  · rw [putL_old m, getL_upd]
    by_cases h : e = c
    · rw [if_pos h, if_pos h]
      cases q : getL L c with
      | none => exact absurd m (getL_none.mp q)
      | some w => rfl
    · rw [if_neg h, if_neg h]
  · rw [putL_new m, getL_app]
    by_cases h : e = c
    · subst h
      rw [getL_none.mpr m, if_pos rfl, getL_cons, if_pos rfl]
      rfl
    · have : getL [(c, v)] e = none := by rw [getL_cons, if_neg (Ne.symm h)]; rfl
      rw [if_neg h, this]
      cases getL L e <;> rfl
theorem lv_ext : ∀ {L M : List (Str × α)}, (kys L).Nodup → kys L = kys M → (∀ c, getL L c = getL M c) → L = M
  | [], [], _, _, _ => rfl
  | [], q :: M, _, h, _ => by simp [kys] at h
  | p :: L, [], _, h, _ => by simp [kys] at h
  | (a, b) :: L, (a', b') :: M, nd, h, g => by
    have h1 : a = a' ∧ kys L = kys M := by simpa [kys] using h
    obtain ⟨e1, e2⟩ := h1
    subst e1
    have g1 := g a
    rw [getL_cons, getL_cons, if_pos rfl, if_pos rfl] at g1
    cases g1
    obtain ⟨n1, n2⟩ := List.nodup_cons.mp nd
    congr 1
    refine lv_ext n2 e2 fun c => ?_
    by_cases z : a = c
    · subst z
      rw [getL_none.mpr n1, getL_none.mpr (e2 ▸ n1)]
    · have := g c
      rw [getL_cons, getL_cons, if_neg z, if_neg z] at this
      exact this
/-- in ascending order of the texts -/
def srt [Inhabited α] (L : List (Str × α)) : List (Str × α) := (srtS (kys L)).map fun c => (c, (getL L c).getD default)
theorem kys_map {γ : Type} {ys : List γ} {g : γ → Str} {h : γ → α} : kys (ys.map fun c => (g c, h c)) = ys.map g := by
  unfold kys; rw [List.map_map]; rfl
theorem kys_srt [Inhabited α] : kys (srt L) = srtS (kys L) := by
  unfold srt; rw [kys_map]; simp
theorem srt_perm_nodup {xs : List Str} (h : xs.Nodup) : (srtS xs).Nodup := (srtS_perm xs).nodup_iff.mpr h
theorem getL_tab {ys : List Str} {h : Str → α} (m : c ∈ ys) : getL (ys.map fun c => (c, h c)) c = some (h c) := by
  induction ys with
  | nil => cases m
  | cons y ys ih =>
    rw [List.map_cons, getL_cons]
    by_cases z : y = c
    · rw [if_pos z, z]
    · rw [if_neg z]
      rcases List.mem_cons.mp m with m | m
      · exact absurd m.symm z
      · exact ih m
theorem getL_srt [Inhabited α] : getL (srt L) c = getL L c := by
  by_cases m : c ∈ kys L
  · have m2 : c ∈ srtS (kys L) := (srtS_perm _).mem_iff.mpr m
    unfold srt
    rw [getL_tab m2]
    cases h : getL L c with
    | none => exact absurd m (getL_none.mp h)
    | some v => rfl
  · rw [getL_none.mpr m, getL_none.mpr]
    rw [kys_srt]
    exact fun z => m ((srtS_perm _).mem_iff.mp z)
theorem nodup_srt [Inhabited α] (h : (kys L).Nodup) : (kys (srt L)).Nodup := by rw [kys_srt]; exact srt_perm_nodup h
theorem srtS_congr {xs ys : List Str} (h : xs.Perm ys) : srtS xs = srtS ys :=
  sorted_unique (le := fun a b => leS a b = true) leS_anti (((srtS_perm xs).trans h).trans (srtS_perm ys).symm) (srtS_sorted xs) (srtS_sorted ys)
theorem perm_of_mem {xs ys : List Str} (h1 : xs.Nodup) (h2 : ys.Nodup) (h : ∀ c, c ∈ xs ↔ c ∈ ys) : xs.Perm ys := (List.perm_ext_iff_of_nodup h1 h2).mpr h
theorem mem_kys : c ∈ kys L ↔ (getL L c).isSome := by rw [getL_isSome]; simp
theorem srt_congr [Inhabited α] (h1 : (kys L).Nodup) (h2 : (kys M).Nodup) (h : ∀ c, getL L c = getL M c) : srt L = srt M := by
  refine lv_ext (nodup_srt h1) ?_ fun c => by rw [getL_srt, getL_srt, h]
  rw [kys_srt, kys_srt]
  exact srtS_congr (perm_of_mem h1 h2 fun c => by rw [mem_kys, mem_kys, h])
theorem srt_srt [Inhabited α] (h : (kys L).Nodup) : srt (srt L) = srt L := srt_congr (nodup_srt h) h fun _ => getL_srt
end
/-! ### what builtins do with them -/
section
variable {α : Type} {f : α → D} {L M : List (Str × α)} {c e : Str} {v w : α} {i j k n : Nat} {ρ ρ1 : En}
theorem strKeys_dk : strKeys (L.map fun p => (.inr p.1, f p.2)) = some (kys L) := by
  induction L with
  | nil => rfl
  | cons p L ih => rw [List.map_cons]; unfold strKeys; rw [ih]; rfl
theorem view_dk : (dkD f L).view = dkD f L := rfl
theorem view_ch {cs : List Str} : (chD cs).view = chD cs := rfl
theorem sorted_dk (h : L.length < 64) : dSorted [dkD f L] = some (strsO (srtS (kys L))) := by
  show (match strKeys (L.map fun p => (.inr p.1, f p.2)) with | some ys => if ys.length < 64 then some (strsO (srtS ys)) else none | none => none) = _
  rw [strKeys_dk]
  exact if_pos (by simpa [kys] using h)
theorem allStr_ch {cs : List Str} : mJoin.allStr (cs.map .str) = some cs := by
  induction cs with
  | nil => rfl
  | cons p L ih => rw [List.map_cons]; unfold mJoin.allStr; rw [ih]; rfl
theorem dict_dk : dDict [dkD f L] = some (dkO f L) := by
  show some (O.dct ((L.map fun p => (.inr p.1, f p.2)).map fun p => (p.1, .sh p.2))) = _
  rw [List.map_map]; rfl
theorem list_dk : dList [dkD f L] = some (strsO (kys L)) := by
  show some (O.lst (((L.map fun p => (.inr p.1, f p.2)).map fun p => keyDD p.1).map .sh)) = _
  unfold strsO kys
  simp only [List.map_map]
  rfl
theorem list_ch {cs : List Str} : dList [chD cs] = some (strsO cs) := rfl
theorem len_dk : dLen [dkD f L] = some (.sh (.int L.length)) := by
  show some (O.sh (.int (((L.map fun p => ((.inr p.1 : Key), f p.2)).length : Nat) : Int))) = _
  rw [List.length_map]
theorem len_ch {cs : List Str} : dLen [chD cs] = some (.sh (.int cs.length)) := by
  show some (O.sh (.int (((cs.map D.str).length : Nat) : Int))) = _
  rw [List.length_map]
theorem items_dk : itItems (dkD f L) = some (L.map fun p => .tup [.str p.1, f p.2]) := by
  show some ((L.map fun p => ((.inr p.1 : Key), f p.2)).map _) = _
  rw [List.map_map]; rfl
theorem vals_dk : itVals (dkD f L) = some (L.map fun p => f p.2) := by
  show some ((L.map fun p => ((.inr p.1 : Key), f p.2)).map _) = _
  rw [List.map_map]; rfl
theorem keys_dk : itV (dkD f L) = some ((kys L).map .str) := by
  show some ((L.map fun p => ((.inr p.1 : Key), f p.2)).map _) = _
  rw [List.map_map]; unfold kys; rw [List.map_map]; rfl
theorem it_ch {cs : List Str} : itV (chD cs) = some (cs.map .str) := rfl
theorem ix_dk (h : getL L c = some v) : dIx (dkD f L) (.str c) = some (.sh (f v)) := by
  show (some (Sum.inr c : Key)).bind (fun k => (lookK k (L.map fun p => ((.inr p.1 : Key), f p.2))).map O.sh) = _
  rw [Option.bind_some, lookK_map, h]; rfl
theorem in_dk : dIn (.str c) (dkD f L) = some (.sh (.bl (decide (c ∈ kys L)))) := by
  show Option.map _ (some ((lookK (.inr c) (L.map fun p => ((.inr p.1 : Key), f p.2))).isSome)) = _
  rw [lookK_map, Option.isSome_map, getL_isSome]; rfl
theorem notin_dk : dNotIn (.str c) (dkD f L) = some (.sh (.bl (!decide (c ∈ kys L)))) := by
  show Option.map _ (some ((lookK (.inr c) (L.map fun p => ((.inr p.1 : Key), f p.2))).isSome)) = _
  rw [lookK_map, Option.isSome_map, getL_isSome]; rfl
theorem isi_dk : dIsi [dkD f L, .op (.ty "dict")] = some (.sh (.bl true)) := rfl
theorem isi_ch_lt {cs : List Str} : dIsi [chD cs, .tup [.op (.ty "list"), .op (.ty "tuple")]] = some (.sh (.bl true)) := rfl
theorem oset_dk (h : L.length < 1000000) {o : O} (ho : o.d = f v) : oSet (dkO f L) (.str c) o = some (dkO f (putL L c v)) := by
  show (if (L.map fun p => ((.inr p.1 : Key), O.sh (f p.2))).length < 1000000 then (some (Sum.inr c : Key)).map fun k => O.dct (putO (L.map fun p => ((.inr p.1 : Key), O.sh (f p.2))) k (.sh o.d)) else none) = _
  rw [if_pos (by rw [List.length_map]; exact h), ho, Option.map_some, putO_map]
  rfl
theorem dct0_dk : (O.dct []) = dkO f [] := rfl
/-! get -/
def get2K (k : O) (c : O) (ρ : En) : D → R
  | .dct kds => match keyD k.d.view with
    | some kk => .ok (.sh ((lookK kk kds).getD c.d)) ρ
    | none => .stuck
  | _ => .stuck
def isDctR (d : D) (r : R) : R := match d with
  | .dct _ => r
  | _ => .stuck
theorem isDctR_dk {r : R} : isDctR (dkD f L) r = r := rfl
theorem eGet2_ev {mo mk mc : E} : eGet2 mo mk mc ρ = (mo ρ).bind fun o ρ1 => isDctR o.d.view ((mk ρ1).bind fun k ρ2 => (mc ρ2).bind fun c ρ3 => get2K k c ρ3 o.d.view) := by
  unfold eGet2 isDctR get2K
  congr 1
  funext o ρ1
  cases o.d.view <;> rfl
theorem get2K_dk {o : O} {dv : α} (ho : o.d = f dv) : get2K (.sh (.str c)) o ρ (dkD f L) = .ok (.sh (f ((getL L c).getD dv))) ρ := by
  show R.ok (.sh ((lookK (.inr c) (L.map fun p => ((.inr p.1 : Key), f p.2))).getD o.d)) ρ = _
  rw [lookK_map, ho]
  cases getL L c <;> rfl
theorem get2K_int {L : List (Str × Int)} {a : Int} : get2K (.sh (.str c)) (.sh (.int a)) ρ (dkD .int L) = .ok (.sh (.int ((getL L c).getD a))) ρ := get2K_dk rfl
def getPK (k : O) (c : O) (ρ : En) : Option D → R
  | some (.dct kds) => match keyD k.d.view with
    | some kk => R.fl (some (.sh ((lookK kk kds).getD c.d))) ρ
    | none => .stuck
  | _ => .stuck
def getP2K (i : Nat) (mk mc : E) (ρ : En) : Option D → R
  | some d => isDctR d ((mk ρ).bind fun k ρ2 => (mc ρ2).bind fun c ρ3 => getPK k c ρ3 (peekD i ρ3))
  | none => .stuck
theorem eGetP2_ev {mk mc : E} : eGetP2 i mk mc ρ = getP2K i mk mc ρ (peekD i ρ) := by
  unfold eGetP2 getP2K isDctR getPK
  cases peekD i ρ with
  | none => rfl
  | some d => cases d <;> rfl
theorem getP2K_dk {mk mc : E} : getP2K i mk mc ρ (some (dkD f L)) = (mk ρ).bind fun k ρ2 => (mc ρ2).bind fun c ρ3 => getPK k c ρ3 (peekD i ρ3) := rfl
theorem getPK_dk {o : O} {dv : α} (ho : o.d = f dv) (hf : ∀ x, flatO (.sh (f x)) = true) : getPK (.sh (.str c)) o ρ (some (dkD f L)) = .ok (.sh (f ((getL L c).getD dv))) ρ := by
  show R.fl (some (.sh ((lookK (.inr c) (L.map fun p => ((.inr p.1 : Key), f p.2))).getD o.d))) ρ = _
  rw [lookK_map, ho]
  unfold R.fl
  cases getL L c <;> exact if_pos (hf _)
theorem getPK_int {L : List (Str × Int)} {a : Int} : getPK (.sh (.str c)) (.sh (.int a)) ρ (some (dkD .int L)) = .ok (.sh (.int ((getL L c).getD a))) ρ := getPK_dk rfl fun _ => rfl
def cbPK (g : List D → Option O) (ρ : En) : Option D → R
  | some d => R.fl (g [d.view]) ρ
  | none => .stuck
theorem eCBP_ev {g : List D → Option O} : eCBP g i ρ = cbPK g ρ (peekD i ρ) := by
  unfold eCBP cbPK; rfl
theorem cbPK_some {g : List D → Option O} {d : D} : cbPK g ρ (some d) = R.fl (g [d.view]) ρ := rfl
theorem fl_int {a : Int} : R.fl (some (.sh (.int a))) ρ = .ok (.sh (.int a)) ρ := rfl
theorem fl_bl {a : Bool} : R.fl (some (.sh (.bl a))) ρ = .ok (.sh (.bl a)) ρ := rfl
theorem fl_str {a : Str} : R.fl (some (.sh (.str a))) ρ = .ok (.sh (.str a)) ρ := rfl
def binPRK (g : D → D → Option O) (o1 : O) (ρ : En) : Option D → R
  | some d => R.fl (g o1.d.view d.view) ρ
  | none => .stuck
theorem eBinPR_ev {g : D → D → Option O} {ma : E} : eBinPR g ma i ρ = (ma ρ).bind fun o1 ρ2 => binPRK g o1 ρ2 (peekD i ρ2) := by
  unfold eBinPR binPRK
  congr 1
theorem binPRK_some {g : D → D → Option O} {o1 : O} {d : D} : binPRK g o1 ρ (some d) = R.fl (g o1.d.view d.view) ρ := rfl
def popAtK (i : Nat) (k : O) (ρ : En) : Option O → R
  | some (.lst os) => match k.d.view with
    | .int n => if 0 ≤ n ∧ n < 1000000 then match os[n.toNat]? with
      | some o => .ok o (ρ.set i ((ρ.getD i .no).re (.lst (os.eraseIdx n.toNat))))
      | none => .stuck else .stuck
    | _ => .stuck
  | _ => .stuck
def popDK (i : Nat) (k : O) (ρ : En) : Option O → R
  | some (.dct kos) => match keyD k.d.view with
      | some kk => match lkO kk kos with
        | some (.sh d) => .ok (.sh d) (ρ.set i ((ρ.getD i .no).re (.dct (popK kk kos))))
        | _ => .stuck
      | none => .stuck
  | _ => .stuck
def popXK (i : Nat) (m : E) (ρ : En) : Option O → R
  | some (.dct _) => (m ρ).bind fun k ρ1 => popDK i k ρ1 (slO (ρ1.getD i .no))
  | some (.lst _) => (m ρ).bind fun k ρ1 => popAtK i k ρ1 (slO (ρ1.getD i .no))
  | _ => .stuck
theorem ePopX_ev {m : E} : ePopX i m ρ = popXK i m ρ (slO (ρ.getD i .no)) := by
  unfold ePopX eDPop ePopAt popXK popDK popAtK
  generalize slO (ρ.getD i .no) = x
  rcases x with _ | (_ | _ | _ | _ | _)
  · rfl
  · rfl
  · dsimp only
    congr 1
    funext k ρ1
    generalize slO (ρ1.getD i .no) = y
    generalize k.d.view = z
    rcases y with _ | (_ | _ | _ | _ | _) <;> cases z <;> rfl
  · rfl
  · rfl
  · rfl
theorem popXK_strs {m : E} {ys : List Str} : popXK i m ρ (some (strsO ys)) = (m ρ).bind fun k ρ1 => popAtK i k ρ1 (slO (ρ1.getD i .no)) := rfl
theorem popXK_dk {m : E} : popXK i m ρ (some (dkO f L)) = (m ρ).bind fun k ρ1 => popDK i k ρ1 (slO (ρ1.getD i .no)) := rfl
theorem popAtK_lst {os : List O} {x : Int} {o : O} (h0 : 0 ≤ x) (h1 : x < 1000000) (h : os[x.toNat]? = some o) : popAtK i (.sh (.int x)) ρ (some (.lst os)) = .ok o (ρ.set i ((ρ.getD i .no).re (.lst (os.eraseIdx x.toNat)))) := by
  show (if 0 ≤ x ∧ x < 1000000 then match os[x.toNat]? with
      | some o => R.ok o (ρ.set i ((ρ.getD i .no).re (.lst (os.eraseIdx x.toNat))))
      | none => .stuck else .stuck) = _
  rw [if_pos ⟨h0, h1⟩, h]
theorem eraseIdx_map {β γ : Type} {g : β → γ} : ∀ {l : List β} {n : Nat}, (l.map g).eraseIdx n = (l.eraseIdx n).map g
  | [], n => by simp
  | a :: l, 0 => by simp
  | a :: l, n + 1 => by simp [eraseIdx_map (l := l)]
theorem popAtK_strs {ys : List Str} {x : Int} {y : Str} (h0 : 0 ≤ x) (h1 : x < 1000000) (h : ys[x.toNat]? = some y) : popAtK i (.sh (.int x)) ρ (some (strsO ys)) = .ok (.sh (.str y)) (ρ.set i ((ρ.getD i .no).re (strsO (ys.eraseIdx x.toNat)))) := by
  have := popAtK_lst (i := i) (ρ := ρ) (os := ((ys.map D.str).map .sh)) (o := .sh (.str y)) h0 h1 (by simp [h])
  rw [eraseIdx_map, eraseIdx_map] at this
  exact this
def delL {α : Type} (L : List (Str × α)) (c : Str) : List (Str × α) := L.filter fun p => decide (p.1 ≠ c)
theorem kys_delL : kys (delL L c) = (kys L).filter fun x => decide (x ≠ c) := by
  unfold kys delL
  rw [List.filter_map]
  rfl
def appK (i : Nat) (o : O) (ρ : En) : Option O → R
  | some (.lst os) => if os.length < 1000000 then .ok (.sh .non) (ρ.set i ((ρ.getD i .no).re (.lst (os ++ [o])))) else .stuck
  | _ => .stuck
theorem eApp_ev {m : E} : eApp i m ρ = (match slO (ρ.getD i .no) with | some (.lst _) => (m ρ).bind fun o ρ1 => appK i o ρ1 (slO (ρ1.getD i .no)) | _ => .stuck) := by
  unfold eApp appK
  generalize slO (ρ.getD i .no) = x
  rcases x with _ | (_ | _ | _ | _) <;> rfl
theorem appK_lst {o : O} {os : List O} (h : os.length < 1000000) : appK i o ρ (some (.lst os)) = .ok (.sh .non) (ρ.set i ((ρ.getD i .no).re (.lst (os ++ [o])))) := if_pos h
def asgK : Option En → Out
  | some ρ => .next ρ
  | none => .stuck
theorem sAsg_ev {m : E} {tg : Tg} : sAsg m tg ρ = (m ρ).toO fun o ρ1 => asgK (tg o.d ρ1) := by
  unfold sAsg
  congr 1
theorem asgK_some : asgK (some ρ) = .next ρ := rfl
def parK (i j : Nat) : RA → Out
  | .ok [o1, o2] ρ1 => (En.put ρ1 j o2).andThen fun ρ2 => En.put ρ2 i o1
  | .ok _ _ => .stuck
  | .exc x ρ1 => .exc x ρ1
  | .stuck => .stuck
theorem parK_ok {o1 o2 : O} : parK i j (.ok [o1, o2] ρ) = (En.put ρ j o2).andThen fun ρ2 => En.put ρ2 i o1 := rfl
theorem sPar_ev {ma mb : E} (h : i ≠ j) : sPar i j ma mb ρ = parK i j (evs [ma, mb] ρ) := by
  unfold sPar parK
  rcases evs [ma, mb] ρ with ⟨os, ρ1⟩ | _ | _
  · rcases os with _ | ⟨o1, _ | ⟨o2, _ | _⟩⟩ <;> try rfl
    dsimp only
    unfold En.put
    cases hi : ρ1[i]? with
    | none =>
      cases hj : ρ1[j]? with
      | none => rfl
      | some s =>
        cases s with
        | b o => rfl
        | _ => dsimp only [Out.andThen]; rw [List.getElem?_set_ne (Ne.symm h), hi]
    | some s =>
      cases hj : ρ1[j]? with
      | none => cases s <;> rfl
      | some t =>
        cases t with
        | b o => cases s <;> rfl
        | _ => cases s <;> (dsimp only [Out.andThen]; rw [List.getElem?_set_ne (Ne.symm h), hi])
  · rfl
  · rfl
theorem eBm_ev {g : D → List D → Option O} {mo : E} {ms : List E} : eBm g mo ms ρ = (mo ρ).bind fun o ρ1 => (evs ms ρ1).bind fun os ρ2 => R.of (g o.d.view ((O.ds os).map D.view)) ρ2 := rfl
theorem eTy_ev {T : String} {mo : E} : eTy T mo ρ = (mo ρ).bind fun o ρ1 => if isT T o.d.view = true then .ok o ρ1 else .stuck := rfl
theorem isT_str {x : Str} : isT "str" (.str x) = true := rfl
theorem isT_lst {x : List D} : isT "list" (.lst x) = true := rfl
theorem isT_ch {x : List Str} : isT "list" (chD x) = true := rfl
def prtI (k : Option Int → En → R) (ρ : En) : D → R
  | .int i => k (some i) ρ
  | _ => .stuck
theorem prt_none {k : Option Int → En → R} : prt none ρ k = k none ρ := rfl
theorem prt_some {e : E} {k : Option Int → En → R} : prt (some e) ρ k = (e ρ).bind fun o ρ1 => prtI k ρ1 o.d.view := rfl
theorem prtI_int {k : Option Int → En → R} {a : Int} : prtI k ρ (.int a) = k (some a) ρ := rfl
theorem eSl_ev {g : D → Option Int → Option Int → Option O} {m : E} {lo hi : Option E} : eSl g m lo hi ρ = (m ρ).bind fun o ρ1 => prt lo ρ1 fun l ρ2 => prt hi ρ2 fun h ρ3 => R.of (g o.d.view l h) ρ3 := rfl
theorem eCallK_ev {fn : List O → R} {pm : List Nat} {ms : List E} : eCallK fn pm ms ρ = (evs ms ρ).bind fun os ρ1 => after (fn ((pm.map fun i => (O.ds os).getD i .non).map .sh)) ρ1 := rfl
def clrK (i : Nat) (ρ : En) : Option O → R
  | some (.dct _) => .ok (.sh .non) (ρ.set i ((ρ.getD i .no).re (.dct [])))
  | _ => .stuck
theorem eClr_ev : eClr i ρ = clrK i ρ (slO (ρ.getD i .no)) := by
  unfold eClr clrK
  rfl
theorem clrK_dk : clrK i ρ (some (dkO f L)) = .ok (.sh .non) (ρ.set i ((ρ.getD i .no).re (.dct []))) := rfl
end
/-! ### names of a frame that are evaluated -/
section
variable {i j k n : Nat} {ρ ρ1 : En} {o : O}
theorem varK_dk {α : Type} {f : α → D} {L : List (Str × α)} : varK i ρ (some (.v (dkO f L))) = .ok (.sh (dkD f L)) (ρ.set i (.v (.sh (dkD f L)))) := by
  rw [← dk_d]; rfl
theorem varK_strs {ys : List Str} : varK i ρ (some (.v (strsO ys))) = .ok (.sh (chD ys)) (ρ.set i (.v (.sh (chD ys)))) := by
  rw [← strsO_d]; rfl
theorem getD_sv (s s0 : Sl) : (ρ.set i s).getD j s0 = if i = j then (if i < ρ.length then s else s0) else ρ.getD j s0 := by
  rw [List.getD_eq_getElem?_getD, List.getElem?_set]
  by_cases h : i = j
  · subst h
    rw [if_pos rfl, if_pos rfl]
    split <;> rfl
  · rw [if_neg h, if_neg h, List.getD_eq_getElem?_getD]
end
/-! ### stores into free slots -/
section
variable {i j l k n : Nat} {ρ ρ1 : En} {o : O} {d : D}
def frS (s : Option Sl) : Prop := ∃ t, s = some t ∧ ∀ o, t ≠ .b o
theorem frS_v : frS (some (.v o)) = True := eq_true ⟨_, rfl, fun _ h => nomatch h⟩
theorem frS_no : frS (some .no) = True := eq_true ⟨_, rfl, fun _ h => nomatch h⟩
theorem frS_of (h : FrK k ρ) (hk : k ≤ i) (hl : i < ρ.length) : frS (ρ[i]?) := ⟨ρ[i]'hl, List.getElem?_eq_getElem hl, fun o z => h i o hk (by rw [List.getElem?_eq_getElem hl, z])⟩
theorem frS_0 (h : FrK 0 ρ) (hl : i < ρ.length) : frS (ρ[i]?) = True := eq_true (frS_of h (Nat.zero_le _) hl)
theorem frS_1 (h : FrK 1 ρ) (hk : 1 ≤ i) (hl : i < ρ.length) : frS (ρ[i]?) = True := eq_true (frS_of h hk hl)
theorem putK_fr {s : Option Sl} (h : frS s) : putK i o ρ s = .next (ρ.set i (.v o)) := by
  obtain ⟨t, rfl, h⟩ := h
  cases t with
  | b o' => exact absurd rfl (h o')
  | _ => rfl
def set1K (i : Nat) (d : D) (ρ : En) : Option Sl → Option En
  | some (.b _) => none
  | some _ => some (ρ.set i (.v (.sh d)))
  | none => none
theorem set1_ev : ρ.set1 i d = set1K i d ρ (ρ[i]?) := by
  unfold En.set1 set1K
  generalize ρ[i]? = s
  rcases s with _ | _ | _ | _ <;> rfl
theorem set1K_fr {s : Option Sl} (h : frS s) : set1K i d ρ s = some (ρ.set i (.v (.sh d))) := by
  obtain ⟨t, rfl, h⟩ := h
  cases t with
  | b o' => exact absurd rfl (h o')
  | _ => rfl
theorem tgt_nm : TD.tg (.nm i) d ρ = ρ.set1 i d := rfl
theorem tgt_2 {a b : D} : TD.tg (.tp [.nm i, .nm j]) (.tup [a, b]) ρ = (ρ.set1 i a).bind fun ρ1 => ρ1.set1 j b := by
  show (ρ.set1 i a).bind (fun ρ1 => (ρ1.set1 j b).bind fun ρ2 => some ρ2) = _
  congr 1
  funext ρ1
  cases ρ1.set1 j b <;> rfl
theorem tgt_3 {a b c : D} : TD.tg (.tp [.nm i, .nm j, .nm l]) (.tup [a, b, c]) ρ = (ρ.set1 i a).bind fun ρ1 => (ρ1.set1 j b).bind fun ρ2 => ρ2.set1 l c := by
  show (ρ.set1 i a).bind (fun ρ1 => (ρ1.set1 j b).bind fun ρ2 => (ρ2.set1 l c).bind fun ρ3 => some ρ3) = _
  congr 1
  funext ρ1
  congr 1
  funext ρ2
  cases ρ2.set1 l c <;> rfl
theorem gset {s : Sl} : (ρ.set i s)[j]? = if i = j then (if i < ρ.length then some s else none) else ρ[j]? := List.getElem?_set
end
/-! ### equal -/
theorem eq_int {a b : Int} : dEq (.int a) (.int b) = some (.sh (.bl (decide (a = b)))) := rfl
theorem ne_int {a b : Int} : dNe (.int a) (.int b) = some (.sh (.bl (!decide (a = b)))) := rfl
theorem eq_str {a b : Str} : dEq (.str a) (.str b) = some (.sh (.bl (decide (a = b)))) := rfl
theorem ne_str {a b : Str} : dNe (.str a) (.str b) = some (.sh (.bl (!decide (a = b)))) := rfl
/-! ### lent -/
section
variable {i k : Nat} {ρ ρ1 : En} {o : O} {m : E}
theorem eLend_ev : eLend m ρ = lendR ρ (m (ρ.map Sl.lend)) := rfl
theorem lend_v : Sl.lend (.v o) = .v (.sh o.d) := rfl
theorem lend_b : Sl.lend (.b o) = .v (.sh o.d) := rfl
theorem lend_n : Sl.lend .no = .no := rfl
theorem lendR_bl {b : Bool} : lendR ρ (.ok (.sh (.bl b)) ρ1) = .ok (.sh (.bl b)) ρ := rfl
theorem lendR_int {b : Int} : lendR ρ (.ok (.sh (.int b)) ρ1) = .ok (.sh (.int b)) ρ := rfl
theorem lendR_str {b : Str} : lendR ρ (.ok (.sh (.str b)) ρ1) = .ok (.sh (.str b)) ρ := rfl
theorem lendR_non : lendR ρ (.ok (.sh .non) ρ1) = .ok (.sh .non) ρ := rfl
theorem frk_lend : FrK k (ρ.map Sl.lend) = True := eq_true fun i o _ e => by
  rw [List.getElem?_map] at e
  cases h : ρ[i]? with
  | none => rw [h] at e; cases e
  | some s => rw [h] at e; cases s <;> cases e
end
/-! ### loops by facts -/
section
theorem forL_nil {tg : Tg} {body : Sm} {ρ : En} : forL tg body [] ρ = .next ρ := rfl
theorem rangeD_eq {n : Nat} : rangeD 0 n = (List.range n).map fun i => .int i := by
  unfold rangeD
  have : ((n : Int) - 0).toNat = n := by omega
  rw [this]
  apply List.map_congr_left
  intro i _
  simp
theorem itRng_nat {n : Nat} (h : n < 1152921504606846976) : itRng (.int n) = some ((List.range n).map fun i => .int i) := by
  unfold itRng
  dsimp only
  rw [if_pos (by constructor <;> omega), rangeD_eq]
theorem itRng_int {n : Int} (h0 : 0 ≤ n) (h : n < 1152921504606846976) : itRng (.int n) = some ((List.range n.toNat).map fun (i : Nat) => .int (i : Int)) := by
  have := itRng_nat (n := n.toNat) (by omega)
  rwa [show ((n.toNat : Nat) : Int) = n by omega] at this
end
/-! ### what comes out -/
def okT (r : Option En) (k : En → Prop) : Prop := ∃ ρ, r = some ρ ∧ k ρ
def okE (r : R) (k : O → En → Prop) : Prop := ∃ o ρ, r = .ok o ρ ∧ k o ρ
def okN (r : Out) (k : En → Prop) : Prop := ∃ ρ, r = .next ρ ∧ k ρ
theorem okT_some {ρ : En} {k : En → Prop} : okT (some ρ) k ↔ k ρ := ⟨fun ⟨_, e, h⟩ => by cases e; exact h, fun h => ⟨_, rfl, h⟩⟩
theorem okE_ok {o : O} {ρ : En} {k : O → En → Prop} : okE (.ok o ρ) k ↔ k o ρ := ⟨fun ⟨_, _, e, h⟩ => by cases e; exact h, fun h => ⟨_, _, rfl, h⟩⟩
theorem okN_next {ρ : En} {k : En → Prop} : okN (.next ρ) k ↔ k ρ := ⟨fun ⟨_, e, h⟩ => by cases e; exact h, fun h => ⟨_, rfl, h⟩⟩
theorem okE.mono {r : R} {k k' : O → En → Prop} (h : okE r k) (q : ∀ o ρ, k o ρ → k' o ρ) : okE r k' := let ⟨o, ρ, e, z⟩ := h; ⟨o, ρ, e, q o ρ z⟩
theorem okN.mono {r : Out} {k k' : En → Prop} (h : okN r k) (q : ∀ ρ, k ρ → k' ρ) : okN r k' := let ⟨ρ, e, z⟩ := h; ⟨ρ, e, q ρ z⟩
/-! ### comprehensions by facts -/
section
variable {α β : Type} {vs : List Nat} {tg : Tg} {t me mk : E} {e : α → D}
theorem lcM (I : En → Prop) (f : α → O) : ∀ (xs : List α) (acc : List O) (ρ : En), (∀ x ∈ xs, ∀ ρ, I ρ → ∃ ρ1, tg (e x) ρ = some ρ1 ∧ ∃ ρ2, me ρ1 = .ok (f x) ρ2 ∧ I (wipeE ρ2 vs)) → I ρ → ∃ ρ', lcL vs tg none me (xs.map e) acc ρ = some (acc ++ xs.map f, ρ') ∧ I ρ'
  | [], acc, ρ, _, h => ⟨ρ, by simp [lcL], h⟩
  | x :: xs, acc, ρ, hs, h => by
    obtain ⟨ρ1, h1, ρ2, h2, h3⟩ := hs x List.mem_cons_self ρ h
    obtain ⟨ρ', h4, h5⟩ := lcM I f xs (acc ++ [f x]) _ (fun y m => hs y (List.mem_cons_of_mem _ m)) h3
    refine ⟨ρ', ?_, h5⟩
    rw [List.map_cons]
    unfold lcL
    rw [h1]
    dsimp only
    rw [h2]
    dsimp only
    rw [h4]
    simp
theorem lcF (I : En → Prop) (p : α → Bool) (f : α → O) : ∀ (xs : List α) (acc : List O) (ρ : En), (∀ x ∈ xs, ∀ ρ, I ρ → ∃ ρ1, tg (e x) ρ = some ρ1 ∧ ∃ ρ2, t ρ1 = .ok (.sh (.bl (p x))) ρ2 ∧ (p x = false → I (wipeE ρ2 vs)) ∧ (p x = true → ∃ ρ3, me ρ2 = .ok (f x) ρ3 ∧ I (wipeE ρ3 vs))) → I ρ → ∃ ρ', lcL vs tg (some t) me (xs.map e) acc ρ = some (acc ++ (xs.filter p).map f, ρ') ∧ I ρ'
  | [], acc, ρ, _, h => ⟨ρ, by simp [lcL], h⟩
  | x :: xs, acc, ρ, hs, h => by
    obtain ⟨ρ1, h1, ρ2, h2, h3, h4⟩ := hs x List.mem_cons_self ρ h
    cases hp : p x with
    | true =>
      obtain ⟨ρ3, h5, h6⟩ := h4 hp
      obtain ⟨ρ', h7, h8⟩ := lcF I p f xs (acc ++ [f x]) _ (fun y m => hs y (List.mem_cons_of_mem _ m)) h6
      refine ⟨ρ', ?_, h8⟩
      rw [List.map_cons]
      unfold lcL
      rw [h1]
      dsimp only
      rw [h2, hp]
      dsimp only
      rw [h5]
      dsimp only
      rw [h7]
      simp [hp]
    | false =>
      obtain ⟨ρ', h7, h8⟩ := lcF I p f xs acc _ (fun y m => hs y (List.mem_cons_of_mem _ m)) (h3 hp)
      refine ⟨ρ', ?_, h8⟩
      rw [List.map_cons]
      unfold lcL
      rw [h1]
      dsimp only
      rw [h2, hp]
      dsimp only
      rw [h7]
      simp [hp]
def mrg (L M : List (Str × β)) : List (Str × β) := M.foldl (fun a p => putL a p.1 p.2) L
theorem mrg_cons {L M : List (Str × β)} {p : Str × β} : mrg L (p :: M) = mrg (putL L p.1 p.2) M := rfl
theorem mrg_new : ∀ {L M : List (Str × β)}, (kys M).Nodup → (∀ c ∈ kys M, c ∉ kys L) → mrg L M = L ++ M
  | L, [], _, _ => by simp [mrg]
  | L, p :: M, h1, h2 => by
    obtain ⟨n1, n2⟩ := List.nodup_cons.mp h1
    rw [mrg_cons, putL_new (h2 _ List.mem_cons_self), mrg_new n2]
    · simp
    · intro c m z
      unfold kys at z
      rw [List.map_append] at z
      rcases List.mem_append.mp z with z | z
      · exact h2 c (List.mem_cons_of_mem _ m) z
      · have : c = p.1 := by simpa using z
        have m' : c ∈ kys M := m
        rw [this] at m'
        exact n1 m'
theorem mrg_nil_l {M : List (Str × β)} (h : (kys M).Nodup) : mrg [] M = M := by rw [mrg_new h fun c _ z => by simp [kys] at z]; rfl
theorem nodup_mrg : ∀ {L M : List (Str × β)}, (kys L).Nodup → (kys (mrg L M)).Nodup
  | L, [], h => h
  | L, p :: M, h => nodup_mrg (L := putL L p.1 p.2) (M := M) (nodup_putL h)
theorem mem_mrg : ∀ {L M : List (Str × β)} {q : Str × β}, q ∈ mrg L M → q ∈ L ∨ q ∈ M
  | L, [], q, h => .inl h
  | L, p :: M, q, h => by
    rcases mem_mrg (L := putL L p.1 p.2) (M := M) h with h | h
    · rcases mem_putL h with h | h
      · exact .inl h
      · exact .inr (h ▸ List.mem_cons_self)
    · exact .inr (List.mem_cons_of_mem _ h)
theorem getL_mrg {c : Str} : ∀ {L M : List (Str × β)}, (kys M).Nodup → getL (mrg L M) c = (getL M c).or (getL L c)
  | L, [], _ => rfl
  | L, (a, b) :: M, h => by
    obtain ⟨n1, n2⟩ := List.nodup_cons.mp h
    rw [mrg_cons, getL_mrg n2, getL_putL, getL_cons]
    by_cases z : c = a
    · subst z
      have : getL M c = none := getL_none.mpr n1
      rw [this, if_pos rfl, if_pos rfl]; rfl
    · rw [if_neg z, if_neg (Ne.symm z)]
theorem mergeD_map {g : β → D} : ∀ {M L : List (Str × β)}, mergeD (L.map fun p => ((.inr p.1 : Key), g p.2)) (M.map fun p => ((.inr p.1 : Key), g p.2)) = (mrg L M).map fun p => ((.inr p.1 : Key), g p.2)
  | [], L => rfl
  | p :: M, L => by
    rw [mrg_cons, ← mergeD_map, ← putD_map]
    rfl
theorem pairsOf_map {g : β → D} : ∀ {M : List (Str × β)}, pairsOf (M.map fun p => D.tup [.str p.1, g p.2]) = some (M.map fun p => ((.inr p.1 : Key), g p.2))
  | [] => rfl
  | p :: M => by
    show (pairsOf (M.map fun p => D.tup [.str p.1, g p.2])).map (fun r => ((.inr p.1 : Key), g p.2) :: r) = _
    rw [pairsOf_map]; rfl
/-- dict([(text, value), ..]) -/
theorem dict_pairs {g : β → D} {M : List (Str × β)} : dDict [.lst (M.map fun p => D.tup [.str p.1, g p.2])] = some (dkO g (mrg [] M)) := by
  show (pairsOf (M.map fun p => D.tup [.str p.1, g p.2])).map (fun kds => O.dct ((mergeD [] kds).map fun p => (p.1, .sh p.2))) = _
  have := mergeD_map (g := g) (M := M) (L := [])
  rw [pairsOf_map, Option.map_some, List.map_nil] at *
  rw [this, List.map_map]
  rfl
theorem dcM {g : β → D} (I : En → Prop) (kf : α → Str) (vf : α → β) : ∀ (xs : List α) (L : List (Str × β)) (ρ : En), (∀ x ∈ xs, ∀ ρ, I ρ → ∃ ρ1, tg (e x) ρ = some ρ1 ∧ ∃ ρ2, mk ρ1 = .ok (.sh (.str (kf x))) ρ2 ∧ ∃ o ρ3, me ρ2 = .ok o ρ3 ∧ o.d = g (vf x) ∧ I (wipeE ρ3 vs)) → I ρ →
    ∃ ρ', dcL vs tg none mk me (xs.map e) (L.map fun p => ((.inr p.1 : Key), g p.2)) ρ = some ((mrg L (xs.map fun x => (kf x, vf x))).map (fun p => ((.inr p.1 : Key), g p.2)), ρ') ∧ I ρ'
  | [], L, ρ, _, h => ⟨ρ, by simp [dcL, mrg], h⟩
  | x :: xs, L, ρ, hs, h => by
    obtain ⟨ρ1, h1, ρ2, h2, o, ρ3, h3, h4, h5⟩ := hs x List.mem_cons_self ρ h
    obtain ⟨ρ', h6, h7⟩ := dcM (g := g) I kf vf xs (putL L (kf x) (vf x)) _ (fun y m => hs y (List.mem_cons_of_mem _ m)) h5
    refine ⟨ρ', ?_, h7⟩
    rw [List.map_cons]
    unfold dcL
    rw [h1]
    dsimp only
    rw [h2]
    dsimp only [d_sh, vw_str, keyD]
    rw [h3]
    dsimp only
    rw [h4, putD_map, h6]
    rfl
theorem dcN_dk {g : β → D} {M : List (Str × β)} {ρ : En} : dcN (some (M.map (fun p => ((.inr p.1 : Key), g p.2)), ρ)) = .ok (dkO g M) ρ := by
  show R.ok (.dct ((M.map fun p => ((.inr p.1 : Key), g p.2)).map fun p => (p.1, .sh p.2))) ρ = _
  rw [List.map_map]; rfl
theorem dcK_M {g : β → D} {ρ : En} (I : En → Prop) (kf : α → Str) (vf : α → β) (xs : List α) (hl : xs.length ≤ 1000000) (h0 : I (wipeE ρ vs)) (h : ∀ x ∈ xs, ∀ ρ, I ρ → ∃ ρ1, tg (e x) ρ = some ρ1 ∧ ∃ ρ2, mk ρ1 = .ok (.sh (.str (kf x))) ρ2 ∧ ∃ o ρ3, me ρ2 = .ok o ρ3 ∧ o.d = g (vf x) ∧ I (wipeE ρ3 vs)) :
    ∃ ρ', dcK vs tg none mk me ρ (some (xs.map e)) = .ok (dkO g (mrg [] (xs.map fun x => (kf x, vf x)))) ρ' ∧ I ρ' := by
  obtain ⟨ρ', e1, h1⟩ := dcM (tg := tg) (mk := mk) (me := me) (vs := vs) (e := e) (g := g) I kf vf xs [] _ h h0
  refine ⟨ρ', ?_, h1⟩
  rw [dcK_some (by rw [List.length_map]; exact hl)]
  rw [List.map_nil] at e1
  rw [e1, dcN_dk]
theorem lcK_M {ρ : En} (I : En → Prop) (f : α → O) (xs : List α) (hl : xs.length ≤ 1000000) (h0 : I (wipeE ρ vs)) (h : ∀ x ∈ xs, ∀ ρ, I ρ → ∃ ρ1, tg (e x) ρ = some ρ1 ∧ ∃ ρ2, me ρ1 = .ok (f x) ρ2 ∧ I (wipeE ρ2 vs)) :
    ∃ ρ', lcK vs tg none me ρ (some (xs.map e)) = .ok (.lst (xs.map f)) ρ' ∧ I ρ' := by
  obtain ⟨ρ', e1, h1⟩ := lcM (tg := tg) (me := me) (vs := vs) (e := e) I f xs [] _ h h0
  refine ⟨ρ', ?_, h1⟩
  rw [lcK_some (by rw [List.length_map]; exact hl), e1, lcN_some, List.nil_append]
theorem lcK_F {ρ : En} (I : En → Prop) (p : α → Bool) (f : α → O) (xs : List α) (hl : xs.length ≤ 1000000) (h0 : I (wipeE ρ vs)) (h : ∀ x ∈ xs, ∀ ρ, I ρ → ∃ ρ1, tg (e x) ρ = some ρ1 ∧ ∃ ρ2, t ρ1 = .ok (.sh (.bl (p x))) ρ2 ∧ (p x = false → I (wipeE ρ2 vs)) ∧ (p x = true → ∃ ρ3, me ρ2 = .ok (f x) ρ3 ∧ I (wipeE ρ3 vs))) :
    ∃ ρ', lcK vs tg (some t) me ρ (some (xs.map e)) = .ok (.lst ((xs.filter p).map f)) ρ' ∧ I ρ' := by
  obtain ⟨ρ', e1, h1⟩ := lcF (tg := tg) (me := me) (vs := vs) (e := e) I p f xs [] _ h h0
  refine ⟨ρ', ?_, h1⟩
  rw [lcK_some (by rw [List.length_map]; exact hl), e1, lcN_some, List.nil_append]
theorem allL_m {n : Nat} {mb : E} {p : α → Bool} : ∀ (xs : List α), (∀ x ∈ xs, ∃ ρ1, tg (e x) (List.replicate n .no) = some ρ1 ∧ ∃ ρ2, mb ρ1 = .ok (.sh (.bl (p x))) ρ2) → allL n tg mb (xs.map e) = some (xs.all p)
  | [], h => rfl
  | x :: xs, h => by
    obtain ⟨ρ1, h1, ρ2, h2⟩ := h x List.mem_cons_self
    rw [List.map_cons]
    unfold allL
    rw [h1]
    dsimp only
    rw [h2]
    cases hp : p x with
    | true =>
      dsimp only
      rw [allL_m xs fun y m => h y (List.mem_cons_of_mem _ m)]
      simp [hp]
    | false => simp [hp]
/-! the same, said by what comes out -/
theorem dcW {g : β → D} {ρ : En} (I : En → Prop) (kf : α → Str) (vf : α → β) (xs : List α) (hl : xs.length ≤ 1000000) (h0 : I (wipeE ρ vs)) (h : ∀ x ∈ xs, ∀ ρ, I ρ → okT (tg (e x) ρ) fun ρ1 => okE (mk ρ1) fun o ρ2 => o = .sh (.str (kf x)) ∧ okE (me ρ2) fun o ρ3 => o.d = g (vf x) ∧ I (wipeE ρ3 vs)) :
    okE (dcK vs tg none mk me ρ (some (xs.map e))) fun o ρ' => o = dkO g (mrg [] (xs.map fun x => (kf x, vf x))) ∧ I ρ' := by
  obtain ⟨ρ', e1, h1⟩ := dcK_M (g := g) (mk := mk) (me := me) (tg := tg) (e := e) I kf vf xs hl h0 fun x m ρ hi => by
    obtain ⟨ρ1, q1, o, ρ2, q2, rfl, o', ρ3, q3, q4, q5⟩ := h x m ρ hi
    exact ⟨ρ1, q1, ρ2, q2, o', ρ3, q3, q4, q5⟩
  exact ⟨_, ρ', e1, rfl, h1⟩
theorem lcW {ρ : En} (I : En → Prop) (f : α → O) (xs : List α) (hl : xs.length ≤ 1000000) (h0 : I (wipeE ρ vs)) (h : ∀ x ∈ xs, ∀ ρ, I ρ → okT (tg (e x) ρ) fun ρ1 => okE (me ρ1) fun o ρ2 => o = f x ∧ I (wipeE ρ2 vs)) :
    okE (lcK vs tg none me ρ (some (xs.map e))) fun o ρ' => o = .lst (xs.map f) ∧ I ρ' := by
  obtain ⟨ρ', e1, h1⟩ := lcK_M (me := me) (tg := tg) (e := e) I f xs hl h0 fun x m ρ hi => by
    obtain ⟨ρ1, q1, o, ρ2, q2, rfl, q3⟩ := h x m ρ hi
    exact ⟨ρ1, q1, ρ2, q2, q3⟩
  exact ⟨_, ρ', e1, rfl, h1⟩
theorem lcFW {ρ : En} (I : En → Prop) (p : α → Bool) (f : α → O) (xs : List α) (hl : xs.length ≤ 1000000) (h0 : I (wipeE ρ vs)) (h : ∀ x ∈ xs, ∀ ρ, I ρ → okT (tg (e x) ρ) fun ρ1 => okE (t ρ1) fun o ρ2 => o = .sh (.bl (p x)) ∧ (p x = false → I (wipeE ρ2 vs)) ∧ (p x = true → okE (me ρ2) fun o ρ3 => o = f x ∧ I (wipeE ρ3 vs))) :
    okE (lcK vs tg (some t) me ρ (some (xs.map e))) fun o ρ' => o = .lst ((xs.filter p).map f) ∧ I ρ' := by
  obtain ⟨ρ', e1, h1⟩ := lcK_F (t := t) (me := me) (tg := tg) (e := e) I p f xs hl h0 fun x m ρ hi => by
    obtain ⟨ρ1, q1, o, ρ2, q2, rfl, q3, q4⟩ := h x m ρ hi
    refine ⟨ρ1, q1, ρ2, q2, q3, fun hp => ?_⟩
    obtain ⟨o, ρ3, q5, rfl, q6⟩ := q4 hp
    exact ⟨ρ3, q5, q6⟩
  exact ⟨_, ρ', e1, rfl, h1⟩
theorem allW {n : Nat} {mb : E} (p : α → Bool) (xs : List α) (h : ∀ x ∈ xs, okT (tg (e x) (List.replicate n .no)) fun ρ1 => okE (mb ρ1) fun o _ => o = .sh (.bl (p x))) : allL n tg mb (xs.map e) = some (xs.all p) :=
  allL_m xs fun x m => let ⟨ρ1, q1, _, ρ2, q2, q3⟩ := h x m; ⟨ρ1, q1, ρ2, by rw [q2, q3]⟩
theorem set_set {ρ : En} {i : Nat} {a b : Sl} : (ρ.set i a).set i b = ρ.set i b := List.set_set ..
theorem wipe1 {ρ : En} {v : Nat} : wipeE ρ [v] = ρ.set v .no := rfl
theorem wipe2 {ρ : En} {v w : Nat} : wipeE ρ [v, w] = (ρ.set w .no).set v .no := rfl
end
end DL
set_option Elab.async false
set_option linter.all false
set_option autoImplicit false
set_option maxRecDepth 20000
/-! PW: what comes out, step by step: wE of an expression, wO of a statement. -/
namespace DL
open PySem PySem.Spec PyProof.Rows L2
inductive wE (Q : O → En → Prop) : R → Prop where
  | mk {o : O} {ρ : En} (h : Q o ρ) : wE Q (.ok o ρ)
inductive wO (N : En → Prop) (T : O → En → Prop) (B C : En → Prop) : Out → Prop where
  | next {ρ : En} (h : N ρ) : wO N T B C (.next ρ)
  | ret {o : O} {ρ : En} (h : T o ρ) : wO N T B C (.ret o ρ)
  | brk {ρ : En} (h : B ρ) : wO N T B C (.brk ρ)
  | cont {ρ : En} (h : C ρ) : wO N T B C (.cont ρ)
inductive wT (Q : En → Prop) : Option En → Prop where
  | mk {ρ : En} (h : Q ρ) : wT Q (some ρ)
abbrev noE : En → Prop := fun _ => False
section
variable {Q Q' : O → En → Prop} {N N' B C : En → Prop} {T T' : O → En → Prop} {P : En → Prop} {o : O} {ρ ρ1 : En} {r : R} {u : Out} {i j n : Nat} {d : D} {m ma mb : E} {ms : List E}
theorem wE_ok : wE Q (.ok o ρ) = Q o ρ := propext ⟨fun h => by cases h; assumption, .mk⟩
theorem wE_exc {x : Exn} : wE Q (.exc x ρ) = False := propext ⟨fun h => (by cases h), False.elim⟩
theorem wE_stuck : wE Q .stuck = False := propext ⟨fun h => (by cases h), False.elim⟩
theorem wO_next : wO N T B C (.next ρ) = N ρ := propext ⟨fun h => by cases h; assumption, .next⟩
theorem wO_ret : wO N T B C (.ret o ρ) = T o ρ := propext ⟨fun h => by cases h; assumption, .ret⟩
theorem wO_brk : wO N T B C (.brk ρ) = B ρ := propext ⟨fun h => by cases h; assumption, .brk⟩
theorem wO_cont : wO N T B C (.cont ρ) = C ρ := propext ⟨fun h => by cases h; assumption, .cont⟩
theorem wO_exc {x : Exn} : wO N T B C (.exc x ρ) = False := propext ⟨fun h => (by cases h), False.elim⟩
theorem wO_stuck : wO N T B C .stuck = False := propext ⟨fun h => (by cases h), False.elim⟩
theorem wT_some : wT P (some ρ) = P ρ := propext ⟨fun h => by cases h; assumption, .mk⟩
theorem wT_none : wT P none = False := propext ⟨fun h => (by cases h), False.elim⟩
theorem wE_bind {k : O → E} : wE Q (r.bind k) = wE (fun o ρ => wE Q (k o ρ)) r := by cases r <;> simp only [R.bind, wE_ok, wE_exc, wE_stuck]
theorem wO_toO {k : O → En → Out} : wO N T B C (r.toO k) = wE (fun o ρ => wO N T B C (k o ρ)) r := by cases r <;> simp only [R.toO, wE_ok, wE_exc, wE_stuck, wO_exc, wO_stuck]
theorem wO_then {k : Sm} : wO N T B C (u.andThen k) = wO (fun ρ => wO N T B C (k ρ)) T B C u := by cases u <;> simp only [Out.andThen, wO_next, wO_ret, wO_brk, wO_cont, wO_exc, wO_stuck]
theorem wE_back : wE Q (u.back n) = wO (fun ρ => Q (.sh .non) (backs n ρ)) (fun o ρ => Q o (backs n ρ)) noE noE u := by cases u <;> simp only [Out.back, wO_next, wO_ret, wO_brk, wO_cont, wO_exc, wO_stuck, wE_ok, wE_exc, wE_stuck]
theorem wE_after : wE Q (after r ρ) = wE (fun o _ => Q o ρ) r := by cases r <;> simp only [after, wE_ok, wE_exc, wE_stuck]
def headB (K : O → Prop) : En → Prop
  | .b o :: _ => K o
  | _ => False
theorem headB_b {K : O → Prop} : headB K (.b o :: ρ) = K o := rfl
theorem wE_afterB : wE Q (afterB r i ρ) = wE (fun o ρb => headB (fun o' => Q o (ρ.set i ((ρ.getD i .no).re o'))) ρb) r := by
  cases r with
  | ok o ρb => rcases ρb with _ | ⟨_ | _ | _, ρb⟩ <;> simp only [afterB, headB, wE_ok, wE_exc, wE_stuck]
  | exc x ρb => rcases ρb with _ | ⟨_ | _ | _, ρb⟩ <;> simp only [afterB, headB, wE_ok, wE_exc, wE_stuck]
  | stuck => simp only [afterB, wE_stuck]
theorem ra_nl {k : List O → E} : RA.bind (evs [] ρ) k = k [] ρ := rfl
theorem ra_cs {k : List O → E} : RA.bind (evs (m :: ms) ρ) k = (m ρ).bind fun o ρ1 => RA.bind (evs ms ρ1) fun os ρ2 => k (o :: os) ρ2 := by
  rw [evs_cs]
  cases m ρ with
  | ok o ρ1 => show RA.bind (consA o (evs ms ρ1)) k = RA.bind (evs ms ρ1) _; cases evs ms ρ1 <;> rfl
  | _ => rfl
theorem sPar_w (h : i ≠ j) : sPar i j ma mb ρ = (ma ρ).toO fun o1 ρ1 => (mb ρ1).toO fun o2 ρ2 => (En.put ρ2 j o2).andThen fun ρ3 => En.put ρ3 i o1 := by
  rw [sPar_ev h, evs_cs]
  cases ma ρ with
  | ok o1 ρ1 =>
    show parK i j (consA o1 (evs [mb] ρ1)) = (mb ρ1).toO _
    rw [evs_cs]
    cases mb ρ1 <;> rfl
  | _ => rfl
theorem wE_if {c : Prop} [Decidable c] {r' : R} (h1 : c → wE Q r) (h2 : ¬ c → wE Q r') : wE Q (if c then r else r') := by split <;> rename_i h; exact h1 h; exact h2 h
theorem wO_if {c : Prop} [Decidable c] {u' : Out} (h1 : c → wO N T B C u) (h2 : ¬ c → wO N T B C u') : wO N T B C (if c then u else u') := by split <;> rename_i h; exact h1 h; exact h2 h
theorem wE_lend : wE Q (lendR ρ r) = wE (fun o _ => ownO o = true ∧ Q o ρ) r := by
  cases r with
  | ok o ρ1 =>
    by_cases h : ownO o = true
    · simp only [lendR, h, if_true, wE_ok, true_and]
    · simp only [lendR, h, if_false, wE_ok, wE_stuck, false_and]
      simp [wE_stuck]
  | exc x ρ1 => simp only [lendR, wE_exc, wE_stuck]
  | stuck => simp only [lendR, wE_stuck]
theorem own_bl {b : Bool} : ownO (.sh (.bl b)) = true := rfl
theorem own_int {b : Int} : ownO (.sh (.int b)) = true := rfl
theorem own_str {b : Str} : ownO (.sh (.str b)) = true := rfl
theorem own_non : ownO (.sh .non) = true := rfl
theorem wE.mono (h : wE Q r) (k : ∀ o ρ, Q o ρ → Q' o ρ) : wE Q' r := by
  cases h with
  | mk h => exact .mk (k _ _ h)
theorem wE.mono' {r' : R} (h : wE Q r) (e : r' = r) (k : ∀ o ρ, Q o ρ → Q' o ρ) : wE Q' r' := by rw [e]; exact h.mono k
theorem wE.of (h : r = .ok o ρ) (k : Q o ρ) : wE Q r := by rw [h]; exact .mk k
theorem wE.ex (h : wE Q r) : ∃ o ρ, r = .ok o ρ ∧ Q o ρ := by
  cases h with
  | mk h => exact ⟨_, _, rfl, h⟩
theorem okE.w (h : okE r Q) : wE Q r := by obtain ⟨o, ρ, e, h⟩ := h; rw [e]; exact .mk h
theorem wE.okE (h : wE Q r) : okE r Q := h.ex
theorem okT.w {r : Option En} (h : okT r P) : wT P r := by obtain ⟨ρ, e, h⟩ := h; rw [e]; exact .mk h
theorem wT.okT {r : Option En} (h : wT P r) : okT r P := by
  cases h with
  | mk h => exact ⟨_, rfl, h⟩
theorem wO.mono (h : wO N T B C u) (k : ∀ ρ, N ρ → N' ρ) (kt : ∀ o ρ, T o ρ → T' o ρ) : wO N' T' B C u := by
  cases h with
  | next h => exact .next (k _ h)
  | ret h => exact .ret (kt _ _ h)
  | brk h => exact .brk h
  | cont h => exact .cont h
theorem wO_asg {tg : Tg} : wO N T B C (asgK (tg d ρ)) = wT N (tg d ρ) := by cases tg d ρ <;> simp only [asgK, wO_next, wO_stuck, wT_some, wT_none]
/-! loops -/
theorem wFor {α : Type} {f : α → D} {tg : Tg} {body : Sm} {xs : List α} (I : List α → En → Prop) (h0 : I xs ρ) (hs : ∀ x xs ρ, I (x :: xs) ρ → wT (fun ρ1 => wO (I xs) T N (I xs) (body ρ1)) (tg (f x) ρ)) (hn : ∀ ρ, I [] ρ → N ρ) : wO N T B C (forL tg body (xs.map f) ρ) := by
  induction xs generalizing ρ with
  | nil => exact .next (hn ρ h0)
  | cons x xs ih =>
    obtain ⟨ρ1, e, h2⟩ := (hs x xs ρ h0).okT
    rw [List.map_cons]
    unfold forL
    rw [e]
    dsimp only
    generalize body ρ1 = b at h2
    cases h2 with
    | next h => exact ih h
    | cont h => exact ih h
    | brk h => exact .next h
    | ret h => exact .ret h
/-- a value is folded -/
theorem wFold {α σ : Type} {f : α → D} {tg : Tg} {body : Sm} {xs : List α} {s : σ} (I : σ → En → Prop) (step : σ → α → σ) (h0 : I s ρ) (hs : ∀ x ∈ xs, ∀ s ρ, I s ρ → wT (fun ρ1 => wO (I (step s x)) T noE (I (step s x)) (body ρ1)) (tg (f x) ρ)) (hn : ∀ ρ, I (xs.foldl step s) ρ → N ρ) : wO N T B C (forL tg body (xs.map f) ρ) := by
  induction xs generalizing ρ s with
  | nil => exact .next (hn ρ h0)
  | cons x xs ih =>
    obtain ⟨ρ1, e, h2⟩ := (hs x List.mem_cons_self s ρ h0).okT
    rw [List.map_cons]
    unfold forL
    rw [e]
    dsimp only
    have hr := fun {ρ2} (h : I (step s x) ρ2) => ih h (fun y m => hs y (List.mem_cons_of_mem _ m)) hn
    generalize body ρ1 = b at h2
    cases h2 with
    | next h => exact hr h
    | cont h => exact hr h
    | brk h => exact h.elim
    | ret h => exact .ret h
/-- a loop in which nothing is kept but what I says -/
theorem wInv {α : Type} {f : α → D} {tg : Tg} {body : Sm} {xs : List α} (I : En → Prop) (h0 : I ρ) (hs : ∀ x ∈ xs, ∀ ρ, I ρ → wT (fun ρ1 => wO I T noE I (body ρ1)) (tg (f x) ρ)) (hn : ∀ ρ, I ρ → N ρ) : wO N T B C (forL tg body (xs.map f) ρ) :=
  wFold (σ := Unit) (s := ()) (fun _ => I) (fun s _ => s) h0 (fun x m _ ρ h => hs x m ρ h) hn
/-! comprehensions -/
variable {α β : Type} {vs : List Nat} {tg : Tg} {t me mk : E} {e : α → D} {xs : List α}
theorem wLc (I : En → Prop) (f : α → O) (hl : xs.length ≤ 1000000) (h0 : I (wipeE ρ vs)) (h : ∀ x ∈ xs, ∀ ρ, I ρ → wT (fun ρ1 => wE (fun o ρ2 => o = f x ∧ I (wipeE ρ2 vs)) (me ρ1)) (tg (e x) ρ)) (hn : ∀ ρ', I ρ' → Q (.lst (xs.map f)) ρ') : wE Q (lcK vs tg none me ρ (some (xs.map e))) :=
  (lcW (me := me) (tg := tg) (e := e) I f xs hl h0 fun x m ρ hi => let ⟨ρ1, e1, h1⟩ := wT.okT (h x m ρ hi); ⟨ρ1, e1, wE.okE h1⟩).w.mono fun o ρ' ⟨e1, h1⟩ => by rw [e1]; exact hn ρ' h1
theorem wLcF (I : En → Prop) (p : α → Bool) (f : α → O) (hl : xs.length ≤ 1000000) (h0 : I (wipeE ρ vs)) (h : ∀ x ∈ xs, ∀ ρ, I ρ → wT (fun ρ1 => wE (fun o ρ2 => o = .sh (.bl (p x)) ∧ (p x = false → I (wipeE ρ2 vs)) ∧ (p x = true → wE (fun o ρ3 => o = f x ∧ I (wipeE ρ3 vs)) (me ρ2))) (t ρ1)) (tg (e x) ρ)) (hn : ∀ ρ', I ρ' → Q (.lst ((xs.filter p).map f)) ρ') : wE Q (lcK vs tg (some t) me ρ (some (xs.map e))) :=
  (lcFW (me := me) (t := t) (tg := tg) (e := e) I p f xs hl h0 fun x m ρ hi => let ⟨ρ1, e1, h1⟩ := wT.okT (h x m ρ hi); ⟨ρ1, e1, let ⟨o, ρ2, e2, h2, h3, h4⟩ := wE.okE h1; ⟨o, ρ2, e2, h2, h3, fun hp => wE.okE (h4 hp)⟩⟩).w.mono fun o ρ' ⟨e1, h1⟩ => by rw [e1]; exact hn ρ' h1
/-- whose parts are drawn -/
theorem wLcD (J : List O → En → Prop) (hl : xs.length ≤ 1000000) (h0 : J [] (wipeE ρ vs)) (h : ∀ x ∈ xs, ∀ acc ρ, acc.length < xs.length → J acc ρ → wT (fun ρ1 => wE (fun o ρ2 => J (acc ++ [o]) (wipeE ρ2 vs)) (me ρ1)) (tg (e x) ρ)) (hn : ∀ os ρ', os.length = xs.length → J os ρ' → Q (.lst os) ρ') : wE Q (lcK vs tg none me ρ (some (xs.map e))) := by
  have key : ∀ (ys : List α) (acc : List O) (ρ : En), acc.length + ys.length = xs.length → (∀ y ∈ ys, y ∈ xs) → J acc ρ → ∃ os ρ', lcL vs tg none me (ys.map e) acc ρ = some (os, ρ') ∧ os.length = xs.length ∧ J os ρ' := by
    intro ys
    induction ys with
    | nil => intro acc ρ hl _ hj; exact ⟨acc, ρ, rfl, by simpa using hl, hj⟩
    | cons y ys ih =>
      intro acc ρ hl hm hj
      rw [List.length_cons] at hl
      obtain ⟨ρ1, e1, h1⟩ := wT.okT (h y (hm y List.mem_cons_self) acc ρ (by omega) hj)
      obtain ⟨o, ρ2, e2, h2⟩ := wE.okE h1
      obtain ⟨os, ρ', e3, h3⟩ := ih (acc ++ [o]) _ (by rw [List.length_append, List.length_singleton]; omega) (fun z m => hm z (List.mem_cons_of_mem _ m)) h2
      refine ⟨os, ρ', ?_, h3⟩
      rw [List.map_cons]
      unfold lcL
      rw [e1]
      dsimp only
      rw [e2]
      exact e3
  obtain ⟨os, ρ', e1, h1, h2⟩ := key xs [] _ (by simp) (fun _ m => m) h0
  rw [lcK_some (by rw [List.length_map]; exact hl), e1, lcN_some]
  exact .mk (hn os ρ' h1 h2)
end
end DL
set_option Elab.async false
set_option linter.all false
set_option autoImplicit false
set_option maxRecDepth 100000
/-! SPR: == with itself, and repr, of data. -/
namespace DL
open PySem PySem.Spec L2 TL
def EqS (n : Nat) (d : D) : Prop := eqN n d d = some true
theorem eqs_int {n : Nat} {i : Int} : EqS (n + 1) (.int i) := by show some (i == i) = some true; simp
theorem eqs_bl {n : Nat} {i : Bool} : EqS (n + 1) (.bl i) := by show some (i == i) = some true; simp
theorem eqAll_self {f : D → D → Option Bool} : ∀ {xs : List D}, (∀ x ∈ xs, f x x = some true) → eqAll f xs xs = some true
  | [], _ => rfl
  | x :: xs, h => by
    unfold eqAll
    rw [h x List.mem_cons_self, eqAll_self fun y m => h y (List.mem_cons_of_mem _ m)]
    rfl
theorem eqs_lst {n : Nat} {xs : List D} (h : ∀ x ∈ xs, EqS n x) : EqS (n + 1) (.lst xs) := by
  show (if xs.length = xs.length then eqAll (eqN n) xs xs else some false) = some true
  rw [if_pos rfl]; exact eqAll_self h
theorem lookK_mem {k : Key} {d : D} : ∀ {kds : List (Key × D)}, (kds.map (·.1)).Nodup → (k, d) ∈ kds → lookK k kds = some d
  | [], _, m => by cases m
  | (a, b) :: kds, nd, m => by
    obtain ⟨n1, n2⟩ := List.nodup_cons.mp nd
    rcases List.mem_cons.mp m with m | m
    · cases m; simp [lookK]
    · have : a ≠ k := fun z => n1 (z ▸ List.mem_map.mpr ⟨_, m, rfl⟩)
      have ih := lookK_mem n2 m
      unfold lookK at ih ⊢
      rw [List.find?_cons]
      simp only [this, decide_false]
      exact ih
theorem eqKs_self {f : D → D → Option Bool} {ls : List (Key × D)} : ∀ {ks : List (Key × D)}, (∀ p ∈ ks, lookK p.1 ls = some p.2 ∧ f p.2 p.2 = some true) → eqKs f ls ks = some true
  | [], _ => rfl
  | (k, x) :: ks, h => by
    obtain ⟨h1, h2⟩ := h _ List.mem_cons_self
    unfold eqKs
    rw [h1]
    dsimp only
    rw [h2, eqKs_self fun y m => h y (List.mem_cons_of_mem _ m)]
    rfl
theorem eqs_dct {n : Nat} {kds : List (Key × D)} (nd : (kds.map (·.1)).Nodup) (h : ∀ p ∈ kds, EqS n p.2) : EqS (n + 1) (.dct kds) := by
  show (if kds.length = kds.length then eqKs (eqN n) kds kds else some false) = some true
  rw [if_pos rfl]
  exact eqKs_self fun p m => ⟨lookK_mem nd (by cases p; exact m), h p m⟩
theorem eqs_dk {α : Type} {n : Nat} {f : α → D} {L : List (Str × α)} (nd : (kys L).Nodup) (h : ∀ p ∈ L, EqS n (f p.2)) : EqS (n + 1) (dkD f L) := by
  refine eqs_dct ?_ fun p m => ?_
  · rw [List.map_map]
    have : (L.map ((fun (p : Key × D) => p.1) ∘ fun p => ((.inr p.1 : Key), f p.2))) = (kys L).map Sum.inr := by unfold kys; rw [List.map_map]; rfl
    rw [this]
    exact List.Pairwise.map _ (fun a b ne e => ne (by cases e; rfl)) nd
  · obtain ⟨q, hq, rfl⟩ := List.mem_map.mp m
    exact h q hq
theorem eqs_lv {n : Nat} {L : List (Str × Int)} (nd : (kys L).Nodup) : EqS (n + 2) (dkD .int L) := eqs_dk nd fun _ _ => eqs_int
theorem ne_self_d {d : D} (h : EqS 60 d) : dNe d d = some (.sh (.bl false)) := by unfold dNe; rw [h]; rfl
/-! ### repr -/
def RpS (w dep : Nat) (d : D) : Prop := ∃ p, d.py = some p ∧ p.showable = true ∧ p.depth ≤ dep ∧ p.shown.length ≤ w
theorem RpS.mono {w w' dep dep' : Nat} {d : D} (h : RpS w dep d) (h1 : w ≤ w') (h2 : dep ≤ dep') : RpS w' dep' d := by
  obtain ⟨p, a, b, c, e⟩ := h
  exact ⟨p, a, b, by omega, by omega⟩
def rpr (d : D) : Str := ((d.py).map PyData.shown).getD default
theorem repr_d {w dep : Nat} {d : D} (h : RpS w dep d) (hw : w ≤ 1000000) (hd : dep ≤ 60) : dRepr [d] = some (.sh (.str (rpr d))) := by
  obtain ⟨p, a, b, c, e⟩ := h
  show d.py.bind _ = _
  unfold rpr
  rw [a]
  exact if_pos ⟨b, by omega, by omega⟩
theorem rps_bl {b : Bool} : RpS 5 1 (.bl b) := ⟨_, rfl, rfl, by cases b <;> decide +kernel, by cases b <;> decide +kernel⟩
theorem rps_int {i : Int} (h0 : 0 ≤ i) (h : i < 1000000000000000000000000000000) : RpS 30 1 (.int i) := by
  obtain ⟨n, rfl⟩ := Int.eq_ofNat_of_zero_le h0
  refine ⟨_, rfl, ?_, by simp [PyData.depth], ?_⟩
  · have h1 : n < 2 ^ 100 := by omega
    by_cases z : n = 0
    · subst z; decide +kernel
    · have := (Nat.log2_lt z).mpr h1
      simp [PyData.showable]; omega
  · rw [PyData.shown_int, len_tl, tl_num]
    exact numL_len (by decide) (by omega)
theorem rps_str {x : Str} {k : Nat} (hl : x.length ≤ k) (hx : ∀ c ∈ tl x, c < 4294967296) : RpS (10 * k + 2) 1 (.str x) := by
  refine ⟨_, rfl, rfl, by simp [PyData.depth], ?_⟩
  rw [PyData.shown_str]
  have := StrLaws.reprText_len x (fun c m => by have := hx c m; omega)
  omega
theorem rps_all {w dep : Nat} : ∀ {ds : List D}, (∀ d ∈ ds, RpS w dep d) → ∃ ps, D.pys ds = some ps ∧ PyData.showableAll ps = true ∧ PyData.depthAll ps ≤ dep ∧ ps.length = ds.length ∧ ((PyData.shownAll ps).map (·.length)).sum ≤ ds.length * w
  | [], _ => ⟨[], rfl, rfl, Nat.zero_le _, rfl, Nat.zero_le _⟩
  | d :: ds, h => by
    obtain ⟨p, h1, h2, h3, h4⟩ := h d List.mem_cons_self
    obtain ⟨ps, k1, k2, k3, k4, k5⟩ := rps_all fun y m => h y (List.mem_cons_of_mem _ m)
    refine ⟨p :: ps, ?_, ?_, ?_, by rw [List.length_cons, List.length_cons, k4], ?_⟩
    · unfold D.pys; rw [h1, k1]; rfl
    · unfold PyData.showableAll; rw [h2, k2]; rfl
    · unfold PyData.depthAll; omega
    · unfold PyData.shownAll
      rw [List.map_cons, List.sum_cons, List.length_cons, Nat.add_mul]
      omega
theorem rps_lst {w dep k : Nat} {ds : List D} (hl : ds.length ≤ k) (h : ∀ d ∈ ds, RpS w dep d) : RpS (k * (w + 2) + 2) (dep + 1) (.lst ds) := by
  obtain ⟨ps, k1, k2, k3, k4, k5⟩ := rps_all h
  refine ⟨.list ps, ?_, ?_, ?_, ?_⟩
  · unfold D.py; rw [k1]; rfl
  · unfold PyData.showable; exact k2
  · unfold PyData.depth; omega
  · rw [PyData.shown_list, Str.length_append, Str.length_append]
    have := StrLaws.join_length_le (Str.ofString ", ") (PyData.shownAll ps)
    rw [PyData.shownAll_length] at this
    have e1 : (Str.ofString "[").length = 1 := by decide +kernel
    have e2 : (Str.ofString "]").length = 1 := by decide +kernel
    have e3 : (Str.ofString ", ").length = 2 := by decide +kernel
    rw [e3] at this
    rw [e1, e2]
    have m1 : ds.length * w ≤ k * w := Nat.mul_le_mul_right _ hl
    have m2 : ps.length * 2 ≤ k * 2 := by omega
    rw [Nat.mul_add]
    omega
theorem rps_kv {w wk dep : Nat} (hd : 1 ≤ dep) : ∀ {kds : List (Key × D)}, (∀ p ∈ kds, (∃ pk, keyPy p.1 = pk ∧ pk.showable = true ∧ pk.depth ≤ 1 ∧ pk.shown.length ≤ wk) ∧ RpS w dep p.2) → ∃ ps, D.pyk kds = some ps ∧ PyData.showableKv ps = true ∧ PyData.depthKv ps ≤ dep ∧ ps.length = kds.length ∧ ((PyData.shownKv ps).map (·.length)).sum ≤ kds.length * (wk + w + 2)
  | [], _ => ⟨[], rfl, rfl, Nat.zero_le _, rfl, Nat.zero_le _⟩
  | (k, d) :: kds, h => by
    obtain ⟨⟨pk, rfl, c2, c3, c4⟩, p, h1, h2, h3, h4⟩ := h _ List.mem_cons_self
    obtain ⟨ps, k1, k2, k3, k4, k5⟩ := rps_kv hd fun y m => h y (List.mem_cons_of_mem _ m)
    refine ⟨(keyPy k, p) :: ps, ?_, ?_, ?_, by rw [List.length_cons, List.length_cons, k4], ?_⟩
    · unfold D.pyk; rw [show d.py = some p from h1, k1]; rfl
    · unfold PyData.showableKv; rw [c2, h2, k2]; rfl
    · unfold PyData.depthKv; dsimp only at c3; omega
    · unfold PyData.shownKv
      rw [List.map_cons, List.sum_cons, List.length_cons, Nat.add_mul, Str.length_append, Str.length_append]
      have e3 : (Str.ofString ": ").length = 2 := by decide +kernel
      rw [e3]
      dsimp only at *
      omega
theorem shownKv_len : ∀ ps : List (PyData × PyData), (PyData.shownKv ps).length = ps.length
  | [] => rfl
  | (k, v) :: r => by unfold PyData.shownKv; rw [List.length_cons, List.length_cons, shownKv_len r]
theorem rps_dct {w wk dep k : Nat} {kds : List (Key × D)} (hd : 1 ≤ dep) (hl : kds.length ≤ k) (h : ∀ p ∈ kds, (∃ pk, keyPy p.1 = pk ∧ pk.showable = true ∧ pk.depth ≤ 1 ∧ pk.shown.length ≤ wk) ∧ RpS w dep p.2) : RpS (k * (wk + w + 4) + 2) (dep + 1) (.dct kds) := by
  obtain ⟨ps, k1, k2, k3, k4, k5⟩ := rps_kv hd h
  refine ⟨.dict ps, ?_, ?_, ?_, ?_⟩
  · unfold D.py; rw [k1]; rfl
  · unfold PyData.showable; exact k2
  · unfold PyData.depth; omega
  · rw [PyData.shown_dict, Str.length_append, Str.length_append]
    have := StrLaws.join_length_le (Str.ofString ", ") (PyData.shownKv ps)
    rw [shownKv_len] at this
    have e1 : (Str.ofString "{").length = 1 := by decide +kernel
    have e2 : (Str.ofString "}").length = 1 := by decide +kernel
    have e3 : (Str.ofString ", ").length = 2 := by decide +kernel
    rw [e3] at this
    rw [e1, e2]
    have m1 : kds.length * (wk + w + 2) ≤ k * (wk + w + 2) := Nat.mul_le_mul_right _ hl
    have m2 : ps.length * 2 ≤ k * 2 := by omega
    rw [show wk + w + 4 = (wk + w + 2) + 2 by omega, Nat.mul_add]
    omega
theorem rps_dk {α : Type} {w dep k kl : Nat} {f : α → D} {L : List (Str × α)} (hd : 1 ≤ dep) (hl : L.length ≤ k) (hk : ∀ c ∈ kys L, c.length ≤ kl ∧ ∀ x ∈ tl c, x < 4294967296) (h : ∀ p ∈ L, RpS w dep (f p.2)) : RpS (k * (10 * kl + 2 + w + 4) + 2) (dep + 1) (dkD f L) := by
  refine rps_dct hd (by rw [List.length_map]; exact hl) fun p m => ?_
  obtain ⟨q, hq, rfl⟩ := List.mem_map.mp m
  obtain ⟨h1, h2⟩ := hk q.1 (List.mem_map.mpr ⟨q, hq, rfl⟩)
  obtain ⟨p, a, b, c, e⟩ := rps_str (k := kl) h1 h2
  cases a
  exact ⟨⟨_, rfl, b, c, e⟩, h q hq⟩
end DL
set_option Elab.async false
set_option linter.all false
set_option autoImplicit false
set_option maxRecDepth 20000
/-! SP1: what the shared functions do: kinds of values. -/
local macro_rules
  | `(tactic| simp? only [$xs,*]) => `(tactic| simp (maxDischargeDepth := 60) -implicitDefEqProofs only [$xs,*, DL.ds_map_sh, ite_self, DL.wE_ok, DL.wO_next, DL.wO_ret, DL.wO_brk, DL.wO_cont, DL.wT_some, DL.wE_bind, DL.wO_toO, DL.wO_then, DL.wE_back, DL.wE_after, DL.headB_b, DL.wE_afterB, DL.ra_nl, DL.ra_cs, DL.sPar_w, DL.wE_lend, DL.own_bl, DL.own_int, DL.own_str, DL.own_non, DL.wO_asg, DL.eq_int, DL.ne_int, DL.eq_str, DL.ne_str, Bool.not_eq_true', decide_eq_false_iff_not, DL.okT_some, DL.okE_ok, DL.okN_next, DL.eLend_ev, DL.lend_v, DL.lend_b, DL.lend_n, DL.lendR_bl, DL.lendR_int, DL.lendR_str, DL.lendR_non, DL.frk_lend, List.getElem?_map, List.length_map, DL.varK_dk, DL.varK_strs, DL.dk_d, DL.strsO_d, DL.view_dk, DL.view_ch, DL.len_dk, DL.len_ch, DL.items_dk, DL.vals_dk, DL.keys_dk, DL.it_ch, DL.dict_dk, DL.list_dk, DL.list_ch, DL.in_dk, DL.notin_dk, DL.isi_dk, DL.isi_ch_lt, DL.dct0_dk, DL.eDct0, DL.eGet2_ev, DL.isDctR_dk, DL.get2K_int, DL.eGetP2_ev, DL.getP2K_dk, DL.getPK_int, DL.peekD, DL.eCBP_ev, DL.cbPK_some, DL.fl_int, DL.fl_bl, DL.fl_str, DL.eBinPR_ev, DL.binPRK_some, DL.ePopX_ev, DL.popXK_strs, DL.popXK_dk, DL.sAsg_ev, DL.asgK_some, DL.parK_ok, DL.eBm_ev, DL.eTy_ev, DL.isT_str, DL.isT_lst, DL.isT_ch, DL.prt_none, DL.prt_some, DL.prtI_int, DL.eSl_ev, DL.eCallK_ev, DL.eClr_ev, DL.clrK_dk, DL.gset, List.length_set, DL.getD_sv, List.getD_eq_getElem?_getD, Option.getD_some, DL.frk_sv, DL.frk_sn, DL.frk_sb, DL.frS_v, DL.frS_no, DL.frS_0, DL.frS_1, DL.putK_fr, DL.set1_ev, DL.set1K_fr, DL.tgt_nm, DL.tgt_2, DL.tgt_3, DL.forL_nil, DL.set_set, DL.wipe1, DL.wipe2, Nat.reduceLT, Nat.reduceEqDiff, Nat.zero_ne_one, ne_eq, not_false_eq_true, reduceIte, DL.mkFn, DL.ini, DL.sSeq, DL.sIf_ev, DL.sRet, DL.retV_ev, DL.ret_v, DL.sRetN, DL.sSet, DL.sDrop, DL.sNext, DL.sStore_ev, DL.eBin, DL.eUn, DL.eVar_ev, DL.var_sh, DL.var_lst, DL.var_dct, DL.eC_ev, DL.eAnd_ev, DL.eOr_ev, DL.eNot_ev, DL.notR_bl, DL.eIf_ev, DL.tstR_bl, DL.eAllI_ev, DL.allK_some, DL.allN_some, DL.eLc_ev, DL.lcK_some, DL.lcN_some, DL.eDc_ev, DL.dcK_some, DL.dcN_dk, DL.sForI_ev, DL.forK_some, DL.tstO_bl, DL.eLst, DL.eTup, DL.eCB, DL.eCall, DL.eCallB_ev, DL.ePix_ev, DL.guardR_some, DL.guardO_some, DL.pixK_some, DL.oSetO_some, DL.storeN_some, DL.callBK_some, DL.after_ok, DL.afterB_ok, DL.slO_v, DL.slO_b, DL.slO_no, DL.re_b, DL.re_v, DL.re_no, DL.put_ev, DL.put_no, DL.put_v, DL.then_next, DL.then_ret, DL.back_next, DL.back_ret, DL.backs, DL.bind_ok, DL.toO_ok, DL.of_some, DL.ra_ok, DL.d_sh, DL.d_lst, DL.d_dct, DL.ds_nil, DL.ds_cons, DL.vw_int, DL.vw_str, DL.vw_bl, DL.vw_non, DL.vw_lst, DL.vw_tup, DL.vw_dct, DL.vw_scr, DL.vw_op, DL.add_int, DL.sub_int, DL.lt_int, DL.gt_int, DL.le_int, DL.ge_int, DL.max_int, DL.min_int, DL.len_lst, DL.len_tup, DL.len_scr, DL.len_dct, DL.mod_int, DL.fdv_int, DL.pow_int, DL.mul_int, DL.box0, DL.box1, DL.box2, DL.box3, DL.sbox0, DL.sbox3, true_or, or_true, and_true, true_and, and_self, List.cons_append, List.nil_append, List.append_nil, List.replicate, List.getElem?_cons_zero, List.getElem?_cons_succ, List.getD_cons_zero, List.getD_cons_succ, List.map_cons, List.map_nil, List.set_cons_zero, List.set_cons_succ, List.take_succ_cons, List.take_zero, List.take_nil, List.length_cons, List.length_nil, Option.isSome_some, Option.bind_some, Option.map_some, if_true, if_false, decide_true, decide_false, Bool.not_true, Bool.not_false, Bool.false_eq_true, Bool.true_and, Bool.false_and, decide_eq_true_eq, Int.reduceLT, Int.reduceLE, Int.reducePow, Int.reduceNeg, Int.reduceToNat, Nat.reduceAdd, Nat.reduceLeDiff])
  | `(tactic| simp? only [$xs,*] at $h:ident) => `(tactic| (revert $h:ident; simp? only [$xs,*]; intro $h:ident))
namespace DH
open DL PySem
abbrev Key := L2.Key
def letters : List Nat := (Str.ofString "abcdefghijklmnopqrstuvwxyz").cps.toList
def isCh (c : Str) : Bool := decide (1 ≤ c.length ∧ c.length ≤ 8) && c.cps.toList.all fun x => decide (x ∈ letters)
theorem isi_str_str {c : Str} : dIsi [.str c, .op (.ty "str")] = some (.sh (.bl true)) := rfl
theorem isi_int_int {n : Int} : dIsi [.int n, .op (.ty "int")] = some (.sh (.bl true)) := rfl
theorem isi_int_bool {n : Int} : dIsi [.int n, .op (.ty "bool")] = some (.sh (.bl false)) := rfl
theorem q_is_whole {v a b : Int} : f_is_whole [.sh (.int v), .sh (.int a), .sh (.int b)] = .ok (.sh (.bl (decide (a ≤ v ∧ v ≤ b)))) [.no, .no, .no] := by
  simp? only [f_is_whole, m_is_whole, isi_int_int, isi_int_bool, eChn]
  by_cases h : a ≤ v <;> by_cases h2 : v ≤ b <;> simp [h, h2, back_ret, backs, toO_ok, bind_ok, tstR]
theorem q_is_level {v : Int} : f_is_level [.sh (.int v)] = .ok (.sh (.bl (decide (0 ≤ v ∧ v ≤ 100)))) [.no] := by
  simp? only [f_is_level, m_is_level, q_is_whole]
theorem len_str {x : Str} (h : x.length ≤ 1000000) : dLen [.str x] = some (.sh (.int x.length)) := if_pos h
theorem it_str {x : Str} : itV (.str x) = some (signs x) := rfl
theorem tg_nm {i : Nat} {d : D} {ρ : En} : TD.tg (.nm i) d ρ = ρ.set1 i d := rfl
theorem tg_no {i : Nat} {d : D} {ρ : En} (h : ρ[i]? = some .no) : TD.tg (.nm i) d ρ = some (ρ.set i (.v (.sh d))) := by rw [tg_nm]; unfold En.set1; rw [h]
theorem in_sign {x : Nat} {z : Str} : dIn (.str ⟨#[x]⟩) (.str z) = some (.sh (.bl (decide (x ∈ z.cps.toList)))) := rfl
theorem q_is_channel {c : Str} (h : c.length ≤ 1000000) : f_is_channel [.sh (.str c)] = .ok (.sh (.bl (isCh c))) [.no] := by
  have ha : allL 1 (TD.tg (TD.nm 0)) (eBin dIn (eVar 0) (eC (.str "abcdefghijklmnopqrstuvwxyz"))) (signs c) = some ((signs c).all fun d => match d with | .str ⟨a⟩ => decide (a.toList.headD 0 ∈ letters) | _ => false) := by
    refine allL_all _ fun d m => ?_
    obtain ⟨x, _, rfl⟩ := List.mem_map.mp m
    refine ⟨_, [.v (.sh (.str ⟨#[x]⟩))], tg_no rfl, ?_⟩
    simp? only [in_sign]
    rfl
  have hb : ((signs c).all fun d => match d with | .str ⟨a⟩ => decide (a.toList.headD 0 ∈ letters) | _ => false) = c.cps.toList.all fun x => decide (x ∈ letters) := by
    unfold signs
    rw [List.all_map]
    rfl
  simp? only [f_is_channel, m_is_channel, isi_str_str, len_str h, it_str, eChn]
  by_cases h1 : 1 ≤ c.length <;> by_cases h2 : c.length ≤ 8
  · have g1 : (1 : Int) ≤ c.length := by omega
    have g2 : (c.length : Int) ≤ 8 := by omega
    simp? only [g1, g2, it_str, ha, hb, isCh, h1, h2]
  · have g1 : (1 : Int) ≤ c.length := by omega
    have g2 : ¬ (c.length : Int) ≤ 8 := by omega
    simp? only [g1, g2, it_str, ha, hb, isCh, h1, h2]
  · have g1 : ¬ (1 : Int) ≤ c.length := by omega
    simp? only [g1, ha, hb, isCh, h1, h2]
  · omega
end DH
set_option Elab.async false
set_option linter.all false
set_option autoImplicit false
set_option maxRecDepth 20000
/-! SP2: looks and moves. -/
namespace DH
open DL PySem
abbrev Lv := List (Str × Int)
def isMv (L : Lv) : Bool := decide (L.length ≤ 60) && L.all fun p => isCh p.1 && decide (0 ≤ p.2 ∧ p.2 ≤ 100)
theorem q_is_moves {L : Lv} (hc : ∀ p ∈ L, p.1.length ≤ 1000000) : f_is_moves [.sh (dkD .int L)] = .ok (.sh (.bl (isMv L))) [.no] := by
  have ha : allL 2 (TD.tg (TD.tp [TD.nm 0, TD.nm 1])) (eAnd (eCall f_is_channel [] [(eVar 0)]) (eCall f_is_level [] [(eVar 1)])) (L.map fun p => .tup [.str p.1, .int p.2]) = some (L.all fun p => isCh p.1 && decide (0 ≤ p.2 ∧ p.2 ≤ 100)) := by
    refine allW _ L fun p m => ?_
    simp? only [q_is_channel (hc p m), q_is_level]
    cases isCh p.1 <;> simp [after_ok, tstR, R.bind, okE_ok]
  simp? only [f_is_moves, m_is_moves,  ha]
  unfold isMv
  by_cases h : L.length ≤ 60
  · have g1 : ¬ (60 : Int) < L.length := by omega
    simp? only [g1, h,  ha]
  · have g1 : (60 : Int) < L.length := by omega
    simp? only [g1, h]
/-- a dict of channels and levels as it stands in a look: good channels, levels from least on, no channel twice -/
structure LvOk (least : Int) (L : Lv) : Prop where
  nd : (kys L).Nodup
  ln : L.length ≤ 60
  ch : ∀ p ∈ L, isCh p.1 = true
  lo : ∀ p ∈ L, least ≤ p.2
  hi : ∀ p ∈ L, p.2 ≤ 100
theorem isCh_len {c : Str} (h : isCh c = true) : 1 ≤ c.length ∧ c.length ≤ 8 := by
  unfold isCh at h
  rw [Bool.and_eq_true] at h
  simpa using h.1
theorem isCh_len6 {c : Str} (h : isCh c = true) : c.length ≤ 1000000 := by have := isCh_len h; omega
theorem LvOk.mv {a : Int} {L : Lv} (h : LvOk a L) (ha : 0 ≤ a) : isMv L = true := by
  unfold isMv
  rw [Bool.and_eq_true]
  refine ⟨by simpa using h.ln, List.all_eq_true.mpr fun p m => ?_⟩
  have h1 := h.ch p m
  have h2 := h.lo p m
  have h3 := h.hi p m
  simp [h1]; omega
theorem q_need_moves {L : Lv} (h : LvOk 0 L) : f_need_moves [.sh (dkD .int L)] = .ok (.sh .non) [.no] := by
  simp? only [f_need_moves, m_need_moves, q_is_moves fun p m => isCh_len6 (h.ch p m), h.mv (Int.le_refl _)]
/-- {c: levels[c] for c in sorted(levels)} -/
theorem len_srt {α : Type} [Inhabited α] {L : List (Str × α)} : (srt L).length = L.length := by
  unfold srt; rw [List.length_map, (srtS_perm _).length_eq]; simp [kys]
theorem mrg_srt {α : Type} [Inhabited α] {L : List (Str × α)} (nd : (kys L).Nodup) : mrg [] ((srtS (kys L)).map fun c => (c, (getL L c).getD default)) = srt L :=
  mrg_nil_l (by rw [kys_map, List.map_id']; exact srt_perm_nodup nd)
end DH
set_option Elab.async false
set_option linter.all false
set_option autoImplicit false
set_option maxRecDepth 20000
/-! SP3: texts; what is drawn. -/
namespace DH
open DL PySem PySem.Spec L2 TL
/-! ### slices -/
theorem slice_tl (x : Str) (a b : Option Int) : tl (Txt.slice x a b) = ((tl x).drop (HT.sIx x.length 0 a)).take (HT.sIx x.length x.length b - HT.sIx x.length 0 a) := by
  have hi : HT.sIx x.length x.length b ≤ x.length := HT.sIx_le _ _ (Nat.le_refl _) _
  have key : (Builtin.Str.strSliceIndices a b 1 x.length).filterMap (x.cps[·]?) = ((tl x).drop (HT.sIx x.length 0 a)).take (HT.sIx x.length x.length b - HT.sIx x.length 0 a) := by
    rw [sidx]
    by_cases h : HT.sIx x.length 0 a ≤ HT.sIx x.length x.length b
    · have := StrLaws.picks (tl x) (HT.sIx x.length x.length b - HT.sIx x.length 0 a) (HT.sIx x.length 0 a) (by rw [← len_tl]; omega)
      simpa [tl] using this
    · rw [show HT.sIx x.length x.length b - HT.sIx x.length 0 a = 0 by omega]
      simp
  unfold Txt.slice
  split
  · rename_i h
    rw [sidx, List.length_map, List.length_range] at h
    have h2 : HT.sIx x.length x.length b - HT.sIx x.length 0 a = x.length := by simpa using h
    rw [h2]
    by_cases z : x.length = 0
    · rw [z]
      have : tl x = [] := List.eq_nil_of_length_eq_zero (by rw [← len_tl, z])
      rw [this]; simp
    · rw [show HT.sIx x.length 0 a = 0 by omega, List.drop_zero, len_tl, List.take_length]
  · rw [key]
theorem slice_lo {x : Str} {a : Int} (h : 0 ≤ a) : tl (Txt.slice x (some a) none) = (tl x).drop a.toNat := by
  rw [slice_tl]
  have e : HT.sIx x.length 0 (some a) = min a.toNat x.length := by show (if _ then _ else _) = _; rw [if_neg (by omega)]
  rw [e, show HT.sIx x.length x.length none = x.length from rfl]
  rw [len_tl]
  by_cases z : a.toNat ≤ (tl x).length
  · rw [Nat.min_eq_left z, List.take_of_length_le (by rw [List.length_drop]; omega)]
  · rw [Nat.min_eq_right (by omega), Nat.sub_self, List.take_zero, List.drop_eq_nil_of_le (by omega)]
theorem slice_hi {x : Str} {b : Int} (h : 0 ≤ b) : tl (Txt.slice x none (some b)) = (tl x).take b.toNat := by
  rw [slice_tl]
  have e : HT.sIx x.length x.length (some b) = min b.toNat x.length := by show (if _ then _ else _) = _; rw [if_neg (by omega)]
  rw [e, show HT.sIx x.length 0 none = 0 from rfl, List.drop_zero, Nat.sub_zero, len_tl]
  by_cases z : b.toNat ≤ (tl x).length
  · rw [Nat.min_eq_left z]
  · rw [Nat.min_eq_right (by omega), List.take_of_length_le (Nat.le_refl _), List.take_of_length_le (by omega)]
theorem sl_str {x : Str} {a b : Option Int} (h : x.length ≤ 1000000) : dSl (.str x) a b = some (.sh (.str (Txt.slice x a b))) := if_pos h
theorem add_str {x y : Str} (h : x.length + y.length ≤ 1000000) : dAdd (.str x) (.str y) = some (.sh (.str (x ++ y))) := if_pos h
theorem join_ch {a : Str} {cs : List Str} (h : (cs.map (·.length)).sum + cs.length * a.length ≤ 16777216) : mJoin (.str a) [chD cs] = some (.sh (.str (Str.join a cs))) := by
  show (mJoin.allStr (cs.map .str)).bind (fun ys => if (ys.map (·.length)).sum + ys.length * a.length ≤ 16777216 then oS (Txt.join a ys) else none) = _
  rw [allStr_ch, Option.bind_some, if_pos h, join_eq]
  rfl
/-! ### items of lists -/
theorem atI_nn {α : Type} {xs : List α} {i : Int} {x : α} (h0 : 0 ≤ i) (h : xs[i.toNat]? = some x) : atI xs i = some x := by
  have hl := (List.getElem?_eq_some_iff.mp h).1
  unfold atI ixN
  rw [if_pos h0, if_pos (by omega), Option.bind_some, h]
theorem ix_l {ds : List D} {i : Int} {d : D} (h0 : 0 ≤ i) (h : ds[i.toNat]? = some d) : dIx (.lst ds) (.int i) = some (.sh d) := by
  show (atI ds i).map O.sh = _
  rw [atI_nn h0 h]; rfl
theorem ix_mem {ds : List D} {i : Int} (h0 : 0 ≤ i) (h : i < ds.length) : ∃ d ∈ ds, dIx (.lst ds) (.int i) = some (.sh d) := by
  have hl : i.toNat < ds.length := by omega
  exact ⟨ds[i.toNat], List.getElem_mem hl, ix_l h0 (List.getElem?_eq_getElem hl)⟩
theorem ix_ch {cs : List Str} {i : Int} {c : Str} (h0 : 0 ≤ i) (h : cs[i.toNat]? = some c) : dIx (chD cs) (.int i) = some (.sh (.str c)) := ix_l h0 (by rw [List.getElem?_map, h]; rfl)
theorem ix_str {x : Str} {i : Int} {c : Nat} (hx : x.length ≤ 1000000) (h0 : 0 ≤ i) (h : (tl x)[i.toNat]? = some c) : dIx (.str x) (.int i) = some (.sh (.str ⟨#[c]⟩)) := by
  show (if x.length ≤ 1000000 then (atI x.cps.toList i).map fun c => O.sh (.str ⟨#[c]⟩) else none) = _
  rw [if_pos hx, atI_nn h0 h]; rfl
/-! ### a box of four numbers, from which a cell's things are drawn -/
def OkB (n : Int) (o : O) : Prop := ∃ a b c t, o = box a b c t ∧ 0 ≤ a ∧ (0 ≤ b ∧ b < 2147483648) ∧ (0 ≤ c ∧ c < 2147483648) ∧ 0 ≤ t ∧ t ≤ n
theorem OkB.mono {n m : Int} {o : O} (h : OkB n o) (k : n ≤ m) : OkB m o := by
  obtain ⟨a, b, c, t, e, h1, h2, h3, h4, h5⟩ := h
  exact ⟨a, b, c, t, e, h1, h2, h3, h4, by omega⟩
def TakeOk (take : List O → R) : Prop := ∀ (n : Int) (o : O) (m : Int), OkB n o → n ≤ 1000000 → 0 < m → m < 340282366920938463463374607431768211456 →
  ∃ r o', take [o, .sh (.int m)] = .ok (.sh (.int r)) [.b o', .no] ∧ 0 ≤ r ∧ r < m ∧ OkB (n + 1) o'
theorem TakeOk.w {take : List O → R} (T : TakeOk take) {n : Int} {o : O} {m : Int} (hb : OkB n o) (hn : n ≤ 1000000) (h1 : 0 < m) (h2 : m < 340282366920938463463374607431768211456) : wE (fun q ρ => ∃ (r : Int) (o' : O), q = .sh (.int r) ∧ ρ = [.b o', .no] ∧ 0 ≤ r ∧ r < m ∧ OkB (n + 1) o') (take [o, .sh (.int m)]) := by
  obtain ⟨r, o', e, h3, h4, h5⟩ := T n o m hb hn h1 h2
  rw [e]
  exact ⟨r, o', rfl, rfl, h3, h4, h5⟩
/-- the laws' own way to draw: three numbers differ -/
def m_take (c1 c2 c3 : Int) : Sm := (sSeq (sIf (eLend (eBin dGt (eBin dIx (eVar 0) (eC (.int 0))) (eC (.int 0)))) (sSeq (sSet 2 (eBin dMod (ePix 0 (eC (.int 0))) (eVar 1))) (sSeq (sStore 0 (eC (.int 0)) (eBin dFdv (ePix 0 (eC (.int 0))) (eVar 1))) (sRetV 2))) sNext) (sSeq (sStore 0 (eC (.int 3)) (eLend (eBin dAdd (eBin dIx (eVar 0) (eC (.int 3))) (eC (.int 1))))) (sSeq (sSet 3 (ePix 0 (eC (.int 3)))) (sSeq (sSet 4 (eLend (eBin dMod (eBin dPow (eBin dAdd (eBin dAdd (eBin dMul (eBin dIx (eVar 0) (eC (.int 1))) (eBin dAdd (eBin dMul (eC (.int 2)) (eVar 3)) (eC (.int 3)))) (eBin dMul (eBin dMul (eC (.int c1)) (eVar 3)) (eVar 3))) (eC (.int c2))) (eC (.int 5))) (eC (.int 2147483647))))) (sRet (eLend (eBin dMod (eBin dFdv (eBin dMod (eBin dPow (eBin dAdd (eBin dAdd (eVar 4) (eBin dMul (eBin dIx (eVar 0) (eC (.int 2))) (eVar 3))) (eC (.int c3))) (eC (.int 3))) (eC (.int 2147483579))) (eC (.int 16))) (eVar 1))))))))
def f_take (c1 c2 c3 : Int) : List O → R := mkFn 2 3 [true] (m_take c1 c2 c3)
theorem ix40 {a b c t : Int} : dIx (.lst [.int a, .int b, .int c, .int t]) (.int 0) = some (.sh (.int a)) := rfl
theorem ix41 {a b c t : Int} : dIx (.lst [.int a, .int b, .int c, .int t]) (.int 1) = some (.sh (.int b)) := rfl
theorem ix42 {a b c t : Int} : dIx (.lst [.int a, .int b, .int c, .int t]) (.int 2) = some (.sh (.int c)) := rfl
theorem ix43 {a b c t : Int} : dIx (.lst [.int a, .int b, .int c, .int t]) (.int 3) = some (.sh (.int t)) := rfl
theorem take_ok {c1 c2 c3 : Int} (k1 : 0 ≤ c1 ∧ c1 < 1000000) (k2 : 0 ≤ c2 ∧ c2 < 1000000) (k3 : 0 ≤ c3 ∧ c3 < 1000000) : TakeOk (f_take c1 c2 c3) := by
  rintro n o m ⟨a, b, c, t, rfl, ha, hb, hc, ht, htn⟩ hn hm hm3
  simp? only [f_take, m_take,  hm, hm3, ix40, ix41, ix42, ix43]
  by_cases h0 : 0 < a
  · simp? only [h0, hm, hm3]
    refine ⟨_, _, rfl, Int.emod_nonneg _ (by omega), Int.emod_lt_of_pos _ hm, _, _, _, _, rfl, Int.ediv_nonneg ha (by omega), hb, hc, ht, by omega⟩
  · have b1 : -18446744073709551616 < b := by omega
    have b2 : b < 18446744073709551616 := by omega
    have c1' : -18446744073709551616 < c := by omega
    have c2' : c < 18446744073709551616 := by omega
    have d1' : -18446744073709551616 < c1 := by omega
    have d2' : c1 < 18446744073709551616 := by omega
    have t1 : -18446744073709551616 < t + 1 := by omega
    have t2 : t + 1 < 18446744073709551616 := by omega
    have p1 : 0 ≤ b * (2 * (t + 1) + 3) := Int.mul_nonneg hb.1 (by omega)
    have p2 : b * (2 * (t + 1) + 3) ≤ 2147483648 * 2000005 := Int.mul_le_mul (by omega) (by omega) (by omega) (by omega)
    have q0 : 0 ≤ c1 * (t + 1) := Int.mul_nonneg k1.1 (by omega)
    have q0' : c1 * (t + 1) ≤ 1000000 * 1000001 := Int.mul_le_mul (by omega) (by omega) (by omega) (by omega)
    have q1 : 0 ≤ c1 * (t + 1) * (t + 1) := Int.mul_nonneg q0 (by omega)
    have q2 : c1 * (t + 1) * (t + 1) ≤ 1000001000000 * 1000001 := Int.mul_le_mul (by omega) (by omega) (by omega) (by omega)
    have r1 : 0 ≤ c * (t + 1) := Int.mul_nonneg hc.1 (by omega)
    have r2 : c * (t + 1) ≤ 2147483648 * 1000001 := Int.mul_le_mul (by omega) (by omega) (by omega) (by omega)
    have e1 : -18446744073709551616 < b * (2 * (t + 1) + 3) + c1 * (t + 1) * (t + 1) + c2 := by omega
    have e2 : b * (2 * (t + 1) + 3) + c1 * (t + 1) * (t + 1) + c2 < 18446744073709551616 := by omega
    generalize hX : (b * (2 * (t + 1) + 3) + c1 * (t + 1) * (t + 1) + c2) = X at *
    have m1 : 0 ≤ X ^ 5 % 2147483647 := Int.emod_nonneg _ (by decide)
    have m2 : X ^ 5 % 2147483647 < 2147483647 := Int.emod_lt_of_pos _ (by decide)
    have e3 : -18446744073709551616 < X ^ 5 % 2147483647 + c * (t + 1) + c3 := by omega
    have e4 : X ^ 5 % 2147483647 + c * (t + 1) + c3 < 18446744073709551616 := by omega
    simp? only [h0, hm, hm3, b1, b2, c1', c2', d1', d2', t1, t2, hX, e1, e2, e3, e4, ix40, ix41, ix42, ix43]
    exact ⟨_, _, rfl, Int.emod_nonneg _ (by omega), Int.emod_lt_of_pos _ hm, _, _, _, _, rfl, ha, hb, hc, by omega, by omega⟩
theorem q_law_box (c : Int) : wE (fun o ρ => OkB 0 o) (f__law_box_k01 [.sh (.int c)]) := by
  simp? only [f__law_box_k01, m__law_box_k01]
  refine ⟨_, _, _, _, rfl, ?_, ⟨Int.emod_nonneg _ (by decide), ?_⟩, ⟨Int.emod_nonneg _ (by decide), ?_⟩, by decide, by decide⟩
  · split <;> omega
  · have := Int.emod_lt_of_pos c (show (0 : Int) < 2147483629 by decide); omega
  · have := Int.emod_lt_of_pos c (show (0 : Int) < 2147483587 by decide); omega
theorem q_law_level {take : List O → R} (T : TakeOk take) {n : Int} {o : O} (hb : OkB n o) (hn : n ≤ 999000) : wE (fun q ρ => ∃ (r : Int) (o' : O), q = .sh (.int r) ∧ ρ = [.b o'] ∧ 0 ≤ r ∧ r ≤ 100 ∧ OkB (n + 3) o') (f__law_level_k11 take [o]) := by
  simp? only [f__law_level_k11, m__law_level_k11]
  refine (T.w hb (by omega) (by omega) (by omega)).mono ?_; rintro _ _ ⟨x1, o1, rfl, rfl, l1, u1, b1⟩
  simp? only [DL.wE_ok]
  refine (T.w b1 (by omega) (by omega) (by omega)).mono ?_; rintro _ _ ⟨x2, o2, rfl, rfl, l2, u2, b2⟩
  simp? only [DL.wE_ok]
  refine (T.w b2 (by omega) (by omega) (by omega)).mono ?_; rintro _ _ ⟨x3, o3, rfl, rfl, l3, u3, b3⟩
  obtain ⟨d, m, e4⟩ := ix_mem (ds := [.int 0, .int 100, .int x1, .int (1 + x2)]) l3 (by simpa using u3)
  simp? only [e4]
  simp at m
  rcases m with rfl | rfl | rfl | rfl
  · exact ⟨_, _, rfl, rfl, by omega, by omega, b3.mono (by omega)⟩
  · exact ⟨_, _, rfl, rfl, by omega, by omega, b3.mono (by omega)⟩
  · exact ⟨_, _, rfl, rfl, by omega, by omega, b3.mono (by omega)⟩
  · exact ⟨_, _, rfl, rfl, by omega, by omega, b3.mono (by omega)⟩
end DH
set_option Elab.async false
set_option linter.all false
set_option autoImplicit false
set_option maxRecDepth 100000
/-! SP4: channels that are drawn. -/
namespace DH
open DL PySem PySem.Spec L2 TL
def abc : Str := "abcdefghijklmnopqrstuvwxyz"
theorem tl_abc : tl abc = (List.range 26).map (97 + ·) := by decide +kernel
theorem abc_def : (Str.ofString "abcdefghijklmnopqrstuvwxyz") = abc := rfl
theorem letters_abc : letters = (List.range 26).map (97 + ·) := tl_abc
theorem len_abc : abc.length ≤ 1000000 := by decide +kernel
def sg (c : Nat) : Str := ⟨#[c]⟩
theorem tl_sg {c : Nat} : tl (sg c) = [c] := rfl
theorem ix_abc {i : Int} (h0 : 0 ≤ i) (h1 : i < 26) : dIx (.str abc) (.int i) = some (.sh (.str (sg (97 + i.toNat)))) := by
  refine ix_str len_abc h0 ?_
  rw [tl_abc, List.getElem?_map, List.getElem?_range (by omega : i.toNat < 26)]
  rfl
def low (c : Nat) : Prop := 97 ≤ c ∧ c < 123
theorem mem_letters {c : Nat} : c ∈ letters ↔ low c := by
  rw [letters_abc, List.mem_map]
  constructor
  · rintro ⟨k, hk, rfl⟩
    have := List.mem_range.mp hk
    exact ⟨by omega, by omega⟩
  · rintro ⟨h1, h2⟩
    exact ⟨c - 97, List.mem_range.mpr (by omega), by omega⟩
theorem isCh_iff {c : Str} : isCh c = true ↔ (1 ≤ (tl c).length ∧ (tl c).length ≤ 8) ∧ ∀ x ∈ tl c, low x := by
  unfold isCh
  rw [Bool.and_eq_true, decide_eq_true_eq, List.all_eq_true, len_tl]
  refine and_congr_right fun _ => ?_
  constructor
  · intro h x m; exact mem_letters.mp (by simpa using h x m)
  · intro h x m; simpa using mem_letters.mpr (h x m)
structure ChOk (cs : List Str) : Prop where
  nd : cs.Nodup
  ch : ∀ c ∈ cs, isCh c = true
def wordsOf : List Str := Txt.split "up down block cue dark look drop cut store only lean from undo redo put at" " "
theorem words_len : wordsOf.length = 16 := by decide +kernel
theorem words_ok : ChOk wordsOf := ⟨by decide +kernel, by decide +kernel⟩
theorem nodup_map_range {n : Nat} {f : Nat → Str} (h : ∀ i j, i < n → j < n → f i = f j → i = j) : ((List.range n).map f).Nodup := by
  refine List.pairwise_map.mpr ?_
  refine List.Pairwise.imp_of_mem ?_ (List.nodup_range (n := n))
  intro a b ha hb ne e
  exact ne (h a b (List.mem_range.mp ha) (List.mem_range.mp hb) e)
theorem strsO_map {n : Nat} {f : Nat → Str} : O.lst ((List.range n).map fun k => .sh (.str (f k))) = strsO ((List.range n).map f) := by
  unfold strsO
  simp only [List.map_map]
  rfl
theorem joinL_sg : ∀ (cs : List Nat), joinL [] ((cs.map sg).map tl) = cs
  | [] => rfl
  | [c] => rfl
  | c :: d :: cs => by
    show [c] ++ ([] ++ joinL [] (((d :: cs).map sg).map tl)) = _
    rw [joinL_sg (d :: cs)]; rfl
theorem tl_join_sg {cs : List Nat} : tl (Str.join (Str.ofString "") (cs.map sg)) = cs := by
  rw [tl_join]
  exact joinL_sg cs
theorem sum_len_sg : ∀ (cs : List Nat), ((cs.map sg).map (fun x => x.length)).sum = cs.length
  | [] => rfl
  | c :: cs => by
    rw [List.map_cons, List.map_cons, List.sum_cons, sum_len_sg cs, List.length_cons]
    show 1 + cs.length = _
    omega
theorem join_sg {cs : List Nat} (h : cs.length ≤ 1000) : mJoin (.str "") [chD (cs.map sg)] = some (.sh (.str (Str.join "" (cs.map sg)))) := by
  refine join_ch ?_
  rw [sum_len_sg]
  have : (Str.ofString "").length = 0 := by decide +kernel
  rw [this]; omega
theorem words_ex : ∃ W : List Str, mSplit (.str "up down block cue dark look drop cut store only lean from undo redo put at") [.str " "] = some (strsO W) ∧ W.length = 16 ∧ ChOk W := ⟨wordsOf, (if_pos (show (Str.ofString " ").length ≠ 0 ∧ (Str.ofString "up down block cue dark look drop cut store only lean from undo redo put at").length ≤ 1000000 by decide +kernel) : (if (Str.ofString " ").length ≠ 0 ∧ (Str.ofString "up down block cue dark look drop cut store only lean from undo redo put at").length ≤ 1000000 then some (strsO wordsOf) else none) = some (strsO wordsOf)), words_len, words_ok⟩
theorem ix_ints4 {a b c d i : Int} (h0 : 0 ≤ i) (h1 : i < 4) : ∃ x, dIx (.lst [.int a, .int b, .int c, .int d]) (.int i) = some (.sh (.int x)) ∧ ((i = 0 ∧ x = a) ∨ (i = 1 ∧ x = b) ∨ (i = 2 ∧ x = c) ∨ (i = 3 ∧ x = d)) := by
  have : i = 0 ∨ i = 1 ∨ i = 2 ∨ i = 3 := by omega
  rcases this with rfl | rfl | rfl | rfl
  · exact ⟨a, rfl, .inl ⟨rfl, rfl⟩⟩
  · exact ⟨b, rfl, .inr (.inl ⟨rfl, rfl⟩)⟩
  · exact ⟨c, rfl, .inr (.inr (.inl ⟨rfl, rfl⟩))⟩
  · exact ⟨d, rfl, .inr (.inr (.inr ⟨rfl, rfl⟩))⟩
theorem nodup_inj {α : Type} {l : List α} (nd : l.Nodup) {i j : Nat} (hi : i < l.length) (hj : j < l.length) (e : l[i] = l[j]) : i = j := by
  rcases Nat.lt_trichotomy i j with h | h | h
  · exact absurd e (List.pairwise_iff_getElem.mp nd i j hi hj h)
  · exact h
  · exact absurd e.symm (List.pairwise_iff_getElem.mp nd j i hj hi h)
theorem strsO_of {cs : List Nat} : O.lst ((cs.map sg).map fun c => .sh (.str c)) = strsO (cs.map sg) := by
  unfold strsO; simp [List.map_map, Function.comp]
theorem pre_inj {S : List Nat} {i j : Nat} (hi : i ≤ S.length) (hj : j ≤ S.length) (h : S.take i = S.take j) : i = j := by
  have := congrArg List.length h
  rw [List.length_take, List.length_take] at this
  omega
theorem q_law_channels {take : List O → R} (T : TakeOk take) {n : Int} {o : O} (hb : OkB n o) (hn : n ≤ 990000) {k : Nat} (hk : k ≤ 16) : wE (fun q ρ => ∃ (cs : List Str) (o' : O), q = strsO cs ∧ ρ = [.b o', .no] ∧ ChOk cs ∧ cs.length = k ∧ OkB (n + 10) o') (f__law_channels_k11 take [o, .sh (.int k)]) := by
  obtain ⟨W, eW, lenW, okW⟩ := words_ex
  have r7 : itRng (.int 7) = some ((List.range 7).map fun (i : Nat) => .int (i : Int)) := itRng_nat (n := 7) (by decide)
  have rk : itRng (.int (k : Int)) = some ((List.range k).map fun (i : Nat) => .int (i : Int)) := itRng_nat (by omega)
  simp? only [f__law_channels_k11, m__law_channels_k11, abc_def]
  refine (T.w hb (by omega) (by omega) (by omega)).mono ?_; rintro _ _ ⟨way, o1, rfl, rfl, l1, u1, b1⟩
  simp? only [DL.wE_ok]
  refine (T.w b1 (by omega) (by omega) (by omega)).mono ?_; rintro _ _ ⟨start, o2, rfl, rfl, l2, u2, b2⟩
  simp? only [DL.wE_ok]
  refine (T.w b2 (by omega) (by omega) (by omega)).mono ?_; rintro _ _ ⟨at_, o3, rfl, rfl, l3, u3, b3⟩
  simp? only [r7]
  refine wLcD (J := fun acc ρ => ∃ (cs : List Nat) (o' : O), acc = (cs.map sg).map (fun c => .sh (.str c)) ∧ (∀ c ∈ cs, low c) ∧ OkB (n + 3 + acc.length) o' ∧ ρ = [.b o', .v (.sh (.int k)), .v (.sh (.str abc)), .v (.sh (.int way)), .v (.sh (.int start)), .v (.sh (.int at_)), .no, .no, .no]) (by simp) ⟨[], o3, rfl, fun _ m => (nomatch m), b3.mono (by simp; omega), rfl⟩ ?_ ?_
  · rintro i m acc ρ hl ⟨cs, o', rfl, h1, h2, rfl⟩
    have hl' : (((cs.map sg).map (fun c => O.sh (.str c))).length : Int) < 7 := by rw [List.length_range] at hl; omega
    simp? only [DL.wE_ok]
    refine (T.w h2 (by omega) (by omega) (by omega)).mono ?_; rintro _ _ ⟨x, o4, rfl, rfl, l4, u4, b4⟩
    simp? only [ix_abc l4 u4]
    refine ⟨cs ++ [97 + x.toNat], o4, by simp, ?_, b4.mono (by simp; omega), rfl⟩
    intro c m
    rcases List.mem_append.mp m with m | m
    · exact h1 c m
    · simp at m; subst m; exact ⟨by omega, by omega⟩
  rintro os ρ' hl ⟨sc, o4, rfl, hs2, b4, rfl⟩
  have hs1 : sc.length = 7 := by simpa using hl
  have b4 : OkB (n + 10) o4 := b4.mono (by simp [hs1]; omega)
  rw [strsO_of]
  simp? only [join_sg (show sc.length ≤ 1000 by omega), rk]
  have hstem := tl_join_sg (cs := sc)
  generalize Str.join (Str.ofString "") (sc.map sg) = S at hstem
  have lS : S.length = 7 := by rw [len_tl, hstem, hs1]
  refine wO_if (fun w0 => ?_) (fun w0 => ?_)
  · simp? only [eW, rk]
    obtain ⟨stp, e5, h5⟩ := ix_ints4 (a := 1) (b := 3) (c := 5) (d := 7) (i := at_ % 4) (Int.emod_nonneg _ (by decide)) (Int.emod_lt_of_pos _ (by decide))
    have hst : (stp = 1 ∨ stp = 3 ∨ stp = 5 ∨ stp = 7) := by omega
    have ix : ∀ i : Nat, ((start + stp * i) % 16).toNat < W.length := fun i => by rw [lenW]; omega
    refine wLc (fun ρ => ∃ s, (s = .v (strsO W) ∨ s = .v (.sh (chD W))) ∧ ρ = [.b o4, .v (.sh (.int k)), .v (.sh (.str abc)), .v (.sh (.int way)), .v (.sh (.int start)), .v (.sh (.int at_)), .v (.sh (.str S)), .no, s])
      (fun (i : Nat) => .sh (.str (W.getD ((start + stp * i) % 16).toNat default))) (by rw [List.length_range]; omega) ⟨_, .inl rfl, rfl⟩ ?_ ?_
    · rintro i m ρ ⟨s, hs, rfl⟩
      have m0 : 0 ≤ (start + stp * i) % 16 := Int.emod_nonneg _ (by decide)
      have e7 : dIx (chD W) (.int ((start + stp * i) % 16)) = some (.sh (.str (W.getD ((start + stp * i) % 16).toNat default))) := ix_ch m0 (by rw [List.getD_eq_getElem?_getD, List.getElem?_eq_getElem (ix i), Option.getD_some])
      have g1 : -18446744073709551616 < stp := by omega
      have g2 : stp < 18446744073709551616 := by omega
      rcases hs with rfl | rfl <;> simp? only [e5, e7, g1, g2] <;> exact ⟨_, .inr rfl, rfl⟩
    · rintro ρ' ⟨s, hs, rfl⟩
      rw [strsO_map]
      have fin : ∃ (cs : List Str), (List.range k).map (fun (i : Nat) => W.getD ((start + stp * i) % 16).toNat default) = cs ∧ ChOk cs ∧ cs.length = k := by
        refine ⟨_, rfl, ⟨nodup_map_range fun i j hi hj e => ?_, fun c m => ?_⟩, by simp⟩
        · have := okW.nd
          rw [List.getD_eq_getElem?_getD, List.getD_eq_getElem?_getD, List.getElem?_eq_getElem (ix i), List.getElem?_eq_getElem (ix j)] at e
          have e' : W[((start + stp * i) % 16).toNat]'(ix i) = W[((start + stp * j) % 16).toNat]'(ix j) := by simpa using e
          have := nodup_inj this (ix i) (ix j) e'
          rcases hst with rfl | rfl | rfl | rfl <;> omega
        · obtain ⟨i, hi, rfl⟩ := List.mem_map.mp m
          refine okW.ch _ ?_
          rw [List.getD_eq_getElem?_getD, List.getElem?_eq_getElem (ix i)]
          exact List.getElem_mem _
      obtain ⟨cs, e, h1, h2⟩ := fin
      rw [e]
      rcases hs with rfl | rfl <;> exact ⟨cs, o4, rfl, rfl, h1, h2, b4⟩
  · simp? only [DL.wE_ok]
    have lo : low (97 + start.toNat) := ⟨by omega, by omega⟩
    have lsg : (sg (97 + start.toNat)).length = 1 := rfl
    have way2 : wE (fun q ρ => ∃ (cs : List Str) (o' : O), q = strsO cs ∧ backs 2 ρ = [.b o', .no] ∧ ChOk cs ∧ cs.length = k ∧ OkB (n + 10) o') (lcK [7] (TD.tg (TD.nm 7)) none (eBin dAdd (eBin dAdd (eSl dSl (eVar 6) none (some (eVar 5))) (eBin dIx (eVar 2) (eBin dMod (eBin dAdd (eVar 4) (eBin dMul (eC (.int 5)) (eVar 7))) (eC (.int 26))))) (eSl dSl (eVar 6) (some (eVar 5)) none))
        [.b o4, .v (.sh (.int k)), .v (.sh (.str abc)), .v (.sh (.int way)), .v (.sh (.int start)), .v (.sh (.int at_)), .v (.sh (.str S)), .no, .no] (some ((List.range k).map fun (i : Nat) => .int (i : Int)))) := by
      have lmid : ∀ (i : Nat), low (97 + ((start + 5 * i) % 26).toNat) := fun i => ⟨by omega, by omega⟩
      refine wLc (fun ρ => ρ = [.b o4, .v (.sh (.int k)), .v (.sh (.str abc)), .v (.sh (.int way)), .v (.sh (.int start)), .v (.sh (.int at_)), .v (.sh (.str S)), .no, .no])
        (fun (i : Nat) => .sh (.str (Txt.slice S none (some at_) ++ sg (97 + ((start + 5 * i) % 26).toNat) ++ Txt.slice S (some at_) none))) (by rw [List.length_range]; omega) rfl ?_ ?_
      · rintro i m ρ rfl
        have m0 : 0 ≤ (start + 5 * (i : Int)) % 26 := Int.emod_nonneg _ (by decide)
        have m1 : (start + 5 * (i : Int)) % 26 < 26 := Int.emod_lt_of_pos _ (by decide)
        have s1 : dSl (.str S) none (some at_) = some (.sh (.str (Txt.slice S none (some at_)))) := sl_str (by omega)
        have s2 : dSl (.str S) (some at_) none = some (.sh (.str (Txt.slice S (some at_) none))) := sl_str (by omega)
        have t1 : (Txt.slice S none (some at_)).length ≤ 7 := by rw [len_tl, slice_hi l3, List.length_take]; omega
        have t2 : (Txt.slice S (some at_) none).length ≤ 7 := by rw [len_tl, slice_lo l3, List.length_drop, ← len_tl]; omega
        have a1 : dAdd (.str (Txt.slice S none (some at_))) (.str (sg (97 + ((start + 5 * (i : Int)) % 26).toNat))) = some (.sh (.str (Txt.slice S none (some at_) ++ sg (97 + ((start + 5 * (i : Int)) % 26).toNat)))) := add_str (by have : (sg (97 + ((start + 5 * (i : Int)) % 26).toNat)).length = 1 := rfl; omega)
        have a2 : dAdd (.str (Txt.slice S none (some at_) ++ sg (97 + ((start + 5 * (i : Int)) % 26).toNat))) (.str (Txt.slice S (some at_) none)) = some (.sh (.str (Txt.slice S none (some at_) ++ sg (97 + ((start + 5 * (i : Int)) % 26).toNat) ++ Txt.slice S (some at_) none))) := add_str (by rw [Str.length_append]; have : (sg (97 + ((start + 5 * (i : Int)) % 26).toNat)).length = 1 := rfl; omega)
        simp? only [s1, s2, ix_abc m0 m1, a1, a2]
      · rintro ρ' rfl
        rw [strsO_map]
        have tls : ∀ i : Nat, tl (Txt.slice S none (some at_) ++ sg (97 + ((start + 5 * (i : Int)) % 26).toNat) ++ Txt.slice S (some at_) none) = sc.take at_.toNat ++ [97 + ((start + 5 * (i : Int)) % 26).toNat] ++ sc.drop at_.toNat := fun i => by
          rw [tl_append, tl_append, slice_hi l3, slice_lo l3, hstem, tl_sg]
        refine ⟨_, o4, rfl, rfl, ⟨nodup_map_range fun i j hi hj e => ?_, fun c m => ?_⟩, by simp, b4⟩
        · have e := congrArg tl e
          rw [tls, tls, List.append_assoc, List.append_assoc] at e
          have e := List.append_cancel_left e
          have e : 97 + ((start + 5 * (i : Int)) % 26).toNat = 97 + ((start + 5 * (j : Int)) % 26).toNat := by simpa using e
          omega
        · obtain ⟨i, hi, rfl⟩ := List.mem_map.mp m
          refine isCh_iff.mpr ?_
          rw [tls]
          refine ⟨by simp [hs1]; omega, fun x mx => ?_⟩
          rcases List.mem_append.mp mx with mx | mx
          · rcases List.mem_append.mp mx with mx | mx
            · exact hs2 x (List.mem_of_mem_take mx)
            · simp at mx; subst mx; exact lmid i
          · exact hs2 x (List.mem_of_mem_drop mx)
    have way1 : k < 9 → wE (fun q ρ => ∃ (cs : List Str) (o' : O), q = strsO cs ∧ backs 2 ρ = [.b o', .no] ∧ ChOk cs ∧ cs.length = k ∧ OkB (n + 10) o') (lcK [7] (TD.tg (TD.nm 7)) none (eSl dSl (eBin dAdd (eBin dIx (eVar 2) (eVar 4)) (eVar 6)) none (some (eBin dAdd (eC (.int 1)) (eBin dMod (eBin dAdd (eVar 5) (eVar 7)) (eC (.int 8))))))
        [.b o4, .v (.sh (.int k)), .v (.sh (.str abc)), .v (.sh (.int way)), .v (.sh (.int start)), .v (.sh (.int at_)), .v (.sh (.str S)), .no, .no] (some ((List.range k).map fun (i : Nat) => .int (i : Int)))) := by
      intro w2
      have a1 : dAdd (.str (sg (97 + start.toNat))) (.str S) = some (.sh (.str (sg (97 + start.toNat) ++ S))) := add_str (by omega)
      have lW : (sg (97 + start.toNat) ++ S).length = 8 := by rw [Str.length_append]; omega
      refine wLc (fun ρ => ρ = [.b o4, .v (.sh (.int k)), .v (.sh (.str abc)), .v (.sh (.int way)), .v (.sh (.int start)), .v (.sh (.int at_)), .v (.sh (.str S)), .no, .no])
        (fun (i : Nat) => .sh (.str (Txt.slice (sg (97 + start.toNat) ++ S) none (some (1 + (at_ + i) % 8))))) (by rw [List.length_range]; omega) rfl ?_ ?_
      · rintro i m ρ rfl
        have s1 : dSl (.str (sg (97 + start.toNat) ++ S)) none (some (1 + (at_ + i) % 8)) = some (.sh (.str (Txt.slice (sg (97 + start.toNat) ++ S) none (some (1 + (at_ + i) % 8))))) := sl_str (by omega)
        simp? only [s1, ix_abc l2 u2, a1]
      · rintro ρ' rfl
        rw [strsO_map]
        have tls : ∀ i : Nat, tl (Txt.slice (sg (97 + start.toNat) ++ S) none (some (1 + (at_ + i) % 8))) = (tl (sg (97 + start.toNat) ++ S)).take (1 + (at_ + i) % 8).toNat := fun i => slice_hi (by omega)
        refine ⟨_, o4, rfl, rfl, ⟨nodup_map_range fun i j hi hj e => ?_, fun c m => ?_⟩, by simp, b4⟩
        · have e := congrArg tl e
          rw [tls, tls] at e
          have := pre_inj (by rw [← len_tl]; omega) (by rw [← len_tl]; omega) e
          omega
        · obtain ⟨i, hi, rfl⟩ := List.mem_map.mp m
          refine isCh_iff.mpr ?_
          rw [tls]
          refine ⟨by rw [List.length_take, ← len_tl]; omega, fun x mx => ?_⟩
          have mx := List.mem_of_mem_take mx
          rw [tl_append, hstem, tl_sg] at mx
          rcases List.mem_append.mp mx with mx | mx
          · simp at mx; subst mx; exact lo
          · exact hs2 x mx
    refine wE_if (fun w1 => ?_) (fun w1 => ?_)
    · simp? only [DL.wE_ok]
      refine wO_if (fun w2 => ?_) (fun w2 => ?_)
      · simp? only [rk]
        exact way1 (by omega)
      · simp? only [rk]
        exact way2
    · simp? only [rk]
      exact way2
end DH
set_option Elab.async false
set_option linter.all false
set_option autoImplicit false
set_option maxRecDepth 100000
/-! SP5: dicts that are drawn; many channels; sorted levels. -/
namespace DH
open DL PySem PySem.Spec L2 TL
theorem max_int2 {a b : Int} : dMax [.int a, .int b] = some (.sh (.int (max a b))) := by
  rw [max_int]
  congr 3
  split <;> omega
theorem eraseIdx_sub {cs : List Str} {i : Nat} {c : Str} (h : cs[i]? = some c) (nd : cs.Nodup) : (cs.eraseIdx i).Nodup ∧ c ∉ cs.eraseIdx i ∧ (∀ x ∈ cs.eraseIdx i, x ∈ cs) ∧ (cs.eraseIdx i).length + 1 = cs.length := by
  obtain ⟨hi, he⟩ := List.getElem?_eq_some_iff.mp h
  have hs : (cs.eraseIdx i).Sublist cs := List.eraseIdx_sublist cs i
  refine ⟨nd.sublist hs, ?_, fun x m => hs.subset m, by rw [List.length_eraseIdx_of_lt hi]; omega⟩
  intro m
  rw [List.eraseIdx_eq_take_drop_succ] at m
  subst he
  have hp := List.pairwise_iff_getElem.mp nd
  rcases List.mem_append.mp m with m | m
  · obtain ⟨j, hj, e⟩ := List.getElem_of_mem m
    rw [List.getElem_take] at e
    rw [List.length_take] at hj
    exact hp j i (by omega) hi (by omega) e
  · obtain ⟨j, hj, e⟩ := List.getElem_of_mem m
    rw [List.getElem_drop] at e
    rw [List.length_drop] at hj
    exact hp i (i + 1 + j) hi (by omega) (by omega) e.symm
structure Drawn (cs : List Str) (least : Int) (L : Lv) : Prop where
  nd : (kys L).Nodup
  ln : L.length ≤ cs.length
  sub : ∀ c ∈ kys L, c ∈ cs
  lo : ∀ p ∈ L, least ≤ p.2
  hi : ∀ p ∈ L, p.2 ≤ 100
theorem Drawn.ok {cs : List Str} {least : Int} {L : Lv} (h : Drawn cs least L) (hc : ∀ c ∈ cs, isCh c = true) (hl : cs.length ≤ 60) : LvOk least L :=
  ⟨h.nd, Nat.le_trans h.ln hl, fun p m => hc _ (h.sub _ (List.mem_map.mpr ⟨p, m, rfl⟩)), h.lo, h.hi⟩
theorem q_law_drawn {take : List O → R} (T : TakeOk take) {n : Int} {o : O} (hb : OkB n o) {cs : List Str} (nd : cs.Nodup) (hl : cs.length ≤ 100) (hn : n ≤ 900000) {least : Int} (h100 : least ≤ 100) :
    wE (fun q ρ => ∃ (L : Lv) (o' : O), q = dkO .int L ∧ ρ = [.b o', .no, .no] ∧ Drawn cs least L ∧ OkB (n + 500) o') (f__law_drawn_k11 take [o, .sh (chD cs), .sh (.int least)]) := by
  simp? only [f__law_drawn_k11, m__law_drawn_k11]
  refine (T.w hb (by omega) (by omega) (by omega)).mono ?_; rintro _ _ ⟨m, o1, rfl, rfl, l1, u1, b1⟩
  simp? only [itRng_int l1 (show m < 1152921504606846976 by omega)]
  refine wFor (fun xs ρ => ∃ (left : List Str) (L : Lv) (o' : O) (s : Sl), (∀ o, s ≠ .b o) ∧ ρ = [.b o', .v (.sh (chD cs)), .v (.sh (.int least)), .v (strsO left), .v (dkO .int L), s] ∧ OkB (n + 1 + 4 * (m.toNat - xs.length : Int)) o' ∧ left.Nodup ∧ (∀ c ∈ left, c ∈ cs) ∧ (∀ c ∈ left, c ∉ kys L) ∧ xs.length ≤ left.length ∧ L.length + left.length = cs.length ∧
      (kys L).Nodup ∧ (∀ c ∈ kys L, c ∈ cs) ∧ (∀ p ∈ L, least ≤ p.2) ∧ (∀ p ∈ L, p.2 ≤ 100)) ?_ ?_ ?_
  · exact ⟨cs, [], o1, .no, fun _ h => (nomatch h), rfl, by simpa using b1, nd, fun _ m => m, fun _ _ h => by simp [kys] at h, by simp; omega, by simp, by simp [kys], fun _ h => by simp [kys] at h, fun _ h => (nomatch h), fun _ h => (nomatch h)⟩
  · rintro x xs ρ ⟨left, L, o', s, hs, rfl, h1, h2, h3, h4, h5, h6, h7, h8, h9, h10⟩
    have hL : left.length ≠ 0 := by simp at h5; omega
    have hs' : frS (some s) = True := eq_true ⟨s, rfl, hs⟩
    rw [List.length_cons] at h1 h5
    simp? only [hs']
    refine (q_law_level T h1 (by omega)).mono ?_
    rintro _ _ ⟨v, o2, rfl, rfl, l2, u2, b2⟩
    simp? only [max_int2]
    refine (T.w b2 (by omega) (by omega) (by omega)).mono ?_; rintro _ _ ⟨j, o3, rfl, rfl, l3, u3, b3⟩
    have hj : j.toNat < left.length := by omega
    have ej : left[j.toNat]? = some left[j.toNat] := List.getElem?_eq_getElem hj
    obtain ⟨k1, k2, k3, k4⟩ := eraseIdx_sub ej h2
    have hm : left[j.toNat] ∈ left := List.getElem_mem hj
    simp? only [popAtK_strs l3 (show j < 1000000 by omega) ej, oset_dk (f := D.int) (v := max least v) (o := .sh (.int (max least v))) (L := L) (show L.length < 1000000 by omega) rfl]
    have hnew : left[j.toNat] ∉ kys L := h4 _ hm
    refine ⟨_, _, _, .v (.sh (.int x)), fun _ h => (nomatch h), rfl, b3.mono (by omega), k1, fun c m => h3 c (k3 c m), ?_, by omega, ?_, nodup_putL h7, ?_, ?_, ?_⟩
    · intro c m z
      rw [kys_putL, if_neg hnew] at z
      rcases List.mem_append.mp z with z | z
      · exact h4 c (k3 c m) z
      · simp at z; subst z; exact k2 m
    · rw [putL_new hnew, List.length_append, List.length_singleton]; omega
    · intro c m
      rw [kys_putL, if_neg hnew] at m
      rcases List.mem_append.mp m with m | m
      · exact h8 c m
      · simp at m; subst m; exact h3 _ hm
    · intro p m
      rcases mem_putL m with m | rfl
      · exact h9 p m
      · exact Int.le_max_left _ _
    · intro p m
      rcases mem_putL m with m | rfl
      · exact h10 p m
      · show max least v ≤ 100; omega
  · rintro ρ ⟨left, L, o', s, hs, rfl, h1, h2, h3, h4, h5, h6, h7, h8, h9, h10⟩
    simp? only [DL.wE_ok]
    exact ⟨L, o', rfl, rfl, ⟨h7, by omega, h8, h9, h10⟩, h1.mono (by simp; omega)⟩
/-- dict([(c, levels[c]) for c in sorted(levels)]) -/
theorem q_law_sorted {L : Lv} (nd : (kys L).Nodup) (h : L.length < 64) : f__law_sorted_k11 [.sh (dkD .int L)] = .ok (dkO .int (srt L)) [.no] := by
  have hn : (srtS (kys L)).length = L.length := by rw [(srtS_perm _).length_eq]; simp [kys]
  have : wE (fun o ρ => o = dkO .int (srt L) ∧ ρ = [.no]) (f__law_sorted_k11 [.sh (dkD .int L)]) := by
    simp? only [f__law_sorted_k11, m__law_sorted_k11, sorted_dk h]
    refine wLc (fun ρ => ρ = [.v (.sh (dkD .int L)), .no]) (fun c => .sh (.tup [.str c, .int ((getL L c).getD default)])) (by omega) rfl ?_ ?_
    · rintro c m ρ rfl
      obtain ⟨v, hv⟩ := Option.isSome_iff_exists.mp (mem_kys.mp ((srtS_perm _).mem_iff.mp m))
      simp? only [ix_dk hv, hv]
    · rintro ρ' rfl
      have e : dDict [.lst (O.ds ((srtS (kys L)).map fun c => O.sh (.tup [.str c, .int ((getL L c).getD default)])))] = some (dkO D.int (srt L)) := by
        have := dict_pairs (g := D.int) (M := srt L)
        rw [mrg_nil_l (nodup_srt nd)] at this
        rw [← this]
        congr 3
        unfold srt
        rw [ds_eq_map, List.map_map, List.map_map]
        rfl
      simp? only [e]
  obtain ⟨o, ρ, e, rfl, rfl⟩ := this.ex
  exact e
end DH
set_option Elab.async false
set_option linter.all false
set_option autoImplicit false
set_option maxRecDepth 100000
/-! SP6: the highest of looks, looks scaled. -/
namespace DH
open DL PySem PySem.Spec L2 TL
def fS (s : Sl) : Prop := ∀ o, s ≠ .b o
theorem fS_no : fS .no := fun _ h => nomatch h
theorem fS_v {o : O} : fS (.v o) := fun _ h => nomatch h
theorem frS_f {s : Sl} (h : fS s) : frS (some s) = True := eq_true ⟨s, rfl, h⟩
theorem len_sub {α : Type} [BEq α] [LawfulBEq α] : ∀ {xs ys : List α}, xs.Nodup → (∀ x ∈ xs, x ∈ ys) → xs.length ≤ ys.length
  | [], _, _, _ => Nat.zero_le _
  | x :: xs, ys, nd, h => by
    obtain ⟨n1, n2⟩ := List.nodup_cons.mp nd
    have hx : x ∈ ys := h x List.mem_cons_self
    have ih := len_sub (ys := ys.erase x) n2 fun y m => (List.mem_erase_of_ne (fun z => n1 (by rw [← z]; exact m))).mpr (h y (List.mem_cons_of_mem _ m))
    rw [List.length_erase_of_mem hx] at ih
    have := List.length_pos_of_mem hx
    rw [List.length_cons]; omega
theorem len_lv {α : Type} {F : List (Str × α)} {C : List Str} (nd : (kys F).Nodup) (h : ∀ c ∈ kys F, c ∈ C) : F.length ≤ C.length := by
  have := len_sub nd h
  simpa [kys] using this
theorem mem_kys_of {α : Type} {L : List (Str × α)} {p : Str × α} (m : p ∈ L) : p.1 ∈ kys L := List.mem_map.mpr ⟨p, m, rfl⟩
/-! == and repr -/
theorem isCh_small {c : Str} (h : isCh c = true) : c.length ≤ 8 ∧ ∀ x ∈ tl c, x < 4294967296 := by
  obtain ⟨⟨h1, h2⟩, h3⟩ := isCh_iff.mp h
  exact ⟨by rw [len_tl]; exact h2, fun x m => by have := (h3 x m).2; omega⟩
theorem LvOk.rps {a : Int} {L : Lv} (h : LvOk a L) (ha : 0 ≤ a) : RpS 7000 2 (dkD .int L) :=
  (rps_dk (w := 30) (dep := 1) (k := 60) (kl := 8) (by decide) h.ln (fun c m => by obtain ⟨p, hp, rfl⟩ := List.mem_map.mp m; exact isCh_small (h.ch p hp)) fun p m => rps_int (by have := h.lo p m; omega) (by have := h.hi p m; omega)).mono (by decide) (by decide)
theorem LvOk.srt {a : Int} {L : Lv} (h : LvOk a L) : LvOk a (srt L) := by
  have hm : ∀ p ∈ DL.srt L, p ∈ L := fun p m => by
    have h1 := getL_of_mem (c := p.1) (v := p.2) (nodup_srt h.nd) (by cases p; exact m)
    rw [getL_srt] at h1
    have := getL_mem h1
    cases p; exact this
  exact ⟨nodup_srt h.nd, by rw [len_srt]; exact h.ln, fun p m => h.ch p (hm p m), fun p m => h.lo p (hm p m), fun p m => h.hi p (hm p m)⟩
/-! the highest -/
def hiStep (F : Lv) (p : Str × Int) : Lv := putL F p.1 (max p.2 ((getL F p.1).getD 0))
def hiL (Ls : List Lv) : Lv := Ls.foldl (fun F L => L.foldl hiStep F) []
structure HiOk (C : List Str) (F : Lv) : Prop where
  nd : (kys F).Nodup
  sub : ∀ c ∈ kys F, c ∈ C
  lo : ∀ p ∈ F, 1 ≤ p.2
  hi : ∀ p ∈ F, p.2 ≤ 100
theorem HiOk.step {C : List Str} {F : Lv} (h : HiOk C F) {p : Str × Int} (hc : p.1 ∈ C) (h1 : 1 ≤ p.2) (h2 : p.2 ≤ 100) : HiOk C (hiStep F p) := by
  have hv : (getL F p.1).getD 0 ≤ 100 := by
    cases e : getL F p.1 with
    | none => simp
    | some w => have := h.hi _ (getL_mem e); simpa using this
  refine ⟨nodup_putL h.nd, fun c m => ?_, fun q m => ?_, fun q m => ?_⟩
  · unfold hiStep at m
    rw [kys_putL] at m
    split at m
    · exact h.sub c m
    · rcases List.mem_append.mp m with m | m
      · exact h.sub c m
      · simp at m; subst m; exact hc
  · rcases mem_putL m with m | rfl
    · exact h.lo q m
    · show 1 ≤ max p.2 _; omega
  · rcases mem_putL m with m | rfl
    · exact h.hi q m
    · show max p.2 _ ≤ 100; omega
theorem HiOk.fold {C : List Str} : ∀ {L F : Lv}, HiOk C F → (∀ p ∈ L, p.1 ∈ C ∧ 1 ≤ p.2 ∧ p.2 ≤ 100) → HiOk C (L.foldl hiStep F)
  | [], F, h, _ => h
  | p :: L, F, h, k => by
    obtain ⟨a, b, c⟩ := k p List.mem_cons_self
    exact HiOk.fold (L := L) (F := hiStep F p) (h.step a b c) fun q m => k q (List.mem_cons_of_mem _ m)
theorem HiOk.all {C : List Str} : ∀ {Ls : List Lv} {F : Lv}, HiOk C F → (∀ L ∈ Ls, LvOk 1 L ∧ ∀ c ∈ kys L, c ∈ C) → HiOk C (Ls.foldl (fun F L => L.foldl hiStep F) F)
  | [], F, h, _ => h
  | L :: Ls, F, h, k => by
    obtain ⟨a, b⟩ := k L List.mem_cons_self
    exact HiOk.all (Ls := Ls) (F := L.foldl hiStep F) (HiOk.fold h fun p m => ⟨b _ (mem_kys_of m), a.lo p m, a.hi p m⟩) fun q m => k q (List.mem_cons_of_mem _ m)
theorem HiOk.nil {C : List Str} : HiOk C [] := ⟨by simp [kys], fun _ m => by simp [kys] at m, fun _ m => (nomatch m), fun _ m => (nomatch m)⟩
theorem HiOk.ok {C : List Str} {F : Lv} (h : HiOk C F) (hC : C.length ≤ 60) (hc : ∀ c ∈ C, isCh c = true) : LvOk 1 F := ⟨h.nd, Nat.le_trans (len_lv h.nd h.sub) hC, fun p m => hc _ (h.sub _ (mem_kys_of m)), h.lo, h.hi⟩
/-! scaled -/
def scL (L : Lv) (k : Int) : Lv := (L.map fun p => (p.1, (p.2 * k + 50) / 100)).filter fun p => decide (0 < p.2)
/-! dicts that are filled along sorted names -/
/-! so many channels -/
/-! lists -/
theorem sl_lst {ds : List D} {a b : Option Int} : dSl (.lst ds) a b = some (.lst ((cutG ds a b).map .sh)) := rfl
theorem cutG_map {α β : Type} {f : α → β} {xs : List α} {a b : Option Int} : cutG (xs.map f) a b = (cutG xs a b).map f := by
  unfold cutG; rw [List.length_map, List.map_take, List.map_drop]
theorem ix_scr {ns : List Int} {i : Int} {x : Int} (h0 : 0 ≤ i) (h : ns[i.toNat]? = some x) : dIx (.scr ns) (.int i) = some (.sh (.int x)) := by
  show (atI ns i).map (fun n => O.sh (.int n)) = _
  rw [atI_nn h0 h]; rfl
end DH
set_option Elab.async false
set_option linter.all false
set_option autoImplicit false
set_option maxRecDepth 100000
/-! SP7: mixing: parts, drivers, the least percentage. -/
namespace DH
open DL PySem PySem.Spec L2 TL
def lvOf (L : Lv) (c : Str) (q : Int) : Int := ((getL L c).getD 0 * q + 50) / 100
theorem mul100 {a b : Int} (h0 : 0 ≤ a) (h1 : a ≤ 100) (h2 : 0 ≤ b) (h3 : b ≤ 100) : 0 ≤ a * b ∧ a * b ≤ 10000 :=
  ⟨Int.mul_nonneg h0 h2, by have : a * b ≤ 100 * 100 := Int.mul_le_mul h1 h3 h2 (by decide); omega⟩
theorem int_int {i : Int} : dInt [.int i] = some (.sh (.int i)) := rfl
def lvs (ps : List (Lv × Int)) (c : Str) : List Int := ps.map fun p => lvOf p.1 c p.2
def mx (vs : List Int) : Int := maxI (0 :: vs)
/-! the least percentage -/
end DH
set_option Elab.async false
set_option linter.all false
set_option autoImplicit false
set_option maxRecDepth 100000
/-! SP8: faders mixed. -/
namespace DH
open DL PySem PySem.Spec L2 TL
def msL (ps : List (Lv × Int)) : List Lv := ps.map fun p => srt (scL p.1 p.2)
/-! the law's own -/
def duStep (q : Int) (F : Lv) (r : Str × Int) : Lv := putL F r.1 (max ((getL F r.1).getD 0) ((r.2 * q + 50) / 100))
/-! what comes out -/
def ktL (F lim : Lv) : Lv := F.map fun p => (p.1, min p.2 ((getL lim p.1).getD 100))
def kpL (F lim : Lv) : Lv := (ktL F lim).filter fun p => decide (0 < p.2)
def foL (ps : List (Lv × Int)) : Lv := srt (hiL (msL ps))
def outL (ps : List (Lv × Int)) (g : Int) (lim : Lv) : Lv := srt (scL (kpL (foL ps) lim) g)
end DH
set_option Elab.async false
set_option linter.all false
set_option autoImplicit false
set_option maxRecDepth 100000
/-! SP9: output and what is due. -/
namespace DH
open DL PySem PySem.Spec L2 TL
theorem notN_non : dNotN .non .non = some (.sh (.bl false)) := rfl
theorem isN_non : dIsN .non .non = some (.sh (.bl true)) := rfl
/-! the law's -/
structure DuOk (C : List Str) (F : Lv) : Prop where
  nd : (kys F).Nodup
  sub : ∀ c ∈ kys F, c ∈ C
  lo : ∀ p ∈ F, 0 ≤ p.2
  hi : ∀ p ∈ F, p.2 ≤ 100
theorem DuOk.put {C : List Str} {F : Lv} {c : Str} {v : Int} (h : DuOk C F) (hc : c ∈ C) (h0 : 0 ≤ v) (h1 : v ≤ 100) : DuOk C (putL F c v) := by
  refine ⟨nodup_putL h.nd, fun d m => ?_, fun q m => ?_, fun q m => ?_⟩
  · rw [kys_putL] at m
    split at m
    · exact h.sub d m
    · rcases List.mem_append.mp m with m | m
      · exact h.sub d m
      · simp at m; subst m; exact hc
  · rcases mem_putL m with m | rfl
    · exact h.lo q m
    · exact h0
  · rcases mem_putL m with m | rfl
    · exact h.hi q m
    · exact h1
theorem DuOk.len {C : List Str} {F : Lv} (h : DuOk C F) : F.length ≤ C.length := len_lv h.nd h.sub
theorem DuOk.get {C : List Str} {F : Lv} (h : DuOk C F) {c : Str} {d : Int} (h0 : 0 ≤ d) (h1 : d ≤ 100) : 0 ≤ (getL F c).getD d ∧ (getL F c).getD d ≤ 100 := by
  cases e : getL F c with
  | none => exact ⟨h0, h1⟩
  | some w =>
    have a1 := h.lo _ (getL_mem e)
    have a2 := h.hi _ (getL_mem e)
    exact ⟨a1, a2⟩
theorem DuOk.nil {C : List Str} : DuOk C [] := ⟨by simp [kys], fun _ m => by simp [kys] at m, fun _ m => (nomatch m), fun _ m => (nomatch m)⟩
theorem LvOk.get {L : Lv} (h : LvOk 0 L) {c : Str} {d : Int} (h0 : 0 ≤ d) (h1 : d ≤ 100) : 0 ≤ (getL L c).getD d ∧ (getL L c).getD d ≤ 100 := by
  cases e : getL L c with
  | none => exact ⟨h0, h1⟩
  | some w =>
    have a1 := h.lo _ (getL_mem e)
    have a2 := h.hi _ (getL_mem e)
    exact ⟨a1, a2⟩
theorem DuOk.step {C : List Str} {F : Lv} {q : Int} {r : Str × Int} (h : DuOk C F) (hc : r.1 ∈ C) (h0 : 0 ≤ r.2) (h1 : r.2 ≤ 100) (q0 : 0 ≤ q) (q1 : q ≤ 100) : DuOk C (duStep q F r) := by
  have b := h.get (c := r.1) (d := 0) (by decide) (by decide)
  have m := mul100 h0 h1 q0 q1
  exact h.put hc (by omega) (by omega)
end DH
set_option Elab.async false
set_option linter.all false
set_option autoImplicit false
set_option maxRecDepth 100000
/-! SP10: moved looks, moves between looks. -/
namespace DH
open DL PySem PySem.Spec L2 TL
theorem kys_delL {α : Type} {L : List (Str × α)} {c : Str} : (kys (delL L c)).Sublist (kys L) := (List.filter_sublist).map _
/-- looks over the channels C -/
structure COk (a : Int) (C : List Str) (L : Lv) : Prop where
  nd : (kys L).Nodup
  sub : ∀ c ∈ kys L, c ∈ C
  lo : ∀ p ∈ L, a ≤ p.2
  hi : ∀ p ∈ L, p.2 ≤ 100
structure CH (C : List Str) : Prop where
  ln : C.length ≤ 60
  ch : ∀ c ∈ C, isCh c = true
theorem COk.ok {a : Int} {C : List Str} {L : Lv} (h : COk a C L) (H : CH C) : LvOk a L := ⟨h.nd, Nat.le_trans (len_lv h.nd h.sub) H.ln, fun p m => H.ch _ (h.sub _ (mem_kys_of m)), h.lo, h.hi⟩
theorem COk.len {a : Int} {C : List Str} {L : Lv} (h : COk a C L) (H : CH C) : L.length ≤ 60 := (h.ok H).ln
theorem COk.put {a : Int} {C : List Str} {L : Lv} {c : Str} {v : Int} (h : COk a C L) (hc : c ∈ C) (h0 : a ≤ v) (h1 : v ≤ 100) : COk a C (putL L c v) := by
  refine ⟨nodup_putL h.nd, fun d m => ?_, fun q m => ?_, fun q m => ?_⟩
  · rw [kys_putL] at m
    split at m
    · exact h.sub d m
    · rcases List.mem_append.mp m with m | m
      · exact h.sub d m
      · simp at m; subst m; exact hc
  · rcases mem_putL m with m | rfl
    · exact h.lo q m
    · exact h0
  · rcases mem_putL m with m | rfl
    · exact h.hi q m
    · exact h1
theorem COk.del {a : Int} {C : List Str} {L : Lv} {c : Str} (h : COk a C L) : COk a C (delL L c) :=
  ⟨h.nd.sublist kys_delL, fun d m => h.sub d (kys_delL.subset m), fun p m => h.lo p (List.mem_filter.mp m).1, fun p m => h.hi p (List.mem_filter.mp m).1⟩
theorem COk.nil {a : Int} {C : List Str} : COk a C [] := ⟨by simp [kys], fun _ m => by simp [kys] at m, fun _ m => (nomatch m), fun _ m => (nomatch m)⟩
theorem COk.srt {a : Int} {C : List Str} {L : Lv} (h : COk a C L) : COk a C (srt L) := by
  have hm : ∀ p ∈ DL.srt L, p ∈ L := fun p m => by
    have h1 := getL_of_mem (c := p.1) (v := p.2) (nodup_srt h.nd) (by cases p; exact m)
    rw [getL_srt] at h1
    have := getL_mem h1
    cases p; exact this
  exact ⟨nodup_srt h.nd, fun c m => h.sub c (by rw [kys_srt] at m; exact (srtS_perm _).mem_iff.mp m), fun p m => h.lo p (hm p m), fun p m => h.hi p (hm p m)⟩
/-! a look and moves -/
def amS (F : Lv) (p : Str × Int) : Lv := if 0 < p.2 then putL F p.1 p.2 else if p.1 ∈ kys F then delL F p.1 else F
def amL (L M : Lv) : Lv := M.foldl amS L
theorem am_ok {C : List Str} : ∀ {M F : Lv}, COk 1 C F → COk 0 C M → COk 1 C (M.foldl amS F)
  | [], F, h, _ => h
  | p :: M, F, h, k => by
    have e : COk 1 C (amS F p) := by
      unfold amS
      split
      · exact h.put (k.sub _ (mem_kys_of List.mem_cons_self)) (by omega) (k.hi p List.mem_cons_self)
      · split
        · exact h.del
        · exact h
    exact am_ok (M := M) e ⟨(List.nodup_cons.mp k.nd).2, fun c m => k.sub c (List.mem_cons_of_mem _ m), fun q m => k.lo q (List.mem_cons_of_mem _ m), fun q m => k.hi q (List.mem_cons_of_mem _ m)⟩
/-! dicts filled along names -/
def gD (L : Lv) (c : Str) : Int := (getL L c).getD 0
theorem gD_bd {a : Int} {C : List Str} {L : Lv} {c : Str} (h : COk a C L) (ha : 0 ≤ a) : 0 ≤ gD L c ∧ gD L c ≤ 100 := by
  unfold gD
  cases e : getL L c with
  | none => simp
  | some w =>
    have h1 := h.lo _ (getL_mem e)
    have h2 := h.hi _ (getL_mem e)
    dsimp only at h1 h2
    rw [Option.getD_some]
    omega
end DH
set_option Elab.async false
set_option linter.all false
set_option autoImplicit false
set_option maxRecDepth 100000
/-! SP11: moved looks: the functions. -/
namespace DH
open DL PySem PySem.Spec L2 TL
end DH
set_option Elab.async false
set_option linter.all false
set_option autoImplicit false
set_option maxRecDepth 100000
/-! SP12: k12's _law_right. -/
namespace DH
open DL PySem PySem.Spec L2 TL
theorem ds_pairs {M : Lv} : dDict [.lst (O.ds (M.map fun p => O.sh (.tup [.str p.1, .int p.2])))] = some (dkO .int (mrg [] M)) := by
  rw [ds_eq_map, List.map_map]
  exact dict_pairs (g := D.int) (M := M)
theorem mrg_cok {a : Int} {C : List Str} {M : Lv} (h : ∀ p ∈ M, p.1 ∈ C ∧ a ≤ p.2 ∧ p.2 ≤ 100) : COk a C (mrg [] M) := by
  have hm : ∀ p ∈ mrg [] M, p ∈ M := fun p m => (mem_mrg m).elim (fun z => nomatch z) id
  exact ⟨nodup_mrg (by simp [kys]), fun c m => by obtain ⟨p, mp, rfl⟩ := List.mem_map.mp m; exact (h p (hm p mp)).1, fun p m => (h p (hm p m)).2.1, fun p m => (h p (hm p m)).2.2⟩
theorem sl_ch {cs : List Str} {a b : Option Int} : dSl (chD cs) a b = some (strsO (cutG cs a b)) := by
  show dSl (.lst (cs.map .str)) a b = _
  rw [sl_lst, cutG_map]; rfl
theorem Drawn.cok {cs : List Str} {a : Int} {L : Lv} (h : Drawn cs a L) : COk a cs L := ⟨h.nd, h.sub, h.lo, h.hi⟩
end DH
set_option Elab.async false
set_option linter.all false
set_option autoImplicit false
set_option maxRecDepth 100000
/-! SP13: own classes evaluated; cues. -/
namespace DH
open DL PySem PySem.Spec L2 TL
section
variable {ρ ρ1 : En} {c f mn : Str} {cs : List Str} {m mo mb : E} {ms : List E} {i : Nat} {o : O}
def fldK (cs : List Str) (f : Str) (ρ : En) : D → R
  | .ins c fs => if c ∈ cs then match fs.lookup f with
    | some d => .ok (.sh d) ρ
    | none => .stuck else .stuck
  | _ => .stuck
theorem eFld_ev : eFld cs f m ρ = (m ρ).bind fun o ρ1 => fldK cs f ρ1 o.d.view := by
  unfold eFld fldK; rfl
def metK (c m : Str) (fn : List O → R) (dds : List D) (ms : List E) (ρ1 : En) (d : D) : R := match d with
  | .ins c' fs => if c' = c ∧ (fs.lookup m).isNone = true then (evs ms ρ1).bind fun os ρ2 => after (fn ((d :: (O.ds os ++ dds)).map .sh)) ρ2 else .stuck
  | _ => .stuck
theorem eMet_ev {fn : List O → R} {dds : List D} : eMet c mn fn dds mo ms ρ = (mo ρ).bind fun o ρ1 => metK c mn fn dds ms ρ1 o.d.view := by
  unfold eMet metK; rfl
def metKK (c m : Str) (fn : List O → R) (pm : List Nat) (dds : List D) (ms : List E) (ρ1 : En) (d : D) : R := match d with
  | .ins c' fs => if c' = c ∧ (fs.lookup m).isNone = true then (evs ms ρ1).bind fun os ρ2 => after (fn ((d :: pmD pm dds os).map .sh)) ρ2 else .stuck
  | _ => .stuck
theorem eMetK_ev {fn : List O → R} {pm : List Nat} {dds : List D} : eMetK c mn fn pm dds mo ms ρ = (mo ρ).bind fun o ρ1 => metKK c mn fn pm dds ms ρ1 o.d.view := by
  unfold eMetK metKK; rfl
def isCK (ρ : En) : Option Bool → R
  | some b => .ok (.sh (.bl b)) ρ
  | none => .stuck
theorem eIsC_ev : eIsC cs c m ρ = (m ρ).bind fun o ρ1 => isCK ρ1 (isC cs c o.d.view) := by
  unfold eIsC isCK; congr 1
theorem isCK_some {b : Bool} : isCK ρ (some b) = .ok (.sh (.bl b)) ρ := rfl
def fstK (cs : List Str) (i : Nat) (f : Str) (o : O) (ρ1 : En) : Option O → Out
  | some (.ins c fs) => if c ∈ cs ∧ fs.length < 1000 then .next (ρ1.set i ((ρ1.getD i .no).re (.ins c (putFO f o fs)))) else .stuck
  | _ => .stuck
theorem sFst_ev : sFst cs i f m ρ = (m ρ).toO fun o ρ1 => fstK cs i f o ρ1 (slO (ρ1.getD i .no)) := by
  unfold sFst fstK; congr 1
theorem eMakeD_ev {fn : List O → R} {pm : List Nat} {dds : List D} : eMakeD c fn pm dds ms ρ = (evs ms ρ).bind fun os ρ1 => makeR (fn (.ins c [] :: (pmD pm dds os).map .sh)) ρ1 := rfl
theorem makeR_ok {ρb : En} : makeR (.ok (.sh .non) (.b o :: ρb)) ρ = .ok o ρ := rfl
theorem pmD_cons {k : Nat} {pm : List Nat} {dds : List D} {os : List O} : pmD (k :: pm) dds os = (O.ds os ++ dds).getD k .non :: pmD pm dds os := rfl
theorem pmD_nil {dds : List D} {os : List O} : pmD [] dds os = [] := rfl
end
/-! ### cues -/
structure Cu where
  n : Int
  mv : Lv
  up : Int
  dn : Int
  bl : Bool
def cuD (r : Cu) : D := .ins "Cue" [("_number", .int r.n), ("_moves", dkD .int r.mv), ("_up", .int r.up), ("_down", .int r.dn), ("_block", .bl r.bl)]
def cuO (r : Cu) : O := .ins "Cue" [("_number", .sh (.int r.n)), ("_moves", dkO .int r.mv), ("_up", .sh (.int r.up)), ("_down", .sh (.int r.dn)), ("_block", .sh (.bl r.bl))]
def rwD (r : Cu) : D := .tup [.int r.n, dkD .int r.mv, .int r.up, .int r.dn, .bl r.bl]
theorem cuO_d {r : Cu} : (cuO r).d = cuD r := by
  have h : (dkO D.int r.mv).d = dkD D.int r.mv := dk_d
  show D.ins "Cue" [("_number", .int r.n), ("_moves", (dkO D.int r.mv).d), ("_up", .int r.up), ("_down", .int r.dn), ("_block", .bl r.bl)] = _
  rw [h]; rfl
structure CuOk (C : List Str) (r : Cu) : Prop where
  n1 : 1 ≤ r.n
  n2 : r.n ≤ 99999
  mv : COk 0 C r.mv
  sr : srt r.mv = r.mv
  u1 : 0 ≤ r.up
  u2 : r.up ≤ 9999
  d1 : 0 ≤ r.dn
  d2 : r.dn ≤ 9999
section
variable {ρ : En} {r : Cu} {C : List Str}
theorem cu_view : (cuD r).view = cuD r := rfl
theorem rw_view : (rwD r).view = rwD r := rfl
theorem cu_number : fldK ["Cue"] "_number" ρ (cuD r) = .ok (.sh (.int r.n)) ρ := rfl
theorem cu_moves : fldK ["Cue"] "_moves" ρ (cuD r) = .ok (.sh (dkD .int r.mv)) ρ := rfl
theorem cu_up : fldK ["Cue"] "_up" ρ (cuD r) = .ok (.sh (.int r.up)) ρ := rfl
theorem cu_down : fldK ["Cue"] "_down" ρ (cuD r) = .ok (.sh (.int r.dn)) ρ := rfl
theorem cu_block : fldK ["Cue"] "_block" ρ (cuD r) = .ok (.sh (.bl r.bl)) ρ := rfl
def cuNm (m : Str) : Bool := decide (m ∉ (["_number", "_moves", "_up", "_down", "_block"] : List Str))
theorem cu_met {m : Str} {fn : List O → R} {dds : List D} {ms : List E} (h : cuNm m = true) : metK "Cue" m fn dds ms ρ (cuD r) = (evs ms ρ).bind fun os ρ2 => after (fn ((cuD r :: (O.ds os ++ dds)).map .sh)) ρ2 := by
  refine if_pos ⟨rfl, ?_⟩
  have h := of_decide_eq_true h
  simp only [List.mem_cons, not_or] at h
  obtain ⟨h1, h2, h3, h4, h5, _⟩ := h
  simp [List.lookup, beq_false_of_ne h1, beq_false_of_ne h2, beq_false_of_ne h3, beq_false_of_ne h4, beq_false_of_ne h5]
theorem nm_number : cuNm "number" = true := by decide +kernel
theorem nm_moves : cuNm "moves" = true := by decide +kernel
theorem nm_up : cuNm "up" = true := by decide +kernel
theorem nm_down : cuNm "down" = true := by decide +kernel
theorem nm_block : cuNm "block" = true := by decide +kernel
theorem nm_wmoves : cuNm "with_moves" = true := by decide +kernel
theorem cu_isC : isC ["Cue"] "Cue" (cuD r) = some true := rfl
theorem q_Cue_number : f_Cue_number [.sh (cuD r)] = .ok (.sh (.int r.n)) [.no] := by
  simp? only [f_Cue_number, m_Cue_number, eFld_ev, cu_view, cu_number]
theorem q_Cue_moves : f_Cue_moves [.sh (cuD r)] = .ok (dkO .int r.mv) [.no] := by
  simp? only [f_Cue_moves, m_Cue_moves, eFld_ev, cu_view, cu_moves]
theorem q_Cue_up : f_Cue_up [.sh (cuD r)] = .ok (.sh (.int r.up)) [.no] := by
  simp? only [f_Cue_up, m_Cue_up, eFld_ev, cu_view, cu_up]
theorem q_Cue_down : f_Cue_down [.sh (cuD r)] = .ok (.sh (.int r.dn)) [.no] := by
  simp? only [f_Cue_down, m_Cue_down, eFld_ev, cu_view, cu_down]
theorem q_Cue_block : f_Cue_block [.sh (cuD r)] = .ok (.sh (.bl r.bl)) [.no] := by
  simp? only [f_Cue_block, m_Cue_block, eFld_ev, cu_view, cu_block]
theorem q_is_number {v : Int} : f_is_number [.sh (.int v)] = .ok (.sh (.bl (decide (1 ≤ v ∧ v ≤ 99999)))) [.no] := by
  simp? only [f_is_number, m_is_number, q_is_whole]
theorem q_is_time {v : Int} : f_is_time [.sh (.int v)] = .ok (.sh (.bl (decide (0 ≤ v ∧ v ≤ 9999)))) [.no] := by
  simp? only [f_is_time, m_is_time, q_is_whole]
end
section
variable {ρ : En} {o : O} {x1 x2 x3 x4 : O}
theorem fst_1 : fstK ["Cue"] 0 "_number" o ρ (some (.ins "Cue" [])) = .next (ρ.set 0 ((ρ.getD 0 .no).re (.ins "Cue" [("_number", o)]))) := rfl
theorem fst_2 : fstK ["Cue"] 0 "_moves" o ρ (some (.ins "Cue" [("_number", x1)])) = .next (ρ.set 0 ((ρ.getD 0 .no).re (.ins "Cue" [("_number", x1), ("_moves", o)]))) := rfl
theorem fst_3 : fstK ["Cue"] 0 "_up" o ρ (some (.ins "Cue" [("_number", x1), ("_moves", x2)])) = .next (ρ.set 0 ((ρ.getD 0 .no).re (.ins "Cue" [("_number", x1), ("_moves", x2), ("_up", o)]))) := rfl
theorem fst_4 : fstK ["Cue"] 0 "_down" o ρ (some (.ins "Cue" [("_number", x1), ("_moves", x2), ("_up", x3)])) = .next (ρ.set 0 ((ρ.getD 0 .no).re (.ins "Cue" [("_number", x1), ("_moves", x2), ("_up", x3), ("_down", o)]))) := rfl
theorem fst_5 : fstK ["Cue"] 0 "_block" o ρ (some (.ins "Cue" [("_number", x1), ("_moves", x2), ("_up", x3), ("_down", x4)])) = .next (ρ.set 0 ((ρ.getD 0 .no).re (.ins "Cue" [("_number", x1), ("_moves", x2), ("_up", x3), ("_down", x4), ("_block", o)]))) := rfl
theorem isi_bool {b : Bool} : dIsi [.bl b, .op (.ty "bool")] = some (.sh (.bl true)) := rfl
theorem notN_int {a : Int} : dNotN (.int a) .non = some (.sh (.bl true)) := rfl
theorem isN_int {a : Int} : dIsN (.int a) .non = some (.sh (.bl false)) := rfl
/-- {c: moves[c] for c in sorted(moves)} -/
theorem q_sort_moves {x y z u v : Sl} {L : Lv} (nd : (kys L).Nodup) (h : L.length < 64) :
    dcK [6] (TD.tg (.nm 6)) none (eVar 6) (eBin dIx (eVar 2) (eVar 6)) [x, y, .v (.sh (dkD .int L)), z, u, v, .no] (some ((srtS (kys L)).map .str)) = .ok (dkO .int (srt L)) [x, y, .v (.sh (dkD .int L)), z, u, v, .no] := by
  have hn : (srtS (kys L)).length = L.length := by rw [(srtS_perm _).length_eq]; simp [kys]
  obtain ⟨_, ρ', hd, rfl, rfl⟩ := dcW (vs := [6]) (tg := TD.tg (TD.nm 6)) (mk := eVar 6) (me := eBin dIx (eVar 2) (eVar 6)) (e := D.str) (g := D.int) (ρ := [x, y, .v (.sh (dkD .int L)), z, u, v, .no]) (fun ρ => ρ = [x, y, .v (.sh (dkD .int L)), z, u, v, .no]) (fun c => c) (fun c => (getL L c).getD default) (srtS (kys L)) (by omega) rfl fun c m ρ e => by
    subst e
    obtain ⟨v, hv⟩ := Option.isSome_iff_exists.mp (mem_kys.mp ((srtS_perm _).mem_iff.mp m))
    simp? only [ix_dk hv, hv]
  rw [mrg_srt nd] at hd
  exact hd
theorem q_Cue_init {C : List Str} (H : CH C) {n up : Int} {L : Lv} {dn : Option Int} {b : Bool} (n1 : 1 ≤ n ∧ n ≤ 99999) (hL : COk 0 C L) (hu : 0 ≤ up ∧ up ≤ 9999) (hd : ∀ d, dn = some d → 0 ≤ d ∧ d ≤ 9999) :
    f_Cue___init__ [.ins "Cue" [], .sh (.int n), .sh (dkD .int L), .sh (.int up), .sh (match dn with | some d => .int d | none => .non), .sh (.bl b)] = .ok (.sh .non) [.b (cuO ⟨n, srt L, up, dn.getD up, b⟩), .no, .no, .no, .no, .no] := by
  have hm := q_need_moves (hL.ok H)
  have hl := (hL.len H)
  cases dn with
  | none => simp? only [f_Cue___init__, m_Cue___init__, q_is_number, n1, hm, q_is_time, hu, notN_non, isN_non, isi_bool, sFst_ev, fst_1, fst_2, fst_3, fst_4, fst_5, sorted_dk (show L.length < 64 by omega), q_sort_moves hL.nd (show L.length < 64 by omega), cuO, Option.getD_none]
  | some d =>
    have hd := hd d rfl
    simp? only [f_Cue___init__, m_Cue___init__, q_is_number, n1, hm, q_is_time, hu, hd, notN_int, isN_int, isi_bool, sFst_ev, fst_1, fst_2, fst_3, fst_4, fst_5, sorted_dk (show L.length < 64 by omega), q_sort_moves hL.nd (show L.length < 64 by omega), cuO]
end
/-- as a call: the end is given -/
theorem q_Cue_init5 {C : List Str} (H : CH C) {n up d : Int} {L : Lv} {b : Bool} (n1 : 1 ≤ n ∧ n ≤ 99999) (hL : COk 0 C L) (hu : 0 ≤ up ∧ up ≤ 9999) (hd : 0 ≤ d ∧ d ≤ 9999) :
    f_Cue___init__ [.ins "Cue" [], .sh (.int n), .sh (dkD .int L), .sh (.int up), .sh (.int d), .sh (.bl b)] = .ok (.sh .non) [.b (cuO ⟨n, srt L, up, d, b⟩), .no, .no, .no, .no, .no] :=
  q_Cue_init H (dn := some d) n1 hL hu fun _ e => by cases e; exact hd
theorem q_Cue_with_moves {C : List Str} (H : CH C) {r : Cu} {L : Lv} (hr : CuOk C r) (hL : COk 0 C L) : f_Cue_with_moves [.sh (cuD r), .sh (dkD .int L)] = .ok (cuO {r with mv := srt L}) [.no, .no] := by
  simp? only [f_Cue_with_moves, m_Cue_with_moves, eMakeD_ev, eFld_ev, cu_view, cu_number, cu_up, cu_down, cu_block, pmD_cons, pmD_nil, q_Cue_init5 H (b := r.bl) ⟨hr.n1, hr.n2⟩ hL ⟨hr.u1, hr.u2⟩ ⟨hr.d1, hr.d2⟩, makeR_ok]
end DH
set_option Elab.async false
set_option linter.all false
set_option autoImplicit false
set_option maxRecDepth 100000
/-! SP14: shows. -/
namespace DH
open DL PySem PySem.Spec L2 TL
/-! ### dicts by numbers -/
/-! ### shows -/
def csD (rs : List Cu) : D := .lst (rs.map cuD)
def csO (rs : List Cu) : O := .lst ((rs.map cuD).map .sh)
section
variable {ρ : En} {rs ss : List Cu} {r : Cu} {C : List Str}
theorem cs_len : dLen [csD rs] = some (.sh (.int rs.length)) := by
  show some (O.sh (.int (((rs.map cuD).length : Nat) : Int))) = _
  rw [List.length_map]
theorem cs_isi : dIsi [csD rs, .tup [.op (.ty "list"), .op (.ty "tuple")]] = some (.sh (.bl true)) := rfl
theorem cs_list : dList [csD rs] = some (csO rs) := rfl
/-! sorted by their numbers -/
/-! all channels -/
end
end DH
set_option Elab.async false
set_option linter.all false
set_option autoImplicit false
set_option maxRecDepth 100000
/-! SP15: shows are made; looks. -/
namespace DH
open DL PySem PySem.Spec L2 TL
section
variable {ρ : En} {rs ss : List Cu} {r : Cu} {C : List Str} {o x1 : O}
/-! looks -/
def lkF (F : Lv) (rs : List Cu) : Lv := rs.foldl (fun F r => amL F r.mv) F
theorem lkF_ok {F : Lv} (hF : COk 1 C F) (h : ∀ r ∈ rs, COk 0 C r.mv) : COk 1 C (lkF F rs) := by
  induction rs generalizing F with
  | nil => exact hF
  | cons r rs ih => exact ih (am_ok hF (h r List.mem_cons_self)) fun r m => h r (List.mem_cons_of_mem _ m)
def lkP (rs : List Cu) (i : Nat) : Lv := srt (lkF [] (rs.take (i + 1)))
end
end DH
set_option Elab.async false
set_option linter.all false
set_option autoImplicit false
set_option maxRecDepth 100000
/-! SP16: edits: room, store only. -/
namespace DH
open DL PySem PySem.Spec L2 TL
section
variable {ρ : En} {rs ss : List Cu} {r : Cu} {C : List Str} {o x1 : O} {L M : Lv}
theorem mrg_ok {a : Int} (hL : COk a C L) (hM : COk a C M) : COk a C (mrg L M) := ⟨nodup_mrg hL.nd, fun c m => by
      obtain ⟨p, mp, rfl⟩ := List.mem_map.mp m
      exact (mem_mrg mp).elim (fun z => hL.sub _ (mem_kys_of z)) fun z => hM.sub _ (mem_kys_of z), fun p m => (mem_mrg m).elim (hL.lo p) (hM.lo p), fun p m => (mem_mrg m).elim (hL.hi p) (hM.hi p)⟩
end
/-! store only -/
def stA (M : Lv) (r : Cu) : Cu := {r with mv := srt (mrg r.mv M)}
section
variable {ρ : En} {rs ss : List Cu} {r : Cu} {C : List Str} {o x1 : O} {L M : Lv}
theorem stA_ok (hr : CuOk C r) (hM : COk 0 C M) : CuOk C (stA M r) := ⟨hr.n1, hr.n2, (mrg_ok hr.mv hM).srt, srt_srt (mrg_ok hr.mv hM).nd, hr.u1, hr.u2, hr.d1, hr.d2⟩
theorem lkP_ok (h : ∀ r ∈ rs, COk 0 C r.mv) {i : Nat} : COk 1 C (lkP rs i) := (lkF_ok .nil fun r m => h r (List.mem_of_mem_take m)).srt
theorem modify_ns {α β : Type} {f : α → β} {g : α → α} (hg : ∀ a, f (g a) = f a) : ∀ {l : List α} {i : Nat}, (l.modify i g).map f = l.map f
  | [], i => by simp
  | a :: l, 0 => by simp [hg]
  | a :: l, i + 1 => by simp [modify_ns hg (l := l)]
theorem mem_modify {α : Type} {P : α → Prop} {g : α → α} (hg : ∀ a, P a → P (g a)) : ∀ {l : List α} {i : Nat}, (∀ a ∈ l, P a) → ∀ a ∈ l.modify i g, P a
  | [], i, h, a, m => by simp at m
  | b :: l, 0, h, a, m => by
    simp at m
    rcases m with rfl | m
    · exact hg _ (h b List.mem_cons_self)
    · exact h a (List.mem_cons_of_mem _ m)
  | b :: l, i + 1, h, a, m => by
    simp at m
    rcases m with rfl | m
    · exact h _ List.mem_cons_self
    · exact mem_modify hg (fun a m => h a (List.mem_cons_of_mem _ m)) a m
end
end DH
set_option Elab.async false
set_option linter.all false
set_option autoImplicit false
set_option maxRecDepth 100000
/-! SP17: the laws' own rows, shows and looks. -/
namespace DH
open DL PySem PySem.Spec L2 TL
section
variable {ρ : En} {rs ss : List Cu} {r : Cu} {C : List Str} {o x1 : O} {L M : Lv}
/-- rows: numbers that rise -/
structure RwOk (C : List Str) (b : Int) (rs : List Cu) : Prop where
  ok : ∀ r ∈ rs, CuOk C r
  up : rs.Pairwise fun a b => a.n < b.n
  le : ∀ r ∈ rs, r.n ≤ b
end
end DH
set_option Elab.async false
set_option linter.all false
set_option autoImplicit false
set_option maxRecDepth 100000
/-! SP18: the laws' shows, looks, told cues. -/
namespace DH
open DL PySem PySem.Spec L2 TL
section
variable {w dep : Nat}
theorem rps_allW : ∀ {dws : List (D × Nat)}, (∀ p ∈ dws, RpS p.2 dep p.1) → ∃ ps, D.pys (dws.map (·.1)) = some ps ∧ PyData.showableAll ps = true ∧ PyData.depthAll ps ≤ dep ∧ ps.length = dws.length ∧ ((PyData.shownAll ps).map (·.length)).sum ≤ (dws.map (·.2)).sum
  | [], _ => ⟨[], rfl, rfl, Nat.zero_le _, rfl, Nat.zero_le _⟩
  | (d, w) :: ds, h => by
    obtain ⟨p, h1, h2, h3, h4⟩ := h _ List.mem_cons_self
    obtain ⟨ps, k1, k2, k3, k4, k5⟩ := rps_allW fun y m => h y (List.mem_cons_of_mem _ m)
    refine ⟨p :: ps, ?_, ?_, ?_, by rw [List.length_cons, List.length_cons, k4], ?_⟩
    · rw [List.map_cons]; unfold D.pys; rw [h1, k1]; rfl
    · unfold PyData.showableAll; rw [h2, k2]; rfl
    · unfold PyData.depthAll; omega
    · unfold PyData.shownAll
      rw [List.map_cons, List.sum_cons, List.map_cons, List.sum_cons]
      dsimp only at h4 ⊢
      omega
theorem rps_tupW {dws : List (D × Nat)} (h : ∀ p ∈ dws, RpS p.2 dep p.1) : RpS ((dws.map (·.2)).sum + 2 * dws.length + 3) (dep + 1) (.tup (dws.map (·.1))) := by
  obtain ⟨ps, k1, k2, k3, k4, k5⟩ := rps_allW h
  refine ⟨.tuple ps, ?_, ?_, ?_, ?_⟩
  · unfold D.py; rw [k1]; rfl
  · unfold PyData.showable; exact k2
  · unfold PyData.depth; omega
  · rw [PyData.shown_tuple, Str.length_append, Str.length_append]
    have := StrLaws.join_length_le (Str.ofString ", ") (PyData.shownAll ps)
    rw [PyData.shownAll_length] at this
    have e1 : (Str.ofString "(").length = 1 := by decide +kernel
    have e2 : (Str.ofString (if (ps.length == 1) = true then ",)" else ")")).length ≤ 2 := by split <;> decide +kernel
    have e3 : (Str.ofString ", ").length = 2 := by decide +kernel
    rw [e3] at this
    rw [e1]
    omega
end
section
variable {ρ : En} {rs ss : List Cu} {r : Cu} {C : List Str} {o x1 : O} {L M : Lv}
theorem CuOk.rps (H : CH C) (h : CuOk C r) : RpS 8000 3 (rwD r) := by
  have h1 := h.n1; have h2 := h.n2; have h3 := h.u1; have h4 := h.u2; have h5 := h.d1; have h6 := h.d2
  have := rps_tupW (dep := 2) (dws := [(.int r.n, 30), (dkD .int r.mv, 7000), (.int r.up, 30), (.int r.dn, 30), (.bl r.bl, 5)]) fun p m => by
    simp only [List.mem_cons, List.not_mem_nil, or_false] at m
    rcases m with rfl | rfl | rfl | rfl | rfl
    · exact (rps_int (by omega) (by omega)).mono (Nat.le_refl _) (by decide)
    · exact (h.mv.ok H).rps (by decide)
    · exact (rps_int (by omega) (by omega)).mono (Nat.le_refl _) (by decide)
    · exact (rps_int (by omega) (by omega)).mono (Nat.le_refl _) (by decide)
    · exact rps_bl.mono (Nat.le_refl _) (by decide)
  exact this.mono (by simp) (by decide)
/-! the looks of all rows -/
end
end DH
set_option Elab.async false
set_option linter.all false
set_option autoImplicit false
set_option maxRecDepth 100000
/-! SP19: what store_only stores, as the law says it. -/
namespace DH
open DL PySem PySem.Spec L2 TL
end DH
set_option Elab.async false
set_option linter.all false
set_option autoImplicit false
set_option maxRecDepth 100000
/-! SP20: lists of looks. -/
namespace DH
open DL PySem PySem.Spec L2 TL
section
variable {ρ : En} {rs ss : List Cu} {r : Cu} {C : List Str} {o x1 : O} {L M : Lv} {Ls : List Lv} {i : Nat}
theorem cutG_drop {α : Type} {xs : List α} {k : Nat} : cutG xs (some (k : Int)) none = xs.drop k := by
  unfold cutG
  have e0 : HT.sIx xs.length xs.length (none : Option Int) = xs.length := rfl
  have e1 : HT.sIx xs.length 0 (some (k : Int)) = min k xs.length := HT.sIx_nat _ _ _
  rw [e0, e1]
  rcases Nat.le_total k xs.length with h | h
  · rw [Nat.min_eq_left h, List.take_of_length_le (by simp)]
  · rw [Nat.min_eq_right h, List.drop_length, List.drop_eq_nil_of_le h]; simp
theorem RwOk.snoc {b n : Int} {r : Cu} (h : RwOk C b rs) (hr : CuOk C r) (hn : b < r.n) : RwOk C r.n (rs ++ [r]) := by
  refine ⟨fun a m => ?_, List.pairwise_append.mpr ⟨h.up, List.pairwise_singleton _ _, fun a ma b' mb => ?_⟩, fun a m => ?_⟩
  · rcases List.mem_append.mp m with m | m
    · exact h.ok a m
    · rw [List.mem_singleton.mp m]; exact hr
  · rw [List.mem_singleton.mp mb]; have := h.le a ma; omega
  · rcases List.mem_append.mp m with m | m
    · have := h.le a m; omega
    · rw [List.mem_singleton.mp m]; exact Int.le_refl _
end
end DH
set_option Elab.async false
set_option linter.all false
set_option autoImplicit false
set_option maxRecDepth 100000
/-! SP21: cues put and taken out. -/
namespace DH
open DL PySem PySem.Spec L2 TL
section
variable {ρ : En} {rs ss : List Cu} {r : Cu} {C : List Str} {o x1 : O} {L M : Lv} {Ls : List Lv} {i : Nat} {b : Int}
theorem ne_nil {ds : List D} : dNe (.lst ds) (.lst []) = some (.sh (.bl (!ds.isEmpty))) := by cases ds <;> rfl
theorem RwOk.sub (h : RwOk C b rs) (s : ss.Sublist rs) : RwOk C b ss := ⟨fun r m => h.ok r (s.subset m), h.up.sublist s, fun r m => h.le r (s.subset m)⟩
end
end DH
set_option Elab.async false
set_option linter.all false
set_option autoImplicit false
set_option maxRecDepth 100000
/-! SP22: rows that are drawn (k34). -/
namespace DH
open DL PySem PySem.Spec L2 TL
def itsD (ns : List Int) : D := .lst (ns.map .int)
end DH
set_option Elab.async false
set_option linter.all false
set_option autoImplicit false
set_option maxRecDepth 100000
/-! SP23: cues that are cut (k43). -/
namespace DH
open DL PySem PySem.Spec L2 TL
section
variable {ρ : En} {rs ss : List Cu} {r : Cu} {C : List Str} {o x1 : O} {L M : Lv} {Ls : List Lv} {i : Nat} {b : Int}
theorem RwOk.mod {f : Cu → Cu} (h : RwOk C b rs) (hf : ∀ r, CuOk C r → CuOk C (f r)) (hn : ∀ r, (f r).n = r.n) : RwOk C b (rs.modify i f) := by
  have e : (rs.modify i f).map Cu.n = rs.map Cu.n := modify_ns (f := Cu.n) hn
  refine ⟨mem_modify hf h.ok, ?_, fun a m => ?_⟩
  · have h1 : (rs.map Cu.n).Pairwise (· < ·) := List.pairwise_map.mpr h.up
    rw [← e] at h1
    exact List.pairwise_map.mp h1
  · have : a.n ∈ (rs.modify i f).map Cu.n := List.mem_map_of_mem m
    rw [e] at this
    obtain ⟨q, mq, eq⟩ := List.mem_map.mp this
    rw [← eq]; exact h.le q mq
end
end DH
set_option Elab.async false
set_option linter.all false
set_option autoImplicit false
set_option maxRecDepth 100000
/-! SP24: blocks set and removed (k45). -/
namespace DH
open DL PySem PySem.Spec L2 TL
section
variable {ρ : En} {rs ss : List Cu} {r : Cu} {C : List Str} {o x1 : O} {L M F : Lv} {Ls : List Lv} {i : Nat} {b : Int} {ks : List Str}
theorem COk.filter {a : Int} {p : Str × Int → Bool} (h : COk a C L) : COk a C (L.filter p) := ⟨h.nd.sublist (List.filter_sublist.map _), fun c m => h.sub c ((List.filter_sublist.map _).subset m), fun q m => h.lo q (List.mem_filter.mp m).1, fun q m => h.hi q (List.mem_filter.mp m).1⟩
theorem RwOk.set {r' : Cu} (h : RwOk C b rs) (hi : rs[i]? = some r) (hr : CuOk C r') (hn : r'.n = r.n) : RwOk C b (rs.set i r') := by
  have e : (rs.set i r').map Cu.n = rs.map Cu.n := by
    rw [List.map_set, hn]
    apply List.ext_getElem?
    intro j
    rw [List.getElem?_set]
    split
    · rename_i z
      subst z
      rw [if_pos (by rw [List.length_map]; exact (List.getElem?_eq_some_iff.mp hi).1), List.getElem?_map, hi]; rfl
    · rfl
  refine ⟨fun a m => (List.mem_or_eq_of_mem_set m).elim (h.ok a) fun z => z ▸ hr, ?_, fun a m => ?_⟩
  · have h1 : (rs.map Cu.n).Pairwise (· < ·) := List.pairwise_map.mpr h.up
    rw [← e] at h1
    exact List.pairwise_map.mp h1
  · have : a.n ∈ (rs.set i r').map Cu.n := List.mem_map_of_mem m
    rw [e] at this
    obtain ⟨q, mq, eq⟩ := List.mem_map.mp this
    rw [← eq]; exact h.le q mq
end
end DH
set_option Elab.async false
set_option linter.all false
set_option autoImplicit false
set_option maxRecDepth 100000
/-! SP25: blocked, unblocked, and the law's own (k45). -/
namespace DH
open DL PySem PySem.Spec L2 TL
section
variable {ρ : En} {rs ss : List Cu} {r : Cu} {C : List Str} {o x1 : O} {L M F : Lv} {Ls : List Lv} {i : Nat} {b : Int} {ks : List Str}
theorem nm_wblock : cuNm "with_block" = true := by decide +kernel
theorem q_Cue_with_block {t : Bool} (H : CH C) (hr : CuOk C r) : f_Cue_with_block [.sh (cuD r), .sh (.bl t)] = .ok (cuO {r with bl := t}) [.no, .no] := by
  have := q_Cue_init5 H (b := t) ⟨hr.n1, hr.n2⟩ hr.mv ⟨hr.u1, hr.u2⟩ ⟨hr.d1, hr.d2⟩
  rw [hr.sr] at this
  simp? only [f_Cue_with_block, m_Cue_with_block, eMakeD_ev, eFld_ev, cu_view, cu_number, cu_moves, cu_up, cu_down, pmD_cons, pmD_nil, this, makeR_ok]
end
end DH
set_option Elab.async false
set_option linter.all false
set_option autoImplicit false
set_option maxRecDepth 100000
/-! SP26: the law's own blocks (k45). -/
namespace DH
open DL PySem PySem.Spec L2 TL
end DH
set_option Elab.async false
set_option linter.all false
set_option autoImplicit false
set_option maxRecDepth 100000
/-! SP27: looks inserted (k44). -/
namespace DH
open DL PySem PySem.Spec L2 TL
end DH
set_option Elab.async false
set_option linter.all false
set_option autoImplicit false
set_option maxRecDepth 100000
/-! SP28: the law's own inserted looks (k44). -/
namespace DH
open DL PySem PySem.Spec L2 TL
section
variable {ρ : En} {rs ss : List Cu} {r : Cu} {C : List Str} {o x1 : O} {L M F O' : Lv} {Ls : List Lv} {i : Nat} {b n up : Int} {ks : List Str} {ns ms : List Int}
theorem inv_its {c : Int} {cs : List Int} : inV (D.int c).val ((cs.map D.int).map D.val) = decide (c ∈ cs) := by
  unfold inV
  rw [List.map_map, List.any_map]
  induction cs with
  | nil => rfl
  | cons d cs ih =>
    rw [List.any_cons, ih]
    show ((d == c) || _) = _
    by_cases h : d = c
    · subst h; simp
    · simp [h, Ne.symm h]
theorem in0_its {c : Int} : dIn0 (.int c) (itsD ns) = some (decide (c ∈ ns)) := by
  show (if flatD (.int c) && (ns.map D.int).all flatD then some (inV (D.int c).val ((ns.map D.int).map D.val)) else none) = _
  have : (ns.map D.int).all flatD = true := by rw [List.all_map, List.all_eq_true]; intro _ _; rfl
  rw [this, inv_its]; rfl
theorem in_its {c : Int} : dIn (.int c) (itsD ns) = some (.sh (.bl (decide (c ∈ ns)))) := by unfold dIn; rw [in0_its]; rfl
end
end DH
set_option Elab.async false
set_option linter.all false
set_option autoImplicit false
set_option maxRecDepth 100000
/-! SP29: rows put by the law itself; three names at once (k44). -/
namespace DH
open DL PySem PySem.Spec L2 TL
end DH
set_option Elab.async false
set_option linter.all false
set_option autoImplicit false
set_option maxRecDepth 100000
/-! SP30: the first change (k52). -/
namespace DH
open DL PySem PySem.Spec L2 TL
section
variable {ρ : En} {rs ss : List Cu} {r : Cu} {C : List Str} {o x1 : O} {L M F O' : Lv} {Ls : List Lv} {i : Nat} {b n up : Int} {ks : List Str} {ns ms : List Int} {A B : List (Int × Lv)}
/-! looks that are alike -/
def lvEq (L M : Lv) : Bool := decide (L.length = M.length) && L.all fun p => getL M p.1 == some p.2
theorem eqKs_lv {n : Nat} : ∀ {L : Lv}, eqKs (eqN (n + 1)) (M.map fun p => ((.inr p.1 : Key), D.int p.2)) (L.map fun p => ((.inr p.1 : Key), D.int p.2)) = some (L.all fun p => getL M p.1 == some p.2)
  | [] => rfl
  | (a, v) :: L => by
    rw [List.map_cons, List.all_cons]
    unfold eqKs
    rw [lookK_map]
    cases e : getL M a with
    | none => rfl
    | some w =>
      show ((eqN (n + 1) (.int v) (.int w)).bind fun a => (eqKs (eqN (n + 1)) _ (L.map _)).map fun b => a && b) = _
      rw [eqKs_lv]
      show some ((v == w) && _) = some ((some w == some v) && _)
      congr 2
      by_cases z : v = w
      · subst z; simp
      · rw [beq_false_of_ne z]
        symm
        rw [beq_eq_false_iff_ne]
        exact fun y => z (Option.some.inj y).symm
theorem eqN_lv {n : Nat} : eqN (n + 2) (dkD .int L) (dkD .int M) = some (lvEq L M) := by
  show (if (L.map _).length = (M.map _).length then eqKs (eqN (n + 1)) (M.map fun p => ((.inr p.1 : Key), D.int p.2)) (L.map fun p => ((.inr p.1 : Key), D.int p.2)) else some false) = _
  rw [List.length_map, List.length_map]
  unfold lvEq
  by_cases z : L.length = M.length
  · rw [if_pos z, eqKs_lv, decide_eq_true z]; rfl
  · rw [if_neg z, decide_eq_false z]; rfl
theorem lvEq_iff (h1 : (kys L).Nodup) (h2 : (kys M).Nodup) (s1 : srt L = L) (s2 : srt M = M) : lvEq L M = true ↔ L = M := by
  constructor
  · intro h
    unfold lvEq at h
    rw [Bool.and_eq_true, decide_eq_true_eq, List.all_eq_true] at h
    obtain ⟨hl, ha⟩ := h
    have hs : ∀ c ∈ kys L, c ∈ kys M := fun c m => by
      obtain ⟨p, mp, rfl⟩ := List.mem_map.mp m
      have := ha p mp
      exact mem_kys.mpr (by rw [beq_iff_eq.mp this]; rfl)
    have hs2 : ∀ c ∈ kys M, c ∈ kys L := by
      intro c m
      refine Classical.byContradiction fun z => ?_
      have : (c :: kys L).length ≤ (kys M).length := len_sub (List.nodup_cons.mpr ⟨z, h1⟩) fun x mx => (List.mem_cons.mp mx).elim (fun e => e ▸ m) (hs x)
      simp [kys] at this
      omega
    rw [← s1, ← s2]
    refine srt_congr h1 h2 fun c => ?_
    cases e : getL L c with
    | none => exact (getL_none.mpr fun z => getL_none.mp e (hs2 c z)).symm
    | some v => exact (beq_iff_eq.mp (ha _ (getL_mem e))).symm
  · intro e
    subst e
    unfold lvEq
    rw [Bool.and_eq_true]
    refine ⟨decide_eq_true rfl, List.all_eq_true.mpr fun p m => beq_iff_eq.mpr (getL_of_mem h1 (by cases p; exact m))⟩
/-! dicts of looks by numbers -/
end
end DH
set_option Elab.async false
set_option linter.all false
set_option autoImplicit false
set_option maxRecDepth 100000
/-! SP31: the law's own first change; both ways (k52). -/
namespace DH
open DL PySem PySem.Spec L2 TL
end DH
set_option Elab.async false
set_option linter.all false
set_option autoImplicit false
set_option maxRecDepth 100000
/-! SP32: rows otherwise (k52). -/
namespace DH
open DL PySem PySem.Spec L2 TL
end DH
set_option Elab.async false
set_option linter.all false
set_option autoImplicit false
set_option maxRecDepth 100000
/-! SP33: origins and tracked channels (k32). -/
namespace DH
open DL PySem PySem.Spec L2 TL
section
variable {ρ : En} {rs ss : List Cu} {r : Cu} {C : List Str} {c : Str} {L M F : Lv} {i : Nat} {b n : Int}
def mvp (c : Str) (r : Cu) : Bool := decide (c ∈ kys r.mv)
end
end DH
set_option Elab.async false
set_option linter.all false
set_option autoImplicit false
set_option maxRecDepth 100000
/-! SP34: store, with tracking (k41). -/
namespace DH
open DL PySem PySem.Spec L2 TL
section
variable {ρ : En} {rs ss ts : List Cu} {r : Cu} {C : List Str} {c : Str} {L M F : Lv} {i k n h : Nat} {ps : List Str}
def js (a n : Nat) : List Nat := (List.range (n - a)).map fun x => a + x
theorem mem_js {a : Nat} : k ∈ js a n ↔ a ≤ k ∧ k < n := by
  unfold js
  rw [List.mem_map]
  constructor
  · rintro ⟨x, hx, rfl⟩
    have := List.mem_range.mp hx
    omega
  · intro h
    exact ⟨k - a, List.mem_range.mpr (by omega), by omega⟩
theorem js_lt {a : Nat} : (js a n).Pairwise (· < ·) := by
  unfold js
  exact List.pairwise_map.mpr ((List.pairwise_lt_range).imp fun h => by omega)
theorem find_least {p : Nat → Bool} {xs : List Nat} (hs : xs.Pairwise (· < ·)) (e : xs.find? p = some h) : h ∈ xs ∧ p h = true ∧ ∀ k ∈ xs, p k = true → h ≤ k := by
  refine ⟨List.mem_of_find?_eq_some e, List.find?_some e, fun k mk pk => ?_⟩
  induction xs with
  | nil => cases mk
  | cons a xs ih =>
    obtain ⟨h1, h2⟩ := List.pairwise_cons.mp hs
    rw [List.find?_cons] at e
    cases pa : p a with
    | true =>
      rw [pa] at e
      cases e
      rcases List.mem_cons.mp mk with rfl | mk
      · exact Nat.le_refl _
      · exact Nat.le_of_lt (h1 k mk)
    | false =>
      rw [pa] at e
      rcases List.mem_cons.mp mk with rfl | mk
      · rw [pa] at pk; cases pk
      · exact ih h2 e mk
/-- the cue at k moves the channel, or is a wall -/
def hit (rs : List Cu) (c : Str) (k : Nat) : Bool := match rs[k]? with
  | some r => mvp c r || r.bl
  | none => false
def fk (rs : List Cu) (i : Nat) (c : Str) : Option Nat := (js (i + 1) rs.length).find? (hit rs c)
def mvAt (rs : List Cu) (c : Str) (k : Nat) : Bool := match rs[k]? with
  | some r => mvp c r
  | none => true
def addR (c : Str) (v : Int) (r : Cu) : Cu := {r with mv := srt (mrg r.mv [(c, v)])}
def stC (rs : List Cu) (i : Nat) (ts : List Cu) (c : Str) : List Cu := match fk rs i c with
  | some k => if mvAt rs c k = true then ts else ts.modify k (addR c (gD (lkP rs k) c))
  | none => ts
/-- what has become of the rows when the channels ps are done -/
structure StI (C : List Str) (rs : List Cu) (i : Nat) (M : Lv) (ps : List Str) (ts : List Cu) : Prop where
  ok : ∀ r ∈ ts, CuOk C r
  ns : ts.map Cu.n = rs.map Cu.n
  get : ∀ (k : Nat) (r : Cu), rs[k]? = some r → ∃ t, ts[k]? = some t ∧ t.bl = r.bl ∧ ∀ c, getL t.mv c = if k = i then (getL M c).or (getL r.mv c) else if c ∈ ps ∧ fk rs i c = some k ∧ mvp c r = false then some (gD (lkP rs k) c) else getL r.mv c
theorem StI.len (S : StI C rs i M ps ts) : ts.length = rs.length := by
  have := congrArg List.length S.ns
  rwa [List.length_map, List.length_map] at this
theorem addR_ok {v : Int} (hr : CuOk C r) (hc : c ∈ C) (h0 : 0 ≤ v) (h1 : v ≤ 100) : CuOk C (addR c v r) := by
  have hM : COk 0 C [(c, v)] := ⟨by simp [kys], fun d m => by simp [kys] at m; rw [m]; exact hc, fun p m => by simp at m; rw [m]; exact h0, fun p m => by simp at m; rw [m]; exact h1⟩
  exact stA_ok (M := [(c, v)]) hr hM
theorem StI.start (hr : ∀ r ∈ rs, CuOk C r) (hM : COk 0 C M) (hi : i < rs.length) : StI C rs i M [] (rs.modify i (stA M)) := by
  refine ⟨mem_modify (fun r h => stA_ok h hM) hr, modify_ns (f := Cu.n) (g := stA M) fun _ => rfl, fun k r hk => ?_⟩
  rw [List.getElem?_modify, hk]
  by_cases e : i = k
  · subst e
    refine ⟨stA M r, by simp, rfl, fun c => ?_⟩
    rw [if_pos rfl]
    show getL (srt (mrg r.mv M)) c = _
    rw [getL_srt, getL_mrg hM.nd]
  · refine ⟨r, by simp [e], rfl, fun c => ?_⟩
    rw [if_neg (Ne.symm e), if_neg]
    simp
theorem fk_gt (e : fk rs i c = some k) : i < k ∧ k < rs.length := by
  have := mem_js.mp (find_least js_lt e).1
  omega
theorem StI.step (hr : ∀ r ∈ rs, CuOk C r) (S : StI C rs i M ps ts) (hc : c ∈ C) (hp : c ∉ ps) : StI C rs i M (ps ++ [c]) (stC rs i ts c) := by
  have hmv : ∀ r ∈ rs, COk 0 C r.mv := fun r m => (hr r m).mv
  unfold stC
  cases e : fk rs i c with
  | none =>
    refine ⟨S.ok, S.ns, fun k r hk => ?_⟩
    obtain ⟨t, h1, h2, h3⟩ := S.get k r hk
    refine ⟨t, h1, h2, fun d => ?_⟩
    rw [h3]
    by_cases z : k = i
    · rw [if_pos z, if_pos z]
    · rw [if_neg z, if_neg z]
      by_cases y : d = c
      · subst y
        rw [if_neg (fun w => hp w.1), if_neg (fun w => by rw [e] at w; cases w.2.1)]
      · simp [y]
  | some h =>
    dsimp only
    have hg := fk_gt e
    by_cases m : mvAt rs c h = true
    · rw [if_pos m]
      refine ⟨S.ok, S.ns, fun k r hk => ?_⟩
      obtain ⟨t, h1, h2, h3⟩ := S.get k r hk
      refine ⟨t, h1, h2, fun d => ?_⟩
      rw [h3]
      by_cases z : k = i
      · rw [if_pos z, if_pos z]
      · rw [if_neg z, if_neg z]
        by_cases y : d = c
        · subst y
          rw [if_neg (fun w => hp w.1), if_neg]
          rintro ⟨_, w1, w2⟩
          rw [e] at w1
          cases w1
          unfold mvAt at m
          rw [hk] at m
          dsimp only at m
          rw [w2] at m
          cases m
        · simp [y]
    · rw [if_neg m]
      have hP : COk 1 C (lkP rs h) := lkP_ok hmv
      have hb := gD_bd (c := c) hP (by decide)
      refine ⟨mem_modify (fun r hk => addR_ok hk hc hb.1 hb.2) S.ok, (modify_ns (f := Cu.n) (g := addR c (gD (lkP rs h) c)) fun _ => rfl).trans S.ns, fun k r hk => ?_⟩
      obtain ⟨t, h1, h2, h3⟩ := S.get k r hk
      rw [List.getElem?_modify, h1]
      by_cases z : h = k
      · subst z
        have zi : h ≠ i := by omega
        have hm : mvp c r = false := by
          unfold mvAt at m
          rw [hk] at m
          simpa using m
        refine ⟨addR c (gD (lkP rs h) c) t, by simp, h2, fun d => ?_⟩
        show getL (srt (mrg t.mv [(c, gD (lkP rs h) c)])) d = _
        rw [getL_srt, getL_mrg (by simp [kys]), h3, if_neg zi, if_neg zi, getL_cons]
        by_cases y : c = d
        · subst y
          rw [if_pos rfl, Option.some_or, if_pos ⟨by simp, e, hm⟩]
        · rw [if_neg y]
          show (none : Option Int).or _ = _
          rw [Option.none_or]
          simp [Ne.symm y]
      · refine ⟨t, by simp [z], h2, fun d => ?_⟩
        rw [h3]
        by_cases zi : k = i
        · rw [if_pos zi, if_pos zi]
        · rw [if_neg zi, if_neg zi]
          by_cases y : d = c
          · subst y
            rw [if_neg (fun w => hp w.1), if_neg (fun w => by rw [e] at w; exact z (Option.some.inj w.2.1))]
          · simp [y]
end
end DH
set_option Elab.async false
set_option linter.all false
set_option autoImplicit false
set_option maxRecDepth 100000
/-! SP35: store walked, the law's own store (k41). -/
namespace DH
open DL PySem PySem.Spec L2 TL
section
variable {ρ : En} {rs ss ts : List Cu} {r : Cu} {C : List Str} {c : Str} {L M F : Lv} {i k n h : Nat} {ps : List Str}
/-- behind the cue that is stored into: what later cues look like for a channel that is not done -/
theorem StI.at (S : StI C rs i M ps ts) (hr : rs[k]? = some r) (hk : i < k) (hp : c ∉ ps) : ∃ t, ts[k]? = some t ∧ t.bl = r.bl ∧ (c ∈ kys t.mv ↔ c ∈ kys r.mv) := by
  obtain ⟨t, h1, h2, h3⟩ := S.get k r hr
  refine ⟨t, h1, h2, ?_⟩
  have := h3 c
  rw [if_neg (by omega), if_neg (fun w => hp w.1)] at this
  rw [mem_kys, mem_kys, this]
end
end DH
set_option Elab.async false
set_option linter.all false
set_option autoImplicit false
set_option maxRecDepth 100000
/-! SP36: the law's own store (k41). -/
namespace DH
open DL PySem PySem.Spec L2 TL
end DH
set_option Elab.async false
set_option linter.all false
set_option autoImplicit false
set_option maxRecDepth 100000
/-! SP37: the looks of a stored show (k41). -/
namespace DH
open DL PySem PySem.Spec L2 TL
section
variable {ρ : En} {rs ss ts : List Cu} {r : Cu} {C : List Str} {c : Str} {L M F : Lv} {i k n h : Nat} {ps : List Str}
def wl (rs : List Cu) (k : Nat) : Bool := match rs[k]? with
  | some r => r.bl
  | none => false
def bkL (rs : List Cu) (i : Nat) : List Nat := (js (i + 1) rs.length).filter (wl rs) ++ [rs.length]
def b0 (rs : List Cu) (i : Nat) : Nat := (bkL rs i).headD 0
end
end DH
set_option Elab.async false
set_option linter.all false
set_option autoImplicit false
set_option maxRecDepth 100000
/-! SP38: what is raised; shows with new numbers (k46). -/
namespace DL
open PySem PySem.Spec L2
end DL
namespace DH
open DL PySem PySem.Spec L2 TL
section
variable {ρ : En} {rs ss : List Cu} {r : Cu} {C : List Str} {s t : Int}
theorem nm_wnumber : cuNm "with_number" = true := by decide +kernel
theorem q_Cue_with_number (H : CH C) (hr : CuOk C r) {n : Int} (hn : 1 ≤ n ∧ n ≤ 99999) : f_Cue_with_number [.sh (cuD r), .sh (.int n)] = .ok (cuO {r with n := n}) [.no, .no] := by
  simp? only [f_Cue_with_number, m_Cue_with_number, eMakeD_ev, eFld_ev, cu_view, cu_moves, cu_up, cu_down, cu_block, pmD_cons, pmD_nil, q_Cue_init5 H (b := r.bl) hn hr.mv ⟨hr.u1, hr.u2⟩ ⟨hr.d1, hr.d2⟩, makeR_ok, hr.sr]
end
end DH
set_option Elab.async false
set_option linter.all false
set_option autoImplicit false
set_option maxRecDepth 100000
/-! SP39: try, evaluated. -/
namespace DL
open PySem PySem.Spec L2
end DL
set_option Elab.async false
set_option linter.all false
set_option autoImplicit false
set_option maxRecDepth 100000
/-! SP40: own ==, nested stores, extend, evaluated; == of cues and shows. -/
namespace DL
open PySem PySem.Spec L2
section
variable {ρ ρ1 : En} {T : EqTab} {n i : Nat} {ma mb m : E} {o : O} {d : D}
def eqK (neg : Bool) (ρ : En) : Option Bool → R
  | some b => .ok (.sh (.bl (if neg then !b else b))) ρ
  | none => .stuck
theorem eEqC_ev : eEqC T n ma mb ρ = (ma ρ).bind fun o1 ρ1 => (mb ρ1).bind fun o2 ρ2 => eqK false ρ2 (eqC T n o1.d o2.d) := by
  unfold eEqC eqK; rfl
theorem eNeC_ev : eNeC T ma mb ρ = (ma ρ).bind fun o1 ρ1 => (mb ρ1).bind fun o2 ρ2 => eqK true ρ2 (insNe T o1.d o2.d) := by
  unfold eNeC eqK; rfl
theorem eInC_ev : eInC T n ma mb ρ = (ma ρ).bind fun o1 ρ1 => (mb ρ1).bind fun o2 ρ2 => eqK false ρ2 (dInC T n o1.d o2.d) := by
  unfold eInC eqK; rfl
theorem eqK_f {b : Bool} : eqK false ρ (some b) = .ok (.sh (.bl b)) ρ := rfl
theorem eqK_t {b : Bool} : eqK true ρ (some b) = .ok (.sh (.bl (!b))) ρ := rfl
def lstR (r : R) : Option O → R
  | some (.lst _) => r
  | _ => .stuck
theorem eApp_evR : eApp i m ρ = lstR ((m ρ).bind fun o ρ1 => appK i o ρ1 (slO (ρ1.getD i .no))) (slO (ρ.getD i .no)) := by
  rw [eApp_ev]
  unfold lstR
  generalize slO (ρ.getD i .no) = x
  rcases x with _ | (_ | _ | _ | _ | _) <;> rfl
theorem insEq_ok {c : Str} {fn : List O → R} {pf : List (Str × D) → Bool} {fs : List (Str × D)} {x : D} {r : Bool} {ρ0 : En} (hp : pf fs = true) (h : fn [.sh (.ins c fs), .sh x] = .ok (.sh (.bl r)) ρ0) : insEq [(c, fn, pf)] c fs x = some r := by
  unfold insEq
  rw [List.lookup, beq_self_eq_true]
  show (if pf fs = true then _ else _) = _
  rw [if_pos hp]
  show (match fn [.sh (.ins c fs), .sh x] with | .ok (.sh (.bl r)) _ => some r | _ => none) = _
  rw [h]
theorem eqC_ins {c : Str} {fs gs : List (Str × D)} : eqC T (n + 1) (.ins c fs) (.ins c gs) = insEq T c fs (.ins c gs) := by
  unfold eqC
  simp [D.view]
theorem eqC_insO {c : Str} {fs : List (Str × D)} {x : D} (hv : x.view = x) (h : othD x = true) : eqC T (n + 1) (.ins c fs) x = insEq T c fs x := by
  unfold eqC
  rw [hv]
  cases x <;> first | (cases h; done) | (simp [D.view, othD])
theorem eqC_oIns {c : Str} {fs : List (Str × D)} {x : D} (hv : x.view = x) (h : othD x = true) : eqC T (n + 1) x (.ins c fs) = insEq T c fs x := by
  unfold eqC
  rw [hv]
  cases x <;> first | (cases h; done) | (simp [D.view, othD])
theorem insNe_ins {c : Str} {fs gs : List (Str × D)} : insNe T (.ins c fs) (.ins c gs) = insEq T c fs (.ins c gs) := by
  unfold insNe
  simp [D.view]
end
end DL
namespace DH
open DL PySem PySem.Spec L2 TL
section
variable {r s : Cu} {rs ss : List Cu} {C : List Str} {x : D}
def cuEq (r s : Cu) : Bool := r.n == s.n && (lvEq r.mv s.mv && (r.up == s.up && (r.dn == s.dn && (r.bl == s.bl))))
theorem nm_parts : cuNm "parts" = true := by decide +kernel
theorem q_Cue_parts : f_Cue_parts [.sh (cuD r)] = .ok (.sh (rwD r)) [.no] := by
  simp? only [f_Cue_parts, m_Cue_parts, eFld_ev, cu_view, cu_number, cu_moves, cu_up, cu_down, cu_block, rwD]
theorem rw_eq {n : Nat} : eqN (n + 3) (rwD r) (rwD s) = some (cuEq r s) := by
  unfold rwD eqN
  simp only [D.view, eqAll]
  rw [show eqN (n + 2) (.int r.n) (.int s.n) = some (r.n == s.n) from rfl, eqN_lv, show eqN (n + 2) (.int r.up) (.int s.up) = some (r.up == s.up) from rfl, show eqN (n + 2) (.int r.dn) (.int s.dn) = some (r.dn == s.dn) from rfl, show eqN (n + 2) (.bl r.bl) (.bl s.bl) = some (r.bl == s.bl) from rfl]
  simp [cuEq, Option.bind, Option.map]
theorem q_Cue_eq : f_Cue___eq__ [.sh (cuD r), .sh (cuD s)] = .ok (.sh (.bl (cuEq r s))) [.no, .no] := by
  have e : dEq (rwD r) (rwD s) = some (.sh (.bl (cuEq r s))) := by unfold dEq; rw [rw_eq]; rfl
  simp? only [f_Cue___eq__, m_Cue___eq__, eIsC_ev, cu_view, cu_isC, isCK_some, eMet_ev, cu_met nm_parts, q_Cue_parts, rw_view, e]
theorem q_Cue_eqO (hv : x.view = x) (h : othD x = true) : f_Cue___eq__ [.sh (cuD r), .sh x] = .ok (.sh (.bl false)) [.no, .no] := by
  have e : isC ["Cue"] "Cue" x = some false := by cases x <;> first | (cases h; done) | rfl
  simp? only [f_Cue___eq__, m_Cue___eq__, eIsC_ev, hv, e, isCK_some]
abbrev TC : EqTab := [("Cue", f_Cue___eq__, pfCue)]
abbrev TS : EqTab := [("Show", f_Show___eq__, pfShow)]
theorem ins_cu : insEq TC "Cue" [("_number", .int r.n), ("_moves", dkD .int r.mv), ("_up", .int r.up), ("_down", .int r.dn), ("_block", .bl r.bl)] (cuD s) = some (cuEq r s) := insEq_ok rfl q_Cue_eq
theorem eqC_cu {n : Nat} : eqC TC (n + 1) (cuD r) (cuD s) = some (cuEq r s) := by
  unfold cuD
  rw [eqC_ins]
  exact ins_cu
theorem eqC_cuO {n : Nat} (hv : x.view = x) (h : othD x = true) : eqC TC (n + 1) (cuD r) x = some false := by
  unfold cuD
  rw [eqC_insO hv h]
  exact insEq_ok rfl (q_Cue_eqO hv h)
theorem eqC_Ocu {n : Nat} (hv : x.view = x) (h : othD x = true) : eqC TC (n + 1) x (cuD r) = some false := by
  unfold cuD
  rw [eqC_oIns hv h]
  exact insEq_ok rfl (q_Cue_eqO hv h)
theorem ne_cu : insNe TC (cuD r) (cuD s) = some (cuEq r s) := by
  unfold cuD
  rw [insNe_ins]
  exact ins_cu
theorem cuEq_iff (hr : CuOk C r) (hs : CuOk C s) : cuEq r s = true ↔ r = s := by
  have h := lvEq_iff hr.mv.nd hs.mv.nd hr.sr hs.sr
  obtain ⟨n, mv, up, dn, bl⟩ := r
  obtain ⟨n', mv', up', dn', bl'⟩ := s
  have h : lvEq mv mv' = true ↔ mv = mv' := h
  simp [cuEq, h]
end
end DH
set_option Elab.async false
set_option linter.all false
set_option autoImplicit false
set_option maxRecDepth 100000
/-! SP41: idle moves, lean shows. -/
namespace DH
open DL PySem PySem.Spec L2 TL
end DH
set_option Elab.async false
set_option linter.all false
set_option autoImplicit false
set_option maxRecDepth 100000
/-! SP42: lean shows. -/
namespace DH
open DL PySem PySem.Spec L2 TL
end DH
set_option Elab.async false
set_option linter.all false
set_option autoImplicit false
set_option maxRecDepth 100000
/-! SP43: the law's own lean rows; rows in which moves repeat levels. -/
namespace DH
open DL PySem PySem.Spec L2 TL
section
variable {r : Cu} {rs : List Cu} {C : List Str} {F M : Lv} {c : Str} {ρ : En} {b : Int}
def fld (F : Lv) (rs : List Cu) : Lv := rs.foldl (fun F r => srt (amL F r.mv)) F
end
end DH
set_option Elab.async false
set_option linter.all false
set_option autoImplicit false
set_option maxRecDepth 100000
/-! SP44: rows in which moves repeat levels. -/
namespace DH
open DL PySem PySem.Spec L2 TL
end DH
set_option Elab.async false
set_option linter.all false
set_option autoImplicit false
set_option maxRecDepth 100000
/-! SP45: rows that are near to others (k81, k82). -/
namespace DH
open DL PySem PySem.Spec L2 TL
theorem wMidO {N B C : En → Prop} {T : O → En → Prop} {u : Out} (M : En → Prop) (h : wO M T B C u) (k : ∀ ρ, M ρ → N ρ) : wO N T B C u := h.mono k fun _ _ h => h
section
variable {r : Cu} {rs acc : List Cu} {C : List Str} {F M : Lv} {c : Str} {ρ : En} {b k : Int}
def pk (acc : List Cu) (k : Int) : Cu := ((acc.filter fun r => decide (r.n = k)).head?).getD ⟨k, [], 0, 0, false⟩
end
end DH
set_option Elab.async false
set_option linter.all false
set_option autoImplicit false
set_option maxRecDepth 100000
/-! SP46: the text of a cue is some text. -/
namespace DL
open PySem PySem.Spec L2
section
variable {ρ ρ1 : En} {m : E} {ms : List E} {acc y : Str} {i : Int}
def fmtK (ρ1 : En) : D → R
  | .str y => if y.length ≤ 1000000 then .ok (.sh (.str y)) ρ1 else .stuck
  | .int i => if i.natAbs.log2 < 1920 then .ok (.sh (.str (toString i))) ρ1 else .stuck
  | _ => .stuck
theorem eFmt_ev : eFmt m ρ = (m ρ).bind fun o ρ1 => fmtK ρ1 o.d.view := by unfold eFmt fmtK; rfl
theorem fmtK_str (h : y.length ≤ 1000000) : fmtK ρ (.str y) = .ok (.sh (.str y)) ρ := if_pos h
theorem fmtK_int (h : i.natAbs.log2 < 1920) : fmtK ρ (.int i) = .ok (.sh (.str (toString i))) ρ := if_pos h
def jsK (ms : List E) (acc : Str) (ρ1 : En) : D → R
  | .str y => if (acc ++ y).length ≤ 1000000 then eJs ms (acc ++ y) ρ1 else .stuck
  | _ => .stuck
theorem eJs_nil : eJs [] acc ρ = .ok (.sh (.str acc)) ρ := rfl
theorem eJs_cons : eJs (m :: ms) acc ρ = (m ρ).bind fun o ρ1 => jsK ms acc ρ1 o.d.view := rfl
theorem jsK_str (h : (acc ++ y).length ≤ 1000000) : jsK ms acc ρ (.str y) = eJs ms (acc ++ y) ρ := if_pos h
theorem eTru_ev : eTru m ρ = (m ρ).bind fun o ρ1 => eqK false ρ1 (truD o.d.view) := by unfold eTru eqK; rfl
def strK (ρ : En) : Option Str → R
  | some y => .ok (.sh (.str y)) ρ
  | none => .stuck
theorem eStrO_ev {c : Str} {fn : List O → R} : eStrO c fn m ρ = (m ρ).bind fun o ρ1 => strK ρ1 (strO c fn o.d.view) := by unfold eStrO strK; rfl
end
end DL
namespace DH
open DL PySem PySem.Spec L2 TL
section
variable {ρ : En} {r : Cu} {C : List Str} {L : Lv} {n t i : Int}
abbrev tx (i : Int) : Str := (toString i : String)
theorem tx_len (h0 : 0 ≤ i) (h : i < 1000000) : (tx i).length ≤ 30 := by
  obtain ⟨p, hp, _, _, hl⟩ := rps_int h0 (show i < 1000000000000000000000000000000 by omega)
  cases hp
  rw [PyData.shown_int] at hl
  exact hl
theorem log_ok (h0 : 0 ≤ i) (h : i < 1000000) : i.natAbs.log2 < 1920 := by
  by_cases z : i.natAbs = 0
  · rw [z]; decide
  · have := (Nat.log2_lt z (k := 20)).mpr (show i.natAbs < 2 ^ 20 by omega)
    omega
theorem str_int (h0 : 0 ≤ i) (h : i < 1000000) : dStr [.int i] = some (.sh (.str (tx i))) := if_pos (log_ok h0 h)
theorem dvm {a b : Int} (h0 : 0 < b) (h1 : b < 1073741824) : dDivmod [.int a, .int b] = some (.sh (.tup [.int (a / b), .int (a % b)])) := if_pos ⟨h0, h1⟩
def rsT (r : Int) : Str := Txt.rstripChars (Txt.zfill (tx r) 2) "0"
theorem rs_all : (List.range 100).all (fun (k : Nat) => decide ((Txt.zfill (tx (k : Int)) 2).length ≤ 30) && decide ((rsT (k : Int)).length ≤ 30)) = true := by decide +kernel
theorem rs_len (h0 : 0 ≤ i) (h : i < 100) : (Txt.zfill (tx i) 2).length ≤ 30 ∧ (rsT i).length ≤ 30 := by
  have := List.all_eq_true.mp rs_all i.toNat (List.mem_range.mpr (by omega))
  rw [Bool.and_eq_true, decide_eq_true_eq, decide_eq_true_eq, show ((i.toNat : Nat) : Int) = i by omega] at this
  exact this
theorem zfill2 {a : Str} : mZfill (.str a) [.int 2] = some (.sh (.str (Txt.zfill a 2))) := by
  show (if PadOk (2 : Int) = true then some (O.sh (.str (Txt.zfill a 2))) else none) = _
  exact if_pos (by decide +kernel)
theorem rstrip0 {a : Str} (h : a.length ≤ 1000000) : mRstripC (.str a) [.str "0"] = some (.sh (.str (Txt.rstripChars a "0"))) := if_pos (decide_eq_true h)
theorem app_le {a b : Str} {k : Nat} (h : a.length + b.length ≤ k) : (a ++ b).length ≤ k := by rw [Str.length_append]; exact h
theorem q_number_text (h1 : 1 ≤ n) (h2 : n ≤ 99999) : ∃ y : Str, y.length ≤ 100 ∧ f_number_text [.sh (.int n)] = .ok (.sh (.str y)) [.no] := by
  have l1 := tx_len (i := n / 100) (by omega) (by omega)
  have g1 := log_ok (i := n / 100) (by omega) (by omega)
  have s1 := str_int (i := n / 100) (by omega) (by omega)
  have s2 := str_int (i := n % 100) (by omega) (by omega)
  obtain ⟨z1, z2⟩ := rs_len (i := n % 100) (by omega) (by omega)
  have e0 : (Str.empty : Str).length = 0 := rfl
  have e1 : (Str.ofString ".").length = 1 := rfl
  have : wE (fun o ρ => ∃ y : Str, y.length ≤ 100 ∧ o = .sh (.str y) ∧ ρ = [.no]) (f_number_text [.sh (.int n)]) := by
    simp? only [f_number_text, m_number_text, q_is_number, h1, h2, dvm (a := n) (b := 100) (by decide) (by decide)]
    refine wO_if (fun z => ?_) (fun z => ?_)
    · simp? only [s1]
      exact ⟨_, by omega, rfl⟩
    · have j1 : ((Str.empty : Str) ++ tx (n / 100)).length ≤ 1000000 := app_le (by omega)
      have j2 : ((Str.empty : Str) ++ tx (n / 100) ++ Str.ofString ".").length ≤ 1000000 := app_le (by rw [Str.length_append]; omega)
      have j3 : ((Str.empty : Str) ++ tx (n / 100) ++ Str.ofString "." ++ rsT (n % 100)).length ≤ 100 := app_le (by rw [Str.length_append, Str.length_append]; omega)
      have hr : Txt.rstripChars (Txt.zfill (tx (n % 100)) 2) "0" = rsT (n % 100) := rfl
      simp? only [s2, zfill2, rstrip0 (show (Txt.zfill (tx (n % 100)) 2).length ≤ 1000000 by omega), hr, eJs_cons, eJs_nil, eFmt_ev, fmtK_int g1, jsK_str j1, jsK_str j2, jsK_str (Nat.le_trans j3 (by decide)), fmtK_str (show (rsT (n % 100)).length ≤ 1000000 by omega)]
      exact ⟨_, j3, rfl⟩
  obtain ⟨o, ρ, e, y, hy, rfl, rfl⟩ := this.ex
  exact ⟨y, hy, e⟩
theorem q_time_text (h1 : 0 ≤ n) (h2 : n ≤ 9999) : ∃ y : Str, y.length ≤ 100 ∧ f_time_text [.sh (.int n)] = .ok (.sh (.str y)) [.no] := by
  have l1 := tx_len (i := n / 10) (by omega) (by omega)
  have g1 := log_ok (i := n / 10) (by omega) (by omega)
  have s1 := str_int (i := n / 10) (by omega) (by omega)
  have l2 := tx_len (i := n % 10) (by omega) (by omega)
  have g2 := log_ok (i := n % 10) (by omega) (by omega)
  have e0 : (Str.empty : Str).length = 0 := rfl
  have e1 : (Str.ofString ".").length = 1 := rfl
  have j1 : ((Str.empty : Str) ++ tx (n / 10)).length ≤ 1000000 := app_le (by omega)
  have j2 : ((Str.empty : Str) ++ tx (n / 10) ++ Str.ofString ".").length ≤ 1000000 := app_le (by rw [Str.length_append]; omega)
  have j3 : ((Str.empty : Str) ++ tx (n / 10) ++ Str.ofString "." ++ tx (n % 10)).length ≤ 100 := app_le (by rw [Str.length_append, Str.length_append]; omega)
  have : wE (fun o ρ => ∃ y : Str, y.length ≤ 100 ∧ o = .sh (.str y) ∧ ρ = [.no]) (f_time_text [.sh (.int n)]) := by
    simp? only [f_time_text, m_time_text, q_is_time, h1, h2, dvm (a := n) (b := 10) (by decide) (by decide)]
    refine wE_if (fun z => ?_) (fun z => ?_)
    · simp? only [eJs_cons, eJs_nil, eFmt_ev, fmtK_int g1, fmtK_int g2, jsK_str j1, jsK_str j2, jsK_str (Nat.le_trans j3 (by decide))]
      exact ⟨_, j3, rfl⟩
    · simp? only [s1]
      exact ⟨_, by omega, rfl⟩
  obtain ⟨o, ρ, e, y, hy, rfl, rfl⟩ := this.ex
  exact ⟨y, hy, e⟩
def prT (L : Lv) (c : Str) : Str := (Str.empty : Str) ++ c ++ Str.ofString "@" ++ tx (gD L c)
theorem gD_get {c : Str} {v : Int} (h : getL L c = some v) : gD L c = v := by unfold gD; rw [h]; rfl
theorem prs_sum {xs : List Str} {g : Str → Str} {k : Nat} (h : ∀ c ∈ xs, (g c).length ≤ k) : ((xs.map g).map (·.length)).sum ≤ xs.length * k := by
  induction xs with
  | nil => simp
  | cons c xs ih =>
    rw [List.map_cons, List.map_cons, List.sum_cons, List.length_cons]
    have h1 := h c List.mem_cons_self
    have h2 := ih fun d m => h d (List.mem_cons_of_mem _ m)
    have : (xs.length + 1) * k = xs.length * k + k := by rw [Nat.add_mul, Nat.one_mul]
    omega
theorem q_pairs_text (H : CH C) (hL : COk 0 C L) : ∃ y : Str, y.length ≤ 5000 ∧ f_pairs_text [.sh (dkD .int L)] = .ok (.sh (.str y)) [.no] := by
  have ll := hL.len H
  have hn : (srtS (kys L)).length = L.length := by rw [(srtS_perm _).length_eq]; simp [kys]
  have hp : ∀ c ∈ srtS (kys L), (prT L c).length ≤ 50 ∧ ∃ v, getL L c = some v ∧ 0 ≤ v ∧ v ≤ 100 := fun c m => by
    have m := (srtS_perm _).mem_iff.mp m
    obtain ⟨v, hv⟩ := Option.isSome_iff_exists.mp (mem_kys.mp m)
    have h0 := hL.lo _ (getL_mem hv)
    have h1 := hL.hi _ (getL_mem hv)
    dsimp only at h0 h1
    have hc := (isCh_small (H.ch c (hL.sub c m))).1
    have l1 := tx_len (i := v) h0 (by omega)
    have e0 : (Str.empty : Str).length = 0 := rfl
    have e1 : (Str.ofString "@").length = 1 := rfl
    refine ⟨?_, v, hv, h0, h1⟩
    unfold prT
    rw [gD_get hv, Str.length_append, Str.length_append, Str.length_append]
    omega
  have hsum := prs_sum (g := prT L) fun c m => (hp c m).1
  have hs1 : ((" " : String) : Str).length = 1 := rfl
  have hj : (((srtS (kys L)).map (prT L)).map (·.length)).sum + ((srtS (kys L)).map (prT L)).length * ((" " : String) : Str).length ≤ 5000 := by
    rw [List.length_map, hs1]; omega
  have : wE (fun o ρ => ∃ y : Str, y.length ≤ 5000 ∧ o = .sh (.str y) ∧ ρ = [.no]) (f_pairs_text [.sh (dkD .int L)]) := by
    simp? only [f_pairs_text, m_pairs_text, sorted_dk (show L.length < 64 by omega)]
    refine wLc (fun ρ => ρ = [.v (.sh (dkD .int L)), .no]) (fun c => .sh (.str (prT L c))) (by omega) rfl ?_ ?_
    · rintro c m ρ rfl
      obtain ⟨hpl, v, hv, h0, h1⟩ := hp c m
      have hc := (isCh_small (H.ch c (hL.sub c ((srtS_perm _).mem_iff.mp m)))).1
      have e0 : (Str.empty : Str).length = 0 := rfl
      have e1 : (Str.ofString "@").length = 1 := rfl
      have l1 := tx_len (i := v) h0 (by omega)
      have j1 : ((Str.empty : Str) ++ c).length ≤ 1000000 := app_le (by omega)
      have j2 : ((Str.empty : Str) ++ c ++ Str.ofString "@").length ≤ 1000000 := app_le (by rw [Str.length_append]; omega)
      have j3 : ((Str.empty : Str) ++ c ++ Str.ofString "@" ++ tx v).length ≤ 1000000 := app_le (by rw [Str.length_append, Str.length_append]; omega)
      simp? only [eJs_cons, eJs_nil, eFmt_ev, fmtK_str (show c.length ≤ 1000000 by omega), ix_dk hv, fmtK_int (log_ok h0 (show v < 1000000 by omega)), jsK_str j1, jsK_str j2, jsK_str j3, prT, gD_get hv]
    · rintro ρ rfl
      have e : O.lst ((srtS (kys L)).map fun c => .sh (.str (prT L c))) = strsO ((srtS (kys L)).map (prT L)) := by unfold strsO; rw [List.map_map, List.map_map]; rfl
      rw [e]
      simp? only [join_ch (Nat.le_trans hj (by decide))]
      exact ⟨_, Nat.le_trans (StrLaws.join_length_le _ _) hj, rfl⟩
  obtain ⟨o, ρ, e, y, hy, rfl, rfl⟩ := this.ex
  exact ⟨y, hy, e⟩
theorem nm_text : cuNm "text" = true := by decide +kernel
theorem tru_dk : truD (dkD .int L) = some (!L.isEmpty) := by cases L <;> rfl
theorem appK_strs {i : Nat} {ys : List Str} {y : Str} (h : ys.length < 1000000) : appK i (.sh (.str y)) ρ (some (strsO ys)) = .ok (.sh .non) (ρ.set i ((ρ.getD i .no).re (strsO (ys ++ [y])))) := by
  have := appK_lst (ρ := ρ) (i := i) (o := .sh (.str y)) (os := (ys.map D.str).map .sh) (by simpa using h)
  rw [show (ys.map D.str).map O.sh ++ [O.sh (.str y)] = ((ys ++ [y]).map D.str).map .sh by simp] at this
  exact this
theorem lstR_strs {x : R} {ys : List Str} : lstR x (some (strsO ys)) = x := rfl
theorem strs6 {a b c d e f : Str} : O.lst [.sh (.str a), .sh (.str b), .sh (.str c), .sh (.str d), .sh (.str e), .sh (.str f)] = strsO [a, b, c, d, e, f] := rfl
theorem q_Cue_text (H : CH C) (h : CuOk C r) : ∃ y : Str, y.length ≤ 10000 ∧ f_Cue_text [.sh (cuD r)] = .ok (.sh (.str y)) [.no] := by
  obtain ⟨y1, l1, e1⟩ := q_number_text h.n1 h.n2
  obtain ⟨y2, l2, e2⟩ := q_time_text h.u1 h.u2
  obtain ⟨y3, l3, e3⟩ := q_time_text h.d1 h.d2
  obtain ⟨y4, l4, e4⟩ := q_pairs_text H h.mv
  have hs1 : ((" " : String) : Str).length = 1 := rfl
  have c1 : (Str.ofString "cue").length = 3 := rfl
  have c2 : (Str.ofString "up").length = 2 := rfl
  have c3 : (Str.ofString "down").length = 4 := rfl
  have c4 : (Str.ofString "block").length = 5 := rfl
  have : wE (fun o ρ => ∃ y : Str, y.length ≤ 10000 ∧ o = .sh (.str y) ∧ ρ = [.no]) (f_Cue_text [.sh (cuD r)]) := by
    simp? only [f_Cue_text, m_Cue_text, eFld_ev, cu_view, cu_number, cu_up, cu_down, cu_block, cu_moves, e1, e2, e3, strs6]
    refine wMidO (fun ρ => ∃ ys : List Str, (ys.map (·.length)).sum ≤ 400 ∧ ys.length ≤ 7 ∧ ρ = [.v (.sh (cuD r)), .v (strsO ys)]) ?_ ?_
    · refine wO_if (fun z => ?_) (fun z => ?_)
      · simp? only [eApp_evR, lstR_strs, appK_strs (ys := [Str.ofString "cue", y1, Str.ofString "up", y2, Str.ofString "down", y3]) (show 6 < 1000000 by decide)]
        exact ⟨[Str.ofString "cue", y1, Str.ofString "up", y2, Str.ofString "down", y3] ++ [Str.ofString "block"], by simp [c1, c2, c3, c4]; omega, by simp, rfl⟩
      · exact .next ⟨[Str.ofString "cue", y1, Str.ofString "up", y2, Str.ofString "down", y3], by simp [c1, c2, c3]; omega, by simp, rfl⟩
    · rintro ρ ⟨ys, hs, hl, rfl⟩
      simp? only [eFld_ev, eTru_ev, cu_view, cu_moves, tru_dk, eqK_f]
      refine wMidO (fun ρ => ∃ ys : List Str, (ys.map (·.length)).sum ≤ 6000 ∧ ys.length ≤ 8 ∧ ρ = [.v (.sh (cuD r)), .v (strsO ys)]) ?_ ?_
      · refine wO_if (fun z => ?_) (fun z => ?_)
        · simp? only [eApp_evR, lstR_strs, eFld_ev, cu_view, cu_moves, e4, appK_strs (show ys.length < 1000000 by omega)]
          exact ⟨ys ++ [y4], by simp; omega, by simp; omega, rfl⟩
        · exact .next ⟨ys, by omega, by omega, rfl⟩
      · rintro ρ ⟨ys, hs, hl, rfl⟩
        have hj : (ys.map (·.length)).sum + ys.length * ((" " : String) : Str).length ≤ 10000 := by rw [hs1]; omega
        simp? only [join_ch (Nat.le_trans hj (by decide))]
        exact ⟨_, Nat.le_trans (StrLaws.join_length_le _ _) hj, rfl⟩
  obtain ⟨o, ρ, e, y, hy, rfl, rfl⟩ := this.ex
  exact ⟨y, hy, e⟩
theorem str_cu (H : CH C) (h : CuOk C r) : ∃ y : Str, strO "Cue" f_Cue___str__ (cuD r) = some y := by
  obtain ⟨y, l, e⟩ := q_Cue_text H h
  have e2 : f_Cue___str__ [.sh (cuD r)] = .ok (.sh (.str y)) [.no] := by
    simp? only [f_Cue___str__, m_Cue___str__, eMet_ev, cu_view, cu_met nm_text, e, eFmt_ev, fmtK_str (show y.length ≤ 1000000 by omega)]
  refine ⟨y, ?_⟩
  show (if (Str.ofString "Cue") = (Str.ofString "Cue") then (match f_Cue___str__ [.sh (cuD r)] with
    | .ok (.sh (.str y)) _ => some y
    | _ => none) else none) = some y
  rw [if_pos rfl, e2]
end
end DH
set_option Elab.async false
set_option linter.all false
set_option autoImplicit false
set_option maxRecDepth 100000
/-! SP47: cues that are made (k21). -/
namespace DH
open DL PySem PySem.Spec L2 TL
/-- the parts of a cue, its moves in any order -/
structure Pt where
  n : Int
  L : Lv
  up : Int
  dn : Int
  bl : Bool
def ptsD (p : Pt) : D := .lst [.int p.n, dkD .int p.L, .int p.up, .int p.dn, .bl p.bl]
structure PqOk (C : List Str) (p : Pt) : Prop where
  n1 : 1 ≤ p.n
  n2 : p.n ≤ 99999
  mv : COk 0 C p.L
  u1 : 0 ≤ p.up
  u2 : p.up ≤ 9999
  d1 : 0 ≤ p.dn
  d2 : p.dn ≤ 9999
def Pt.cu (p : Pt) : Cu := ⟨p.n, srt p.L, p.up, p.dn, p.bl⟩
section
variable {ρ : En} {p q : Pt} {r : Cu} {C : List Str} {L : Lv} {n t i : Int}
theorem PqOk.cu (h : PqOk C p) : CuOk C p.cu := ⟨h.n1, h.n2, h.mv.srt, srt_srt h.mv.nd, h.u1, h.u2, h.d1, h.d2⟩
theorem pts_view : (ptsD p).view = ptsD p := rfl
theorem pts_0 : dIx (ptsD p) (.int 0) = some (.sh (.int p.n)) := rfl
theorem pts_1 : dIx (ptsD p) (.int 1) = some (.sh (dkD .int p.L)) := rfl
theorem pts_2 : dIx (ptsD p) (.int 2) = some (.sh (.int p.up)) := rfl
theorem pts_3 : dIx (ptsD p) (.int 3) = some (.sh (.int p.dn)) := rfl
theorem pts_4 : dIx (ptsD p) (.int 4) = some (.sh (.bl p.bl)) := rfl
theorem pts_cut2 : dSl (ptsD p) (some 2) none = some (.lst [.sh (.int p.up), .sh (.int p.dn), .sh (.bl p.bl)]) := rfl
theorem pts_cut1 : dSl (ptsD p) (some 1) none = some (.lst [.sh (dkD .int p.L), .sh (.int p.up), .sh (.int p.dn), .sh (.bl p.bl)]) := rfl
theorem pts_to2 : dSl (ptsD p) none (some 2) = some (.lst [.sh (.int p.n), .sh (dkD .int p.L)]) := rfl
theorem pts_to4 : dSl (ptsD p) none (some 4) = some (.lst [.sh (.int p.n), .sh (dkD .int p.L), .sh (.int p.up), .sh (.int p.dn)]) := rfl
theorem eq_tail {a a' b b' : Int} {c c' : Bool} : dEq (.lst [.int a, .int b, .bl c]) (.lst [.int a', .int b', .bl c']) = some (.sh (.bl (a == a' && (b == b' && c == c')))) := by
  show ((eqN 60 (.lst [.int a, .int b, .bl c]) (.lst [.int a', .int b', .bl c'])).bind fun b => some (O.sh (.bl b))) = _
  have e : eqN 60 (.lst [.int a, .int b, .bl c]) (.lst [.int a', .int b', .bl c']) = some (a == a' && (b == b' && (c == c' && true))) := by
    unfold eqN
    simp only [D.view, List.length_cons, List.length_nil, if_true, eqAll]
    rfl
  rw [e]
  simp
def ptsM (p : Pt) (m : O) : O := .lst [.sh (.int p.n), m, .sh (.int p.up), .sh (.int p.dn), .sh (.bl p.bl)]
def MvO (m : O) (L : Lv) : Prop := m = dkO .int L ∨ m = .sh (dkD .int L)
theorem MvO.dd {m : O} (h : MvO m L) : m.d = dkD .int L := by
  rcases h with rfl | rfl
  · exact dk_d
  · rfl
theorem ptsM_d {m : O} (h : MvO m p.L) : (ptsM p m).d = ptsD p := by
  show D.lst [.int p.n, m.d, .int p.up, .int p.dn, .bl p.bl] = _
  rw [h.dd]; rfl
theorem ptsM_dk : (ptsM p (dkO .int p.L)).d = ptsD p := ptsM_d (.inl rfl)
theorem pts_mk {a b c : Int} {d : Bool} : O.lst [.sh (.int a), dkO .int L, .sh (.int b), .sh (.int c), .sh (.bl d)] = ptsM ⟨a, L, b, c, d⟩ (dkO .int L) := rfl
theorem pts_list : dList [ptsD p] = some (ptsM p (.sh (dkD .int p.L))) := rfl
theorem pts_set0 {m : O} {k : Int} : oSet (ptsM p m) (.int 0) (.sh (.int k)) = some (ptsM {p with n := k} m) := rfl
theorem pts_set1 {m m' : O} : oSet (ptsM p m) (.int 1) m' = some (ptsM {p with L := L} m') := rfl
theorem pts_set2 {m : O} {k : Int} : oSet (ptsM p m) (.int 2) (.sh (.int k)) = some (ptsM {p with up := k} m) := rfl
theorem pts_set3 {m : O} {k : Int} : oSet (ptsM p m) (.int 3) (.sh (.int k)) = some (ptsM {p with dn := k} m) := rfl
theorem pts_set4 {m : O} {k : Bool} : oSet (ptsM p m) (.int 4) (.sh (.bl k)) = some (ptsM {p with bl := k} m) := rfl
theorem pts_eqs {n : Nat} (nd : (kys p.L).Nodup) : EqS (n + 3) (ptsD p) := eqs_lst fun d m => by
  simp only [List.mem_cons, List.not_mem_nil, or_false] at m
  rcases m with rfl | rfl | rfl | rfl | rfl
  · exact eqs_int
  · exact eqs_lv nd
  · exact eqs_int
  · exact eqs_int
  · exact eqs_bl
theorem pts_repr (H : CH C) (h : PqOk C p) : dRepr [ptsD p] = some (.sh (.str (rpr (ptsD p)))) := by
  have h1 := h.n1; have h2 := h.n2; have h3 := h.u1; have h4 := h.u2; have h5 := h.d1; have h6 := h.d2
  refine repr_d (w := 5 * (7000 + 2) + 2) (dep := 3) (rps_lst (k := 5) (Nat.le_refl 5) fun d m => ?_) (by decide) (by decide)
  simp only [List.mem_cons, List.not_mem_nil, or_false] at m
  rcases m with rfl | rfl | rfl | rfl | rfl
  · exact (rps_int (by omega) (by omega)).mono (by decide) (by decide)
  · exact (h.mv.ok H).rps (by decide)
  · exact (rps_int (by omega) (by omega)).mono (by decide) (by decide)
  · exact (rps_int (by omega) (by omega)).mono (by decide) (by decide)
  · exact rps_bl.mono (by decide) (by decide)
theorem own_cuO : ownO (cuO r) = true := by
  have h : ownO (dkO D.int r.mv) = true := by
    show ownOk (r.mv.map fun p => ((.inr p.1 : Key), O.sh (.int p.2))) = true
    induction r.mv with
    | nil => rfl
    | cons p L ih => rw [List.map_cons]; unfold ownOk; rw [ih]; rfl
  unfold cuO ownO ownOf ownOf ownOf ownOf ownOf ownOf
  rw [h]; rfl
theorem q_law_parts21 {take : List O → R} (T : TakeOk take) {n : Int} {o : O} (hb : OkB n o) {cs : List Str} (H : CH cs) (nd : cs.Nodup) (hn : n ≤ 800000) :
    wE (fun q ρ => ∃ (p : Pt) (o' : O), q = ptsM p (dkO .int p.L) ∧ ρ = [.b o', .no] ∧ PqOk cs p ∧ OkB (n + 600) o') (f__law_parts_k21 take [o, .sh (chD cs)]) := by
  have hC := H.ln
  have r2 : itRng (.int 2) = some ((List.range 2).map fun (i : Nat) => .int (i : Int)) := itRng_nat (n := 2) (by decide)
  simp? only [f__law_parts_k21, m__law_parts_k21]
  refine (T.w hb (by omega) (by omega) (by omega)).mono ?_; rintro _ _ ⟨x, o1, rfl, rfl, l1, u1, b1⟩
  simp? only [DL.wE_ok]
  refine (T.w b1 (by omega) (by omega) (by omega)).mono ?_; rintro _ _ ⟨y, o2, rfl, rfl, l2, u2, b2⟩
  obtain ⟨v, e, hv⟩ := ix_ints4 (a := 1) (b := 99999) (c := 100) (d := 1 + x) l2 u2
  simp? only [e, r2]
  refine wLcD (fun acc ρ => ∃ (ts : List Int) (o' : O), acc = ts.map (fun t => .sh (.int t)) ∧ (∀ t ∈ ts, 0 ≤ t ∧ t ≤ 9999) ∧ ρ = [.b o', .v (.sh (chD cs)), .v (.sh (.int v)), .no, .no] ∧ OkB (n + 2 + 2 * acc.length) o') (by simp) ⟨[], o2, rfl, fun _ m => (nomatch m), rfl, b2.mono (by simp; omega)⟩ ?_ ?_
  · rintro k mk acc ρ hacc ⟨ts, o', rfl, hts, rfl, hB⟩
    simp at hacc hB
    simp? only [DL.wE_ok]
    refine (T.w hB (by omega) (by omega) (by omega)).mono ?_; rintro _ _ ⟨z, o3, rfl, rfl, l3, u3, b3⟩
    simp? only [DL.wE_ok]
    refine (T.w b3 (by omega) (by omega) (by omega)).mono ?_; rintro _ _ ⟨z2, o4, rfl, rfl, l4, u4, b4⟩
    obtain ⟨t, e2, ht⟩ := ix_ints4 (a := 0) (b := 9999) (c := 10) (d := z) l4 u4
    simp? only [e2]
    refine ⟨ts ++ [t], o4, by simp, ?_, rfl, b4.mono (by simp; omega)⟩
    intro t' m
    rcases List.mem_append.mp m with m | m
    · exact hts t' m
    · rw [List.mem_singleton.mp m]; omega
  · rintro os ρ hos ⟨ts, o', rfl, hts, rfl, hB⟩
    simp at hos hB
    obtain ⟨t1, t2, rfl⟩ : ∃ t1 t2, ts = [t1, t2] := by
      rcases ts with _ | ⟨t1, _ | ⟨t2, _ | _⟩⟩ <;> simp at hos
      exact ⟨t1, t2, rfl⟩
    have ht1 := hts t1 (by simp)
    have ht2 := hts t2 (by simp)
    simp? only [DL.wE_ok]
    refine (q_law_drawn T (cs := cs) (least := 0) (hB.mono (m := n + 6) (by simp; omega)) nd (by omega) (by omega) (by decide)).mono ?_
    rintro _ _ ⟨L, o3, rfl, rfl, hL, b3⟩
    have i0 : dIx (.lst [.int t1, .int t2]) (.int 0) = some (.sh (.int t1)) := rfl
    have i1 : dIx (.lst [.int t1, .int t2]) (.int 1) = some (.sh (.int t2)) := rfl
    simp? only [i0, i1]
    refine (T.w b3 (by omega) (by omega) (by omega)).mono ?_; rintro _ _ ⟨z, o4, rfl, rfl, l4, u4, b4⟩
    simp? only [pts_mk]
    exact ⟨⟨v, L, t1, t2, _⟩, o4, rfl, rfl, ⟨by show 1 ≤ v; omega, by show v ≤ 99999; omega, hL.cok, ht1.1, ht1.2, ht2.1, ht2.2⟩, b4.mono (by omega)⟩
theorem q_law_made21 {take : List O → R} (T : TakeOk take) {n : Int} {o : O} (hb : OkB n o) (H : CH C) (hp : PqOk C p) (hn : n ≤ 800000) :
    wE (fun q ρ => ∃ (o' : O), q = cuO p.cu ∧ ρ = [.b o', .no] ∧ OkB (n + 1) o') (f__law_made_k21 take [o, .sh (ptsD p)]) := by
  have ll := hp.mv.len H
  have i1 : f_Cue___init__ [.ins "Cue" [], .sh (.int p.n), .sh (dkD .int p.L), .sh (.int p.up), .sh .non, .sh (.bl p.bl)] = .ok (.sh .non) [.b (cuO ⟨p.n, srt p.L, p.up, p.up, p.bl⟩), .no, .no, .no, .no, .no] := q_Cue_init H (dn := none) ⟨hp.n1, hp.n2⟩ hp.mv ⟨hp.u1, hp.u2⟩ (fun _ e => nomatch e)
  have i2 := q_Cue_init5 H (b := p.bl) ⟨hp.n1, hp.n2⟩ hp.mv ⟨hp.u1, hp.u2⟩ ⟨hp.d1, hp.d2⟩
  have i3 : f_Cue___init__ [.ins "Cue" [], .sh (.int p.n), .sh (dkD .int p.L), .sh (.int 0), .sh .non, .sh (.bl false)] = .ok (.sh .non) [.b (cuO ⟨p.n, srt p.L, 0, 0, false⟩), .no, .no, .no, .no, .no] := q_Cue_init H (dn := none) ⟨hp.n1, hp.n2⟩ hp.mv (by decide) (fun _ e => nomatch e)
  have c2 : (Cu.mk p.n (srt p.L) p.up p.dn p.bl) = p.cu := rfl
  rw [c2] at i2
  simp? only [f__law_made_k21, m__law_made_k21]
  refine (T.w hb (by omega) (by omega) (by omega)).mono ?_; rintro _ _ ⟨w, o1, rfl, rfl, l1, u1, b1⟩
  have k1 : w = 0 ∨ w = 1 ∨ w = 2 := by omega
  have hst := oset_dk (f := D.int) (c := Str.ofString "late") (v := 1) (o := .sh (.int 1)) (L := p.L) (show p.L.length < 1000000 by omega) rfl
  by_cases ud : p.up = p.dn
  · have fud : (p.up = p.dn) = True := eq_true ud
    have e1 : (Cu.mk p.n (srt p.L) p.up p.up p.bl) = p.cu := by unfold Pt.cu; rw [ud]
    rw [e1] at i1
    rcases k1 with rfl | rfl | rfl
    · simp? only [fud, i1, pts_view, pts_0, pts_1, pts_2, pts_3, pts_4, pts_cut2, eq_tail, eMakeD_ev, pmD_cons, pmD_nil, makeR_ok, own_cuO, Int.reduceEq, hst]
      exact ⟨o1, rfl, b1⟩
    · cases ht : (p.up == 0 && (p.dn == 0 && p.bl == false)) with
      | true =>
        have e2 : (Cu.mk p.n (srt p.L) 0 0 false) = p.cu := by
          simp only [Bool.and_eq_true, beq_iff_eq] at ht
          unfold Pt.cu; rw [ht.1, ht.2.1, ht.2.2]
        rw [e2] at i3
        simp? only [fud, ht, i3, pts_view, pts_0, pts_1, pts_2, pts_3, pts_4, pts_cut2, eq_tail, eMakeD_ev, pmD_cons, pmD_nil, makeR_ok, own_cuO, Int.reduceEq, hst]
        exact ⟨o1, rfl, b1⟩
      | false =>
        simp? only [fud, ht, i2, pts_view, pts_0, pts_1, pts_2, pts_3, pts_4, pts_cut2, eq_tail, eMakeD_ev, pmD_cons, pmD_nil, makeR_ok, own_cuO, Int.reduceEq, hst]
        exact ⟨o1, rfl, b1⟩
    · simp? only [fud, i1, pts_view, pts_0, pts_1, pts_2, pts_3, pts_4, pts_cut2, eq_tail, eMakeD_ev, pmD_cons, pmD_nil, makeR_ok, own_cuO, Int.reduceEq, hst]
      exact ⟨o1, rfl, b1⟩
  · have fud : (p.up = p.dn) = False := eq_false ud
    rcases k1 with rfl | rfl | rfl
    · simp? only [fud, i2, pts_view, pts_0, pts_1, pts_2, pts_3, pts_4, pts_cut2, eq_tail, eMakeD_ev, pmD_cons, pmD_nil, makeR_ok, own_cuO, Int.reduceEq, hst]
      exact ⟨o1, rfl, b1⟩
    · cases ht : (p.up == 0 && (p.dn == 0 && p.bl == false)) with
      | true =>
        simp only [Bool.and_eq_true, beq_iff_eq] at ht
        exact absurd (ht.1.trans ht.2.1.symm) ud
      | false =>
        simp? only [fud, ht, i2, pts_view, pts_0, pts_1, pts_2, pts_3, pts_4, pts_cut2, eq_tail, eMakeD_ev, pmD_cons, pmD_nil, makeR_ok, own_cuO, Int.reduceEq, hst]
        exact ⟨o1, rfl, b1⟩
    · simp? only [fud, i2, pts_view, pts_0, pts_1, pts_2, pts_3, pts_4, pts_cut2, eq_tail, eMakeD_ev, pmD_cons, pmD_nil, makeR_ok, own_cuO, Int.reduceEq, hst]
      exact ⟨o1, rfl, b1⟩
def sputK (i : Nat) (ps : List PStep) (kd : D) (o : O) (ρ1 : En) (so : Option O) : Out := match so.bind fun oi => (rsv ρ1 ps oi).map fun pq => (oi, pq) with
  | some x => match untag x.2.2, keyD kd with
    | .dct kos, some k => if kos.length < 1000000 then .next (putPl i ρ1 x (.dct (putO kos k (.sh o.d)))) else .stuck
    | _, _ => .stuck
  | none => .stuck
theorem sPut_ev {i : Nat} {ps : List PStep} {kd : D} {mv : E} : sPut i ps kd mv ρ = (mv ρ).toO fun o ρ1 => sputK i ps kd o ρ1 (slO (ρ1.getD i .no)) := rfl
theorem sputK_pts {i : Nat} {c : Str} {v : Int} (h : p.L.length < 1000000) : sputK i [.ix 1] (.str c) (.sh (.int v)) ρ (some (ptsM p (dkO .int p.L))) = .next (ρ.set i ((ρ.getD i .no).re (ptsM p (dkO .int (putL p.L c v))))) := by
  show (if (p.L.map _).length < 1000000 then Out.next (putPl i ρ (ptsM p (dkO .int p.L), [1], dkO .int p.L) (.dct (putO (p.L.map fun p => ((.inr p.1 : Key), O.sh (.int p.2))) (.inr c) (.sh (.int v))))) else .stuck) = _
  rw [if_pos (by rw [List.length_map]; exact h), putO_map]
  rfl
theorem q_law_right21 (H : CH C) (hp : PqOk C p) : f__law_right_k21 [.sh (cuD p.cu), .sh (ptsD p)] = .ok (.sh (.bl true)) [.no, .no] := by
  have ll := hp.mv.len H
  have r2 : itRng (.int 2) = some ((List.range 2).map fun (i : Nat) => .int (i : Int)) := itRng_nat (n := 2) (by decide)
  have hq : PqOk C ⟨p.n, srt p.L, p.up, p.dn, p.bl⟩ := ⟨hp.n1, hp.n2, hp.mv.srt, hp.u1, hp.u2, hp.d1, hp.d2⟩
  have lq := hq.mv.len H
  have hne := ne_self_d (pts_eqs (n := 57) hq.mv.nd)
  have hre := pts_repr H hq
  have hd := @ptsM_dk ⟨p.n, srt p.L, p.up, p.dn, p.bl⟩
  have hput := @sputK_pts
  have c1 : p.cu.n = p.n := rfl
  have c2 : p.cu.mv = srt p.L := rfl
  have c3 : p.cu.up = p.up := rfl
  have c4 : p.cu.dn = p.dn := rfl
  have c5 : p.cu.bl = p.bl := rfl
  generalize hQ : (Pt.mk p.n (srt p.L) p.up p.dn p.bl) = Q at *
  have hQ' : ptsM (Pt.mk p.n (srt p.L) p.up p.dn p.bl) (dkO .int (srt p.L)) = ptsM Q (dkO .int Q.L) := by rw [← hQ]
  have : wE (fun o ρ => o = .sh (.bl true) ∧ ρ = [.no, .no]) (f__law_right_k21 [.sh (cuD p.cu), .sh (ptsD p)]) := by
    simp? only [f__law_right_k21, m__law_right_k21, pts_view, pts_0, pts_1, pts_2, pts_3, pts_4, q_law_sorted hp.mv.nd (show p.L.length < 64 by omega), pts_mk, hQ', r2]
    refine wInv (fun ρ => ∃ s3 s4, fS s3 ∧ fS s4 ∧ ρ = [.v (.sh (cuD p.cu)), .v (.sh (ptsD p)), .v (ptsM Q (dkO .int Q.L)), s3, s4]) ⟨_, _, fS_no, fS_no, rfl⟩ ?_ ?_
    · rintro k mk ρ ⟨s3, s4, h3, h4, rfl⟩
      simp? only [frS_f h3, frS_f h4, eMet_ev, cu_view, cu_met nm_number, q_Cue_number, cu_met nm_moves, q_Cue_moves, cu_met nm_up, q_Cue_up, cu_met nm_down, q_Cue_down, cu_met nm_block, q_Cue_block, c1, c2, c3, c4, c5, pts_mk, hQ', eIsC_ev, cu_isC, isCK_some, hd, pts_view, hne, hre, sPut_ev, hput (p := Q) (show Q.L.length < 1000000 by omega)]
      exact ⟨_, _, fS_v, fS_v, rfl⟩
    · rintro ρ ⟨s3, s4, h3, h4, rfl⟩
      simp? only [DL.wE_ok]
  obtain ⟨o, ρ, e, rfl, rfl⟩ := this.ex
  exact e
theorem in_l2 {w a b : Int} : dIn (.int w) (.lst [.int a, .int b]) = some (.sh (.bl (decide (w = a ∨ w = b)))) := by
  show dIn (.int w) (itsD [a, b]) = _
  rw [in_its]
  simp
theorem ne_dct0 : dNe (dkD .int L) (.dct (O.dk [])) = some (.sh (.bl (!L.isEmpty))) := by
  cases L with
  | nil => rfl
  | cons p L => rfl
theorem drop_cut {cs : List Str} : cutG cs (some 1) none = cs.drop 1 := cutG_drop (k := 1)
theorem q_law_otherwise21 {take : List O → R} (T : TakeOk take) {n : Int} {o : O} (hb : OkB n o) {cs : List Str} (H : CH cs) (nd : cs.Nodup) (hp : PqOk cs p) (hn : n ≤ 800000) :
    wE (fun q ρ => ∃ (p' : Pt) (m : O) (o' : O), q = ptsM p' m ∧ MvO m p'.L ∧ ρ = [.b o', .no, .no] ∧ PqOk cs p' ∧ OkB (n + 600) o') (f__law_otherwise_k21 take [o, .sh (ptsD p), .sh (chD cs)]) := by
  have hC := H.ln
  have ll := hp.mv.len H
  simp? only [f__law_otherwise_k21, m__law_otherwise_k21, pts_view, pts_list, sPar_w]
  refine (T.w hb (by omega) (by omega) (by omega)).mono ?_; rintro _ _ ⟨w, o1, rfl, rfl, l1, u1, b1⟩
  have k1 : w = 0 ∨ w = 1 ∨ w = 2 ∨ w = 3 ∨ w = 4 ∨ w = 5 ∨ w = 6 := by omega
  rcases k1 with rfl | rfl | rfl | rfl | rfl | rfl | rfl
  · simp? only [pts_view, pts_0, pts_1, pts_2, pts_3, pts_4, in_l2, Int.reduceEq, or_self, false_or, or_false, mod_int, pts_set0]
    have := Int.emod_nonneg p.n (show (99999 : Int) ≠ 0 by decide)
    have := Int.emod_lt_of_pos p.n (show (0 : Int) < 99999 by decide)
    exact ⟨_, _, o1, rfl, .inr rfl, rfl, ⟨by show 1 ≤ p.n % 99999 + 1; omega, by show p.n % 99999 + 1 ≤ 99999; omega, hp.mv, hp.u1, hp.u2, hp.d1, hp.d2⟩, b1.mono (by omega)⟩
  · simp? only [pts_view, pts_0, pts_1, pts_2, pts_3, pts_4, in_l2, Int.reduceEq, or_self, false_or, or_false]
    refine (q_law_drawn T (cs := cs) (least := 0) b1 nd (by omega) (by omega) (by decide)).mono ?_
    rintro _ _ ⟨L, o3, rfl, rfl, hL, b3⟩
    simp? only [pts_set1 (L := L), pts_view, pts_0, pts_1, pts_2, pts_3, pts_4, in_l2, Int.reduceEq, or_self, false_or, or_false]
    exact ⟨{p with L := L}, _, o3, rfl, .inl rfl, rfl, ⟨hp.n1, hp.n2, hL.cok, hp.u1, hp.u2, hp.d1, hp.d2⟩, b3.mono (by omega)⟩
  · simp? only [pts_view, pts_0, pts_1, pts_2, pts_3, pts_4, in_l2, Int.reduceEq, or_self, false_or, or_false, mod_int, pts_set2]
    have := Int.emod_nonneg (p.up + 1) (show (10000 : Int) ≠ 0 by decide)
    have := Int.emod_lt_of_pos (p.up + 1) (show (0 : Int) < 10000 by decide)
    exact ⟨_, _, o1, rfl, .inr rfl, rfl, ⟨hp.n1, hp.n2, hp.mv, by show 0 ≤ (p.up + 1) % 10000; omega, by show (p.up + 1) % 10000 ≤ 9999; omega, hp.d1, hp.d2⟩, b1.mono (by omega)⟩
  · simp? only [pts_view, pts_0, pts_1, pts_2, pts_3, pts_4, in_l2, Int.reduceEq, or_self, false_or, or_false, mod_int, pts_set3]
    have := Int.emod_nonneg (p.dn + 1) (show (10000 : Int) ≠ 0 by decide)
    have := Int.emod_lt_of_pos (p.dn + 1) (show (0 : Int) < 10000 by decide)
    exact ⟨_, _, o1, rfl, .inr rfl, rfl, ⟨hp.n1, hp.n2, hp.mv, hp.u1, hp.u2, by show 0 ≤ (p.dn + 1) % 10000; omega, by show (p.dn + 1) % 10000 ≤ 9999; omega⟩, b1.mono (by omega)⟩
  · simp? only [pts_view, pts_0, pts_1, pts_2, pts_3, pts_4, in_l2, Int.reduceEq, or_self, false_or, or_false, pts_set4]
    exact ⟨_, _, o1, rfl, .inr rfl, rfl, ⟨hp.n1, hp.n2, hp.mv, hp.u1, hp.u2, hp.d1, hp.d2⟩, b1.mono (by omega)⟩
  · simp? only [pts_view, pts_0, pts_1, pts_2, pts_3, pts_4, in_l2, Int.reduceEq, or_self, false_or, or_false, ne_dct0]
    cases hE : p.L.isEmpty with
    | true =>
      simp? only [Bool.true_eq_false]
      exact ⟨_, _, o1, rfl, .inr rfl, rfl, ⟨hp.n1, hp.n2, hp.mv, hp.u1, hp.u2, hp.d1, hp.d2⟩, b1.mono (by omega)⟩
    | false =>
      have hk : (kys p.L).length = p.L.length := by simp [kys]
      simp? only [pts_view, pts_0, pts_1, pts_2, pts_3, pts_4, in_l2, Int.reduceEq, or_self, false_or, or_false, sl_ch, drop_cut]
      refine wLc (fun ρ => ρ = [.b o1, .v (.sh (ptsD p)), .v (.sh (chD cs)), .v (ptsM p (.sh (dkD .int p.L))), .v (.sh (.int 5)), .no]) (fun c => .sh (.tup [.str c, .int (gD p.L c)])) (by rw [List.length_drop]; omega) rfl ?_ ?_
      · rintro c m ρ rfl
        obtain ⟨v, hv⟩ := Option.isSome_iff_exists.mp (mem_kys.mp (List.mem_of_mem_drop m))
        simp? only [pts_view, pts_0, pts_1, pts_2, pts_3, pts_4, in_l2, Int.reduceEq, or_self, false_or, or_false, ix_dk hv, gD_get hv]
      · rintro ρ rfl
        have e : O.lst (((kys p.L).drop 1).map fun c => .sh (.tup [.str c, .int (gD p.L c)])) = O.lst ((((kys p.L).drop 1).map fun c => (c, gD p.L c)).map fun q => O.sh (.tup [.str q.1, .int q.2])) := by rw [List.map_map]; rfl
        rw [e]
        have hm : COk 0 cs (mrg [] (((kys p.L).drop 1).map fun c => (c, gD p.L c))) := mrg_cok fun q mq => by
          obtain ⟨c, mc, rfl⟩ := List.mem_map.mp mq
          have mc := List.mem_of_mem_drop mc
          obtain ⟨v, hv⟩ := Option.isSome_iff_exists.mp (mem_kys.mp mc)
          have h0 := hp.mv.lo _ (getL_mem hv)
          have h1 := hp.mv.hi _ (getL_mem hv)
          dsimp only at h0 h1 ⊢
          rw [gD_get hv]
          exact ⟨hp.mv.sub c mc, h0, h1⟩
        simp? only [ds_pairs, pts_set1 (L := mrg [] (((kys p.L).drop 1).map fun c => (c, gD p.L c))), pts_view, pts_0, pts_1, pts_2, pts_3, pts_4, in_l2, Int.reduceEq, or_self, false_or, or_false]
        exact ⟨{p with L := mrg [] (((kys p.L).drop 1).map fun c => (c, gD p.L c))}, _, o1, rfl, .inl rfl, rfl, ⟨hp.n1, hp.n2, hm, hp.u1, hp.u2, hp.d1, hp.d2⟩, b1.mono (by omega)⟩
  · simp? only [pts_view, pts_0, pts_1, pts_2, pts_3, pts_4, in_l2, Int.reduceEq, or_self, false_or, or_false]
    exact ⟨_, _, o1, rfl, .inr rfl, rfl, hp, b1.mono (by omega)⟩
end
end DH
set_option Elab.async false
set_option linter.all false
set_option maxRecDepth 100000
set_option autoImplicit false
set_option maxHeartbeats 4000000
namespace K21
open PySem PySem.Spec PyProof.Rows L2 DL
def top (i : Nat) : Stmt := PySem.Challenge.pw_cuetrack_k21_cues_made.main.body.getD i (.Pass ⟨0, 0, 0, 0⟩)
structure Txt (g : Gb) (mg : Str → Option Value) (base : Heap) : Prop where
  sys : ∃ mm, base.Ns sysModules mm
  s_Cue_0_number_moves : ShpI g "Cue" 0 ["number", "moves"] [0, 1, 2, 3, 4] [.int 0, .non, .bl false]
  s_Cue_2_block_down_up : ShpI g "Cue" 2 ["block", "down", "up"] [0, 1, 4, 3, 2] []
  s_Cue_2_down_block_up : ShpI g "Cue" 2 ["down", "block", "up"] [0, 1, 4, 2, 3] []
  s_Cue_2_up_block : ShpI g "Cue" 2 ["up", "block"] [0, 1, 2, 4, 3] [.non]
  s_Cue_2_up_down_block : ShpI g "Cue" 2 ["up", "down", "block"] [0, 1, 2, 3, 4] []
  s_Cue_with_number_0_number : ShpM g "Cue" "with_number" 0 ["number"] [0] []
  ck_Cue : ClsK g ["Cue"]
  eq_Cue : EqAp g "Cue"
  fo_Cue__block : FldOk g ["Cue"] "_block"
  fo_Cue__down : FldOk g ["Cue"] "_down"
  fo_Cue__moves : FldOk g ["Cue"] "_moves"
  fo_Cue__number : FldOk g ["Cue"] "_number"
  fo_Cue__up : FldOk g ["Cue"] "_up"
  mg_Cue : mg "Cue" = some (.ref (g.cn "Cue"))
  d_is_whole : DefT g mg "is_whole" (top 10) ["value", "low", "high"] []
  d_is_channel : DefG g mg base "is_channel" (top 11) ["value"] [] none
  d_is_level : DefT g mg "is_level" (top 12) ["value"] []
  d_is_number : DefT g mg "is_number" (top 13) ["value"] []
  d_is_time : DefT g mg "is_time" (top 14) ["value"] []
  d_number_text : DefT g mg "number_text" (top 15) ["number"] []
  d_time_text : DefT g mg "time_text" (top 16) ["time"] []
  d_is_moves : DefG g mg base "is_moves" (top 19) ["value"] [] none
  d_need_moves : DefT g mg "need_moves" (top 20) ["value"] []
  d_pairs_text : DefT g mg "pairs_text" (top 21) ["levels"] []
  d__law_cell : DefT g mg "_law_cell" (top 25) ["script", "k"] []
  d__law_box : DefT g mg "_law_box" (top 26) ["cell"] []
  d__law_take : DefT g mg "_law_take" (top 27) ["box", "many"] []
  d__law_channels : DefT g mg "_law_channels" (top 28) ["box", "many"] []
  d__law_level : DefT g mg "_law_level" (top 29) ["box"] []
  d__law_sorted : DefT g mg "_law_sorted" (top 30) ["levels"] []
  d__law_drawn : DefT g mg "_law_drawn" (top 31) ["box", "channels", "least"] []
  d__law_parts : DefT g mg "_law_parts" (top 32) ["box", "channels"] []
  d_Cue___init__ : DefI g mg "Cue" "Cue" "Cue.__init__" (defIn (top 23) 0)
  d__law_made : DefT g mg "_law_made" (top 33) ["box", "parts"] []
  d_Cue_number : DefM g "Cue" "number" "Cue.number" (defIn (top 23) 5) ["self"] []
  d_Cue_moves : DefM g "Cue" "moves" "Cue.moves" (defIn (top 23) 6) ["self"] []
  d_Cue_up : DefM g "Cue" "up" "Cue.up" (defIn (top 23) 7) ["self"] []
  d_Cue_down : DefM g "Cue" "down" "Cue.down" (defIn (top 23) 8) ["self"] []
  d_Cue_block : DefM g "Cue" "block" "Cue.block" (defIn (top 23) 9) ["self"] []
  d__law_right : DefT g mg "_law_right" (top 34) ["cue", "parts"] []
  d__law_otherwise : DefT g mg "_law_otherwise" (top 35) ["box", "parts", "channels"] []
  d_Cue_with_moves : DefM g "Cue" "with_moves" "Cue.with_moves" (defIn (top 23) 10) ["self", "moves"] []
  d_Cue_with_number : DefM g "Cue" "with_number" "Cue.with_number" (defIn (top 23) 11) ["self", "number"] []
  d_Cue_with_block : DefM g "Cue" "with_block" "Cue.with_block" (defIn (top 23) 12) ["self", "block"] []
  d_Cue_text : DefM g "Cue" "text" "Cue.text" (defIn (top 23) 13) ["self"] []
  d_Cue___str__ : DefM g "Cue" "__str__" "Cue.__str__" (defIn (top 23) 2) ["self"] []
  d_Cue_parts : DefM g "Cue" "parts" "Cue.parts" (defIn (top 23) 4) ["self"] []
  d_Cue___eq__ : DefM g "Cue" "__eq__" "Cue.__eq__" (defIn (top 23) 1) ["self", "other"] []
  d_law : DefT g mg "law" (top 36) ["script"] []
  b_all : mg "all" = none
  b_bool : mg "bool" = none
  b_dict : mg "dict" = none
  b_divmod : mg "divmod" = none
  b_int : mg "int" = none
  b_isinstance : mg "isinstance" = none
  b_len : mg "len" = none
  b_list : mg "list" = none
  b_max : mg "max" = none
  b_min : mg "min" = none
  b_range : mg "range" = none
  b_repr : mg "repr" = none
  b_sorted : mg "sorted" = none
  b_str : mg "str" = none
  b_tuple : mg "tuple" = none
  c_LETTERS : ∃ u, mg "LETTERS" = some u ∧ RelV (.str "abcdefghijklmnopqrstuvwxyz") u
  c_MOST_CHANNELS : ∃ u, mg "MOST_CHANNELS" = some u ∧ RelV (.int 60) u
  c_MOST_NUMBER : ∃ u, mg "MOST_NUMBER" = some u ∧ RelV (.int 99999) u
  c_MOST_TIME : ∃ u, mg "MOST_TIME" = some u ∧ RelV (.int 9999) u
  x_NoFlag : ExD g mg "NoFlag" "CueError" "value" "value" "NoFlag.__init__" (defIn (top 5) 0)
  x_NoMoves : ExD g mg "NoMoves" "CueError" "value" "value" "NoMoves.__init__" (defIn (top 4) 0)
  x_NoNumber : ExD g mg "NoNumber" "CueError" "value" "value" "NoNumber.__init__" (defIn (top 2) 0)
  x_NoTime : ExD g mg "NoTime" "CueError" "value" "value" "NoTime.__init__" (defIn (top 3) 0)
abbrev sx_NoFlag : Stmt := defIn (top 5) 0
theorem ok_x_NoFlag {P : Program} {w : World} {mg : Str → Option Value} {base : Heap} {g : Gb} (T : Txt g mg base) : ExT P w mg base g 1 "NoFlag" "value" :=
  exT_of (msg := "not True or False") T.x_NoFlag ⟨rfl, rfl, rfl, by decide +kernel, rfl, by decide +kernel, by decide +kernel⟩ fun B mc f cdv A outer s H E hm hga hr hv =>
    pss_cons (ps_expr (pe_cinit (by rfl) hm hga hr hv (pa_cons (pe_var (i := 0) (by rfl) (Or.inl rfl)) (pa_cons pe_str pa_nil)))) (pss_cons (ps_ost (pe_var (i := 0) (by rfl) (Or.inl rfl)) (pe_var (i := 1) (by rfl) (Or.inl rfl))) pss_nil)
abbrev sx_NoMoves : Stmt := defIn (top 4) 0
theorem ok_x_NoMoves {P : Program} {w : World} {mg : Str → Option Value} {base : Heap} {g : Gb} (T : Txt g mg base) : ExT P w mg base g 1 "NoMoves" "value" :=
  exT_of (msg := "not moves") T.x_NoMoves ⟨rfl, rfl, rfl, by decide +kernel, rfl, by decide +kernel, by decide +kernel⟩ fun B mc f cdv A outer s H E hm hga hr hv =>
    pss_cons (ps_expr (pe_cinit (by rfl) hm hga hr hv (pa_cons (pe_var (i := 0) (by rfl) (Or.inl rfl)) (pa_cons pe_str pa_nil)))) (pss_cons (ps_ost (pe_var (i := 0) (by rfl) (Or.inl rfl)) (pe_var (i := 1) (by rfl) (Or.inl rfl))) pss_nil)
abbrev sx_NoNumber : Stmt := defIn (top 2) 0
theorem ok_x_NoNumber {P : Program} {w : World} {mg : Str → Option Value} {base : Heap} {g : Gb} (T : Txt g mg base) : ExT P w mg base g 1 "NoNumber" "value" :=
  exT_of (msg := "not a cue number") T.x_NoNumber ⟨rfl, rfl, rfl, by decide +kernel, rfl, by decide +kernel, by decide +kernel⟩ fun B mc f cdv A outer s H E hm hga hr hv =>
    pss_cons (ps_expr (pe_cinit (by rfl) hm hga hr hv (pa_cons (pe_var (i := 0) (by rfl) (Or.inl rfl)) (pa_cons pe_str pa_nil)))) (pss_cons (ps_ost (pe_var (i := 0) (by rfl) (Or.inl rfl)) (pe_var (i := 1) (by rfl) (Or.inl rfl))) pss_nil)
abbrev sx_NoTime : Stmt := defIn (top 3) 0
theorem ok_x_NoTime {P : Program} {w : World} {mg : Str → Option Value} {base : Heap} {g : Gb} (T : Txt g mg base) : ExT P w mg base g 1 "NoTime" "value" :=
  exT_of (msg := "not a time") T.x_NoTime ⟨rfl, rfl, rfl, by decide +kernel, rfl, by decide +kernel, by decide +kernel⟩ fun B mc f cdv A outer s H E hm hga hr hv =>
    pss_cons (ps_expr (pe_cinit (by rfl) hm hga hr hv (pa_cons (pe_var (i := 0) (by rfl) (Or.inl rfl)) (pa_cons pe_str pa_nil)))) (pss_cons (ps_ost (pe_var (i := 0) (by rfl) (Or.inl rfl)) (pe_var (i := 1) (by rfl) (Or.inl rfl))) pss_nil)
abbrev s_is_whole : Stmt := top 10
theorem sc_is_whole : FnScope ["value", "low", "high"] ["value", "low", "high"] (defScope s_is_whole) := ⟨rfl, rfl, rfl, by decide +kernel, rfl, by decide +kernel, by decide +kernel⟩
theorem ok_is_whole {P : Program} {w : World} {mg : Str → Option Value} {base : Heap} {g : Gb} (T : Txt g mg base) : Cal P w mg base g 1 "is_whole" 3 [] DH.f_is_whole :=
  cal_ok (j := 0) (N := ["value", "low", "high"]) T.d_is_whole sc_is_whole rfl rfl rfl fun f cdv A outer s H E hr hgd => by
    have C := cxt_def (g := g) (mg := mg) (P := P) (w := w) (base := base) (E := E) (outer := outer) (s := s) (H := H) (f := f) (cd := cdv) (A := A) (qual := "is_whole") (scope := defScope s_is_whole) sc_is_whole.nd hr hgd T.sys
    exact (sd_one (sd_ret (pd_and (pd_isinstance C T.b_isinstance (ad_cons (pd_var 0) (ad_cons (pd_gty T.b_int bootT_int) ad_nil))) (pd_and (pd_not (pd_isinstance C T.b_isinstance (ad_cons (pd_var 0) (ad_cons (pd_gty T.b_bool bootT_bool) ad_nil)))) (pd_one (pd_chnLL (pd_var 1) (pd_var 0) (pd_var 2)))))))
abbrev s_is_channel : Stmt := top 11
theorem sc_is_channel : FnScope ["value", "sign"] ["value"] (defScope s_is_channel) := ⟨rfl, rfl, rfl, by decide +kernel, rfl, by decide +kernel, by decide +kernel⟩
theorem ok_is_channel {P : Program} {w : World} {mg : Str → Option Value} {base : Heap} {g : Gb} (T : Txt g mg base) : Cal P w mg base g 2 "is_channel" 1 [] DH.f_is_channel :=
  cal_okG (j := 1) (N := ["value", "sign"]) T.d_is_channel sc_is_channel rfl rfl rfl fun f cdv A outer s H E KA hr hgd => by
    have C := cxt_def (g := g) (mg := mg) (P := P) (w := w) (base := base) (E := E) (outer := outer) (s := s) (H := H) (f := f) (cd := cdv) (A := A) (qual := "is_channel") (scope := defScope s_is_channel) sc_is_channel.nd hr hgd T.sys
    exact (sd_cons (sd_if (qd_w (wd_or (qd_not (qd_val (pd_isinstance C T.b_isinstance (ad_cons (pd_var 0) (ad_cons (pd_gty T.b_str bootT_str) ad_nil))))) (wd_or1 (qd_not (qd_chnLL pd_int (pd_len C T.b_len (ad_cons (pd_var 0) ad_nil)) pd_int))))) (sd_one (sd_ret pd_bl)) sd_nil) (sd_one (sd_ret (pd_all ["sign"] C KA T.b_all (id_val C (pd_var 0)) (fun _ _ _ _ _ _ G1 => (gd_nm G1 0)) (fun _ _ _ _ _ _ G1 => (pd_in G1 (pd_var 0) (pd_gstr (T.c_LETTERS).choose_spec.1 (T.c_LETTERS).choose_spec.2)))))))
abbrev s_is_level : Stmt := top 12
theorem sc_is_level : FnScope ["value"] ["value"] (defScope s_is_level) := ⟨rfl, rfl, rfl, by decide +kernel, rfl, by decide +kernel, by decide +kernel⟩
theorem ok_is_level {P : Program} {w : World} {mg : Str → Option Value} {base : Heap} {g : Gb} (T : Txt g mg base) : Cal P w mg base g 2 "is_level" 1 [] DH.f_is_level :=
  cal_ok (j := 1) (N := ["value"]) T.d_is_level sc_is_level rfl rfl rfl fun f cdv A outer s H E hr hgd => by
    have C := cxt_def (g := g) (mg := mg) (P := P) (w := w) (base := base) (E := E) (outer := outer) (s := s) (H := H) (f := f) (cd := cdv) (A := A) (qual := "is_level") (scope := defScope s_is_level) sc_is_level.nd hr hgd T.sys
    exact (sd_one (sd_ret (pd_call C (ok_is_whole T) (ad_cons (pd_var 0) (ad_cons pd_int (ad_cons pd_int ad_nil))))))
abbrev s_is_number : Stmt := top 13
theorem sc_is_number : FnScope ["value"] ["value"] (defScope s_is_number) := ⟨rfl, rfl, rfl, by decide +kernel, rfl, by decide +kernel, by decide +kernel⟩
theorem ok_is_number {P : Program} {w : World} {mg : Str → Option Value} {base : Heap} {g : Gb} (T : Txt g mg base) : Cal P w mg base g 2 "is_number" 1 [] DH.f_is_number :=
  cal_ok (j := 1) (N := ["value"]) T.d_is_number sc_is_number rfl rfl rfl fun f cdv A outer s H E hr hgd => by
    have C := cxt_def (g := g) (mg := mg) (P := P) (w := w) (base := base) (E := E) (outer := outer) (s := s) (H := H) (f := f) (cd := cdv) (A := A) (qual := "is_number") (scope := defScope s_is_number) sc_is_number.nd hr hgd T.sys
    exact (sd_one (sd_ret (pd_call C (ok_is_whole T) (ad_cons (pd_var 0) (ad_cons pd_int (ad_cons (pd_gint (T.c_MOST_NUMBER).choose_spec.1 (T.c_MOST_NUMBER).choose_spec.2) ad_nil))))))
abbrev s_is_time : Stmt := top 14
theorem sc_is_time : FnScope ["value"] ["value"] (defScope s_is_time) := ⟨rfl, rfl, rfl, by decide +kernel, rfl, by decide +kernel, by decide +kernel⟩
theorem ok_is_time {P : Program} {w : World} {mg : Str → Option Value} {base : Heap} {g : Gb} (T : Txt g mg base) : Cal P w mg base g 2 "is_time" 1 [] DH.f_is_time :=
  cal_ok (j := 1) (N := ["value"]) T.d_is_time sc_is_time rfl rfl rfl fun f cdv A outer s H E hr hgd => by
    have C := cxt_def (g := g) (mg := mg) (P := P) (w := w) (base := base) (E := E) (outer := outer) (s := s) (H := H) (f := f) (cd := cdv) (A := A) (qual := "is_time") (scope := defScope s_is_time) sc_is_time.nd hr hgd T.sys
    exact (sd_one (sd_ret (pd_call C (ok_is_whole T) (ad_cons (pd_var 0) (ad_cons pd_int (ad_cons (pd_gint (T.c_MOST_TIME).choose_spec.1 (T.c_MOST_TIME).choose_spec.2) ad_nil))))))
abbrev s_number_text : Stmt := top 15
theorem sc_number_text : FnScope ["number", "whole", "rest"] ["number"] (defScope s_number_text) := ⟨rfl, rfl, rfl, by decide +kernel, rfl, by decide +kernel, by decide +kernel⟩
theorem ok_number_text {P : Program} {w : World} {mg : Str → Option Value} {base : Heap} {g : Gb} (T : Txt g mg base) : Cal P w mg base g 3 "number_text" 1 [] DH.f_number_text :=
  cal_ok (j := 2) (N := ["number", "whole", "rest"]) T.d_number_text sc_number_text rfl rfl rfl fun f cdv A outer s H E hr hgd => by
    have C := cxt_def (g := g) (mg := mg) (P := P) (w := w) (base := base) (E := E) (outer := outer) (s := s) (H := H) (f := f) (cd := cdv) (A := A) (qual := "number_text") (scope := defScope s_number_text) sc_number_text.nd hr hgd T.sys
    exact (sd_cons (sd_if (qd_not (qd_val (pd_call C (ok_is_number T) (ad_cons (pd_var 0) ad_nil)))) (sd_one (sd_raise C (ok_x_NoNumber T) (pd_var 0))) sd_nil) (sd_cons (sd_asg C (pd_divmod C T.b_divmod (ad_cons (pd_var 0) (ad_cons pd_int ad_nil))) (gd_tp C (gd_cons (gd_nm C 1) (gd_cons (gd_nm C 2) gd_nil)))) (sd_cons (sd_if (qd_eq C (pd_var 2) pd_int) (sd_one (sd_ret (pd_str1 C T.b_str (ad_cons (pd_var 1) ad_nil)))) sd_nil) (sd_one (sd_ret (pd_fstr (.cons (pd_fmt (pd_var 1)) (.cons pd_str (.cons (pd_fmt (pd_rstripC (pd_zfill (pd_str1 C T.b_str (ad_cons (pd_var 2) ad_nil)) C pd_int) C pd_str)) .nil)))))))))
abbrev s_time_text : Stmt := top 16
theorem sc_time_text : FnScope ["time", "whole", "rest"] ["time"] (defScope s_time_text) := ⟨rfl, rfl, rfl, by decide +kernel, rfl, by decide +kernel, by decide +kernel⟩
theorem ok_time_text {P : Program} {w : World} {mg : Str → Option Value} {base : Heap} {g : Gb} (T : Txt g mg base) : Cal P w mg base g 3 "time_text" 1 [] DH.f_time_text :=
  cal_ok (j := 2) (N := ["time", "whole", "rest"]) T.d_time_text sc_time_text rfl rfl rfl fun f cdv A outer s H E hr hgd => by
    have C := cxt_def (g := g) (mg := mg) (P := P) (w := w) (base := base) (E := E) (outer := outer) (s := s) (H := H) (f := f) (cd := cdv) (A := A) (qual := "time_text") (scope := defScope s_time_text) sc_time_text.nd hr hgd T.sys
    exact (sd_cons (sd_if (qd_not (qd_val (pd_call C (ok_is_time T) (ad_cons (pd_var 0) ad_nil)))) (sd_one (sd_raise C (ok_x_NoTime T) (pd_var 0))) sd_nil) (sd_cons (sd_asg C (pd_divmod C T.b_divmod (ad_cons (pd_var 0) (ad_cons pd_int ad_nil))) (gd_tp C (gd_cons (gd_nm C 1) (gd_cons (gd_nm C 2) gd_nil)))) (sd_one (sd_ret (pd_if (qd_gt (pd_var 2) pd_int) (pd_fstr (.cons (pd_fmt (pd_var 1)) (.cons pd_str (.cons (pd_fmt (pd_var 2)) .nil)))) (pd_str1 C T.b_str (ad_cons (pd_var 1) ad_nil)))))))
abbrev s_is_moves : Stmt := top 19
theorem sc_is_moves : FnScope ["value", "channel", "level"] ["value"] (defScope s_is_moves) := ⟨rfl, rfl, rfl, by decide +kernel, rfl, by decide +kernel, by decide +kernel⟩
theorem ok_is_moves {P : Program} {w : World} {mg : Str → Option Value} {base : Heap} {g : Gb} (T : Txt g mg base) : Cal P w mg base g 4 "is_moves" 1 [] DH.f_is_moves :=
  cal_okG (j := 3) (N := ["value", "channel", "level"]) T.d_is_moves sc_is_moves rfl rfl rfl fun f cdv A outer s H E KA hr hgd => by
    have C := cxt_def (g := g) (mg := mg) (P := P) (w := w) (base := base) (E := E) (outer := outer) (s := s) (H := H) (f := f) (cd := cdv) (A := A) (qual := "is_moves") (scope := defScope s_is_moves) sc_is_moves.nd hr hgd T.sys
    exact (sd_cons (sd_if (qd_w (wd_or (qd_not (qd_val (pd_isinstance C T.b_isinstance (ad_cons (pd_var 0) (ad_cons (pd_gty T.b_dict bootT_dict) ad_nil))))) (wd_or1 (qd_gt (pd_len C T.b_len (ad_cons (pd_var 0) ad_nil)) (pd_gint (T.c_MOST_CHANNELS).choose_spec.1 (T.c_MOST_CHANNELS).choose_spec.2))))) (sd_one (sd_ret pd_bl)) sd_nil) (sd_one (sd_ret (pd_all ["channel", "level"] C KA T.b_all (id_items (pd_var 0)) (fun _ _ _ _ _ _ G1 => (gd_tp G1 (gd_cons (gd_nm G1 0) (gd_cons (gd_nm G1 1) gd_nil)))) (fun _ _ _ _ _ _ G1 => (pd_and (pd_call G1 (ok_is_channel T) (ad_cons (pd_var 0) ad_nil)) (pd_one (pd_call G1 (ok_is_level T) (ad_cons (pd_var 1) ad_nil)))))))))
abbrev s_need_moves : Stmt := top 20
theorem sc_need_moves : FnScope ["value"] ["value"] (defScope s_need_moves) := ⟨rfl, rfl, rfl, by decide +kernel, rfl, by decide +kernel, by decide +kernel⟩
theorem ok_need_moves {P : Program} {w : World} {mg : Str → Option Value} {base : Heap} {g : Gb} (T : Txt g mg base) : Cal P w mg base g 5 "need_moves" 1 [] DH.f_need_moves :=
  cal_ok (j := 4) (N := ["value"]) T.d_need_moves sc_need_moves rfl rfl rfl fun f cdv A outer s H E hr hgd => by
    have C := cxt_def (g := g) (mg := mg) (P := P) (w := w) (base := base) (E := E) (outer := outer) (s := s) (H := H) (f := f) (cd := cdv) (A := A) (qual := "need_moves") (scope := defScope s_need_moves) sc_need_moves.nd hr hgd T.sys
    exact (sd_one (sd_if (qd_not (qd_val (pd_call C (ok_is_moves T) (ad_cons (pd_var 0) ad_nil)))) (sd_one (sd_raise C (ok_x_NoMoves T) (pd_var 0))) sd_nil))
abbrev s_pairs_text : Stmt := top 21
theorem sc_pairs_text : FnScope ["levels", "channel"] ["levels"] (defScope s_pairs_text) := ⟨rfl, rfl, rfl, by decide +kernel, rfl, by decide +kernel, by decide +kernel⟩
theorem ok_pairs_text {P : Program} {w : World} {mg : Str → Option Value} {base : Heap} {g : Gb} (T : Txt g mg base) : Cal P w mg base g 1 "pairs_text" 1 [] DH.f_pairs_text :=
  cal_ok (j := 0) (N := ["levels", "channel"]) T.d_pairs_text sc_pairs_text rfl rfl rfl fun f cdv A outer s H E hr hgd => by
    have C := cxt_def (g := g) (mg := mg) (P := P) (w := w) (base := base) (E := E) (outer := outer) (s := s) (H := H) (f := f) (cd := cdv) (A := A) (qual := "pairs_text") (scope := defScope s_pairs_text) sc_pairs_text.nd hr hgd T.sys
    exact (sd_one (sd_ret (pd_join pd_str C (pd_lc [("channel", 1)] C (id_val C (pd_sorted C T.b_sorted (ad_cons (pd_var 0) ad_nil))) (fun _ _ _ _ _ B1 => (gd_nm B1 1)) (fun _ _ _ _ _ B1 => (pd_fstr (.cons (pd_fmt (pd_var 1)) (.cons pd_str (.cons (pd_fmt (pd_ix B1 (pd_var 0) (pd_var 1))) .nil)))))))))
abbrev s__law_cell : Stmt := top 25
def m__law_cell : Sm := (sSeq (sIf (eBin dLt (eVar 1) (eCB dLen [(eVar 0)])) (sRet (eBin dIx (eVar 0) (eVar 1))) sNext) (sRet (eBin dAdd (eBin dMul (eC (.int 7907)) (eVar 1)) (eC (.int 21)))))
def f__law_cell : List O → R := mkFn 2 0 [] m__law_cell
theorem sc__law_cell : FnScope ["script", "k"] ["script", "k"] (defScope s__law_cell) := ⟨rfl, rfl, rfl, by decide +kernel, rfl, by decide +kernel, by decide +kernel⟩
theorem ok__law_cell {P : Program} {w : World} {mg : Str → Option Value} {base : Heap} {g : Gb} (T : Txt g mg base) : Cal P w mg base g 1 "_law_cell" 2 [] f__law_cell :=
  cal_ok (j := 0) (N := ["script", "k"]) T.d__law_cell sc__law_cell rfl rfl rfl fun f cdv A outer s H E hr hgd => by
    have C := cxt_def (g := g) (mg := mg) (P := P) (w := w) (base := base) (E := E) (outer := outer) (s := s) (H := H) (f := f) (cd := cdv) (A := A) (qual := "_law_cell") (scope := defScope s__law_cell) sc__law_cell.nd hr hgd T.sys
    exact (sd_cons (sd_if (qd_lt (pd_var 1) (pd_len C T.b_len (ad_cons (pd_var 0) ad_nil))) (sd_one (sd_ret (pd_ix C (pd_var 0) (pd_var 1)))) sd_nil) (sd_one (sd_ret (pd_add (pd_mul pd_int (pd_var 1)) pd_int))))
abbrev s__law_box : Stmt := top 26
theorem sc__law_box : FnScope ["cell"] ["cell"] (defScope s__law_box) := ⟨rfl, rfl, rfl, by decide +kernel, rfl, by decide +kernel, by decide +kernel⟩
theorem ok__law_box {P : Program} {w : World} {mg : Str → Option Value} {base : Heap} {g : Gb} (T : Txt g mg base) : Cal P w mg base g 1 "_law_box" 1 [] DH.f__law_box_k01 :=
  cal_ok (j := 0) (N := ["cell"]) T.d__law_box sc__law_box rfl rfl rfl fun f cdv A outer s H E hr hgd => by
    have C := cxt_def (g := g) (mg := mg) (P := P) (w := w) (base := base) (E := E) (outer := outer) (s := s) (H := H) (f := f) (cd := cdv) (A := A) (qual := "_law_box") (scope := defScope s__law_box) sc__law_box.nd hr hgd T.sys
    exact (sd_one (sd_ret (pd_lst (ad_cons (pd_max C T.b_max (ad_cons pd_int (ad_cons (pd_sub (pd_var 0) (pd_pow pd_int pd_int)) ad_nil))) (ad_cons (pd_mod (pd_var 0) pd_int) (ad_cons (pd_mod (pd_var 0) pd_int) (ad_cons pd_int ad_nil)))))))
abbrev s__law_take : Stmt := top 27
def m__law_take : Sm := (sSeq (sIf (eLend (eBin dGt (eBin dIx (eVar 0) (eC (.int 0))) (eC (.int 0)))) (sSeq (sSet 2 (eBin dMod (ePix 0 (eC (.int 0))) (eVar 1))) (sSeq (sStore 0 (eC (.int 0)) (eBin dFdv (ePix 0 (eC (.int 0))) (eVar 1))) (sRetV 2))) sNext) (sSeq (sStore 0 (eC (.int 3)) (eLend (eBin dAdd (eBin dIx (eVar 0) (eC (.int 3))) (eC (.int 1))))) (sSeq (sSet 3 (ePix 0 (eC (.int 3)))) (sSeq (sSet 4 (eLend (eBin dMod (eBin dPow (eBin dAdd (eBin dAdd (eBin dMul (eBin dIx (eVar 0) (eC (.int 1))) (eBin dAdd (eBin dMul (eC (.int 2)) (eVar 3)) (eC (.int 3)))) (eBin dMul (eBin dMul (eC (.int 6029)) (eVar 3)) (eVar 3))) (eC (.int 21))) (eC (.int 5))) (eC (.int 2147483647))))) (sRet (eLend (eBin dMod (eBin dFdv (eBin dMod (eBin dPow (eBin dAdd (eBin dAdd (eVar 4) (eBin dMul (eBin dIx (eVar 0) (eC (.int 2))) (eVar 3))) (eC (.int 43))) (eC (.int 3))) (eC (.int 2147483579))) (eC (.int 16))) (eVar 1))))))))
def f__law_take : List O → R := mkFn 2 3 [true] m__law_take
theorem sc__law_take : FnScope ["box", "many", "digit", "turn", "one"] ["box", "many"] (defScope s__law_take) := ⟨rfl, rfl, rfl, by decide +kernel, rfl, by decide +kernel, by decide +kernel⟩
theorem ok__law_take {P : Program} {w : World} {mg : Str → Option Value} {base : Heap} {g : Gb} (T : Txt g mg base) : Cal P w mg base g 1 "_law_take" 2 [] f__law_take :=
  cal_ok (j := 0) (N := ["box", "many", "digit", "turn", "one"]) T.d__law_take sc__law_take rfl rfl rfl fun f cdv A outer s H E hr hgd => by
    have C := cxt_def (g := g) (mg := mg) (P := P) (w := w) (base := base) (E := E) (outer := outer) (s := s) (H := H) (f := f) (cd := cdv) (A := A) (qual := "_law_take") (scope := defScope s__law_take) sc__law_take.nd hr hgd T.sys
    exact (sd_cons (sd_if (qd_lend (qd_gt (pd_ix C (pd_var 0) pd_int) pd_int)) (sd_cons (sd_set C 2 (pd_mod (pd_pix C 0 pd_int) (pd_var 1))) (sd_cons (sd_store C 0 (pd_fdv (pd_pix C 0 pd_int) (pd_var 1)) pd_int) (sd_one (sd_retV 2)))) sd_nil) (sd_cons (sd_store C 0 (pd_lend (pd_add (pd_ix C (pd_var 0) pd_int) pd_int)) pd_int) (sd_cons (sd_set C 3 (pd_pix C 0 pd_int)) (sd_cons (sd_set C 4 (pd_lend (pd_mod (pd_pow (pd_add (pd_add (pd_mul (pd_ix C (pd_var 0) pd_int) (pd_add (pd_mul pd_int (pd_var 3)) pd_int)) (pd_mul (pd_mul pd_int (pd_var 3)) (pd_var 3))) pd_int) pd_int) pd_int))) (sd_one (sd_ret (pd_lend (pd_mod (pd_fdv (pd_mod (pd_pow (pd_add (pd_add (pd_var 4) (pd_mul (pd_ix C (pd_var 0) pd_int) (pd_var 3))) pd_int) pd_int) pd_int) pd_int) (pd_var 1)))))))))
abbrev s__law_channels : Stmt := top 28
theorem sc__law_channels : FnScope ["box", "many", "letters", "way", "start", "at", "stem", "k", "words"] ["box", "many"] (defScope s__law_channels) := ⟨rfl, rfl, rfl, by decide +kernel, rfl, by decide +kernel, by decide +kernel⟩
theorem ok__law_channels {P : Program} {w : World} {mg : Str → Option Value} {base : Heap} {g : Gb} (T : Txt g mg base) : Cal P w mg base g 2 "_law_channels" 2 [] (DH.f__law_channels_k11 f__law_take) :=
  cal_ok (j := 1) (N := ["box", "many", "letters", "way", "start", "at", "stem", "k", "words"]) T.d__law_channels sc__law_channels rfl rfl rfl fun f cdv A outer s H E hr hgd => by
    have C := cxt_def (g := g) (mg := mg) (P := P) (w := w) (base := base) (E := E) (outer := outer) (s := s) (H := H) (f := f) (cd := cdv) (A := A) (qual := "_law_channels") (scope := defScope s__law_channels) sc__law_channels.nd hr hgd T.sys
    exact (sd_cons (sd_set C 2 pd_str) (sd_cons (sd_asg C (pd_tup (ad_cons (pd_callB C (ok__law_take T) 0 (ad_cons pd_int ad_nil)) (ad_cons (pd_callB C (ok__law_take T) 0 (ad_cons pd_int ad_nil)) (ad_cons (pd_callB C (ok__law_take T) 0 (ad_cons pd_int ad_nil)) ad_nil)))) (gd_tp C (gd_cons (gd_nm C 3) (gd_cons (gd_nm C 4) (gd_cons (gd_nm C 5) gd_nil))))) (sd_cons (sd_set C 6 (pd_join pd_str C (pd_lc [("k", 7)] C (id_rng1 T.b_range pd_int) (fun _ _ _ _ _ B1 => (gd_nm B1 7)) (fun _ _ _ _ _ B1 => (pd_ix B1 (pd_var 2) (pd_callB B1 (ok__law_take T) 0 (ad_cons pd_int ad_nil))))))) (sd_cons (sd_if (qd_eq C (pd_var 3) pd_int) (sd_cons (sd_set C 8 (pd_split1 pd_str C pd_str)) (sd_one (sd_ret (pd_lc [("k", 7)] C (id_rng1 T.b_range (pd_var 1)) (fun _ _ _ _ _ B2 => (gd_nm B2 7)) (fun _ _ _ _ _ B2 => (pd_ix B2 (pd_var 8) (pd_mod (pd_add (pd_var 4) (pd_mul (pd_ix B2 (pd_lst (ad_cons pd_int (ad_cons pd_int (ad_cons pd_int (ad_cons pd_int ad_nil))))) (pd_mod (pd_var 5) pd_int)) (pd_var 7))) pd_int))))))) sd_nil) (sd_cons (sd_if (qd_w (wd_and (qd_eq C (pd_var 3) pd_int) (wd_and1 (qd_lt (pd_var 1) pd_int)))) (sd_one (sd_ret (pd_lc [("k", 7)] C (id_rng1 T.b_range (pd_var 1)) (fun _ _ _ _ _ B3 => (gd_nm B3 7)) (fun _ _ _ _ _ B3 => (pd_sl B3 (pd_add (pd_ix B3 (pd_var 2) (pd_var 4)) (pd_var 6)) od_none (od_some (pd_add pd_int (pd_mod (pd_add (pd_var 5) (pd_var 7)) pd_int)))))))) sd_nil) (sd_one (sd_ret (pd_lc [("k", 7)] C (id_rng1 T.b_range (pd_var 1)) (fun _ _ _ _ _ B4 => (gd_nm B4 7)) (fun _ _ _ _ _ B4 => (pd_add (pd_add (pd_sl B4 (pd_var 6) od_none (od_some (pd_var 5))) (pd_ix B4 (pd_var 2) (pd_mod (pd_add (pd_var 4) (pd_mul pd_int (pd_var 7))) pd_int))) (pd_sl B4 (pd_var 6) (od_some (pd_var 5)) od_none)))))))))))
abbrev s__law_level : Stmt := top 29
theorem sc__law_level : FnScope ["box"] ["box"] (defScope s__law_level) := ⟨rfl, rfl, rfl, by decide +kernel, rfl, by decide +kernel, by decide +kernel⟩
theorem ok__law_level {P : Program} {w : World} {mg : Str → Option Value} {base : Heap} {g : Gb} (T : Txt g mg base) : Cal P w mg base g 2 "_law_level" 1 [] (DH.f__law_level_k11 f__law_take) :=
  cal_ok (j := 1) (N := ["box"]) T.d__law_level sc__law_level rfl rfl rfl fun f cdv A outer s H E hr hgd => by
    have C := cxt_def (g := g) (mg := mg) (P := P) (w := w) (base := base) (E := E) (outer := outer) (s := s) (H := H) (f := f) (cd := cdv) (A := A) (qual := "_law_level") (scope := defScope s__law_level) sc__law_level.nd hr hgd T.sys
    exact (sd_one (sd_ret (pd_ix C (pd_lst (ad_cons pd_int (ad_cons pd_int (ad_cons (pd_callB C (ok__law_take T) 0 (ad_cons pd_int ad_nil)) (ad_cons (pd_add pd_int (pd_callB C (ok__law_take T) 0 (ad_cons pd_int ad_nil))) ad_nil))))) (pd_callB C (ok__law_take T) 0 (ad_cons pd_int ad_nil)))))
abbrev s__law_sorted : Stmt := top 30
theorem sc__law_sorted : FnScope ["levels", "channel"] ["levels"] (defScope s__law_sorted) := ⟨rfl, rfl, rfl, by decide +kernel, rfl, by decide +kernel, by decide +kernel⟩
theorem ok__law_sorted {P : Program} {w : World} {mg : Str → Option Value} {base : Heap} {g : Gb} (T : Txt g mg base) : Cal P w mg base g 1 "_law_sorted" 1 [] DH.f__law_sorted_k11 :=
  cal_ok (j := 0) (N := ["levels", "channel"]) T.d__law_sorted sc__law_sorted rfl rfl rfl fun f cdv A outer s H E hr hgd => by
    have C := cxt_def (g := g) (mg := mg) (P := P) (w := w) (base := base) (E := E) (outer := outer) (s := s) (H := H) (f := f) (cd := cdv) (A := A) (qual := "_law_sorted") (scope := defScope s__law_sorted) sc__law_sorted.nd hr hgd T.sys
    exact (sd_one (sd_ret (pd_dict C T.b_dict (ad_cons (pd_lc [("channel", 1)] C (id_val C (pd_sorted C T.b_sorted (ad_cons (pd_var 0) ad_nil))) (fun _ _ _ _ _ B1 => (gd_nm B1 1)) (fun _ _ _ _ _ B1 => (pd_tup (ad_cons (pd_var 1) (ad_cons (pd_ix B1 (pd_var 0) (pd_var 1)) ad_nil))))) ad_nil))))
abbrev s__law_drawn : Stmt := top 31
theorem sc__law_drawn : FnScope ["box", "channels", "least", "left", "found", "turn"] ["box", "channels", "least"] (defScope s__law_drawn) := ⟨rfl, rfl, rfl, by decide +kernel, rfl, by decide +kernel, by decide +kernel⟩
theorem ok__law_drawn {P : Program} {w : World} {mg : Str → Option Value} {base : Heap} {g : Gb} (T : Txt g mg base) : Cal P w mg base g 3 "_law_drawn" 3 [] (DH.f__law_drawn_k11 f__law_take) :=
  cal_ok (j := 2) (N := ["box", "channels", "least", "left", "found", "turn"]) T.d__law_drawn sc__law_drawn rfl rfl rfl fun f cdv A outer s H E hr hgd => by
    have C := cxt_def (g := g) (mg := mg) (P := P) (w := w) (base := base) (E := E) (outer := outer) (s := s) (H := H) (f := f) (cd := cdv) (A := A) (qual := "_law_drawn") (scope := defScope s__law_drawn) sc__law_drawn.nd hr hgd T.sys
    exact (sd_cons (sd_par C 3 4 (ad_cons (pd_list C T.b_list (ad_cons (pd_var 1) ad_nil)) (ad_cons pd_dct0 ad_nil))) (sd_cons (sd_for C (id_rng1 T.b_range (pd_callB C (ok__law_take T) 0 (ad_cons (pd_add (pd_len C T.b_len (ad_cons (pd_var 1) ad_nil)) pd_int) ad_nil))) (gd_nm C 5) (sd_one (sd_store C 4 (pd_max C T.b_max (ad_cons (pd_var 2) (ad_cons (pd_callB C (ok__law_level T) 0 ad_nil) ad_nil))) (pd_popX C 3 (pd_callB C (ok__law_take T) 0 (ad_cons (pd_lend (pd_len C T.b_len (ad_cons (pd_var 3) ad_nil))) ad_nil)))))) (sd_one (sd_retV 4))))
abbrev s__law_parts : Stmt := top 32
theorem sc__law_parts : FnScope ["box", "channels", "number", "times", "turn"] ["box", "channels"] (defScope s__law_parts) := ⟨rfl, rfl, rfl, by decide +kernel, rfl, by decide +kernel, by decide +kernel⟩
theorem ok__law_parts {P : Program} {w : World} {mg : Str → Option Value} {base : Heap} {g : Gb} (T : Txt g mg base) : Cal P w mg base g 4 "_law_parts" 2 [] (DH.f__law_parts_k21 f__law_take) :=
  cal_ok (j := 3) (N := ["box", "channels", "number", "times", "turn"]) T.d__law_parts sc__law_parts rfl rfl rfl fun f cdv A outer s H E hr hgd => by
    have C := cxt_def (g := g) (mg := mg) (P := P) (w := w) (base := base) (E := E) (outer := outer) (s := s) (H := H) (f := f) (cd := cdv) (A := A) (qual := "_law_parts") (scope := defScope s__law_parts) sc__law_parts.nd hr hgd T.sys
    exact (sd_cons (sd_set C 2 (pd_ix C (pd_lst (ad_cons pd_int (ad_cons pd_int (ad_cons pd_int (ad_cons (pd_add pd_int (pd_callB C (ok__law_take T) 0 (ad_cons pd_int ad_nil))) ad_nil))))) (pd_callB C (ok__law_take T) 0 (ad_cons pd_int ad_nil)))) (sd_cons (by first | exact sd_setLc 3 [("turn", 4)] C (id_rng1 T.b_range pd_int) (fun _ _ _ _ _ B1 => (gd_nm B1 4)) (fun _ _ _ _ _ B1 => (pd_ix B1 (pd_lst (ad_cons pd_int (ad_cons pd_int (ad_cons pd_int (ad_cons (pd_callB B1 (ok__law_take T) 0 (ad_cons pd_int ad_nil)) ad_nil))))) (pd_callB B1 (ok__law_take T) 0 (ad_cons pd_int ad_nil)))) | exact sd_set C 3 (pd_lc [("turn", 4)] C (id_rng1 T.b_range pd_int) (fun _ _ _ _ _ B1 => (gd_nm B1 4)) (fun _ _ _ _ _ B1 => (pd_ix B1 (pd_lst (ad_cons pd_int (ad_cons pd_int (ad_cons pd_int (ad_cons (pd_callB B1 (ok__law_take T) 0 (ad_cons pd_int ad_nil)) ad_nil))))) (pd_callB B1 (ok__law_take T) 0 (ad_cons pd_int ad_nil)))))) (sd_one (sd_ret (pd_lst (ad_cons (pd_var 2) (ad_cons (pd_callB C (ok__law_drawn T) 0 (ad_cons (pd_var 1) (ad_cons pd_int ad_nil))) (ad_cons (pd_ix C (pd_var 3) pd_int) (ad_cons (pd_ix C (pd_var 3) pd_int) (ad_cons (pd_eq C (pd_callB C (ok__law_take T) 0 (ad_cons pd_int ad_nil)) pd_int) ad_nil))))))))))
abbrev s_Cue___init__ : Stmt := defIn (top 23) 0
theorem sc_Cue___init__ : FnScope ["self", "number", "moves", "up", "down", "block", "channel"] ["self", "number", "moves", "up", "down", "block"] (defScope s_Cue___init__) := ⟨rfl, rfl, rfl, by decide +kernel, rfl, by decide +kernel, by decide +kernel⟩
theorem ok_Cue___init__ {P : Program} {w : World} {mg : Str → Option Value} {base : Heap} {g : Gb} (T : Txt g mg base) : Ini P w mg base g 6 "Cue" "Cue" 6 DH.f_Cue___init__ :=
  ini_ok (j := 5) (N := ["self", "number", "moves", "up", "down", "block", "channel"]) T.d_Cue___init__ sc_Cue___init__ rfl rfl rfl fun f cdv A outer s H E hr hgd => by
    have C := cxt_def (g := g) (mg := mg) (P := P) (w := w) (base := base) (E := E) (outer := outer) (s := s) (H := H) (f := f) (cd := cdv) (A := A) (qual := "Cue.__init__") (scope := defScope s_Cue___init__) sc_Cue___init__.nd hr hgd T.sys
    exact (sd_cons (sd_if (qd_not (qd_val (pd_call C (ok_is_number T) (ad_cons (pd_var 1) ad_nil)))) (sd_one (sd_raise C (ok_x_NoNumber T) (pd_var 1))) sd_nil) (sd_cons (sd_expr (pd_call C (ok_need_moves T) (ad_cons (pd_var 2) ad_nil))) (sd_cons (sd_if (qd_not (qd_val (pd_call C (ok_is_time T) (ad_cons (pd_var 3) ad_nil)))) (sd_one (sd_raise C (ok_x_NoTime T) (pd_var 3))) sd_nil) (sd_cons (sd_if (qd_w (wd_and (qd_notN (pd_var 4) pd_non) (wd_and1 (qd_not (qd_val (pd_call C (ok_is_time T) (ad_cons (pd_var 4) ad_nil))))))) (sd_one (sd_raise C (ok_x_NoTime T) (pd_var 4))) sd_nil) (sd_cons (sd_if (qd_not (qd_val (pd_isinstance C T.b_isinstance (ad_cons (pd_var 5) (ad_cons (pd_gty T.b_bool bootT_bool) ad_nil))))) (sd_one (sd_raise C (ok_x_NoFlag T) (pd_var 5))) sd_nil) (sd_cons (sd_fst C 0 T.fo_Cue__number (pd_var 1)) (sd_cons (sd_fst C 0 T.fo_Cue__moves (pd_dc [("channel", 6)] C (id_val C (pd_sorted C T.b_sorted (ad_cons (pd_var 2) ad_nil))) (fun _ _ _ _ _ B1 => (gd_nm B1 6)) (fun _ _ _ _ _ B1 => (pd_var 6)) (fun _ _ _ _ _ B1 => (pd_ix B1 (pd_var 2) (pd_var 6))))) (sd_cons (sd_fst C 0 T.fo_Cue__up (pd_var 3)) (sd_cons (sd_fst C 0 T.fo_Cue__down (pd_if (qd_isN (pd_var 4) pd_non) (pd_var 3) (pd_var 4))) (sd_one (sd_fst C 0 T.fo_Cue__block (pd_var 5))))))))))))
abbrev s__law_made : Stmt := top 33
theorem sc__law_made : FnScope ["box", "parts", "way", "moves", "found"] ["box", "parts"] (defScope s__law_made) := ⟨rfl, rfl, rfl, by decide +kernel, rfl, by decide +kernel, by decide +kernel⟩
theorem ok__law_made {P : Program} {w : World} {mg : Str → Option Value} {base : Heap} {g : Gb} (T : Txt g mg base) : Cal P w mg base g 8 "_law_made" 2 [] (DH.f__law_made_k21 f__law_take) :=
  cal_ok (j := 7) (N := ["box", "parts", "way", "moves", "found"]) T.d__law_made sc__law_made rfl rfl rfl fun f cdv A outer s H E hr hgd => by
    have C := cxt_def (g := g) (mg := mg) (P := P) (w := w) (base := base) (E := E) (outer := outer) (s := s) (H := H) (f := f) (cd := cdv) (A := A) (qual := "_law_made") (scope := defScope s__law_made) sc__law_made.nd hr hgd T.sys
    exact (sd_cons (sd_set C 2 (pd_callB C (ok__law_take T) 0 (ad_cons pd_int ad_nil))) (sd_cons (sd_set C 3 (pd_dict C T.b_dict (ad_cons (pd_ix C (pd_var 1) pd_int) ad_nil))) (sd_cons (sd_if (qd_w (wd_and (qd_eq C (pd_var 2) pd_int) (wd_and1 (qd_eq C (pd_ix C (pd_var 1) pd_int) (pd_ix C (pd_var 1) pd_int))))) (sd_one (sd_set C 4 (pd_lend (pd_makeDK C (ok_Cue___init__ T) T.s_Cue_2_up_block (ad_cons (pd_ix C (pd_var 1) pd_int) (ad_cons (pd_var 3) ad_nil)) (kd_cons (pd_ix C (pd_var 1) pd_int) (kd_cons (pd_ix C (pd_var 1) pd_int) kd_nil)))))) (sd_one (sd_if (qd_w (wd_and (qd_eq C (pd_var 2) pd_int) (wd_and1 (qd_eq C (pd_sl C (pd_var 1) (od_some pd_int) od_none) (pd_lst (ad_cons pd_int (ad_cons pd_int (ad_cons pd_bl ad_nil)))))))) (sd_one (sd_set C 4 (pd_lend (pd_makeDK0 C (ok_Cue___init__ T) T.s_Cue_0_number_moves (kd_cons (pd_ix C (pd_var 1) pd_int) (kd_cons (pd_var 3) kd_nil)))))) (sd_one (sd_if (qd_w (wd_and (qd_eq C (pd_var 2) pd_int) (wd_and1 (qd_eq C (pd_ix C (pd_var 1) pd_int) (pd_ix C (pd_var 1) pd_int))))) (sd_one (sd_set C 4 (pd_lend (pd_makeDK C (ok_Cue___init__ T) T.s_Cue_2_down_block_up (ad_cons (pd_ix C (pd_var 1) pd_int) (ad_cons (pd_var 3) ad_nil)) (kd_cons pd_non (kd_cons (pd_ix C (pd_var 1) pd_int) (kd_cons (pd_ix C (pd_var 1) pd_int) kd_nil))))))) (sd_one (sd_set C 4 (pd_lend (pd_makeDK C (ok_Cue___init__ T) T.s_Cue_2_block_down_up (ad_cons (pd_ix C (pd_var 1) pd_int) (ad_cons (pd_var 3) ad_nil)) (kd_cons (pd_ix C (pd_var 1) pd_int) (kd_cons (pd_ix C (pd_var 1) pd_int) (kd_cons (pd_ix C (pd_var 1) pd_int) kd_nil)))))))))))) (sd_cons (sd_store C 3 pd_int pd_str) (sd_one (sd_retV 4))))))
abbrev s_Cue_number : Stmt := defIn (top 23) 5
theorem sc_Cue_number : FnScope ["self"] ["self"] (defScope s_Cue_number) := ⟨rfl, rfl, rfl, by decide +kernel, rfl, by decide +kernel, by decide +kernel⟩
theorem ok_Cue_number {P : Program} {w : World} {mg : Str → Option Value} {base : Heap} {g : Gb} (T : Txt g mg base) : Met P w mg base g 1 "Cue" "number" 1 [] DH.f_Cue_number :=
  met_ok (j := 0) (N := ["self"]) T.d_Cue_number sc_Cue_number rfl rfl rfl fun f cdv A outer s H E hr hgd => by
    have C := cxt_def (g := g) (mg := mg) (P := P) (w := w) (base := base) (E := E) (outer := outer) (s := s) (H := H) (f := f) (cd := cdv) (A := A) (qual := "Cue.number") (scope := defScope s_Cue_number) sc_Cue_number.nd hr hgd T.sys
    exact (sd_one (sd_ret (pd_fld C T.fo_Cue__number (pd_var 0))))
abbrev s_Cue_moves : Stmt := defIn (top 23) 6
theorem sc_Cue_moves : FnScope ["self"] ["self"] (defScope s_Cue_moves) := ⟨rfl, rfl, rfl, by decide +kernel, rfl, by decide +kernel, by decide +kernel⟩
theorem ok_Cue_moves {P : Program} {w : World} {mg : Str → Option Value} {base : Heap} {g : Gb} (T : Txt g mg base) : Met P w mg base g 1 "Cue" "moves" 1 [] DH.f_Cue_moves :=
  met_ok (j := 0) (N := ["self"]) T.d_Cue_moves sc_Cue_moves rfl rfl rfl fun f cdv A outer s H E hr hgd => by
    have C := cxt_def (g := g) (mg := mg) (P := P) (w := w) (base := base) (E := E) (outer := outer) (s := s) (H := H) (f := f) (cd := cdv) (A := A) (qual := "Cue.moves") (scope := defScope s_Cue_moves) sc_Cue_moves.nd hr hgd T.sys
    exact (sd_one (sd_ret (pd_dict C T.b_dict (ad_cons (pd_fld C T.fo_Cue__moves (pd_var 0)) ad_nil))))
abbrev s_Cue_up : Stmt := defIn (top 23) 7
theorem sc_Cue_up : FnScope ["self"] ["self"] (defScope s_Cue_up) := ⟨rfl, rfl, rfl, by decide +kernel, rfl, by decide +kernel, by decide +kernel⟩
theorem ok_Cue_up {P : Program} {w : World} {mg : Str → Option Value} {base : Heap} {g : Gb} (T : Txt g mg base) : Met P w mg base g 1 "Cue" "up" 1 [] DH.f_Cue_up :=
  met_ok (j := 0) (N := ["self"]) T.d_Cue_up sc_Cue_up rfl rfl rfl fun f cdv A outer s H E hr hgd => by
    have C := cxt_def (g := g) (mg := mg) (P := P) (w := w) (base := base) (E := E) (outer := outer) (s := s) (H := H) (f := f) (cd := cdv) (A := A) (qual := "Cue.up") (scope := defScope s_Cue_up) sc_Cue_up.nd hr hgd T.sys
    exact (sd_one (sd_ret (pd_fld C T.fo_Cue__up (pd_var 0))))
abbrev s_Cue_down : Stmt := defIn (top 23) 8
theorem sc_Cue_down : FnScope ["self"] ["self"] (defScope s_Cue_down) := ⟨rfl, rfl, rfl, by decide +kernel, rfl, by decide +kernel, by decide +kernel⟩
theorem ok_Cue_down {P : Program} {w : World} {mg : Str → Option Value} {base : Heap} {g : Gb} (T : Txt g mg base) : Met P w mg base g 1 "Cue" "down" 1 [] DH.f_Cue_down :=
  met_ok (j := 0) (N := ["self"]) T.d_Cue_down sc_Cue_down rfl rfl rfl fun f cdv A outer s H E hr hgd => by
    have C := cxt_def (g := g) (mg := mg) (P := P) (w := w) (base := base) (E := E) (outer := outer) (s := s) (H := H) (f := f) (cd := cdv) (A := A) (qual := "Cue.down") (scope := defScope s_Cue_down) sc_Cue_down.nd hr hgd T.sys
    exact (sd_one (sd_ret (pd_fld C T.fo_Cue__down (pd_var 0))))
abbrev s_Cue_block : Stmt := defIn (top 23) 9
theorem sc_Cue_block : FnScope ["self"] ["self"] (defScope s_Cue_block) := ⟨rfl, rfl, rfl, by decide +kernel, rfl, by decide +kernel, by decide +kernel⟩
theorem ok_Cue_block {P : Program} {w : World} {mg : Str → Option Value} {base : Heap} {g : Gb} (T : Txt g mg base) : Met P w mg base g 1 "Cue" "block" 1 [] DH.f_Cue_block :=
  met_ok (j := 0) (N := ["self"]) T.d_Cue_block sc_Cue_block rfl rfl rfl fun f cdv A outer s H E hr hgd => by
    have C := cxt_def (g := g) (mg := mg) (P := P) (w := w) (base := base) (E := E) (outer := outer) (s := s) (H := H) (f := f) (cd := cdv) (A := A) (qual := "Cue.block") (scope := defScope s_Cue_block) sc_Cue_block.nd hr hgd T.sys
    exact (sd_one (sd_ret (pd_fld C T.fo_Cue__block (pd_var 0))))
abbrev s__law_right : Stmt := top 34
theorem sc__law_right : FnScope ["cue", "parts", "due", "turn", "told"] ["cue", "parts"] (defScope s__law_right) := ⟨rfl, rfl, rfl, by decide +kernel, rfl, by decide +kernel, by decide +kernel⟩
theorem ok__law_right {P : Program} {w : World} {mg : Str → Option Value} {base : Heap} {g : Gb} (T : Txt g mg base) : Cal P w mg base g 2 "_law_right" 2 [] DH.f__law_right_k21 :=
  cal_ok (j := 1) (N := ["cue", "parts", "due", "turn", "told"]) T.d__law_right sc__law_right rfl rfl rfl fun f cdv A outer s H E hr hgd => by
    have C := cxt_def (g := g) (mg := mg) (P := P) (w := w) (base := base) (E := E) (outer := outer) (s := s) (H := H) (f := f) (cd := cdv) (A := A) (qual := "_law_right") (scope := defScope s__law_right) sc__law_right.nd hr hgd T.sys
    exact (sd_cons (sd_set C 2 (pd_lst (ad_cons (pd_ix C (pd_var 1) pd_int) (ad_cons (pd_call C (ok__law_sorted T) (ad_cons (pd_ix C (pd_var 1) pd_int) ad_nil)) (ad_cons (pd_ix C (pd_var 1) pd_int) (ad_cons (pd_ix C (pd_var 1) pd_int) (ad_cons (pd_ix C (pd_var 1) pd_int) ad_nil))))))) (sd_cons (sd_for C (id_rng1 T.b_range pd_int) (gd_nm C 3) (sd_cons (sd_set C 4 (pd_lst (ad_cons (pd_met0 C (ok_Cue_number T) (pd_var 0)) (ad_cons (pd_met0 C (ok_Cue_moves T) (pd_var 0)) (ad_cons (pd_met0 C (ok_Cue_up T) (pd_var 0)) (ad_cons (pd_met0 C (ok_Cue_down T) (pd_var 0)) (ad_cons (pd_met0 C (ok_Cue_block T) (pd_var 0)) ad_nil))))))) (sd_cons (sd_if (qd_lend (qd_w (wd_or (qd_not (qd_val (pd_isC C T.ck_Cue T.b_isinstance T.mg_Cue (pd_var 0)))) (wd_or (qd_ne C (pd_var 4) (pd_var 2)) (wd_or1 (qd_ne C (pd_repr C T.b_repr (ad_cons (pd_var 4) ad_nil)) (pd_repr C T.b_repr (ad_cons (pd_var 2) ad_nil)))))))) (sd_one (sd_ret pd_bl)) sd_nil) (sd_one (sd_put (kd := (.str "more")) C True.intro (pl_ix C (pl_var 4) pe_int) pe_str pd_int))))) (sd_one (sd_ret pd_bl))))
abbrev s__law_otherwise : Stmt := top 35
theorem sc__law_otherwise : FnScope ["box", "parts", "channels", "found", "way", "name"] ["box", "parts", "channels"] (defScope s__law_otherwise) := ⟨rfl, rfl, rfl, by decide +kernel, rfl, by decide +kernel, by decide +kernel⟩
theorem ok__law_otherwise {P : Program} {w : World} {mg : Str → Option Value} {base : Heap} {g : Gb} (T : Txt g mg base) : Cal P w mg base g 4 "_law_otherwise" 3 [] (DH.f__law_otherwise_k21 f__law_take) :=
  cal_ok (j := 3) (N := ["box", "parts", "channels", "found", "way", "name"]) T.d__law_otherwise sc__law_otherwise rfl rfl rfl fun f cdv A outer s H E hr hgd => by
    have C := cxt_def (g := g) (mg := mg) (P := P) (w := w) (base := base) (E := E) (outer := outer) (s := s) (H := H) (f := f) (cd := cdv) (A := A) (qual := "_law_otherwise") (scope := defScope s__law_otherwise) sc__law_otherwise.nd hr hgd T.sys
    exact (sd_cons (sd_par C 3 4 (ad_cons (pd_list C T.b_list (ad_cons (pd_var 1) ad_nil)) (ad_cons (pd_callB C (ok__law_take T) 0 (ad_cons pd_int ad_nil)) ad_nil))) (sd_cons (sd_if (qd_eq C (pd_var 4) pd_int) (sd_one (sd_store C 3 (pd_add (pd_mod (pd_ix C (pd_var 1) pd_int) pd_int) pd_int) pd_int)) sd_nil) (sd_cons (sd_if (qd_eq C (pd_var 4) pd_int) (sd_one (sd_store C 3 (pd_callB C (ok__law_drawn T) 0 (ad_cons (pd_var 2) (ad_cons pd_int ad_nil))) pd_int)) sd_nil) (sd_cons (sd_if (qd_in C (pd_var 4) (pd_lst (ad_cons pd_int (ad_cons pd_int ad_nil)))) (sd_one (sd_store C 3 (pd_mod (pd_add (pd_ix C (pd_var 1) (pd_var 4)) pd_int) pd_int) (pd_var 4))) sd_nil) (sd_cons (sd_if (qd_eq C (pd_var 4) pd_int) (sd_one (sd_store C 3 (pd_not (pd_ix C (pd_var 1) pd_int)) pd_int)) sd_nil) (sd_cons (sd_if (qd_w (wd_and (qd_eq C (pd_var 4) pd_int) (wd_and1 (qd_ne C (pd_ix C (pd_var 1) pd_int) pd_dct0)))) (sd_one (sd_store C 3 (pd_dict C T.b_dict (ad_cons (pd_lc [("name", 5)] C (id_val C (pd_sl C (pd_list C T.b_list (ad_cons (pd_ix C (pd_var 1) pd_int) ad_nil)) (od_some pd_int) od_none)) (fun _ _ _ _ _ B1 => (gd_nm B1 5)) (fun _ _ _ _ _ B1 => (pd_tup (ad_cons (pd_var 5) (ad_cons (pd_ix B1 (pd_ix B1 (pd_var 1) pd_int) (pd_var 5)) ad_nil))))) ad_nil)) pd_int)) sd_nil) (sd_one (sd_retV 3))))))))
abbrev s_Cue_with_moves : Stmt := defIn (top 23) 10
theorem sc_Cue_with_moves : FnScope ["self", "moves"] ["self", "moves"] (defScope s_Cue_with_moves) := ⟨rfl, rfl, rfl, by decide +kernel, rfl, by decide +kernel, by decide +kernel⟩
theorem ok_Cue_with_moves {P : Program} {w : World} {mg : Str → Option Value} {base : Heap} {g : Gb} (T : Txt g mg base) : Met P w mg base g 8 "Cue" "with_moves" 2 [] DH.f_Cue_with_moves :=
  met_ok (j := 7) (N := ["self", "moves"]) T.d_Cue_with_moves sc_Cue_with_moves rfl rfl rfl fun f cdv A outer s H E hr hgd => by
    have C := cxt_def (g := g) (mg := mg) (P := P) (w := w) (base := base) (E := E) (outer := outer) (s := s) (H := H) (f := f) (cd := cdv) (A := A) (qual := "Cue.with_moves") (scope := defScope s_Cue_with_moves) sc_Cue_with_moves.nd hr hgd T.sys
    exact (sd_one (sd_ret (pd_makeDK C (ok_Cue___init__ T) T.s_Cue_2_up_down_block (ad_cons (pd_fld C T.fo_Cue__number (pd_var 0)) (ad_cons (pd_var 1) ad_nil)) (kd_cons (pd_fld C T.fo_Cue__up (pd_var 0)) (kd_cons (pd_fld C T.fo_Cue__down (pd_var 0)) (kd_cons (pd_fld C T.fo_Cue__block (pd_var 0)) kd_nil))))))
abbrev s_Cue_with_number : Stmt := defIn (top 23) 11
theorem sc_Cue_with_number : FnScope ["self", "number"] ["self", "number"] (defScope s_Cue_with_number) := ⟨rfl, rfl, rfl, by decide +kernel, rfl, by decide +kernel, by decide +kernel⟩
theorem ok_Cue_with_number {P : Program} {w : World} {mg : Str → Option Value} {base : Heap} {g : Gb} (T : Txt g mg base) : Met P w mg base g 8 "Cue" "with_number" 2 [] DH.f_Cue_with_number :=
  met_ok (j := 7) (N := ["self", "number"]) T.d_Cue_with_number sc_Cue_with_number rfl rfl rfl fun f cdv A outer s H E hr hgd => by
    have C := cxt_def (g := g) (mg := mg) (P := P) (w := w) (base := base) (E := E) (outer := outer) (s := s) (H := H) (f := f) (cd := cdv) (A := A) (qual := "Cue.with_number") (scope := defScope s_Cue_with_number) sc_Cue_with_number.nd hr hgd T.sys
    exact (sd_one (sd_ret (pd_makeDK C (ok_Cue___init__ T) T.s_Cue_2_up_down_block (ad_cons (pd_var 1) (ad_cons (pd_fld C T.fo_Cue__moves (pd_var 0)) ad_nil)) (kd_cons (pd_fld C T.fo_Cue__up (pd_var 0)) (kd_cons (pd_fld C T.fo_Cue__down (pd_var 0)) (kd_cons (pd_fld C T.fo_Cue__block (pd_var 0)) kd_nil))))))
abbrev s_Cue_with_block : Stmt := defIn (top 23) 12
theorem sc_Cue_with_block : FnScope ["self", "block"] ["self", "block"] (defScope s_Cue_with_block) := ⟨rfl, rfl, rfl, by decide +kernel, rfl, by decide +kernel, by decide +kernel⟩
theorem ok_Cue_with_block {P : Program} {w : World} {mg : Str → Option Value} {base : Heap} {g : Gb} (T : Txt g mg base) : Met P w mg base g 8 "Cue" "with_block" 2 [] DH.f_Cue_with_block :=
  met_ok (j := 7) (N := ["self", "block"]) T.d_Cue_with_block sc_Cue_with_block rfl rfl rfl fun f cdv A outer s H E hr hgd => by
    have C := cxt_def (g := g) (mg := mg) (P := P) (w := w) (base := base) (E := E) (outer := outer) (s := s) (H := H) (f := f) (cd := cdv) (A := A) (qual := "Cue.with_block") (scope := defScope s_Cue_with_block) sc_Cue_with_block.nd hr hgd T.sys
    exact (sd_one (sd_ret (pd_makeDK C (ok_Cue___init__ T) T.s_Cue_2_up_down_block (ad_cons (pd_fld C T.fo_Cue__number (pd_var 0)) (ad_cons (pd_fld C T.fo_Cue__moves (pd_var 0)) ad_nil)) (kd_cons (pd_fld C T.fo_Cue__up (pd_var 0)) (kd_cons (pd_fld C T.fo_Cue__down (pd_var 0)) (kd_cons (pd_var 1) kd_nil))))))
abbrev s_Cue_text : Stmt := defIn (top 23) 13
theorem sc_Cue_text : FnScope ["self", "words"] ["self"] (defScope s_Cue_text) := ⟨rfl, rfl, rfl, by decide +kernel, rfl, by decide +kernel, by decide +kernel⟩
theorem ok_Cue_text {P : Program} {w : World} {mg : Str → Option Value} {base : Heap} {g : Gb} (T : Txt g mg base) : Met P w mg base g 4 "Cue" "text" 1 [] DH.f_Cue_text :=
  met_ok (j := 3) (N := ["self", "words"]) T.d_Cue_text sc_Cue_text rfl rfl rfl fun f cdv A outer s H E hr hgd => by
    have C := cxt_def (g := g) (mg := mg) (P := P) (w := w) (base := base) (E := E) (outer := outer) (s := s) (H := H) (f := f) (cd := cdv) (A := A) (qual := "Cue.text") (scope := defScope s_Cue_text) sc_Cue_text.nd hr hgd T.sys
    exact (sd_cons (sd_set C 1 (pd_lst (ad_cons pd_str (ad_cons (pd_call C (ok_number_text T) (ad_cons (pd_fld C T.fo_Cue__number (pd_var 0)) ad_nil)) (ad_cons pd_str (ad_cons (pd_call C (ok_time_text T) (ad_cons (pd_fld C T.fo_Cue__up (pd_var 0)) ad_nil)) (ad_cons pd_str (ad_cons (pd_call C (ok_time_text T) (ad_cons (pd_fld C T.fo_Cue__down (pd_var 0)) ad_nil)) ad_nil)))))))) (sd_cons (sd_if (qd_val (pd_fld C T.fo_Cue__block (pd_var 0))) (sd_one (sd_expr (pd_app C 1 pd_str))) sd_nil) (sd_cons (sd_if (qd_tru C (pd_fld C T.fo_Cue__moves (pd_var 0))) (sd_one (sd_expr (pd_app C 1 (pd_call C (ok_pairs_text T) (ad_cons (pd_fld C T.fo_Cue__moves (pd_var 0)) ad_nil))))) sd_nil) (sd_one (sd_ret (pd_join pd_str C (pd_var 1)))))))
abbrev s_Cue___str__ : Stmt := defIn (top 23) 2
theorem sc_Cue___str__ : FnScope ["self"] ["self"] (defScope s_Cue___str__) := ⟨rfl, rfl, rfl, by decide +kernel, rfl, by decide +kernel, by decide +kernel⟩
theorem ok_Cue___str__ {P : Program} {w : World} {mg : Str → Option Value} {base : Heap} {g : Gb} (T : Txt g mg base) : Met P w mg base g 5 "Cue" "__str__" 1 [] DH.f_Cue___str__ :=
  met_ok (j := 4) (N := ["self"]) T.d_Cue___str__ sc_Cue___str__ rfl rfl rfl fun f cdv A outer s H E hr hgd => by
    have C := cxt_def (g := g) (mg := mg) (P := P) (w := w) (base := base) (E := E) (outer := outer) (s := s) (H := H) (f := f) (cd := cdv) (A := A) (qual := "Cue.__str__") (scope := defScope s_Cue___str__) sc_Cue___str__.nd hr hgd T.sys
    exact (sd_one (sd_ret (pd_js1 (pd_fmt (pd_met0 C (ok_Cue_text T) (pd_var 0))))))
abbrev s_Cue_parts : Stmt := defIn (top 23) 4
theorem sc_Cue_parts : FnScope ["self"] ["self"] (defScope s_Cue_parts) := ⟨rfl, rfl, rfl, by decide +kernel, rfl, by decide +kernel, by decide +kernel⟩
theorem ok_Cue_parts {P : Program} {w : World} {mg : Str → Option Value} {base : Heap} {g : Gb} (T : Txt g mg base) : Met P w mg base g 1 "Cue" "parts" 1 [] DH.f_Cue_parts :=
  met_ok (j := 0) (N := ["self"]) T.d_Cue_parts sc_Cue_parts rfl rfl rfl fun f cdv A outer s H E hr hgd => by
    have C := cxt_def (g := g) (mg := mg) (P := P) (w := w) (base := base) (E := E) (outer := outer) (s := s) (H := H) (f := f) (cd := cdv) (A := A) (qual := "Cue.parts") (scope := defScope s_Cue_parts) sc_Cue_parts.nd hr hgd T.sys
    exact (sd_one (sd_ret (pd_tup (ad_cons (pd_fld C T.fo_Cue__number (pd_var 0)) (ad_cons (pd_fld C T.fo_Cue__moves (pd_var 0)) (ad_cons (pd_fld C T.fo_Cue__up (pd_var 0)) (ad_cons (pd_fld C T.fo_Cue__down (pd_var 0)) (ad_cons (pd_fld C T.fo_Cue__block (pd_var 0)) ad_nil))))))))
abbrev s_Cue___eq__ : Stmt := defIn (top 23) 1
theorem sc_Cue___eq__ : FnScope ["self", "other"] ["self", "other"] (defScope s_Cue___eq__) := ⟨rfl, rfl, rfl, by decide +kernel, rfl, by decide +kernel, by decide +kernel⟩
theorem ok_Cue___eq__ {P : Program} {w : World} {mg : Str → Option Value} {base : Heap} {g : Gb} (T : Txt g mg base) : Met P w mg base g 2 "Cue" "__eq__" 2 [] DH.f_Cue___eq__ :=
  met_ok (j := 1) (N := ["self", "other"]) T.d_Cue___eq__ sc_Cue___eq__ rfl rfl rfl fun f cdv A outer s H E hr hgd => by
    have C := cxt_def (g := g) (mg := mg) (P := P) (w := w) (base := base) (E := E) (outer := outer) (s := s) (H := H) (f := f) (cd := cdv) (A := A) (qual := "Cue.__eq__") (scope := defScope s_Cue___eq__) sc_Cue___eq__.nd hr hgd T.sys
    exact (sd_one (sd_ret (pd_and (pd_isC C T.ck_Cue T.b_isinstance T.mg_Cue (pd_var 1)) (pd_one (pd_eq C (pd_met0 C (ok_Cue_parts T) (pd_var 0)) (pd_met0 C (ok_Cue_parts T) (pd_var 1)))))))
abbrev s_law : Stmt := top 36
def m_law : Sm := (sSeq (sForI itRng (eCB dMax [(eC (.int 2)), (eCB dMin [(eC (.int 8)), (eCB dLen [(eVar 0)])])]) (TD.tg (TD.nm 1)) (sSeq (sSet 2 (eCall DH.f__law_box_k01 [] [(eCall f__law_cell [] [(eVar 0), (eVar 1)])])) (sSeq (sSet 3 (eCallB 2 (DH.f__law_channels_k11 f__law_take) [] [(eBin dAdd (eC (.int 1)) (eCallB 2 f__law_take [] [(eC (.int 8))]))])) (sSeq (sSet 4 (eCallB 2 (DH.f__law_parts_k21 f__law_take) [] [(eVar 3)])) (sSeq (sIf (eBin dEq (eCallB 2 f__law_take [] [(eC (.int 2))]) (eC (.int 0))) (sStore 4 (eC (.int 3)) (ePix 4 (eC (.int 2)))) sNext) (sSeq (sIf (eBin dEq (eCallB 2 f__law_take [] [(eC (.int 4))]) (eC (.int 0))) (sSet 4 (eBin dAdd (eSl dSl (eVar 4) none (some (eC (.int 2)))) (eLst [(eC (.int 0)), (eC (.int 0)), (eC (.bl false))]))) sNext) (sSeq (sSet 5 (eCallB 2 (DH.f__law_otherwise_k21 f__law_take) [] [(eVar 4), (eVar 3)])) (sSeq (sAsg (eTup [(eCallB 2 (DH.f__law_made_k21 f__law_take) [] [(eVar 4)]), (eCallB 2 (DH.f__law_made_k21 f__law_take) [] [(eVar 5)])]) (TD.tg (TD.tp [(TD.nm 6), (TD.nm 7)]))) (sSeq (sIf (eOr (eNot (eCall DH.f__law_right_k21 [] [(eVar 6), (eVar 4)])) (eNot (eCall DH.f__law_right_k21 [] [(eVar 7), (eVar 5)]))) (sRet (eC (.bl false))) sNext) (sSeq (sSet 8 (eAnd (eBin dEq (eBin dIx (eVar 4) (eC (.int 0))) (eBin dIx (eVar 5) (eC (.int 0)))) (eAnd (eBin dEq (eSl dSl (eVar 4) (some (eC (.int 2))) none) (eSl dSl (eVar 5) (some (eC (.int 2))) none)) (eBin dEq (eCall DH.f__law_sorted_k11 [] [(eBin dIx (eVar 4) (eC (.int 1)))]) (eCall DH.f__law_sorted_k11 [] [(eBin dIx (eVar 5) (eC (.int 1)))]))))) (sSeq (sIf (eBin dNe (eLst [(eEqC [("Cue", DH.f_Cue___eq__, pfCue)] 2 (eVar 6) (eVar 7)), (eEqC [("Cue", DH.f_Cue___eq__, pfCue)] 2 (eVar 7) (eVar 6)), (eInC [("Cue", DH.f_Cue___eq__, pfCue)] 2 (eVar 6) (eLst [(eVar 7)])), (eNot (eNeC [("Cue", DH.f_Cue___eq__, pfCue)] (eVar 6) (eVar 7)))]) (eBin dMul (eLst [(eVar 8)]) (eC (.int 4)))) (sRet (eC (.bl false))) sNext) (sSeq (sIf (eNot (eCall DH.f__law_right_k21 [] [(eMet "Cue" "with_moves" DH.f_Cue_with_moves [] (eVar 6) [(eCB dDict [(eBin dIx (eVar 5) (eC (.int 1)))])]), (eBin dAdd (eLst [(eBin dIx (eVar 4) (eC (.int 0))), (eBin dIx (eVar 5) (eC (.int 1)))]) (eSl dSl (eVar 4) (some (eC (.int 2))) none))])) (sRet (eC (.bl false))) sNext) (sSeq (sIf (eNot (eCall DH.f__law_right_k21 [] [(eMetK "Cue" "with_number" DH.f_Cue_with_number [0] [] (eVar 6) [(eBin dIx (eVar 5) (eC (.int 0)))]), (eBin dAdd (eLst [(eBin dIx (eVar 5) (eC (.int 0)))]) (eSl dSl (eVar 4) (some (eC (.int 1))) none))])) (sRet (eC (.bl false))) sNext) (sSeq (sIf (eOr (eNot (eCall DH.f__law_right_k21 [] [(eMet "Cue" "with_block" DH.f_Cue_with_block [] (eVar 6) [(eBin dIx (eVar 5) (eC (.int 4)))]), (eBin dAdd (eSl dSl (eVar 4) none (some (eC (.int 4)))) (eLst [(eBin dIx (eVar 5) (eC (.int 4)))]))])) (eNot (eCall DH.f__law_right_k21 [] [(eVar 6), (eVar 4)]))) (sRet (eC (.bl false))) sNext) (sSeq (sSet 9 (eLst [(eC .non), (eStrO "Cue" DH.f_Cue___str__ (eVar 6)), (eVar 4), (eMet "Cue" "number" DH.f_Cue_number [] (eVar 6) []), (eCB dTuple [(eVar 4)]), (eC (.bl true))])) (sIf (eBin dNe (eLc [10] itV (eVar 9) (TD.tg (TD.nm 10)) (some (eOr (eEqC [("Cue", DH.f_Cue___eq__, pfCue)] 2 (eVar 6) (eVar 10)) (eEqC [("Cue", DH.f_Cue___eq__, pfCue)] 2 (eVar 10) (eVar 6)))) (eVar 10)) (eLst [])) (sRet (eC (.bl false))) sNext)))))))))))))))) (sRet (eC (.bl true))))
def f_law : List O → R := mkFn 1 10 [] m_law
theorem sc_law : FnScope ["script", "k", "box", "channels", "parts", "others", "cue", "other", "same", "things", "thing"] ["script"] (defScope s_law) := ⟨rfl, rfl, rfl, by decide +kernel, rfl, by decide +kernel, by decide +kernel⟩
theorem ok_law {P : Program} {w : World} {mg : Str → Option Value} {base : Heap} {g : Gb} (T : Txt g mg base) : Cal P w mg base g 9 "law" 1 [] f_law :=
  cal_ok (j := 8) (N := ["script", "k", "box", "channels", "parts", "others", "cue", "other", "same", "things", "thing"]) T.d_law sc_law rfl rfl rfl fun f cdv A outer s H E hr hgd => by
    have C := cxt_def (g := g) (mg := mg) (P := P) (w := w) (base := base) (E := E) (outer := outer) (s := s) (H := H) (f := f) (cd := cdv) (A := A) (qual := "law") (scope := defScope s_law) sc_law.nd hr hgd T.sys
    exact (sd_cons (sd_for C (id_rng1 T.b_range (pd_max C T.b_max (ad_cons pd_int (ad_cons (pd_min C T.b_min (ad_cons pd_int (ad_cons (pd_len C T.b_len (ad_cons (pd_var 0) ad_nil)) ad_nil))) ad_nil)))) (gd_nm C 1) (sd_cons (sd_set C 2 (pd_call C (ok__law_box T) (ad_cons (pd_call C (ok__law_cell T) (ad_cons (pd_var 0) (ad_cons (pd_var 1) ad_nil))) ad_nil))) (sd_cons (sd_set C 3 (pd_callB C (ok__law_channels T) 2 (ad_cons (pd_add pd_int (pd_callB C (ok__law_take T) 2 (ad_cons pd_int ad_nil))) ad_nil))) (sd_cons (sd_set C 4 (pd_callB C (ok__law_parts T) 2 (ad_cons (pd_var 3) ad_nil))) (sd_cons (sd_if (qd_eq C (pd_callB C (ok__law_take T) 2 (ad_cons pd_int ad_nil)) pd_int) (sd_one (sd_store C 4 (pd_pix C 4 pd_int) pd_int)) sd_nil) (sd_cons (sd_if (qd_eq C (pd_callB C (ok__law_take T) 2 (ad_cons pd_int ad_nil)) pd_int) (sd_one (sd_set C 4 (pd_add (pd_sl C (pd_var 4) od_none (od_some pd_int)) (pd_lst (ad_cons pd_int (ad_cons pd_int (ad_cons pd_bl ad_nil))))))) sd_nil) (sd_cons (sd_set C 5 (pd_callB C (ok__law_otherwise T) 2 (ad_cons (pd_var 4) (ad_cons (pd_var 3) ad_nil)))) (sd_cons (sd_asg C (pd_tup (ad_cons (pd_callB C (ok__law_made T) 2 (ad_cons (pd_var 4) ad_nil)) (ad_cons (pd_callB C (ok__law_made T) 2 (ad_cons (pd_var 5) ad_nil)) ad_nil))) (gd_tp C (gd_cons (gd_nm C 6) (gd_cons (gd_nm C 7) gd_nil)))) (sd_cons (sd_if (qd_w (wd_or (qd_not (qd_val (pd_call C (ok__law_right T) (ad_cons (pd_var 6) (ad_cons (pd_var 4) ad_nil))))) (wd_or1 (qd_not (qd_val (pd_call C (ok__law_right T) (ad_cons (pd_var 7) (ad_cons (pd_var 5) ad_nil)))))))) (sd_one (sd_ret pd_bl)) sd_nil) (sd_cons (sd_set C 8 (pd_and (pd_eq C (pd_ix C (pd_var 4) pd_int) (pd_ix C (pd_var 5) pd_int)) (pd_and (pd_eq C (pd_sl C (pd_var 4) (od_some pd_int) od_none) (pd_sl C (pd_var 5) (od_some pd_int) od_none)) (pd_one (pd_eq C (pd_call C (ok__law_sorted T) (ad_cons (pd_ix C (pd_var 4) pd_int) ad_nil)) (pd_call C (ok__law_sorted T) (ad_cons (pd_ix C (pd_var 5) pd_int) ad_nil))))))) (sd_cons (sd_if (qd_ne C (pd_lst (ad_cons (pd_eqC 2 C (EqOk.cons (ok_Cue___eq__ T) rfl T.eq_Cue refl_Cue EqOk.nil) (pd_var 6) (pd_var 7)) (ad_cons (pd_eqC 2 C (EqOk.cons (ok_Cue___eq__ T) rfl T.eq_Cue refl_Cue EqOk.nil) (pd_var 7) (pd_var 6)) (ad_cons (pd_inC 2 C (EqOk.cons (ok_Cue___eq__ T) rfl T.eq_Cue refl_Cue EqOk.nil) (pd_var 6) (pd_lst (ad_cons (pd_var 7) ad_nil))) (ad_cons (pd_not (pd_neC C (EqOk.cons (ok_Cue___eq__ T) rfl T.eq_Cue refl_Cue EqOk.nil) (pd_var 6) (pd_var 7))) ad_nil))))) (pd_mul (pd_lst (ad_cons (pd_var 8) ad_nil)) pd_int)) (sd_one (sd_ret pd_bl)) sd_nil) (sd_cons (sd_if (qd_not (qd_val (pd_call C (ok__law_right T) (ad_cons (pd_met C (ok_Cue_with_moves T) (pd_var 6) (ad_cons (pd_dict C T.b_dict (ad_cons (pd_ix C (pd_var 5) pd_int) ad_nil)) ad_nil)) (ad_cons (pd_add (pd_lst (ad_cons (pd_ix C (pd_var 4) pd_int) (ad_cons (pd_ix C (pd_var 5) pd_int) ad_nil))) (pd_sl C (pd_var 4) (od_some pd_int) od_none)) ad_nil))))) (sd_one (sd_ret pd_bl)) sd_nil) (sd_cons (sd_if (qd_not (qd_val (pd_call C (ok__law_right T) (ad_cons (pd_metK0 C (ok_Cue_with_number T) T.s_Cue_with_number_0_number (pd_var 6) (kd_cons (pd_ix C (pd_var 5) pd_int) kd_nil)) (ad_cons (pd_add (pd_lst (ad_cons (pd_ix C (pd_var 5) pd_int) ad_nil)) (pd_sl C (pd_var 4) (od_some pd_int) od_none)) ad_nil))))) (sd_one (sd_ret pd_bl)) sd_nil) (sd_cons (sd_if (qd_w (wd_or (qd_not (qd_val (pd_call C (ok__law_right T) (ad_cons (pd_met C (ok_Cue_with_block T) (pd_var 6) (ad_cons (pd_ix C (pd_var 5) pd_int) ad_nil)) (ad_cons (pd_add (pd_sl C (pd_var 4) od_none (od_some pd_int)) (pd_lst (ad_cons (pd_ix C (pd_var 5) pd_int) ad_nil))) ad_nil))))) (wd_or1 (qd_not (qd_val (pd_call C (ok__law_right T) (ad_cons (pd_var 6) (ad_cons (pd_var 4) ad_nil)))))))) (sd_one (sd_ret pd_bl)) sd_nil) (sd_cons (sd_set C 9 (pd_lst (ad_cons pd_non (ad_cons (pd_strO C (ok_Cue___str__ T) T.b_str (pd_var 6)) (ad_cons (pd_var 4) (ad_cons (pd_met0 C (ok_Cue_number T) (pd_var 6)) (ad_cons (pd_tuple C T.b_tuple (ad_cons (pd_var 4) ad_nil)) (ad_cons pd_bl ad_nil)))))))) (sd_one (sd_if (qd_ne C (pd_lcT [("thing", 10)] C (id_val C (pd_var 9)) (fun _ _ _ _ _ B1 => (gd_nm B1 10)) (fun _ _ _ _ _ B1 => (qd_w (wd_or (qd_eqC 2 B1 (EqOk.cons (ok_Cue___eq__ T) rfl T.eq_Cue refl_Cue EqOk.nil) (pd_var 6) (pd_var 10)) (wd_or1 (qd_eqC 2 B1 (EqOk.cons (ok_Cue___eq__ T) rfl T.eq_Cue refl_Cue EqOk.nil) (pd_var 10) (pd_var 6)))))) (fun _ _ _ _ _ B1 => (pd_var 10))) (pd_lst ad_nil)) (sd_one (sd_ret pd_bl)) sd_nil))))))))))))))))) (sd_one (sd_ret pd_bl)))
/-! the end -/
section
variable {l : PySem.W.OpenLaw} {q : Program} {w : World} {h : Heap} {mg : Str → Option Value}
def gOf (K : PySem.W.Frag) (tb : List Addr) (cl : List (Str × Addr)) (nl : List (Addr × Str)) : Gb := ⟨K, fun s => (cl.lookup s).getD 0, tb, fun p => nl.lookup p, fun _ => 0⟩
theorem all_mk {K : PySem.W.Frag} {CA0 : Addr} {f0 : Addr} {oc0 kV0 dc0 pm0 cd0 ct0 : Value} {od0 an0 : Option Addr} {sl0 : Array (Option Value)} {f1 : Addr} {oc1 kV1 dc1 pm1 cd1 ct1 : Value} {od1 an1 : Option Addr} {sl1 : Array (Option Value)} {cc1 P1 : Addr} {tc1 : Value} {td1 : Option Addr} {tsl1 : Array (Option Value)} {tv1 : Array Value} {f2 : Addr} {oc2 kV2 dc2 pm2 cd2 ct2 : Value} {od2 an2 : Option Addr} {sl2 : Array (Option Value)} {f3 : Addr} {oc3 kV3 dc3 pm3 cd3 ct3 : Value} {od3 an3 : Option Addr} {sl3 : Array (Option Value)} {f4 : Addr} {oc4 kV4 dc4 pm4 cd4 ct4 : Value} {od4 an4 : Option Addr} {sl4 : Array (Option Value)} {f5 : Addr} {oc5 kV5 dc5 pm5 cd5 ct5 : Value} {od5 an5 : Option Addr} {sl5 : Array (Option Value)} {f6 : Addr} {oc6 kV6 dc6 pm6 cd6 ct6 : Value} {od6 an6 : Option Addr} {sl6 : Array (Option Value)} {f7 : Addr} {oc7 kV7 dc7 pm7 cd7 ct7 : Value} {od7 an7 : Option Addr} {sl7 : Array (Option Value)} {cc7 P7 : Addr} {tc7 : Value} {td7 : Option Addr} {tsl7 : Array (Option Value)} {tv7 : Array Value} {f8 : Addr} {oc8 kV8 dc8 pm8 cd8 ct8 : Value} {od8 an8 : Option Addr} {sl8 : Array (Option Value)} {f9 : Addr} {oc9 kV9 dc9 pm9 cd9 ct9 : Value} {od9 an9 : Option Addr} {sl9 : Array (Option Value)} {f10 : Addr} {oc10 kV10 dc10 pm10 cd10 ct10 : Value} {od10 an10 : Option Addr} {sl10 : Array (Option Value)} {f11 : Addr} {oc11 kV11 dc11 pm11 cd11 ct11 : Value} {od11 an11 : Option Addr} {sl11 : Array (Option Value)} {f12 : Addr} {oc12 kV12 dc12 pm12 cd12 ct12 : Value} {od12 an12 : Option Addr} {sl12 : Array (Option Value)} {f13 : Addr} {oc13 kV13 dc13 pm13 cd13 ct13 : Value} {od13 an13 : Option Addr} {sl13 : Array (Option Value)} {f14 : Addr} {oc14 kV14 dc14 pm14 cd14 ct14 : Value} {od14 an14 : Option Addr} {sl14 : Array (Option Value)} {f15 : Addr} {oc15 kV15 dc15 pm15 cd15 ct15 : Value} {od15 an15 : Option Addr} {sl15 : Array (Option Value)} {f16 : Addr} {oc16 kV16 dc16 pm16 cd16 ct16 : Value} {od16 an16 : Option Addr} {sl16 : Array (Option Value)} {f17 : Addr} {oc17 kV17 dc17 pm17 cd17 ct17 : Value} {od17 an17 : Option Addr} {sl17 : Array (Option Value)} {f18 : Addr} {oc18 dc18 pm18 cd18 ct18 : Value} {od18 an18 : Option Addr} {sl18 : Array (Option Value)} {D18 : Addr} {U18_block : Value} {U18_down : Value} {U18_up : Value} {f19 : Addr} {oc19 kV19 dc19 pm19 cd19 ct19 : Value} {od19 an19 : Option Addr} {sl19 : Array (Option Value)} {f20 : Addr} {oc20 dc20 pm20 cd20 ct20 : Value} {od20 an20 : Option Addr} {sl20 : Array (Option Value)} {kV20 : Value} {f21 : Addr} {oc21 dc21 pm21 cd21 ct21 : Value} {od21 an21 : Option Addr} {sl21 : Array (Option Value)} {kV21 : Value} {f22 : Addr} {oc22 dc22 pm22 cd22 ct22 : Value} {od22 an22 : Option Addr} {sl22 : Array (Option Value)} {kV22 : Value} {f23 : Addr} {oc23 dc23 pm23 cd23 ct23 : Value} {od23 an23 : Option Addr} {sl23 : Array (Option Value)} {kV23 : Value} {f24 : Addr} {oc24 dc24 pm24 cd24 ct24 : Value} {od24 an24 : Option Addr} {sl24 : Array (Option Value)} {kV24 : Value} {f25 : Addr} {oc25 kV25 dc25 pm25 cd25 ct25 : Value} {od25 an25 : Option Addr} {sl25 : Array (Option Value)} {f26 : Addr} {oc26 kV26 dc26 pm26 cd26 ct26 : Value} {od26 an26 : Option Addr} {sl26 : Array (Option Value)} {f27 : Addr} {oc27 dc27 pm27 cd27 ct27 : Value} {od27 an27 : Option Addr} {sl27 : Array (Option Value)} {kV27 : Value} {f28 : Addr} {oc28 dc28 pm28 cd28 ct28 : Value} {od28 an28 : Option Addr} {sl28 : Array (Option Value)} {kV28 : Value} {f29 : Addr} {oc29 dc29 pm29 cd29 ct29 : Value} {od29 an29 : Option Addr} {sl29 : Array (Option Value)} {kV29 : Value} {f30 : Addr} {oc30 dc30 pm30 cd30 ct30 : Value} {od30 an30 : Option Addr} {sl30 : Array (Option Value)} {kV30 : Value} {f31 : Addr} {oc31 dc31 pm31 cd31 ct31 : Value} {od31 an31 : Option Addr} {sl31 : Array (Option Value)} {kV31 : Value} {f32 : Addr} {oc32 dc32 pm32 cd32 ct32 : Value} {od32 an32 : Option Addr} {sl32 : Array (Option Value)} {kV32 : Value} {f33 : Addr} {oc33 dc33 pm33 cd33 ct33 : Value} {od33 an33 : Option Addr} {sl33 : Array (Option Value)} {kV33 : Value} {f34 : Addr} {oc34 kV34 dc34 pm34 cd34 ct34 : Value} {od34 an34 : Option Addr} {sl34 : Array (Option Value)} {Vc_LETTERS : Value} {Vc_MOST_CHANNELS : Value} {Vc_MOST_NUMBER : Value} {Vc_MOST_TIME : Value} {XC0 XI0 XB0 XN0 : Addr} {xnm0 xq0 : Str} {xbs0 xbm0 : List Value} {xsn0 : List Str} {xsub0 : List Value} {xab0 : Bool} {xcol0 : Option Bool} {xdd0 : Option Addr} {xm00 xm10 xm20 xm30 xm50 : Option Value} {xoc0 xkV0 xdc0 xpm0 xcd0 xct0 : Value} {xod0 xan0 : Option Addr} {xsl0 : Array (Option Value)} {XC1 XI1 XB1 XN1 : Addr} {xnm1 xq1 : Str} {xbs1 xbm1 : List Value} {xsn1 : List Str} {xsub1 : List Value} {xab1 : Bool} {xcol1 : Option Bool} {xdd1 : Option Addr} {xm01 xm11 xm21 xm31 xm51 : Option Value} {xoc1 xkV1 xdc1 xpm1 xcd1 xct1 : Value} {xod1 xan1 : Option Addr} {xsl1 : Array (Option Value)} {XC2 XI2 XB2 XN2 : Addr} {xnm2 xq2 : Str} {xbs2 xbm2 : List Value} {xsn2 : List Str} {xsub2 : List Value} {xab2 : Bool} {xcol2 : Option Bool} {xdd2 : Option Addr} {xm02 xm12 xm22 xm32 xm52 : Option Value} {xoc2 xkV2 xdc2 xpm2 xcd2 xct2 : Value} {xod2 xan2 : Option Addr} {xsl2 : Array (Option Value)} {XC3 XI3 XB3 XN3 : Addr} {xnm3 xq3 : Str} {xbs3 xbm3 : List Value} {xsn3 : List Str} {xsub3 : List Value} {xab3 : Bool} {xcol3 : Option Bool} {xdd3 : Option Addr} {xm03 xm13 xm23 xm33 xm53 : Option Value} {xoc3 xkV3 xdc3 xpm3 xcd3 xct3 : Value} {xod3 xan3 : Option Addr} {xsl3 : Array (Option Value)} (X : K.In h) (G : h.Ns mainGlobals mg) (TT : TabsD q K h)
    (cca0 : PySem.W.nsIn K mainGlobals "Cue" = some (some (.ref CA0)))
    (ccp0 : PySem.W.plainGet K CA0 Str.empty = true)
    (cch0 : PySem.W.hasDictIn K CA0 = true)
    (cco0 : PySem.W.plainOver K CA0 = true)
    (ccs0 : PySem.W.findIn K (.ref CA0) "__setattr__" = some (some (.builtin "object.__setattr__")))
    (ccf0__number : PySem.W.findIn K (.ref CA0) "_number" = some none)
    (ccf0__moves : PySem.W.findIn K (.ref CA0) "_moves" = some none)
    (ccf0__up : PySem.W.findIn K (.ref CA0) "_up" = some none)
    (ccf0__down : PySem.W.findIn K (.ref CA0) "_down" = some none)
    (ccf0__block : PySem.W.findIn K (.ref CA0) "_block" = some none)
    (ccm0 : PySem.W.makesIn K CA0 = true)
    (cck0 : PySem.W.keepIn K (.ref CA0) = true)
    (ccj0 : PySem.W.findIn K (.ref CA0) "__class__" = some (some (.builtin "object.__class__")))
    (ccr0 : PySem.W.mroIn K CA0 (.type "object") = some true)
    (cct0 : PySem.W.typeIn K (.ref CA0) = some (.type "type"))
    (cql0_0 : PySem.W.subIn K (.type "NoneType") (.ref CA0) = some false)
    (cqr0_0 : PySem.W.subIn K (.ref CA0) (.type "NoneType") = some false)
    (cql0_1 : PySem.W.subIn K (.type "bool") (.ref CA0) = some false)
    (cqr0_1 : PySem.W.subIn K (.ref CA0) (.type "bool") = some false)
    (cql0_2 : PySem.W.subIn K (.type "int") (.ref CA0) = some false)
    (cqr0_2 : PySem.W.subIn K (.ref CA0) (.type "int") = some false)
    (cql0_3 : PySem.W.subIn K (.type "str") (.ref CA0) = some false)
    (cqr0_3 : PySem.W.subIn K (.ref CA0) (.type "str") = some false)
    (cql0_4 : PySem.W.subIn K (.type "list") (.ref CA0) = some false)
    (cqr0_4 : PySem.W.subIn K (.ref CA0) (.type "list") = some false)
    (cql0_5 : PySem.W.subIn K (.type "tuple") (.ref CA0) = some false)
    (cqr0_5 : PySem.W.subIn K (.ref CA0) (.type "tuple") = some false)
    (cqn0 : PySem.W.findIn K (.ref CA0) "__ne__" = some (some (.builtin "object.__ne__")))
    (cqo0 : PySem.W.mroIn K CA0 (.type "object") = some true)
    (ccn : PySem.W.specialIn K (.builtin "object.__class__") "__get__" = some (some (.builtin "getset_descriptor.__get__")))
    (ccx : PySem.W.takesIn K (.builtin "object.__class__") = some true)
    (a0 : PySem.W.nsIn K mainGlobals "is_whole" = some (some (.ref f0)))
    (l0 : K.lookup f0 = some ⟨oc0, od0, .func (PySem.W.fnOf "is_whole" "is_whole" (defArgs s_is_whole) (defBody s_is_whole) (defScope s_is_whole) .none kV0 dc0 pm0 an0 cd0 ct0), sl0⟩)
    (c0 : PySem.W.codeIn K cd0 "is_whole" = true)
    (k0 : PySem.W.keepIn K (.ref f0) = true)
    (a1 : PySem.W.nsIn K mainGlobals "is_channel" = some (some (.ref f1)))
    (l1 : K.lookup f1 = some ⟨oc1, od1, .func (PySem.W.fnOf "is_channel" "is_channel" (defArgs s_is_channel) (defBody s_is_channel) (defScope s_is_channel) .none kV1 dc1 pm1 an1 cd1 ct1), sl1⟩)
    (c1 : PySem.W.codeIn K cd1 "is_channel" = true)
    (k1 : PySem.W.keepIn K (.ref f1) = true)
    (h1 : cd1 = .ref cc1)
    (t1 : K.lookup cc1 = some ⟨tc1, td1, .fields tv1, tsl1⟩)
    (v1 : (tv1[11]? : Option Value) = some (.ref P1))
    (n1 : K.lookup P1 = none)
    (r1 : ((recsOf q).find? (fun e => e.name == ("is_channel" : Str))).isSome = true)
    (a2 : PySem.W.nsIn K mainGlobals "is_level" = some (some (.ref f2)))
    (l2 : K.lookup f2 = some ⟨oc2, od2, .func (PySem.W.fnOf "is_level" "is_level" (defArgs s_is_level) (defBody s_is_level) (defScope s_is_level) .none kV2 dc2 pm2 an2 cd2 ct2), sl2⟩)
    (c2 : PySem.W.codeIn K cd2 "is_level" = true)
    (k2 : PySem.W.keepIn K (.ref f2) = true)
    (a3 : PySem.W.nsIn K mainGlobals "is_number" = some (some (.ref f3)))
    (l3 : K.lookup f3 = some ⟨oc3, od3, .func (PySem.W.fnOf "is_number" "is_number" (defArgs s_is_number) (defBody s_is_number) (defScope s_is_number) .none kV3 dc3 pm3 an3 cd3 ct3), sl3⟩)
    (c3 : PySem.W.codeIn K cd3 "is_number" = true)
    (k3 : PySem.W.keepIn K (.ref f3) = true)
    (a4 : PySem.W.nsIn K mainGlobals "is_time" = some (some (.ref f4)))
    (l4 : K.lookup f4 = some ⟨oc4, od4, .func (PySem.W.fnOf "is_time" "is_time" (defArgs s_is_time) (defBody s_is_time) (defScope s_is_time) .none kV4 dc4 pm4 an4 cd4 ct4), sl4⟩)
    (c4 : PySem.W.codeIn K cd4 "is_time" = true)
    (k4 : PySem.W.keepIn K (.ref f4) = true)
    (a5 : PySem.W.nsIn K mainGlobals "number_text" = some (some (.ref f5)))
    (l5 : K.lookup f5 = some ⟨oc5, od5, .func (PySem.W.fnOf "number_text" "number_text" (defArgs s_number_text) (defBody s_number_text) (defScope s_number_text) .none kV5 dc5 pm5 an5 cd5 ct5), sl5⟩)
    (c5 : PySem.W.codeIn K cd5 "number_text" = true)
    (k5 : PySem.W.keepIn K (.ref f5) = true)
    (a6 : PySem.W.nsIn K mainGlobals "time_text" = some (some (.ref f6)))
    (l6 : K.lookup f6 = some ⟨oc6, od6, .func (PySem.W.fnOf "time_text" "time_text" (defArgs s_time_text) (defBody s_time_text) (defScope s_time_text) .none kV6 dc6 pm6 an6 cd6 ct6), sl6⟩)
    (c6 : PySem.W.codeIn K cd6 "time_text" = true)
    (k6 : PySem.W.keepIn K (.ref f6) = true)
    (a7 : PySem.W.nsIn K mainGlobals "is_moves" = some (some (.ref f7)))
    (l7 : K.lookup f7 = some ⟨oc7, od7, .func (PySem.W.fnOf "is_moves" "is_moves" (defArgs s_is_moves) (defBody s_is_moves) (defScope s_is_moves) .none kV7 dc7 pm7 an7 cd7 ct7), sl7⟩)
    (c7 : PySem.W.codeIn K cd7 "is_moves" = true)
    (k7 : PySem.W.keepIn K (.ref f7) = true)
    (h7 : cd7 = .ref cc7)
    (t7 : K.lookup cc7 = some ⟨tc7, td7, .fields tv7, tsl7⟩)
    (v7 : (tv7[11]? : Option Value) = some (.ref P7))
    (n7 : K.lookup P7 = none)
    (r7 : ((recsOf q).find? (fun e => e.name == ("is_moves" : Str))).isSome = true)
    (a8 : PySem.W.nsIn K mainGlobals "need_moves" = some (some (.ref f8)))
    (l8 : K.lookup f8 = some ⟨oc8, od8, .func (PySem.W.fnOf "need_moves" "need_moves" (defArgs s_need_moves) (defBody s_need_moves) (defScope s_need_moves) .none kV8 dc8 pm8 an8 cd8 ct8), sl8⟩)
    (c8 : PySem.W.codeIn K cd8 "need_moves" = true)
    (k8 : PySem.W.keepIn K (.ref f8) = true)
    (a9 : PySem.W.nsIn K mainGlobals "pairs_text" = some (some (.ref f9)))
    (l9 : K.lookup f9 = some ⟨oc9, od9, .func (PySem.W.fnOf "pairs_text" "pairs_text" (defArgs s_pairs_text) (defBody s_pairs_text) (defScope s_pairs_text) .none kV9 dc9 pm9 an9 cd9 ct9), sl9⟩)
    (c9 : PySem.W.codeIn K cd9 "pairs_text" = true)
    (k9 : PySem.W.keepIn K (.ref f9) = true)
    (a10 : PySem.W.nsIn K mainGlobals "_law_cell" = some (some (.ref f10)))
    (l10 : K.lookup f10 = some ⟨oc10, od10, .func (PySem.W.fnOf "_law_cell" "_law_cell" (defArgs s__law_cell) (defBody s__law_cell) (defScope s__law_cell) .none kV10 dc10 pm10 an10 cd10 ct10), sl10⟩)
    (c10 : PySem.W.codeIn K cd10 "_law_cell" = true)
    (k10 : PySem.W.keepIn K (.ref f10) = true)
    (a11 : PySem.W.nsIn K mainGlobals "_law_box" = some (some (.ref f11)))
    (l11 : K.lookup f11 = some ⟨oc11, od11, .func (PySem.W.fnOf "_law_box" "_law_box" (defArgs s__law_box) (defBody s__law_box) (defScope s__law_box) .none kV11 dc11 pm11 an11 cd11 ct11), sl11⟩)
    (c11 : PySem.W.codeIn K cd11 "_law_box" = true)
    (k11 : PySem.W.keepIn K (.ref f11) = true)
    (a12 : PySem.W.nsIn K mainGlobals "_law_take" = some (some (.ref f12)))
    (l12 : K.lookup f12 = some ⟨oc12, od12, .func (PySem.W.fnOf "_law_take" "_law_take" (defArgs s__law_take) (defBody s__law_take) (defScope s__law_take) .none kV12 dc12 pm12 an12 cd12 ct12), sl12⟩)
    (c12 : PySem.W.codeIn K cd12 "_law_take" = true)
    (k12 : PySem.W.keepIn K (.ref f12) = true)
    (a13 : PySem.W.nsIn K mainGlobals "_law_channels" = some (some (.ref f13)))
    (l13 : K.lookup f13 = some ⟨oc13, od13, .func (PySem.W.fnOf "_law_channels" "_law_channels" (defArgs s__law_channels) (defBody s__law_channels) (defScope s__law_channels) .none kV13 dc13 pm13 an13 cd13 ct13), sl13⟩)
    (c13 : PySem.W.codeIn K cd13 "_law_channels" = true)
    (k13 : PySem.W.keepIn K (.ref f13) = true)
    (a14 : PySem.W.nsIn K mainGlobals "_law_level" = some (some (.ref f14)))
    (l14 : K.lookup f14 = some ⟨oc14, od14, .func (PySem.W.fnOf "_law_level" "_law_level" (defArgs s__law_level) (defBody s__law_level) (defScope s__law_level) .none kV14 dc14 pm14 an14 cd14 ct14), sl14⟩)
    (c14 : PySem.W.codeIn K cd14 "_law_level" = true)
    (k14 : PySem.W.keepIn K (.ref f14) = true)
    (a15 : PySem.W.nsIn K mainGlobals "_law_sorted" = some (some (.ref f15)))
    (l15 : K.lookup f15 = some ⟨oc15, od15, .func (PySem.W.fnOf "_law_sorted" "_law_sorted" (defArgs s__law_sorted) (defBody s__law_sorted) (defScope s__law_sorted) .none kV15 dc15 pm15 an15 cd15 ct15), sl15⟩)
    (c15 : PySem.W.codeIn K cd15 "_law_sorted" = true)
    (k15 : PySem.W.keepIn K (.ref f15) = true)
    (a16 : PySem.W.nsIn K mainGlobals "_law_drawn" = some (some (.ref f16)))
    (l16 : K.lookup f16 = some ⟨oc16, od16, .func (PySem.W.fnOf "_law_drawn" "_law_drawn" (defArgs s__law_drawn) (defBody s__law_drawn) (defScope s__law_drawn) .none kV16 dc16 pm16 an16 cd16 ct16), sl16⟩)
    (c16 : PySem.W.codeIn K cd16 "_law_drawn" = true)
    (k16 : PySem.W.keepIn K (.ref f16) = true)
    (a17 : PySem.W.nsIn K mainGlobals "_law_parts" = some (some (.ref f17)))
    (l17 : K.lookup f17 = some ⟨oc17, od17, .func (PySem.W.fnOf "_law_parts" "_law_parts" (defArgs s__law_parts) (defBody s__law_parts) (defScope s__law_parts) .none kV17 dc17 pm17 an17 cd17 ct17), sl17⟩)
    (c17 : PySem.W.codeIn K cd17 "_law_parts" = true)
    (k17 : PySem.W.keepIn K (.ref f17) = true)
    (a18 : PySem.W.findIn K (.ref CA0) "__init__" = some (some (.ref f18)))
    (i18 : PySem.W.isFn K (.ref f18) = true)
    (l18 : K.lookup f18 = some ⟨oc18, od18, .func (PySem.W.fnOf "__init__" "Cue.__init__" (defArgs s_Cue___init__) (defBody s_Cue___init__) (defScope s_Cue___init__) .none (.ref D18) dc18 pm18 an18 cd18 ct18), sl18⟩)
    (c18 : PySem.W.codeIn K cd18 "Cue.__init__" = true)
    (k18 : PySem.W.keepIn K (.ref f18) = true)
    (g18_block : PySem.W.nsIn K D18 "block" = some (some U18_block))
    (g18_blockr : RelV (.bl false) U18_block)
    (g18_down : PySem.W.nsIn K D18 "down" = some (some U18_down))
    (g18_downr : RelV (.non) U18_down)
    (g18_up : PySem.W.nsIn K D18 "up" = some (some U18_up))
    (g18_upr : RelV (.int 0) U18_up)
    (a19 : PySem.W.nsIn K mainGlobals "_law_made" = some (some (.ref f19)))
    (l19 : K.lookup f19 = some ⟨oc19, od19, .func (PySem.W.fnOf "_law_made" "_law_made" (defArgs s__law_made) (defBody s__law_made) (defScope s__law_made) .none kV19 dc19 pm19 an19 cd19 ct19), sl19⟩)
    (c19 : PySem.W.codeIn K cd19 "_law_made" = true)
    (k19 : PySem.W.keepIn K (.ref f19) = true)
    (a20 : PySem.W.findIn K (.ref CA0) "number" = some (some (.ref f20)))
    (i20 : PySem.W.isFn K (.ref f20) = true)
    (l20 : K.lookup f20 = some ⟨oc20, od20, .func (PySem.W.fnOf "number" "Cue.number" (defArgs s_Cue_number) (defBody s_Cue_number) (defScope s_Cue_number) .none kV20 dc20 pm20 an20 cd20 ct20), sl20⟩)
    (c20 : PySem.W.codeIn K cd20 "Cue.number" = true)
    (k20 : PySem.W.keepIn K (.ref f20) = true)
    (a21 : PySem.W.findIn K (.ref CA0) "moves" = some (some (.ref f21)))
    (i21 : PySem.W.isFn K (.ref f21) = true)
    (l21 : K.lookup f21 = some ⟨oc21, od21, .func (PySem.W.fnOf "moves" "Cue.moves" (defArgs s_Cue_moves) (defBody s_Cue_moves) (defScope s_Cue_moves) .none kV21 dc21 pm21 an21 cd21 ct21), sl21⟩)
    (c21 : PySem.W.codeIn K cd21 "Cue.moves" = true)
    (k21 : PySem.W.keepIn K (.ref f21) = true)
    (a22 : PySem.W.findIn K (.ref CA0) "up" = some (some (.ref f22)))
    (i22 : PySem.W.isFn K (.ref f22) = true)
    (l22 : K.lookup f22 = some ⟨oc22, od22, .func (PySem.W.fnOf "up" "Cue.up" (defArgs s_Cue_up) (defBody s_Cue_up) (defScope s_Cue_up) .none kV22 dc22 pm22 an22 cd22 ct22), sl22⟩)
    (c22 : PySem.W.codeIn K cd22 "Cue.up" = true)
    (k22 : PySem.W.keepIn K (.ref f22) = true)
    (a23 : PySem.W.findIn K (.ref CA0) "down" = some (some (.ref f23)))
    (i23 : PySem.W.isFn K (.ref f23) = true)
    (l23 : K.lookup f23 = some ⟨oc23, od23, .func (PySem.W.fnOf "down" "Cue.down" (defArgs s_Cue_down) (defBody s_Cue_down) (defScope s_Cue_down) .none kV23 dc23 pm23 an23 cd23 ct23), sl23⟩)
    (c23 : PySem.W.codeIn K cd23 "Cue.down" = true)
    (k23 : PySem.W.keepIn K (.ref f23) = true)
    (a24 : PySem.W.findIn K (.ref CA0) "block" = some (some (.ref f24)))
    (i24 : PySem.W.isFn K (.ref f24) = true)
    (l24 : K.lookup f24 = some ⟨oc24, od24, .func (PySem.W.fnOf "block" "Cue.block" (defArgs s_Cue_block) (defBody s_Cue_block) (defScope s_Cue_block) .none kV24 dc24 pm24 an24 cd24 ct24), sl24⟩)
    (c24 : PySem.W.codeIn K cd24 "Cue.block" = true)
    (k24 : PySem.W.keepIn K (.ref f24) = true)
    (a25 : PySem.W.nsIn K mainGlobals "_law_right" = some (some (.ref f25)))
    (l25 : K.lookup f25 = some ⟨oc25, od25, .func (PySem.W.fnOf "_law_right" "_law_right" (defArgs s__law_right) (defBody s__law_right) (defScope s__law_right) .none kV25 dc25 pm25 an25 cd25 ct25), sl25⟩)
    (c25 : PySem.W.codeIn K cd25 "_law_right" = true)
    (k25 : PySem.W.keepIn K (.ref f25) = true)
    (a26 : PySem.W.nsIn K mainGlobals "_law_otherwise" = some (some (.ref f26)))
    (l26 : K.lookup f26 = some ⟨oc26, od26, .func (PySem.W.fnOf "_law_otherwise" "_law_otherwise" (defArgs s__law_otherwise) (defBody s__law_otherwise) (defScope s__law_otherwise) .none kV26 dc26 pm26 an26 cd26 ct26), sl26⟩)
    (c26 : PySem.W.codeIn K cd26 "_law_otherwise" = true)
    (k26 : PySem.W.keepIn K (.ref f26) = true)
    (a27 : PySem.W.findIn K (.ref CA0) "with_moves" = some (some (.ref f27)))
    (i27 : PySem.W.isFn K (.ref f27) = true)
    (l27 : K.lookup f27 = some ⟨oc27, od27, .func (PySem.W.fnOf "with_moves" "Cue.with_moves" (defArgs s_Cue_with_moves) (defBody s_Cue_with_moves) (defScope s_Cue_with_moves) .none kV27 dc27 pm27 an27 cd27 ct27), sl27⟩)
    (c27 : PySem.W.codeIn K cd27 "Cue.with_moves" = true)
    (k27 : PySem.W.keepIn K (.ref f27) = true)
    (a28 : PySem.W.findIn K (.ref CA0) "with_number" = some (some (.ref f28)))
    (i28 : PySem.W.isFn K (.ref f28) = true)
    (l28 : K.lookup f28 = some ⟨oc28, od28, .func (PySem.W.fnOf "with_number" "Cue.with_number" (defArgs s_Cue_with_number) (defBody s_Cue_with_number) (defScope s_Cue_with_number) .none kV28 dc28 pm28 an28 cd28 ct28), sl28⟩)
    (c28 : PySem.W.codeIn K cd28 "Cue.with_number" = true)
    (k28 : PySem.W.keepIn K (.ref f28) = true)
    (a29 : PySem.W.findIn K (.ref CA0) "with_block" = some (some (.ref f29)))
    (i29 : PySem.W.isFn K (.ref f29) = true)
    (l29 : K.lookup f29 = some ⟨oc29, od29, .func (PySem.W.fnOf "with_block" "Cue.with_block" (defArgs s_Cue_with_block) (defBody s_Cue_with_block) (defScope s_Cue_with_block) .none kV29 dc29 pm29 an29 cd29 ct29), sl29⟩)
    (c29 : PySem.W.codeIn K cd29 "Cue.with_block" = true)
    (k29 : PySem.W.keepIn K (.ref f29) = true)
    (a30 : PySem.W.findIn K (.ref CA0) "text" = some (some (.ref f30)))
    (i30 : PySem.W.isFn K (.ref f30) = true)
    (l30 : K.lookup f30 = some ⟨oc30, od30, .func (PySem.W.fnOf "text" "Cue.text" (defArgs s_Cue_text) (defBody s_Cue_text) (defScope s_Cue_text) .none kV30 dc30 pm30 an30 cd30 ct30), sl30⟩)
    (c30 : PySem.W.codeIn K cd30 "Cue.text" = true)
    (k30 : PySem.W.keepIn K (.ref f30) = true)
    (a31 : PySem.W.findIn K (.ref CA0) "__str__" = some (some (.ref f31)))
    (i31 : PySem.W.isFn K (.ref f31) = true)
    (l31 : K.lookup f31 = some ⟨oc31, od31, .func (PySem.W.fnOf "__str__" "Cue.__str__" (defArgs s_Cue___str__) (defBody s_Cue___str__) (defScope s_Cue___str__) .none kV31 dc31 pm31 an31 cd31 ct31), sl31⟩)
    (c31 : PySem.W.codeIn K cd31 "Cue.__str__" = true)
    (k31 : PySem.W.keepIn K (.ref f31) = true)
    (a32 : PySem.W.findIn K (.ref CA0) "parts" = some (some (.ref f32)))
    (i32 : PySem.W.isFn K (.ref f32) = true)
    (l32 : K.lookup f32 = some ⟨oc32, od32, .func (PySem.W.fnOf "parts" "Cue.parts" (defArgs s_Cue_parts) (defBody s_Cue_parts) (defScope s_Cue_parts) .none kV32 dc32 pm32 an32 cd32 ct32), sl32⟩)
    (c32 : PySem.W.codeIn K cd32 "Cue.parts" = true)
    (k32 : PySem.W.keepIn K (.ref f32) = true)
    (a33 : PySem.W.findIn K (.ref CA0) "__eq__" = some (some (.ref f33)))
    (i33 : PySem.W.isFn K (.ref f33) = true)
    (l33 : K.lookup f33 = some ⟨oc33, od33, .func (PySem.W.fnOf "__eq__" "Cue.__eq__" (defArgs s_Cue___eq__) (defBody s_Cue___eq__) (defScope s_Cue___eq__) .none kV33 dc33 pm33 an33 cd33 ct33), sl33⟩)
    (c33 : PySem.W.codeIn K cd33 "Cue.__eq__" = true)
    (k33 : PySem.W.keepIn K (.ref f33) = true)
    (a34 : PySem.W.nsIn K mainGlobals "law" = some (some (.ref f34)))
    (l34 : K.lookup f34 = some ⟨oc34, od34, .func (PySem.W.fnOf "law" "law" (defArgs s_law) (defBody s_law) (defScope s_law) .none kV34 dc34 pm34 an34 cd34 ct34), sl34⟩)
    (c34 : PySem.W.codeIn K cd34 "law" = true)
    (k34 : PySem.W.keepIn K (.ref f34) = true)
    (b_all : PySem.W.nsIn K mainGlobals "all" = some none)
    (b_bool : PySem.W.nsIn K mainGlobals "bool" = some none)
    (b_dict : PySem.W.nsIn K mainGlobals "dict" = some none)
    (b_divmod : PySem.W.nsIn K mainGlobals "divmod" = some none)
    (b_int : PySem.W.nsIn K mainGlobals "int" = some none)
    (b_isinstance : PySem.W.nsIn K mainGlobals "isinstance" = some none)
    (b_len : PySem.W.nsIn K mainGlobals "len" = some none)
    (b_list : PySem.W.nsIn K mainGlobals "list" = some none)
    (b_max : PySem.W.nsIn K mainGlobals "max" = some none)
    (b_min : PySem.W.nsIn K mainGlobals "min" = some none)
    (b_range : PySem.W.nsIn K mainGlobals "range" = some none)
    (b_repr : PySem.W.nsIn K mainGlobals "repr" = some none)
    (b_sorted : PySem.W.nsIn K mainGlobals "sorted" = some none)
    (b_str : PySem.W.nsIn K mainGlobals "str" = some none)
    (b_tuple : PySem.W.nsIn K mainGlobals "tuple" = some none)
    (c_LETTERS : PySem.W.nsIn K mainGlobals "LETTERS" = some (some Vc_LETTERS))
    (c_LETTERSr : RelV (.str "abcdefghijklmnopqrstuvwxyz") Vc_LETTERS)
    (c_MOST_CHANNELS : PySem.W.nsIn K mainGlobals "MOST_CHANNELS" = some (some Vc_MOST_CHANNELS))
    (c_MOST_CHANNELSr : RelV (.int 60) Vc_MOST_CHANNELS)
    (c_MOST_NUMBER : PySem.W.nsIn K mainGlobals "MOST_NUMBER" = some (some Vc_MOST_NUMBER))
    (c_MOST_NUMBERr : RelV (.int 99999) Vc_MOST_NUMBER)
    (c_MOST_TIME : PySem.W.nsIn K mainGlobals "MOST_TIME" = some (some Vc_MOST_TIME))
    (c_MOST_TIMEr : RelV (.int 9999) Vc_MOST_TIME)
    (xa0 : PySem.W.nsIn K mainGlobals "NoFlag" = some (some (.ref XC0)))
    (xl0 : K.lookup XC0 = some (excClassObj xnm0 xq0 XC0 XN0 xbs0 xbm0 true xsn0 xsub0 xab0 xcol0 xdd0 xm00 xm10 xm20 xm30 xm50 "ValueError.__new__"))
    (xr0 : PySem.HandSPX.refsVE xbm0 = true)
    (xs0 : PySem.W.findIn K (.ref XC0) "__setattr__" = some (some (.builtin "object.__setattr__")))
    (xe0 : PySem.W.subIn K (.ref XC0) (.type "BaseException") = some true)
    (xt0 : PySem.W.typeIn K (.ref XC0) = some (.type "type"))
    (xk0 : PySem.W.keepIn K (.ref XC0) = true)
    (xi0 : PySem.W.findIn K (.ref XC0) "__init__" = some (some (.ref XI0)))
    (xj0 : PySem.W.typeIn K (.ref XI0) = some (.type "function"))
    (xm0 : K.lookup XI0 = some ⟨xoc0, xod0, .func (PySem.W.fnOf "__init__" "NoFlag.__init__" (defArgs sx_NoFlag) (defBody sx_NoFlag) (defScope sx_NoFlag) .none xkV0 xdc0 xpm0 xan0 xcd0 xct0), xsl0⟩)
    (xc0 : PySem.W.codeIn K xcd0 "NoFlag.__init__" = true)
    (xf0 : PySem.W.findIn K (.ref XC0) "value" = some none)
    (xb0 : PySem.W.nsIn K mainGlobals "CueError" = some (some (.ref XB0)))
    (xg0 : PySem.W.specialIn K (.ref XB0) "__getattribute__" = some (some (.builtin "type.__getattribute__")))
    (xw0 : PySem.W.readsIn K XB0 (.type "type") = true)
    (xv0 : PySem.W.findCls K (.ref XB0) (.type "type") "__init__" = some (.val (.builtin "ValueError.__init__")))
    (yg0 : PySem.W.findIn K (.ref XC0) "__getattribute__" = some (some (.builtin "BaseException.__getattribute__")))
    (yh0 : PySem.W.findIn K (.ref XC0) "__getattr__" = some none)
    (yd0 : PySem.W.hasDictIn K XC0 = true)
    (ya0 : PySem.W.findIn K (.ref XC0) "__class__" = some (some (.builtin "object.__class__")))
    (yn0 : PySem.W.specialIn K (.builtin "object.__class__") "__get__" = some (some (.builtin "getset_descriptor.__get__")))
    (yt0 : PySem.W.takesIn K (.builtin "object.__class__") = some true)
    (ym0 : PySem.W.mroIn K XC0 (.type "object") = some true)
    (xa1 : PySem.W.nsIn K mainGlobals "NoMoves" = some (some (.ref XC1)))
    (xl1 : K.lookup XC1 = some (excClassObj xnm1 xq1 XC1 XN1 xbs1 xbm1 true xsn1 xsub1 xab1 xcol1 xdd1 xm01 xm11 xm21 xm31 xm51 "ValueError.__new__"))
    (xr1 : PySem.HandSPX.refsVE xbm1 = true)
    (xs1 : PySem.W.findIn K (.ref XC1) "__setattr__" = some (some (.builtin "object.__setattr__")))
    (xe1 : PySem.W.subIn K (.ref XC1) (.type "BaseException") = some true)
    (xt1 : PySem.W.typeIn K (.ref XC1) = some (.type "type"))
    (xk1 : PySem.W.keepIn K (.ref XC1) = true)
    (xi1 : PySem.W.findIn K (.ref XC1) "__init__" = some (some (.ref XI1)))
    (xj1 : PySem.W.typeIn K (.ref XI1) = some (.type "function"))
    (xm1 : K.lookup XI1 = some ⟨xoc1, xod1, .func (PySem.W.fnOf "__init__" "NoMoves.__init__" (defArgs sx_NoMoves) (defBody sx_NoMoves) (defScope sx_NoMoves) .none xkV1 xdc1 xpm1 xan1 xcd1 xct1), xsl1⟩)
    (xc1 : PySem.W.codeIn K xcd1 "NoMoves.__init__" = true)
    (xf1 : PySem.W.findIn K (.ref XC1) "value" = some none)
    (xb1 : PySem.W.nsIn K mainGlobals "CueError" = some (some (.ref XB1)))
    (xg1 : PySem.W.specialIn K (.ref XB1) "__getattribute__" = some (some (.builtin "type.__getattribute__")))
    (xw1 : PySem.W.readsIn K XB1 (.type "type") = true)
    (xv1 : PySem.W.findCls K (.ref XB1) (.type "type") "__init__" = some (.val (.builtin "ValueError.__init__")))
    (yg1 : PySem.W.findIn K (.ref XC1) "__getattribute__" = some (some (.builtin "BaseException.__getattribute__")))
    (yh1 : PySem.W.findIn K (.ref XC1) "__getattr__" = some none)
    (yd1 : PySem.W.hasDictIn K XC1 = true)
    (ya1 : PySem.W.findIn K (.ref XC1) "__class__" = some (some (.builtin "object.__class__")))
    (yn1 : PySem.W.specialIn K (.builtin "object.__class__") "__get__" = some (some (.builtin "getset_descriptor.__get__")))
    (yt1 : PySem.W.takesIn K (.builtin "object.__class__") = some true)
    (ym1 : PySem.W.mroIn K XC1 (.type "object") = some true)
    (xa2 : PySem.W.nsIn K mainGlobals "NoNumber" = some (some (.ref XC2)))
    (xl2 : K.lookup XC2 = some (excClassObj xnm2 xq2 XC2 XN2 xbs2 xbm2 true xsn2 xsub2 xab2 xcol2 xdd2 xm02 xm12 xm22 xm32 xm52 "ValueError.__new__"))
    (xr2 : PySem.HandSPX.refsVE xbm2 = true)
    (xs2 : PySem.W.findIn K (.ref XC2) "__setattr__" = some (some (.builtin "object.__setattr__")))
    (xe2 : PySem.W.subIn K (.ref XC2) (.type "BaseException") = some true)
    (xt2 : PySem.W.typeIn K (.ref XC2) = some (.type "type"))
    (xk2 : PySem.W.keepIn K (.ref XC2) = true)
    (xi2 : PySem.W.findIn K (.ref XC2) "__init__" = some (some (.ref XI2)))
    (xj2 : PySem.W.typeIn K (.ref XI2) = some (.type "function"))
    (xm2 : K.lookup XI2 = some ⟨xoc2, xod2, .func (PySem.W.fnOf "__init__" "NoNumber.__init__" (defArgs sx_NoNumber) (defBody sx_NoNumber) (defScope sx_NoNumber) .none xkV2 xdc2 xpm2 xan2 xcd2 xct2), xsl2⟩)
    (xc2 : PySem.W.codeIn K xcd2 "NoNumber.__init__" = true)
    (xf2 : PySem.W.findIn K (.ref XC2) "value" = some none)
    (xb2 : PySem.W.nsIn K mainGlobals "CueError" = some (some (.ref XB2)))
    (xg2 : PySem.W.specialIn K (.ref XB2) "__getattribute__" = some (some (.builtin "type.__getattribute__")))
    (xw2 : PySem.W.readsIn K XB2 (.type "type") = true)
    (xv2 : PySem.W.findCls K (.ref XB2) (.type "type") "__init__" = some (.val (.builtin "ValueError.__init__")))
    (yg2 : PySem.W.findIn K (.ref XC2) "__getattribute__" = some (some (.builtin "BaseException.__getattribute__")))
    (yh2 : PySem.W.findIn K (.ref XC2) "__getattr__" = some none)
    (yd2 : PySem.W.hasDictIn K XC2 = true)
    (ya2 : PySem.W.findIn K (.ref XC2) "__class__" = some (some (.builtin "object.__class__")))
    (yn2 : PySem.W.specialIn K (.builtin "object.__class__") "__get__" = some (some (.builtin "getset_descriptor.__get__")))
    (yt2 : PySem.W.takesIn K (.builtin "object.__class__") = some true)
    (ym2 : PySem.W.mroIn K XC2 (.type "object") = some true)
    (xa3 : PySem.W.nsIn K mainGlobals "NoTime" = some (some (.ref XC3)))
    (xl3 : K.lookup XC3 = some (excClassObj xnm3 xq3 XC3 XN3 xbs3 xbm3 true xsn3 xsub3 xab3 xcol3 xdd3 xm03 xm13 xm23 xm33 xm53 "ValueError.__new__"))
    (xr3 : PySem.HandSPX.refsVE xbm3 = true)
    (xs3 : PySem.W.findIn K (.ref XC3) "__setattr__" = some (some (.builtin "object.__setattr__")))
    (xe3 : PySem.W.subIn K (.ref XC3) (.type "BaseException") = some true)
    (xt3 : PySem.W.typeIn K (.ref XC3) = some (.type "type"))
    (xk3 : PySem.W.keepIn K (.ref XC3) = true)
    (xi3 : PySem.W.findIn K (.ref XC3) "__init__" = some (some (.ref XI3)))
    (xj3 : PySem.W.typeIn K (.ref XI3) = some (.type "function"))
    (xm3 : K.lookup XI3 = some ⟨xoc3, xod3, .func (PySem.W.fnOf "__init__" "NoTime.__init__" (defArgs sx_NoTime) (defBody sx_NoTime) (defScope sx_NoTime) .none xkV3 xdc3 xpm3 xan3 xcd3 xct3), xsl3⟩)
    (xc3 : PySem.W.codeIn K xcd3 "NoTime.__init__" = true)
    (xf3 : PySem.W.findIn K (.ref XC3) "value" = some none)
    (xb3 : PySem.W.nsIn K mainGlobals "CueError" = some (some (.ref XB3)))
    (xg3 : PySem.W.specialIn K (.ref XB3) "__getattribute__" = some (some (.builtin "type.__getattribute__")))
    (xw3 : PySem.W.readsIn K XB3 (.type "type") = true)
    (xv3 : PySem.W.findCls K (.ref XB3) (.type "type") "__init__" = some (.val (.builtin "ValueError.__init__")))
    (yg3 : PySem.W.findIn K (.ref XC3) "__getattribute__" = some (some (.builtin "BaseException.__getattribute__")))
    (yh3 : PySem.W.findIn K (.ref XC3) "__getattr__" = some none)
    (yd3 : PySem.W.hasDictIn K XC3 = true)
    (ya3 : PySem.W.findIn K (.ref XC3) "__class__" = some (some (.builtin "object.__class__")))
    (yn3 : PySem.W.specialIn K (.builtin "object.__class__") "__get__" = some (some (.builtin "getset_descriptor.__get__")))
    (yt3 : PySem.W.takesIn K (.builtin "object.__class__") = some true)
    (ym3 : PySem.W.mroIn K XC3 (.type "object") = some true)
    (pl : ∀ ns : List Int, ns.length ≤ 63 → (∀ z ∈ ns, Builtin.Int.intBits z ≤ 1048576) → ∃ ρ, f_law [.sh (.scr ns)] = .ok (.sh (.bl true)) ρ) : LawD l w K 9 63 mg h := by
  have T1 := TT "is_channel" _ _ r1 (tabIn_of a1 l1 h1 t1 v1)
  have T7 := TT "is_moves" _ _ r7 (tabIn_of a7 l7 h7 t7 v7)
  have en_NoFlag : (gOf K [P1, P7] [("NoFlag", XC0), ("NoMoves", XC1), ("NoNumber", XC2), ("NoTime", XC3), ("Cue", CA0)] []).cn "NoFlag" = XC0 := by first | rfl | simp [gOf]
  have en_NoMoves : (gOf K [P1, P7] [("NoFlag", XC0), ("NoMoves", XC1), ("NoNumber", XC2), ("NoTime", XC3), ("Cue", CA0)] []).cn "NoMoves" = XC1 := by first | rfl | simp [gOf]
  have en_NoNumber : (gOf K [P1, P7] [("NoFlag", XC0), ("NoMoves", XC1), ("NoNumber", XC2), ("NoTime", XC3), ("Cue", CA0)] []).cn "NoNumber" = XC2 := by first | rfl | simp [gOf]
  have en_NoTime : (gOf K [P1, P7] [("NoFlag", XC0), ("NoMoves", XC1), ("NoNumber", XC2), ("NoTime", XC3), ("Cue", CA0)] []).cn "NoTime" = XC3 := by first | rfl | simp [gOf]
  have ec0 : (gOf K [P1, P7] [("NoFlag", XC0), ("NoMoves", XC1), ("NoNumber", XC2), ("NoTime", XC3), ("Cue", CA0)] []).cn "Cue" = CA0 := by first | rfl | simp [gOf]
  refine ⟨gOf K [P1, P7] [("NoFlag", XC0), ("NoMoves", XC1), ("NoNumber", XC2), ("NoTime", XC3), ("Cue", CA0)] [], [(cc1, P1), (cc7, P7)], f_law, rfl, rfl, (List.forall_mem_cons.mpr ⟨T1.2, (List.forall_mem_cons.mpr ⟨T7.2, (fun _ m => (nomatch m))⟩)⟩), (List.forall_mem_cons.mpr ⟨n1, (List.forall_mem_cons.mpr ⟨n7, (fun _ m => (nomatch m))⟩)⟩), (List.forall_mem_cons.mpr ⟨T1.1, (List.forall_mem_cons.mpr ⟨T7.1, (fun _ m => (nomatch m))⟩)⟩), fun base KB NB sy TB => ok_law (g := gOf K [P1, P7] [("NoFlag", XC0), ("NoMoves", XC1), ("NoNumber", XC2), ("NoTime", XC3), ("Cue", CA0)] []) {
    sys := sy, fo_Cue__number := FldOk.one (by rw [ec0]; exact ⟨ccp0, cch0, cco0, ccs0⟩) (by rw [ec0]; exact ccf0__number),
    fo_Cue__moves := FldOk.one (by rw [ec0]; exact ⟨ccp0, cch0, cco0, ccs0⟩) (by rw [ec0]; exact ccf0__moves),
    fo_Cue__up := FldOk.one (by rw [ec0]; exact ⟨ccp0, cch0, cco0, ccs0⟩) (by rw [ec0]; exact ccf0__up),
    fo_Cue__down := FldOk.one (by rw [ec0]; exact ⟨ccp0, cch0, cco0, ccs0⟩) (by rw [ec0]; exact ccf0__down),
    fo_Cue__block := FldOk.one (by rw [ec0]; exact ⟨ccp0, cch0, cco0, ccs0⟩) (by rw [ec0]; exact ccf0__block),
    ck_Cue := ⟨ccn, ccx, fun c m => by rw [List.mem_singleton.mp m, ec0]; exact ⟨⟨ccp0, cch0, cco0, ccs0⟩, ccj0, ccr0, cct0⟩, fun c m c1 m1 n => absurd ((List.mem_singleton.mp m1).trans (List.mem_singleton.mp m).symm) n⟩,
    mg_Cue := by rw [ec0]; exact PySem.W.mg_of X G cca0,
    eq_Cue := ⟨ty_all (by rw [ec0]; exact cql0_0) (by rw [ec0]; exact cql0_1) (by rw [ec0]; exact cql0_2) (by rw [ec0]; exact cql0_3) (by rw [ec0]; exact cql0_4) (by rw [ec0]; exact cql0_5), ty_all (by rw [ec0]; exact cqr0_0) (by rw [ec0]; exact cqr0_1) (by rw [ec0]; exact cqr0_2) (by rw [ec0]; exact cqr0_3) (by rw [ec0]; exact cqr0_4) (by rw [ec0]; exact cqr0_5), by rw [ec0]; exact cqn0, by rw [ec0]; exact cqo0⟩,
    s_Cue_0_number_moves := by unfold ShpI; rw [ec0]; exact ⟨f18, _, _, ⟨ccm0, a18, i18, cck0⟩, ⟨⟨_, _, _, l18⟩, rfl⟩, shp_of (D := D18) (nms := ["up", "down", "block"]) (its := [U18_up, U18_down, U18_block]) (dvs := [.int 0, .non, .bl false]) (.cons g18_upr (.cons g18_downr (.cons g18_blockr .nil))) (fun S => ⟨_, _, rfl, rfl, ⟨_, _, rfl, rfl, ⟨_, _, rfl, rfl, rfl⟩⟩⟩) (List.forall_mem_cons.mpr ⟨g18_up, (List.forall_mem_cons.mpr ⟨g18_down, (List.forall_mem_cons.mpr ⟨g18_block, (fun _ m => (nomatch m))⟩)⟩)⟩) (fun u us ws h1 h2 => match us, ws, h1, h2 with | [], [_, _], _, _ => ⟨_, _, _, _, _, _, rfl, rfl, ⟨_, _, _, _, _, _, rfl, rfl, ⟨_, _, _, _, _, _, rfl, rfl, rfl⟩⟩⟩)⟩,
    s_Cue_2_block_down_up := by unfold ShpI; rw [ec0]; exact ⟨f18, _, _, ⟨ccm0, a18, i18, cck0⟩, ⟨⟨_, _, _, l18⟩, rfl⟩, shp_of (D := D18) (nms := []) (its := []) (dvs := []) .nil (fun S => rfl) (fun _ m => (nomatch m)) (fun u us ws h1 h2 => match us, ws, h1, h2 with | [_, _], [_, _, _], _, _ => rfl)⟩,
    s_Cue_2_down_block_up := by unfold ShpI; rw [ec0]; exact ⟨f18, _, _, ⟨ccm0, a18, i18, cck0⟩, ⟨⟨_, _, _, l18⟩, rfl⟩, shp_of (D := D18) (nms := []) (its := []) (dvs := []) .nil (fun S => rfl) (fun _ m => (nomatch m)) (fun u us ws h1 h2 => match us, ws, h1, h2 with | [_, _], [_, _, _], _, _ => rfl)⟩,
    s_Cue_2_up_block := by unfold ShpI; rw [ec0]; exact ⟨f18, _, _, ⟨ccm0, a18, i18, cck0⟩, ⟨⟨_, _, _, l18⟩, rfl⟩, shp_of (D := D18) (nms := ["down"]) (its := [U18_down]) (dvs := [.non]) (.cons g18_downr .nil) (fun S => ⟨_, _, rfl, rfl, rfl⟩) (List.forall_mem_cons.mpr ⟨g18_down, (fun _ m => (nomatch m))⟩) (fun u us ws h1 h2 => match us, ws, h1, h2 with | [_, _], [_, _], _, _ => ⟨_, _, _, _, _, _, rfl, rfl, rfl⟩)⟩,
    s_Cue_2_up_down_block := by unfold ShpI; rw [ec0]; exact ⟨f18, _, _, ⟨ccm0, a18, i18, cck0⟩, ⟨⟨_, _, _, l18⟩, rfl⟩, shp_of (D := D18) (nms := []) (its := []) (dvs := []) .nil (fun S => rfl) (fun _ m => (nomatch m)) (fun u us ws h1 h2 => match us, ws, h1, h2 with | [_, _], [_, _, _], _, _ => rfl)⟩,
    s_Cue_with_number_0_number := by unfold ShpM; rw [ec0]; exact ⟨f28, _, _, ⟨a28, i28, k28⟩, ⟨⟨_, _, _, l28⟩, rfl⟩, shp_of (D := 0) (nms := []) (its := []) (dvs := []) .nil (fun S => rfl) (fun _ m => (nomatch m)) (fun u us ws h1 h2 => match us, ws, h1, h2 with | [], [_], _, _ => rfl)⟩,
    d_is_whole := defT_of (g := gOf K [P1, P7] [("NoFlag", XC0), ("NoMoves", XC1), ("NoNumber", XC2), ("NoTime", XC3), ("Cue", CA0)] []) (h := h) X G a0 l0 c0 k0 (fun us hl => match us, hl with | [_, _, _], _ => rfl),
    d_is_channel := defG_of (g := gOf K [P1, P7] [("NoFlag", XC0), ("NoMoves", XC1), ("NoNumber", XC2), ("NoTime", XC3), ("Cue", CA0)] []) (h := h) X G a1 l1 c1 k1 (fun us hl => match us, hl with | [_], _ => rfl) h1 (by simp [gOf]) rfl (TB (cc1, P1) (by simp)),
    d_is_level := defT_of (g := gOf K [P1, P7] [("NoFlag", XC0), ("NoMoves", XC1), ("NoNumber", XC2), ("NoTime", XC3), ("Cue", CA0)] []) (h := h) X G a2 l2 c2 k2 (fun us hl => match us, hl with | [_], _ => rfl),
    d_is_number := defT_of (g := gOf K [P1, P7] [("NoFlag", XC0), ("NoMoves", XC1), ("NoNumber", XC2), ("NoTime", XC3), ("Cue", CA0)] []) (h := h) X G a3 l3 c3 k3 (fun us hl => match us, hl with | [_], _ => rfl),
    d_is_time := defT_of (g := gOf K [P1, P7] [("NoFlag", XC0), ("NoMoves", XC1), ("NoNumber", XC2), ("NoTime", XC3), ("Cue", CA0)] []) (h := h) X G a4 l4 c4 k4 (fun us hl => match us, hl with | [_], _ => rfl),
    d_number_text := defT_of (g := gOf K [P1, P7] [("NoFlag", XC0), ("NoMoves", XC1), ("NoNumber", XC2), ("NoTime", XC3), ("Cue", CA0)] []) (h := h) X G a5 l5 c5 k5 (fun us hl => match us, hl with | [_], _ => rfl),
    d_time_text := defT_of (g := gOf K [P1, P7] [("NoFlag", XC0), ("NoMoves", XC1), ("NoNumber", XC2), ("NoTime", XC3), ("Cue", CA0)] []) (h := h) X G a6 l6 c6 k6 (fun us hl => match us, hl with | [_], _ => rfl),
    d_is_moves := defG_of (g := gOf K [P1, P7] [("NoFlag", XC0), ("NoMoves", XC1), ("NoNumber", XC2), ("NoTime", XC3), ("Cue", CA0)] []) (h := h) X G a7 l7 c7 k7 (fun us hl => match us, hl with | [_], _ => rfl) h7 (by simp [gOf]) rfl (TB (cc7, P7) (by simp)),
    d_need_moves := defT_of (g := gOf K [P1, P7] [("NoFlag", XC0), ("NoMoves", XC1), ("NoNumber", XC2), ("NoTime", XC3), ("Cue", CA0)] []) (h := h) X G a8 l8 c8 k8 (fun us hl => match us, hl with | [_], _ => rfl),
    d_pairs_text := defT_of (g := gOf K [P1, P7] [("NoFlag", XC0), ("NoMoves", XC1), ("NoNumber", XC2), ("NoTime", XC3), ("Cue", CA0)] []) (h := h) X G a9 l9 c9 k9 (fun us hl => match us, hl with | [_], _ => rfl),
    d__law_cell := defT_of (g := gOf K [P1, P7] [("NoFlag", XC0), ("NoMoves", XC1), ("NoNumber", XC2), ("NoTime", XC3), ("Cue", CA0)] []) (h := h) X G a10 l10 c10 k10 (fun us hl => match us, hl with | [_, _], _ => rfl),
    d__law_box := defT_of (g := gOf K [P1, P7] [("NoFlag", XC0), ("NoMoves", XC1), ("NoNumber", XC2), ("NoTime", XC3), ("Cue", CA0)] []) (h := h) X G a11 l11 c11 k11 (fun us hl => match us, hl with | [_], _ => rfl),
    d__law_take := defT_of (g := gOf K [P1, P7] [("NoFlag", XC0), ("NoMoves", XC1), ("NoNumber", XC2), ("NoTime", XC3), ("Cue", CA0)] []) (h := h) X G a12 l12 c12 k12 (fun us hl => match us, hl with | [_, _], _ => rfl),
    d__law_channels := defT_of (g := gOf K [P1, P7] [("NoFlag", XC0), ("NoMoves", XC1), ("NoNumber", XC2), ("NoTime", XC3), ("Cue", CA0)] []) (h := h) X G a13 l13 c13 k13 (fun us hl => match us, hl with | [_, _], _ => rfl),
    d__law_level := defT_of (g := gOf K [P1, P7] [("NoFlag", XC0), ("NoMoves", XC1), ("NoNumber", XC2), ("NoTime", XC3), ("Cue", CA0)] []) (h := h) X G a14 l14 c14 k14 (fun us hl => match us, hl with | [_], _ => rfl),
    d__law_sorted := defT_of (g := gOf K [P1, P7] [("NoFlag", XC0), ("NoMoves", XC1), ("NoNumber", XC2), ("NoTime", XC3), ("Cue", CA0)] []) (h := h) X G a15 l15 c15 k15 (fun us hl => match us, hl with | [_], _ => rfl),
    d__law_drawn := defT_of (g := gOf K [P1, P7] [("NoFlag", XC0), ("NoMoves", XC1), ("NoNumber", XC2), ("NoTime", XC3), ("Cue", CA0)] []) (h := h) X G a16 l16 c16 k16 (fun us hl => match us, hl with | [_, _, _], _ => rfl),
    d__law_parts := defT_of (g := gOf K [P1, P7] [("NoFlag", XC0), ("NoMoves", XC1), ("NoNumber", XC2), ("NoTime", XC3), ("Cue", CA0)] []) (h := h) X G a17 l17 c17 k17 (fun us hl => match us, hl with | [_, _], _ => rfl),
    d_Cue___init__ := by unfold DefI; rw [ec0]; exact ⟨f18, _, ⟨_, _, _, _, _, _, _, _, _, _, rfl, l18, c18⟩, ⟨ccm0, a18, i18, cck0⟩, PySem.W.mg_of X G cca0⟩,
    d__law_made := defT_of (g := gOf K [P1, P7] [("NoFlag", XC0), ("NoMoves", XC1), ("NoNumber", XC2), ("NoTime", XC3), ("Cue", CA0)] []) (h := h) X G a19 l19 c19 k19 (fun us hl => match us, hl with | [_, _], _ => rfl),
    d_Cue_number := by unfold DefM; rw [ec0]; exact ⟨f20, _, [], [], ⟨_, _, _, _, _, _, _, _, _, _, rfl, l20, c20⟩, ⟨ccp0, cch0, cco0, ccs0⟩, ⟨a20, i20, k20⟩, .all (fun us hl => match us, hl with | [_], _ => rfl), .nil, fun _ => rfl⟩,
    d_Cue_moves := by unfold DefM; rw [ec0]; exact ⟨f21, _, [], [], ⟨_, _, _, _, _, _, _, _, _, _, rfl, l21, c21⟩, ⟨ccp0, cch0, cco0, ccs0⟩, ⟨a21, i21, k21⟩, .all (fun us hl => match us, hl with | [_], _ => rfl), .nil, fun _ => rfl⟩,
    d_Cue_up := by unfold DefM; rw [ec0]; exact ⟨f22, _, [], [], ⟨_, _, _, _, _, _, _, _, _, _, rfl, l22, c22⟩, ⟨ccp0, cch0, cco0, ccs0⟩, ⟨a22, i22, k22⟩, .all (fun us hl => match us, hl with | [_], _ => rfl), .nil, fun _ => rfl⟩,
    d_Cue_down := by unfold DefM; rw [ec0]; exact ⟨f23, _, [], [], ⟨_, _, _, _, _, _, _, _, _, _, rfl, l23, c23⟩, ⟨ccp0, cch0, cco0, ccs0⟩, ⟨a23, i23, k23⟩, .all (fun us hl => match us, hl with | [_], _ => rfl), .nil, fun _ => rfl⟩,
    d_Cue_block := by unfold DefM; rw [ec0]; exact ⟨f24, _, [], [], ⟨_, _, _, _, _, _, _, _, _, _, rfl, l24, c24⟩, ⟨ccp0, cch0, cco0, ccs0⟩, ⟨a24, i24, k24⟩, .all (fun us hl => match us, hl with | [_], _ => rfl), .nil, fun _ => rfl⟩,
    d__law_right := defT_of (g := gOf K [P1, P7] [("NoFlag", XC0), ("NoMoves", XC1), ("NoNumber", XC2), ("NoTime", XC3), ("Cue", CA0)] []) (h := h) X G a25 l25 c25 k25 (fun us hl => match us, hl with | [_, _], _ => rfl),
    d__law_otherwise := defT_of (g := gOf K [P1, P7] [("NoFlag", XC0), ("NoMoves", XC1), ("NoNumber", XC2), ("NoTime", XC3), ("Cue", CA0)] []) (h := h) X G a26 l26 c26 k26 (fun us hl => match us, hl with | [_, _, _], _ => rfl),
    d_Cue_with_moves := by unfold DefM; rw [ec0]; exact ⟨f27, _, [], [], ⟨_, _, _, _, _, _, _, _, _, _, rfl, l27, c27⟩, ⟨ccp0, cch0, cco0, ccs0⟩, ⟨a27, i27, k27⟩, .all (fun us hl => match us, hl with | [_, _], _ => rfl), .nil, fun _ => rfl⟩,
    d_Cue_with_number := by unfold DefM; rw [ec0]; exact ⟨f28, _, [], [], ⟨_, _, _, _, _, _, _, _, _, _, rfl, l28, c28⟩, ⟨ccp0, cch0, cco0, ccs0⟩, ⟨a28, i28, k28⟩, .all (fun us hl => match us, hl with | [_, _], _ => rfl), .nil, fun _ => rfl⟩,
    d_Cue_with_block := by unfold DefM; rw [ec0]; exact ⟨f29, _, [], [], ⟨_, _, _, _, _, _, _, _, _, _, rfl, l29, c29⟩, ⟨ccp0, cch0, cco0, ccs0⟩, ⟨a29, i29, k29⟩, .all (fun us hl => match us, hl with | [_, _], _ => rfl), .nil, fun _ => rfl⟩,
    d_Cue_text := by unfold DefM; rw [ec0]; exact ⟨f30, _, [], [], ⟨_, _, _, _, _, _, _, _, _, _, rfl, l30, c30⟩, ⟨ccp0, cch0, cco0, ccs0⟩, ⟨a30, i30, k30⟩, .all (fun us hl => match us, hl with | [_], _ => rfl), .nil, fun _ => rfl⟩,
    d_Cue___str__ := by unfold DefM; rw [ec0]; exact ⟨f31, _, [], [], ⟨_, _, _, _, _, _, _, _, _, _, rfl, l31, c31⟩, ⟨ccp0, cch0, cco0, ccs0⟩, ⟨a31, i31, k31⟩, .all (fun us hl => match us, hl with | [_], _ => rfl), .nil, fun _ => rfl⟩,
    d_Cue_parts := by unfold DefM; rw [ec0]; exact ⟨f32, _, [], [], ⟨_, _, _, _, _, _, _, _, _, _, rfl, l32, c32⟩, ⟨ccp0, cch0, cco0, ccs0⟩, ⟨a32, i32, k32⟩, .all (fun us hl => match us, hl with | [_], _ => rfl), .nil, fun _ => rfl⟩,
    d_Cue___eq__ := by unfold DefM; rw [ec0]; exact ⟨f33, _, [], [], ⟨_, _, _, _, _, _, _, _, _, _, rfl, l33, c33⟩, ⟨ccp0, cch0, cco0, ccs0⟩, ⟨a33, i33, k33⟩, .all (fun us hl => match us, hl with | [_, _], _ => rfl), .nil, fun _ => rfl⟩,
    d_law := defT_of (g := gOf K [P1, P7] [("NoFlag", XC0), ("NoMoves", XC1), ("NoNumber", XC2), ("NoTime", XC3), ("Cue", CA0)] []) (h := h) X G a34 l34 c34 k34 (fun us hl => match us, hl with | [_], _ => rfl),
    b_all := PySem.W.mg_none_of X G b_all,
    b_bool := PySem.W.mg_none_of X G b_bool,
    b_dict := PySem.W.mg_none_of X G b_dict,
    b_divmod := PySem.W.mg_none_of X G b_divmod,
    b_int := PySem.W.mg_none_of X G b_int,
    b_isinstance := PySem.W.mg_none_of X G b_isinstance,
    b_len := PySem.W.mg_none_of X G b_len,
    b_list := PySem.W.mg_none_of X G b_list,
    b_max := PySem.W.mg_none_of X G b_max,
    b_min := PySem.W.mg_none_of X G b_min,
    b_range := PySem.W.mg_none_of X G b_range,
    b_repr := PySem.W.mg_none_of X G b_repr,
    b_sorted := PySem.W.mg_none_of X G b_sorted,
    b_str := PySem.W.mg_none_of X G b_str,
    b_tuple := PySem.W.mg_none_of X G b_tuple,
    c_LETTERS := con_of (g := gOf K [P1, P7] [("NoFlag", XC0), ("NoMoves", XC1), ("NoNumber", XC2), ("NoTime", XC3), ("Cue", CA0)] []) (h := h) X G c_LETTERS c_LETTERSr,
    c_MOST_CHANNELS := con_of (g := gOf K [P1, P7] [("NoFlag", XC0), ("NoMoves", XC1), ("NoNumber", XC2), ("NoTime", XC3), ("Cue", CA0)] []) (h := h) X G c_MOST_CHANNELS c_MOST_CHANNELSr,
    c_MOST_NUMBER := con_of (g := gOf K [P1, P7] [("NoFlag", XC0), ("NoMoves", XC1), ("NoNumber", XC2), ("NoTime", XC3), ("Cue", CA0)] []) (h := h) X G c_MOST_NUMBER c_MOST_NUMBERr,
    c_MOST_TIME := con_of (g := gOf K [P1, P7] [("NoFlag", XC0), ("NoMoves", XC1), ("NoNumber", XC2), ("NoTime", XC3), ("Cue", CA0)] []) (h := h) X G c_MOST_TIME c_MOST_TIMEr,
    x_NoFlag := by
      have e : (gOf K [P1, P7] [("NoFlag", XC0), ("NoMoves", XC1), ("NoNumber", XC2), ("NoTime", XC3), ("Cue", CA0)] []).cn "NoFlag" = XC0 := by first | rfl | simp [gOf]
      unfold ExD
      rw [e]
      exact ⟨XI0, XB0, _, .type "type", ⟨⟨_, _, _, _, _, _, _, _, _, _, _, _, _, _, _, xl0, xr0⟩, xs0, xe0, xt0, xk0⟩, xi0, xj0, ⟨_, _, _, _, _, _, _, _, _, _, rfl, xm0, xc0⟩, PySem.W.mg_of X G xa0, .all (fun us hl => match us, hl with | [_, _], _ => rfl), xf0, PySem.W.mg_of X G xb0, xg0, xw0, xv0⟩,
    x_NoMoves := by
      have e : (gOf K [P1, P7] [("NoFlag", XC0), ("NoMoves", XC1), ("NoNumber", XC2), ("NoTime", XC3), ("Cue", CA0)] []).cn "NoMoves" = XC1 := by first | rfl | simp [gOf]
      unfold ExD
      rw [e]
      exact ⟨XI1, XB1, _, .type "type", ⟨⟨_, _, _, _, _, _, _, _, _, _, _, _, _, _, _, xl1, xr1⟩, xs1, xe1, xt1, xk1⟩, xi1, xj1, ⟨_, _, _, _, _, _, _, _, _, _, rfl, xm1, xc1⟩, PySem.W.mg_of X G xa1, .all (fun us hl => match us, hl with | [_, _], _ => rfl), xf1, PySem.W.mg_of X G xb1, xg1, xw1, xv1⟩,
    x_NoNumber := by
      have e : (gOf K [P1, P7] [("NoFlag", XC0), ("NoMoves", XC1), ("NoNumber", XC2), ("NoTime", XC3), ("Cue", CA0)] []).cn "NoNumber" = XC2 := by first | rfl | simp [gOf]
      unfold ExD
      rw [e]
      exact ⟨XI2, XB2, _, .type "type", ⟨⟨_, _, _, _, _, _, _, _, _, _, _, _, _, _, _, xl2, xr2⟩, xs2, xe2, xt2, xk2⟩, xi2, xj2, ⟨_, _, _, _, _, _, _, _, _, _, rfl, xm2, xc2⟩, PySem.W.mg_of X G xa2, .all (fun us hl => match us, hl with | [_, _], _ => rfl), xf2, PySem.W.mg_of X G xb2, xg2, xw2, xv2⟩,
    x_NoTime := by
      have e : (gOf K [P1, P7] [("NoFlag", XC0), ("NoMoves", XC1), ("NoNumber", XC2), ("NoTime", XC3), ("Cue", CA0)] []).cn "NoTime" = XC3 := by first | rfl | simp [gOf]
      unfold ExD
      rw [e]
      exact ⟨XI3, XB3, _, .type "type", ⟨⟨_, _, _, _, _, _, _, _, _, _, _, _, _, _, _, xl3, xr3⟩, xs3, xe3, xt3, xk3⟩, xi3, xj3, ⟨_, _, _, _, _, _, _, _, _, _, rfl, xm3, xc3⟩, PySem.W.mg_of X G xa3, .all (fun us hl => match us, hl with | [_, _], _ => rfl), xf3, PySem.W.mg_of X G xb3, xg3, xw3, xv3⟩ }, pl⟩
end
end K21
set_option Elab.async false
set_option autoImplicit false
set_option linter.all false
set_option maxRecDepth 100000
namespace K21
open DL PySem PySem.Spec L2 TL DH
theorem takeT : TakeOk f__law_take := take_ok (c1 := 6029) (c2 := 21) (c3 := 43) (by decide) (by decide) (by decide)
theorem q_cell {ns : List Int} {k : Nat} (hn : ns.length ≤ 63) : wE (fun o ρ => ∃ c : Int, o = .sh (.int c)) (f__law_cell [.sh (.scr ns), .sh (.int k)]) := by
  simp? only [f__law_cell, m__law_cell]
  refine wO_if (fun h => ?_) (fun h => ?_)
  · have h' : k < ns.length := by omega
    simp? only [ix_scr (ns := ns) (i := (k : Int)) (x := ns[k]) (by omega) (by rw [show ((k : Int).toNat) = k by omega]; exact List.getElem?_eq_getElem h')]
    exact ⟨_, rfl⟩
  · simp? only [DL.wE_ok]
    exact ⟨_, rfl⟩
section
variable {p q : Pt} {r s : Cu} {m : O} {L : Lv} {a b c : Int} {e : Bool} {ρ : En} {C : List Str}
theorem eq_lv2 {M : Lv} : dEq (dkD .int L) (dkD .int M) = some (.sh (.bl (lvEq L M))) := by
  unfold dEq
  rw [show (60 : Nat) = 58 + 2 from rfl, eqN_lv]; rfl
theorem pts_pix2 : oIx (ptsM p m) (.int 2) = some (.int p.up) := rfl
theorem add23 : dAdd (.lst [.int a, dkD .int L]) (.lst [.int b, .int c, .bl e]) = some (ptsM ⟨a, L, b, c, e⟩ (.sh (dkD .int L))) := rfl
theorem add14 : dAdd (.lst [.int a]) (.lst [dkD .int L, .int b, .int c, .bl e]) = some (ptsM ⟨a, L, b, c, e⟩ (.sh (dkD .int L))) := rfl
theorem add41 : dAdd (.lst [.int a, dkD .int L, .int b, .int c]) (.lst [.bl e]) = some (ptsM ⟨a, L, b, c, e⟩ (.sh (dkD .int L))) := rfl
theorem ptsM_dsL : (ptsM ⟨a, L, b, c, e⟩ (.sh (dkD .int L))).d = ptsD ⟨a, L, b, c, e⟩ := ptsM_d (.inr rfl)
theorem pts_tup : dTuple [ptsD p] = some (.sh (.tup [.int p.n, dkD .int p.L, .int p.up, .int p.dn, .bl p.bl])) := rfl
theorem mul4 {d : D} : dMul (.lst [d]) (.int 4) = some (.lst [.sh d, .sh d, .sh d, .sh d]) := rfl
theorem in_one : dInC TC 2 (cuD r) (.lst [cuD s]) = some (cuEq s r) := by
  show anyC TC 2 (cuD r) [cuD s] = _
  unfold anyC
  rw [show eqC TC 2 (cuD s) (cuD r) = some (cuEq s r) from eqC_cu]
  show some (cuEq s r || false) = _
  rw [Bool.or_false]
theorem cu_metK {mn : Str} {fn : List O → R} {pm : List Nat} {dds : List D} {ms : List E} (h : cuNm mn = true) : metKK "Cue" mn fn pm dds ms ρ (cuD r) = (evs ms ρ).bind fun os ρ2 => after (fn ((cuD r :: pmD pm dds os).map .sh)) ρ2 := by
  refine if_pos ⟨rfl, ?_⟩
  have h := of_decide_eq_true h
  simp only [List.mem_cons, not_or] at h
  obtain ⟨h1, h2, h3, h4, h5, _⟩ := h
  simp [List.lookup, beq_false_of_ne h1, beq_false_of_ne h2, beq_false_of_ne h3, beq_false_of_ne h4, beq_false_of_ne h5]
theorem varM {i : Nat} (h : MvO m p.L) (e : ρ[i]? = some (.v (ptsM p m))) : varK i ρ (some (.v (ptsM p m))) = .ok (.sh (ptsD p)) (ρ.set i (.v (.sh (ptsD p)))) := by
  rw [← ptsM_d h]
  exact varK_v e
theorem cuEq_comm (hr : CuOk C r) (hs : CuOk C s) : cuEq s r = cuEq r s := by
  have h1 := cuEq_iff hr hs
  have h2 := cuEq_iff hs hr
  cases x : cuEq r s <;> cases y : cuEq s r <;> simp_all
end
theorem law_true (ns : List Int) (hn : ns.length ≤ 63) (hb : ∀ z ∈ ns, Builtin.Int.intBits z ≤ 1048576) : ∃ ρ, f_law [.sh (.scr ns)] = .ok (.sh (.bl true)) ρ := by
  have T := takeT
  have main : wE (fun o _ => o = .sh (.bl true)) (f_law [.sh (.scr ns)]) := by
    simp? only [f_law, m_law, min_int, max_int]
    have hm : ∃ m : Nat, itRng (.int (if (if (ns.length : Int) < 8 then (ns.length : Int) else 8) > 2 then (if (ns.length : Int) < 8 then (ns.length : Int) else 8) else 2)) = some ((List.range m).map fun (i : Nat) => .int (i : Int)) := ⟨_, itRng_int (by split <;> split <;> omega) (by split <;> split <;> omega)⟩
    obtain ⟨m, hm⟩ := hm
    simp? only [hm]
    refine wInv (fun ρ => ρ.length = 11 ∧ FrK 0 ρ ∧ ρ[0]? = some (.v (.sh (.scr ns)))) ⟨rfl, ?_, rfl⟩ ?_ ?_
    · exact frk_cv (frk_replicate (n := 10))
    · rintro k mk ρ ⟨hl, hf, h0⟩
      (try simp? only [hl, hf, h0])
      refine (q_cell hn).mono ?_
      rintro _ _ ⟨c, rfl⟩
      (try simp? only [hl, hf, h0])
      refine (q_law_box c).mono ?_
      rintro bx _ hb0
      (try simp? only [hl, hf, h0])
      refine (T.w hb0 (by omega) (by omega) (by omega)).mono ?_; rintro _ _ ⟨x1, b1, rfl, rfl, l1, u1, k1⟩
      (try simp? only [hl, hf, h0])
      refine (q_law_channels T (k := (1 + x1).toNat) k1 (by omega) (by omega)).mono' (by rw [show (((1 + x1).toNat : Nat) : Int) = 1 + x1 by omega]) ?_
      rintro _ _ ⟨cs, b2, rfl, rfl, hcs, lcs, k2⟩
      have hH : CH cs := ⟨by omega, hcs.ch⟩
      (try simp? only [hl, hf, h0])
      refine (q_law_parts21 T k2 hH hcs.nd (by omega)).mono ?_
      rintro _ _ ⟨p0, b3, rfl, rfl, hp0, k3⟩
      simp? only [hl, hf, h0]
      refine (T.w k3 (by omega) (by omega) (by omega)).mono ?_; rintro _ _ ⟨x2, b4, rfl, rfl, l4, u4, k4⟩
      simp? only [hl, hf, h0]
      refine wMidO (fun ρ => ρ.length = 11 ∧ FrK 0 ρ ∧ ρ[0]? = some (.v (.sh (.scr ns))) ∧ ρ[3]? = some (.v (.sh (chD cs))) ∧ ∃ (p : Pt) (b : O), ρ[2]? = some (.v b) ∧ OkB 5000 b ∧ ρ[4]? = some (.v (ptsM p (dkO .int p.L))) ∧ PqOk cs p) ?_ ?_
      · refine wO_if (fun z => ?_) (fun z => ?_)
        · simp? only [hl, hf, h0, pts_pix2, pts_set3]
          exact ⟨{p0 with dn := p0.up}, _, rfl, k4.mono (by omega), rfl, ⟨hp0.n1, hp0.n2, hp0.mv, hp0.u1, hp0.u2, hp0.u1, hp0.u2⟩⟩
        · simp? only [hl, hf, h0]
          exact ⟨p0, _, rfl, k4.mono (by omega), rfl, hp0⟩
      clear hl hf h0 hp0 k4 k3
      rintro ρ ⟨hl, hf, h0, h3, p1, b5, h2, k5, h4, hp1⟩
      simp? only [hl, hf, h0, h2, h3, h4]
      refine (T.w k5 (by omega) (by omega) (by omega)).mono ?_; rintro _ _ ⟨x3, b6, rfl, rfl, l6, u6, k6⟩
      simp? only [hl, hf, h0, h2, h3, h4]
      refine wMidO (fun ρ => ρ.length = 11 ∧ FrK 0 ρ ∧ ρ[0]? = some (.v (.sh (.scr ns))) ∧ ρ[3]? = some (.v (.sh (chD cs))) ∧ ∃ (p : Pt) (b m : O), ρ[2]? = some (.v b) ∧ OkB 6000 b ∧ ρ[4]? = some (.v (ptsM p m)) ∧ MvO m p.L ∧ PqOk cs p) ?_ ?_
      · refine wO_if (fun z => ?_) (fun z => ?_)
        · have v4 := fun ρ => varM (p := p1) (m := dkO .int p1.L) (i := 4) (ρ := ρ) (.inl rfl)
          simp? only [hl, hf, h0, h2, h3, h4, v4, pts_view, pts_to2, add23]
          exact ⟨⟨p1.n, p1.L, 0, 0, false⟩, _, _, rfl, k6.mono (by omega), rfl, .inr rfl, ⟨hp1.n1, hp1.n2, hp1.mv, (show (0 : Int) ≤ 0 by decide), (show (0 : Int) ≤ 9999 by decide), (show (0 : Int) ≤ 0 by decide), (show (0 : Int) ≤ 9999 by decide)⟩⟩
        · simp? only [hl, hf, h0, h2, h3, h4]
          exact ⟨p1, _, _, rfl, k6.mono (by omega), rfl, .inl rfl, hp1⟩
      clear hl hf h0 h2 h3 h4 hp1 k5 k6
      rintro ρ ⟨hl, hf, h0, h3, p, b7, m, h2, k7, h4, hm4, hp⟩
      have v4 := fun ρ => varM (p := p) (m := m) (i := 4) (ρ := ρ) hm4
      simp? only [hl, hf, h0, h2, h3, h4, v4]
      refine (q_law_otherwise21 T k7 hH hcs.nd hp (by omega)).mono ?_
      rintro _ _ ⟨q, m5, b8, rfl, hm5, rfl, hq, k8⟩
      have v5 := fun ρ => varM (p := q) (m := m5) (i := 5) (ρ := ρ) hm5
      simp? only [hl, hf, h0, h2, h3, h4]
      refine (q_law_made21 T k8 hH hp (by omega)).mono ?_
      rintro _ _ ⟨b9, rfl, rfl, k9⟩
      simp? only [hl, hf, h0, h2, h3, h4, v5]
      refine (q_law_made21 T k9 hH hq (by omega)).mono ?_
      rintro _ _ ⟨b10, rfl, rfl, k10⟩
      have hcp := hp.cu
      have hcq := hq.cu
      have rp := q_law_right21 hH hp
      have rq := q_law_right21 hH hq
      simp? only [hl, hf, h0, h2, h3, h4, cuO_d, rp, rq]
      have hcu : cuEq p.cu q.cu = (p.n == q.n && (lvEq (srt p.L) (srt q.L) && (p.up == q.up && (p.dn == q.dn && (p.bl == q.bl))))) := rfl
      have lp := hp.mv.len hH
      have lq := hq.mv.len hH
      have sp := q_law_sorted hp.mv.nd (show p.L.length < 64 by omega)
      have sq := q_law_sorted hq.mv.nd (show q.L.length < 64 by omega)
      simp? only [hl, hf, h0, h2, h3, h4, pts_view, pts_0, pts_1, pts_cut2, eq_tail, sp, sq, eq_lv2]
      refine wE.mono (Q := fun o ρ => o = .sh (.bl (cuEq p.cu q.cu)) ∧ ρ.length = 11 ∧ FrK 0 ρ ∧ ρ[0]? = some (.v (.sh (.scr ns))) ∧ ρ[4]? = some (.v (.sh (ptsD p))) ∧ ρ[5]? = some (.v (.sh (ptsD q))) ∧ ρ[6]? = some (.v (.sh (cuD p.cu))) ∧ ρ[7]? = some (.v (.sh (cuD q.cu)))) ?_ ?_
      · rw [hcu]
        by_cases z1 : p.n = q.n
        · have f1 : (p.n = q.n) = True := eq_true z1
          have f2 : (p.n == q.n) = true := beq_iff_eq.mpr z1
          cases z2 : (p.up == q.up && (p.dn == q.dn && p.bl == q.bl)) with
          | true =>
            simp? only [f1, f2, z2, hl, hf, h0, h2, h3, h4, Bool.and_true]
          | false =>
            simp? only [f1, f2, z2, hl, hf, h0, h2, h3, h4, Bool.and_false, Bool.true_eq_false]
        · have f1 : (p.n = q.n) = False := eq_false z1
          have f2 : (p.n == q.n) = false := beq_false_of_ne z1
          simp? only [f1, f2, hl, hf, h0, h2, h3, h4]
      have hsym := cuEq_comm hcp hcq
      have e1 : eqC TC 2 (cuD p.cu) (cuD q.cu) = some (cuEq p.cu q.cu) := eqC_cu
      have e2 : eqC TC 2 (cuD q.cu) (cuD p.cu) = some (cuEq p.cu q.cu) := by rw [← hsym]; exact eqC_cu
      have e3 : dInC TC 2 (cuD p.cu) (.lst [cuD q.cu]) = some (cuEq p.cu q.cu) := by rw [← hsym]; exact in_one
      have e4 : insNe TC (cuD p.cu) (cuD q.cu) = some (cuEq p.cu q.cu) := ne_cu
      generalize cuEq p.cu q.cu = sm at e1 e2 e3 e4 ⊢
      clear hl hf h0 h2 h3 h4 hcu hsym
      rintro _ ρ ⟨rfl, hl, hf, h0, h4, h5, h6, h7⟩
      have e5 := ne_self_d (d := .lst [.bl sm, .bl sm, .bl sm, .bl sm]) (eqs_lst (n := 59) fun d m => by
        simp only [List.mem_cons, List.not_mem_nil, or_false, or_self] at m
        rw [m]; exact eqs_bl)
      have w1 : f_Cue_with_moves [.sh (cuD p.cu), .sh (dkD .int q.L)] = .ok (cuO (Pt.mk p.n q.L p.up p.dn p.bl).cu) [.no, .no] := q_Cue_with_moves hH hcp hq.mv
      have w2 : f_Cue_with_number [.sh (cuD p.cu), .sh (.int q.n)] = .ok (cuO (Pt.mk q.n p.L p.up p.dn p.bl).cu) [.no, .no] := q_Cue_with_number hH hcp ⟨hq.n1, hq.n2⟩
      have w3 : f_Cue_with_block [.sh (cuD p.cu), .sh (.bl q.bl)] = .ok (cuO (Pt.mk p.n p.L p.up p.dn q.bl).cu) [.no, .no] := q_Cue_with_block hH hcp
      have r1 := q_law_right21 hH (p := Pt.mk p.n q.L p.up p.dn p.bl) ⟨hp.n1, hp.n2, hq.mv, hp.u1, hp.u2, hp.d1, hp.d2⟩
      have r2 := q_law_right21 hH (p := Pt.mk q.n p.L p.up p.dn p.bl) ⟨hq.n1, hq.n2, hp.mv, hp.u1, hp.u2, hp.d1, hp.d2⟩
      have r3 := q_law_right21 hH (p := Pt.mk p.n p.L p.up p.dn q.bl) ⟨hp.n1, hp.n2, hp.mv, hp.u1, hp.u2, hp.d1, hp.d2⟩
      have v1 : (cuD p.cu).view = cuD p.cu := rfl
      obtain ⟨y, hy⟩ := str_cu hH hcp
      have cn : p.cu.n = p.n := rfl
      simp? only [hl, hf, h0, h4, h5, h6, h7, eEqC_ev, eInC_ev, eNeC_ev, e1, e2, e3, e4, eqK_f, eqK_t, Bool.not_not, mul4, e5, eMet_ev, eMetK_ev, cu_view, cu_met nm_wmoves, cu_metK nm_wnumber, cu_met nm_wblock, pmD_cons, pmD_nil, pts_view, pts_0, pts_1, pts_4, pts_cut1, pts_cut2, pts_to4, w1, w2, w3, cuO_d, add23, add14, add41, ptsM_dsL, r1, r2, r3, rp, eStrO_ev, hy, strK, cu_met nm_number, q_Cue_number, cn, pts_tup]
      have it6 : ∀ {ds : List D}, itV (.lst ds) = some (ds.map fun d => d) := fun {ds} => by rw [List.map_id']; rfl
      rw [it6]
      refine wLcF (fun ρ => ρ.length = 11 ∧ FrK 0 ρ ∧ ρ[0]? = some (.v (.sh (.scr ns))) ∧ ρ[6]? = some (.v (.sh (cuD p.cu)))) (fun _ => false) (fun d => .sh d) (show 6 ≤ 1000000 by decide) ?_ ?_ ?_
      · simp? only [hl, hf, h0, h6]
      · rintro d md ρ ⟨hl, hf, h0, h6⟩
        have hd : d.view = d ∧ othD d = true := by
          simp only [List.mem_cons, List.not_mem_nil, or_false] at md
          rcases md with rfl | rfl | rfl | rfl | rfl | rfl <;> exact ⟨rfl, rfl⟩
        have x1 : eqC TC 2 (cuD p.cu) d = some false := eqC_cuO hd.1 hd.2
        have x2 : eqC TC 2 d (cuD p.cu) = some false := eqC_Ocu hd.1 hd.2
        simp? only [hl, hf, h0, h6, eEqC_ev, x1, x2, eqK_f]
        try simp
      · rintro ρ ⟨hl, hf, h0, h6⟩
        rw [show ∀ xs : List D, xs.filter (fun _ => false) = [] from fun xs => List.filter_eq_nil_iff.mpr (by simp)]
        simp? only [List.map_nil, hl, hf, h0, show dNe (.lst []) (.lst []) = some (.sh (.bl false)) from ne_nil (ds := [])]
    · rintro ρ ⟨hl, hf, h0⟩
      simp? only [DL.wE_ok]
  obtain ⟨o, ρ, e, rfl⟩ := main.ex
  exact ⟨ρ, e⟩
end K21
open PySem PySem.W PyProof.Rows
set_option maxRecDepth 100000 in
set_option maxHeartbeats 0 in
theorem PySem.Challenge.cw_cuetrack_k21_cues_made_holds : PySem.Challenge.rw_cuetrack_k21_cues_made.Holds := by
  w_on; o_law; k_head; (case hw => w_witness2)
  k_fill
  refine DL.walk_D (l := PySem.Challenge.rw_cuetrack_k21_cues_made) (n := 63) (k := 9) rfl (by decide) rfl rfl (by decide +kernel) ⟨rfl, by decide, by decide⟩ (fun w h Y => PySem.W.kIn_of Y) ?F
  case F =>
    intro w mg h Y KX G TT
    refine' K21.all_mk KX G TT ?cca0 ?ccp0 ?cch0 ?cco0 ?ccs0 ?ccf0__number ?ccf0__moves ?ccf0__up ?ccf0__down ?ccf0__block ?ccm0 ?cck0 ?ccj0 ?ccr0 ?cct0 ?cql0_0 ?cqr0_0 ?cql0_1 ?cqr0_1 ?cql0_2 ?cqr0_2 ?cql0_3 ?cqr0_3 ?cql0_4 ?cqr0_4 ?cql0_5 ?cqr0_5 ?cqn0 ?cqo0 ?ccn ?ccx ?a0 ?l0 ?c0 ?k0 ?a1 ?l1 ?c1 ?k1 ?h1 ?t1 ?v1 ?n1 ?r1 ?a2 ?l2 ?c2 ?k2 ?a3 ?l3 ?c3 ?k3 ?a4 ?l4 ?c4 ?k4 ?a5 ?l5 ?c5 ?k5 ?a6 ?l6 ?c6 ?k6 ?a7 ?l7 ?c7 ?k7 ?h7 ?t7 ?v7 ?n7 ?r7 ?a8 ?l8 ?c8 ?k8 ?a9 ?l9 ?c9 ?k9 ?a10 ?l10 ?c10 ?k10 ?a11 ?l11 ?c11 ?k11 ?a12 ?l12 ?c12 ?k12 ?a13 ?l13 ?c13 ?k13 ?a14 ?l14 ?c14 ?k14 ?a15 ?l15 ?c15 ?k15 ?a16 ?l16 ?c16 ?k16 ?a17 ?l17 ?c17 ?k17 ?a18 ?i18 ?l18 ?c18 ?k18 ?g18_block ?g18_blockr ?g18_down ?g18_downr ?g18_up ?g18_upr ?a19 ?l19 ?c19 ?k19 ?a20 ?i20 ?l20 ?c20 ?k20 ?a21 ?i21 ?l21 ?c21 ?k21 ?a22 ?i22 ?l22 ?c22 ?k22 ?a23 ?i23 ?l23 ?c23 ?k23 ?a24 ?i24 ?l24 ?c24 ?k24 ?a25 ?l25 ?c25 ?k25 ?a26 ?l26 ?c26 ?k26 ?a27 ?i27 ?l27 ?c27 ?k27 ?a28 ?i28 ?l28 ?c28 ?k28 ?a29 ?i29 ?l29 ?c29 ?k29 ?a30 ?i30 ?l30 ?c30 ?k30 ?a31 ?i31 ?l31 ?c31 ?k31 ?a32 ?i32 ?l32 ?c32 ?k32 ?a33 ?i33 ?l33 ?c33 ?k33 ?a34 ?l34 ?c34 ?k34 ?b_all ?b_bool ?b_dict ?b_divmod ?b_int ?b_isinstance ?b_len ?b_list ?b_max ?b_min ?b_range ?b_repr ?b_sorted ?b_str ?b_tuple ?c_LETTERS ?c_LETTERSr ?c_MOST_CHANNELS ?c_MOST_CHANNELSr ?c_MOST_NUMBER ?c_MOST_NUMBERr ?c_MOST_TIME ?c_MOST_TIMEr ?xa0 ?xl0 ?xr0 ?xs0 ?xe0 ?xt0 ?xk0 ?xi0 ?xj0 ?xm0 ?xc0 ?xf0 ?xb0 ?xg0 ?xw0 ?xv0 ?yg0 ?yh0 ?yd0 ?ya0 ?yn0 ?yt0 ?ym0 ?xa1 ?xl1 ?xr1 ?xs1 ?xe1 ?xt1 ?xk1 ?xi1 ?xj1 ?xm1 ?xc1 ?xf1 ?xb1 ?xg1 ?xw1 ?xv1 ?yg1 ?yh1 ?yd1 ?ya1 ?yn1 ?yt1 ?ym1 ?xa2 ?xl2 ?xr2 ?xs2 ?xe2 ?xt2 ?xk2 ?xi2 ?xj2 ?xm2 ?xc2 ?xf2 ?xb2 ?xg2 ?xw2 ?xv2 ?yg2 ?yh2 ?yd2 ?ya2 ?yn2 ?yt2 ?ym2 ?xa3 ?xl3 ?xr3 ?xs3 ?xe3 ?xt3 ?xk3 ?xi3 ?xj3 ?xm3 ?xc3 ?xf3 ?xb3 ?xg3 ?xw3 ?xv3 ?yg3 ?yh3 ?yd3 ?ya3 ?yn3 ?yt3 ?ym3 K21.law_true
    (case cca0 => k_is)
    (case ccp0 => k_is)
    (case cch0 => k_is)
    (case cco0 => k_is)
    (case ccs0 => k_is)
    (case ccf0__number => k_is)
    (case ccf0__moves => k_is)
    (case ccf0__up => k_is)
    (case ccf0__down => k_is)
    (case ccf0__block => k_is)
    (case ccm0 => k_is)
    (case cck0 => k_is)
    (case ccj0 => k_is)
    (case ccr0 => k_is)
    (case cct0 => k_is)
    (case cql0_0 => k_is)
    (case cqr0_0 => k_is)
    (case cql0_1 => k_is)
    (case cqr0_1 => k_is)
    (case cql0_2 => k_is)
    (case cqr0_2 => k_is)
    (case cql0_3 => k_is)
    (case cqr0_3 => k_is)
    (case cql0_4 => k_is)
    (case cqr0_4 => k_is)
    (case cql0_5 => k_is)
    (case cqr0_5 => k_is)
    (case cqn0 => k_is)
    (case cqo0 => k_is)
    (case ccn => k_is)
    (case ccx => k_is)
    (case a0 => k_is)
    (case l0 => k_is)
    (case c0 => k_is)
    (case k0 => k_is)
    (case a1 => k_is)
    (case l1 => k_is)
    (case c1 => k_is)
    (case k1 => k_is)
    (case h1 => rfl)
    (case t1 => k_is)
    (case v1 => rfl)
    (case n1 => kernel_rfl)
    (case r1 => decide +kernel)
    (case a2 => k_is)
    (case l2 => k_is)
    (case c2 => k_is)
    (case k2 => k_is)
    (case a3 => k_is)
    (case l3 => k_is)
    (case c3 => k_is)
    (case k3 => k_is)
    (case a4 => k_is)
    (case l4 => k_is)
    (case c4 => k_is)
    (case k4 => k_is)
    (case a5 => k_is)
    (case l5 => k_is)
    (case c5 => k_is)
    (case k5 => k_is)
    (case a6 => k_is)
    (case l6 => k_is)
    (case c6 => k_is)
    (case k6 => k_is)
    (case a7 => k_is)
    (case l7 => k_is)
    (case c7 => k_is)
    (case k7 => k_is)
    (case h7 => rfl)
    (case t7 => k_is)
    (case v7 => rfl)
    (case n7 => kernel_rfl)
    (case r7 => decide +kernel)
    (case a8 => k_is)
    (case l8 => k_is)
    (case c8 => k_is)
    (case k8 => k_is)
    (case a9 => k_is)
    (case l9 => k_is)
    (case c9 => k_is)
    (case k9 => k_is)
    (case a10 => k_is)
    (case l10 => k_is)
    (case c10 => k_is)
    (case k10 => k_is)
    (case a11 => k_is)
    (case l11 => k_is)
    (case c11 => k_is)
    (case k11 => k_is)
    (case a12 => k_is)
    (case l12 => k_is)
    (case c12 => k_is)
    (case k12 => k_is)
    (case a13 => k_is)
    (case l13 => k_is)
    (case c13 => k_is)
    (case k13 => k_is)
    (case a14 => k_is)
    (case l14 => k_is)
    (case c14 => k_is)
    (case k14 => k_is)
    (case a15 => k_is)
    (case l15 => k_is)
    (case c15 => k_is)
    (case k15 => k_is)
    (case a16 => k_is)
    (case l16 => k_is)
    (case c16 => k_is)
    (case k16 => k_is)
    (case a17 => k_is)
    (case l17 => k_is)
    (case c17 => k_is)
    (case k17 => k_is)
    (case a18 => k_is)
    (case i18 => k_is)
    (case l18 => k_is)
    (case c18 => k_is)
    (case k18 => k_is)
    (case g18_block => k_is)
    (case g18_blockr => rfl)
    (case g18_down => k_is)
    (case g18_downr => rfl)
    (case g18_up => k_is)
    (case g18_upr => exact ⟨_, rfl⟩)
    (case a19 => k_is)
    (case l19 => k_is)
    (case c19 => k_is)
    (case k19 => k_is)
    (case a20 => k_is)
    (case i20 => k_is)
    (case l20 => k_is)
    (case c20 => k_is)
    (case k20 => k_is)
    (case a21 => k_is)
    (case i21 => k_is)
    (case l21 => k_is)
    (case c21 => k_is)
    (case k21 => k_is)
    (case a22 => k_is)
    (case i22 => k_is)
    (case l22 => k_is)
    (case c22 => k_is)
    (case k22 => k_is)
    (case a23 => k_is)
    (case i23 => k_is)
    (case l23 => k_is)
    (case c23 => k_is)
    (case k23 => k_is)
    (case a24 => k_is)
    (case i24 => k_is)
    (case l24 => k_is)
    (case c24 => k_is)
    (case k24 => k_is)
    (case a25 => k_is)
    (case l25 => k_is)
    (case c25 => k_is)
    (case k25 => k_is)
    (case a26 => k_is)
    (case l26 => k_is)
    (case c26 => k_is)
    (case k26 => k_is)
    (case a27 => k_is)
    (case i27 => k_is)
    (case l27 => k_is)
    (case c27 => k_is)
    (case k27 => k_is)
    (case a28 => k_is)
    (case i28 => k_is)
    (case l28 => k_is)
    (case c28 => k_is)
    (case k28 => k_is)
    (case a29 => k_is)
    (case i29 => k_is)
    (case l29 => k_is)
    (case c29 => k_is)
    (case k29 => k_is)
    (case a30 => k_is)
    (case i30 => k_is)
    (case l30 => k_is)
    (case c30 => k_is)
    (case k30 => k_is)
    (case a31 => k_is)
    (case i31 => k_is)
    (case l31 => k_is)
    (case c31 => k_is)
    (case k31 => k_is)
    (case a32 => k_is)
    (case i32 => k_is)
    (case l32 => k_is)
    (case c32 => k_is)
    (case k32 => k_is)
    (case a33 => k_is)
    (case i33 => k_is)
    (case l33 => k_is)
    (case c33 => k_is)
    (case k33 => k_is)
    (case a34 => k_is)
    (case l34 => k_is)
    (case c34 => k_is)
    (case k34 => k_is)
    (case b_all => k_is)
    (case b_bool => k_is)
    (case b_dict => k_is)
    (case b_divmod => k_is)
    (case b_int => k_is)
    (case b_isinstance => k_is)
    (case b_len => k_is)
    (case b_list => k_is)
    (case b_max => k_is)
    (case b_min => k_is)
    (case b_range => k_is)
    (case b_repr => k_is)
    (case b_sorted => k_is)
    (case b_str => k_is)
    (case b_tuple => k_is)
    (case c_LETTERS => k_is)
    (case c_LETTERSr => exact ⟨_, rfl⟩)
    (case c_MOST_CHANNELS => k_is)
    (case c_MOST_CHANNELSr => exact ⟨_, rfl⟩)
    (case c_MOST_NUMBER => k_is)
    (case c_MOST_NUMBERr => exact ⟨_, rfl⟩)
    (case c_MOST_TIME => k_is)
    (case c_MOST_TIMEr => exact ⟨_, rfl⟩)
    (case xa0 => k_is)
    (case xl0 => k_is)
    (case xr0 => first | rfl | decide +kernel)
    (case xs0 => k_is)
    (case xe0 => k_is)
    (case xt0 => k_is)
    (case xk0 => k_is)
    (case xi0 => k_is)
    (case xj0 => k_is)
    (case xm0 => k_is)
    (case xc0 => k_is)
    (case xf0 => k_is)
    (case xb0 => k_is)
    (case xg0 => k_is)
    (case xw0 => k_is)
    (case xv0 => k_is)
    (case yg0 => k_is)
    (case yh0 => k_is)
    (case yd0 => k_is)
    (case ya0 => k_is)
    (case yn0 => k_is)
    (case yt0 => k_is)
    (case ym0 => k_is)
    (case xa1 => k_is)
    (case xl1 => k_is)
    (case xr1 => first | rfl | decide +kernel)
    (case xs1 => k_is)
    (case xe1 => k_is)
    (case xt1 => k_is)
    (case xk1 => k_is)
    (case xi1 => k_is)
    (case xj1 => k_is)
    (case xm1 => k_is)
    (case xc1 => k_is)
    (case xf1 => k_is)
    (case xb1 => k_is)
    (case xg1 => k_is)
    (case xw1 => k_is)
    (case xv1 => k_is)
    (case yg1 => k_is)
    (case yh1 => k_is)
    (case yd1 => k_is)
    (case ya1 => k_is)
    (case yn1 => k_is)
    (case yt1 => k_is)
    (case ym1 => k_is)
    (case xa2 => k_is)
    (case xl2 => k_is)
    (case xr2 => first | rfl | decide +kernel)
    (case xs2 => k_is)
    (case xe2 => k_is)
    (case xt2 => k_is)
    (case xk2 => k_is)
    (case xi2 => k_is)
    (case xj2 => k_is)
    (case xm2 => k_is)
    (case xc2 => k_is)
    (case xf2 => k_is)
    (case xb2 => k_is)
    (case xg2 => k_is)
    (case xw2 => k_is)
    (case xv2 => k_is)
    (case yg2 => k_is)
    (case yh2 => k_is)
    (case yd2 => k_is)
    (case ya2 => k_is)
    (case yn2 => k_is)
    (case yt2 => k_is)
    (case ym2 => k_is)
    (case xa3 => k_is)
    (case xl3 => k_is)
    (case xr3 => first | rfl | decide +kernel)
    (case xs3 => k_is)
    (case xe3 => k_is)
    (case xt3 => k_is)
    (case xk3 => k_is)
    (case xi3 => k_is)
    (case xj3 => k_is)
    (case xm3 => k_is)
    (case xc3 => k_is)
    (case xf3 => k_is)
    (case xb3 => k_is)
    (case xg3 => k_is)
    (case xw3 => k_is)
    (case xv3 => k_is)
    (case yg3 => k_is)
    (case yh3 => k_is)
    (case yd3 => k_is)
    (case ya3 => k_is)
    (case yn3 => k_is)
    (case yt3 => k_is)
    (case ym3 => k_is)
